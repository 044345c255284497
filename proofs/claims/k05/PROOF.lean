import PyProof.Rows.All
import PySem.Challenge.RW_keptmisses_k05_machines_as_texts
import Wide.All
import OpenK.AllK
import Wide.FinOn
import HandS.ForMost
import HandS.Exc
import HandS.TryOnly
import HandS.ExcOwn
import HandS.TryMany
import HandS.Flow
import HandS.IsInst
import HandS.TupAny
import HandS.Wide
import HandS.Gcd
import HandS.Zip
import HandS.WordsExc
import HandS.SortInts
import HandS.Lambda
import HandS.TupMul
import KE.DataMinMax
import HandS.More
import HandS.Conv
import HandS.Dict
import KE.SortKeyHeap
import PyProof.RowDictHeap
import HandS.Ends
import HandS.SortKw
import HandS.ExcIs
import KE.DataCmp
import HandS.HeadWalk
import PyProof.ReprLen
import KE.IntTextText
set_option Elab.async false
set_option linter.all false
set_option maxRecDepth 100000
set_option maxHeartbeats 4000000
/-! MPa: pure values, pure heap, their relation to HandS's V and Hp. -/
namespace MP
open PySem L2

/-- the built-in types that isinstance is asked of -/
inductive PTy where
  | non | bool | int | str | tuple | list | dict
  deriving DecidableEq
def PTy.name : PTy → String
  | .non => "NoneType"
  | .bool => "bool"
  | .int => "int"
  | .str => "str"
  | .tuple => "tuple"
  | .list => "list"
  | .dict => "dict"
def PTy.sub (t c : PTy) : Bool := t == c || (t == .bool && c == .int)

/-- a pure value: data, or a number of an object, or a def of the module; kls: a list of the written part -/
inductive PV where
  | non | bl (b : Bool) | int (i : Int) | str (x : Str) | tup (xs : List PV) | obj (i : Nat) | fn (x : Str) | ty (t : PTy) | kls (xs : List PV)

/-- how a list stands: one's own, or locked -/
inductive LK where
  | own | frz
  deriving DecidableEq

inductive PO where
  | lst (k : LK) (xs : List PV)
  | dK (kvs : List (Key × PV))
  | dT (kvs : List (List Key × PV))
  | ins (c : Str) (fs : List (Str × PV))

abbrev PH := List PO

/-- a list of the written part -/
def Kon (K : PySem.W.Frag) (a : Addr) (xs : List V) : Prop := ∃ (o : Obj) (its : Array Value) (n : Nat), K.lookup a = some o ∧ o.cls = .type "list" ∧ o.dict = none ∧ o.data = .seq its n ∧ its.size ≤ sizeLine ∧ Vals xs its.toList
mutual
inductive RP (K : PySem.W.Frag) (mg : Str → Option Value) (ρ : Nat → Addr) (n : Nat) (H : Hp) : V → PV → Prop
  | non : RP K mg ρ n H .non .non
  | bl (b : Bool) : RP K mg ρ n H (.bl b) (.bl b)
  | int (i : Int) : RP K mg ρ n H (.int i) (.int i)
  | str (x : Str) : RP K mg ρ n H (.str x) (.str x)
  | ty (x : PTy) : RP K mg ρ n H (.ty x.name) (.ty x)
  | tup {a : Addr} {xs : List V} {vs : List PV} : SqT K H a xs → RPs K mg ρ n H xs vs → RP K mg ρ n H (.ref a) (.tup vs)
  | obj {i : Nat} : i < n → RP K mg ρ n H (.ref (ρ i)) (.obj i)
  | fn {x : Str} {f : Addr} : mg x = some (.ref f) → RP K mg ρ n H (.ref f) (.fn x)
  | kls {a : Addr} {xs : List V} {vs : List PV} : Kon K a xs → RPs K mg ρ n H xs vs → RP K mg ρ n H (.ref a) (.kls vs)
inductive RPs (K : PySem.W.Frag) (mg : Str → Option Value) (ρ : Nat → Addr) (n : Nat) (H : Hp) : List V → List PV → Prop
  | nil : RPs K mg ρ n H [] []
  | cons {v : V} {vs : List V} {d : PV} {ds : List PV} : RP K mg ρ n H v d → RPs K mg ρ n H vs ds → RPs K mg ρ n H (v :: vs) (d :: ds)
end

section
variable {K : PySem.W.Frag} {mg : Str → Option Value} {ρ ρ' : Nat → Addr} {n n' : Nat} {H H' H1 : Hp}

theorem RPs.length : ∀ {xs : List V} {vs : List PV}, RPs K mg ρ n H xs vs → xs.length = vs.length
  | _, _, .nil => rfl
  | _, _, .cons _ t => by simp [RPs.length t]
theorem RPs.get : ∀ {xs : List V} {vs : List PV} {i : Nat} {v : PV}, RPs K mg ρ n H xs vs → vs[i]? = some v → ∃ x, xs[i]? = some x ∧ RP K mg ρ n H x v
  | _, _, _, _, .nil, e => by simp at e
  | _, _, 0, _, .cons r _, e => by simp at e; subst e; exact ⟨_, rfl, r⟩
  | _, _, i + 1, v, .cons _ t, e => by
    obtain ⟨u, h1, h2⟩ := RPs.get (i := i) (v := v) t (by simpa using e)
    exact ⟨u, by simpa using h1, h2⟩
theorem RPs.get' : ∀ {xs : List V} {vs : List PV} {i : Nat} {x : V}, RPs K mg ρ n H xs vs → xs[i]? = some x → ∃ v, vs[i]? = some v ∧ RP K mg ρ n H x v
  | _, _, _, _, .nil, e => by simp at e
  | _, _, 0, _, .cons r _, e => by simp at e; subst e; exact ⟨_, rfl, r⟩
  | _, _, i + 1, v, .cons _ t, e => by
    obtain ⟨u, h1, h2⟩ := RPs.get' (i := i) (x := v) t (by simpa using e)
    exact ⟨u, by simpa using h1, h2⟩
theorem RPs.set {x : V} {v : PV} (r : RP K mg ρ n H x v) : ∀ {xs : List V} {vs : List PV} (i : Nat), RPs K mg ρ n H xs vs → RPs K mg ρ n H (xs.set i x) (vs.set i v)
  | _, _, _, .nil => .nil
  | _, _, 0, .cons _ t => .cons r t
  | _, _, i + 1, .cons q t => .cons q (RPs.set r i t)
theorem RPs.append : ∀ {xs ys : List V} {us ws : List PV}, RPs K mg ρ n H xs us → RPs K mg ρ n H ys ws → RPs K mg ρ n H (xs ++ ys) (us ++ ws)
  | _, _, _, _, .nil, s => s
  | _, _, _, _, .cons r t, s => .cons r (RPs.append t s)
theorem RPs.take : ∀ {xs : List V} {us : List PV} (k : Nat), RPs K mg ρ n H xs us → RPs K mg ρ n H (xs.take k) (us.take k)
  | _, _, 0, _ => .nil
  | _, _, _ + 1, .nil => .nil
  | _, _, k + 1, .cons r t => .cons r (RPs.take k t)
theorem RPs.drop : ∀ {xs : List V} {us : List PV} (k : Nat), RPs K mg ρ n H xs us → RPs K mg ρ n H (xs.drop k) (us.drop k)
  | _, _, 0, r => r
  | _, _, _ + 1, .nil => .nil
  | _, _, k + 1, .cons _ t => RPs.drop k t
theorem RPs.eraseIdx : ∀ {xs : List V} {us : List PV} (k : Nat), RPs K mg ρ n H xs us → RPs K mg ρ n H (xs.eraseIdx k) (us.eraseIdx k)
  | _, _, _, .nil => by simp; exact .nil
  | _, _, 0, .cons _ t => by simpa using t
  | _, _, k + 1, .cons r t => by simpa using RPs.cons r (RPs.eraseIdx k t)
theorem RPs.reverse {xs : List V} {us : List PV} (h : RPs K mg ρ n H xs us) : RPs K mg ρ n H xs.reverse us.reverse := by
  induction xs generalizing us with
  | nil => cases h; exact .nil
  | cons x xs ih =>
    cases h with
    | cons r t =>
      rw [List.reverse_cons, List.reverse_cons]
      exact (ih t).append (.cons r .nil)

/-- what stays: tuples and locked things -/
structure Ext (H H' : Hp) : Prop where
  tups : ∀ b xs, H b = some (.tup xs) → H' b = some (.tup xs)
  frzs : ∀ b o u, H b = some (.frz o u) → H' b = some (.frz o u)
theorem Ext.refl : Ext H H := ⟨fun _ _ e => e, fun _ _ _ e => e⟩
theorem Ext.trans (a : Ext H H') (b : Ext H' H1) : Ext H H1 := ⟨fun c xs e => b.tups c xs (a.tups c xs e), fun c o u e => b.frzs c o u (a.frzs c o u e)⟩
theorem Ext.new {p : Addr} {u : HO} (h : H p = none) : Ext H (upd H p u) := ⟨fun b xs e => by rw [upd_ne (ne_of_none e h)]; exact e, fun b o u' e => by rw [upd_ne (ne_of_none e h)]; exact e⟩
theorem Ext.mut {p : Addr} {u : HO} (h : Mut (H p)) : Ext H (upd H p u) :=
  ⟨fun b xs e => by
    have : b ≠ p := fun z => by subst z; rw [e] at h; exact h
    rw [upd_ne this]; exact e, fun b o u' e => by
    have : b ≠ p := fun z => by subst z; rw [e] at h; exact h
    rw [upd_ne this]; exact e⟩
theorem Ext.sqT (x : Ext H H') {a : Addr} {xs : List V} (h : SqT K H a xs) : SqT K H' a xs := by
  rcases h with (h | ⟨o, h⟩) | h
  · exact .inl (.inl (x.tups _ _ h))
  · exact .inl (.inr ⟨o, x.frzs _ _ _ h⟩)
  · exact .inr h

mutual
theorem RP.mono (x : Ext H H') (hn : n ≤ n') (g : ∀ i, i < n → ρ' i = ρ i) : ∀ {v : V} {d : PV}, RP K mg ρ n H v d → RP K mg ρ' n' H' v d
  | _, _, .non => .non
  | _, _, .bl b => .bl b
  | _, _, .int i => .int i
  | _, _, .str s => .str s
  | _, _, .ty s => .ty s
  | _, _, .tup h r => .tup (x.sqT h) (RPs.mono x hn g r)
  | _, _, .obj h => by rw [← g _ h]; exact .obj (Nat.lt_of_lt_of_le h hn)
  | _, _, .fn h => .fn h
  | _, _, .kls h r => .kls h (RPs.mono x hn g r)
theorem RPs.mono (x : Ext H H') (hn : n ≤ n') (g : ∀ i, i < n → ρ' i = ρ i) : ∀ {v : List V} {d : List PV}, RPs K mg ρ n H v d → RPs K mg ρ' n' H' v d
  | _, _, .nil => .nil
  | _, _, .cons h r => .cons (RP.mono x hn g h) (RPs.mono x hn g r)
end


def RF (K : PySem.W.Frag) (mg : Str → Option Value) (ρ : Nat → Addr) (n : Nat) (H : Hp) {κ : Type} (xs : List (κ × V)) (ys : List (κ × PV)) : Prop :=
  xs.map (·.1) = ys.map (·.1) ∧ RPs K mg ρ n H (xs.map (·.2)) (ys.map (·.2))

/-- an object at an address -/
def RO (K : PySem.W.Frag) (mg : Str → Option Value) (ρ : Nat → Addr) (n : Nat) (H : Hp) (a : Addr) : PO → Prop
  | .lst .own vs => ∃ xs, H a = some (.lst xs) ∧ RPs K mg ρ n H xs vs
  | .lst .frz vs => ∃ xs o, H a = some (.frz o (.lst xs)) ∧ RPs K mg ρ n H xs vs
  | .dK kvs => ∃ xs, H a = some (.dK xs) ∧ RF K mg ρ n H xs kvs
  | .dT kvs => ∃ xs, H a = some (.dT xs) ∧ RF K mg ρ n H xs kvs
  | .ins c fs => ∃ C dx xs, mg c = some (.ref C) ∧ H a = some (.ins C dx xs) ∧ RF K mg ρ n H xs fs

/-- the defs that make a lambda -/
def LN : List Str := ["lots", "_law_one"]
/-- P is the table of the code objects that a def with a lambda makes, q the lambda's name -/
def TabX (K : PySem.W.Frag) (mg : Str → Option Value) (x : Str) (P : Addr) (q : Str) : Prop := ∃ (f c : Addr) (fd : FuncData) (oc : Value) (od : Option Addr) (osl : Array (Option Value)),
  mg x = some (.ref f) ∧ K.lookup f = some ⟨oc, od, .func fd, osl⟩ ∧ fd.code = .ref c ∧ q = fd.qualname ++ ".<locals>." ++ "<lambda>" ∧ ∀ h, K.In h → PySem.W.CodeHd h c P
def TabK (K : PySem.W.Frag) (mg : Str → Option Value) (P : Addr) (q : Str) : Prop := ∃ x ∈ LN, TabX K mg x P q
theorem codeHd_one {h : Heap} {c P P' : Addr} (a : PySem.W.CodeHd h c P) (b : PySem.W.CodeHd h c P') : P = P' := by
  obtain ⟨o, vs, _, _, _, _, _, _, _, e1, _, e3, e4, _⟩ := a
  obtain ⟨o', vs', _, _, _, _, _, _, _, f1, _, f3, f4, _⟩ := b
  rw [e1] at f1
  cases f1
  rw [e3] at f3
  cases f3
  rw [e4] at f4
  cases f4
  rfl
theorem tabX_one {K : PySem.W.Frag} {mg : Str → Option Value} {base : Heap} (hK : K.In base) {x : Str} {P P' : Addr} {q q' : Str} (a : TabX K mg x P q) (b : TabX K mg x P' q') : P = P' ∧ q = q' := by
  obtain ⟨f, c, fd, oc, od, osl, a1, a2, a3, a4, a5⟩ := a
  obtain ⟨f', c', fd', oc', od', osl', b1, b2, b3, b4, b5⟩ := b
  rw [a1] at b1
  cases b1
  rw [a2] at b2
  cases b2
  rw [a3] at b3
  cases b3
  exact ⟨codeHd_one (a5 base hK) (b5 base hK), a4.trans b4.symm⟩
/-- all tables -/
theorem tabs_list {K : PySem.W.Frag} {mg : Str → Option Value} {base : Heap} (hK : K.In base) : ∃ T : List (Addr × Str), ∀ P q, TabK K mg P q ↔ (P, q) ∈ T := by
  have key : ∀ L : List Str, ∃ T : List (Addr × Str), ∀ P q, (∃ x ∈ L, TabX K mg x P q) ↔ (P, q) ∈ T := fun L => by
    induction L with
    | nil => exact ⟨[], fun P q => by simp⟩
    | cons x L ih =>
      obtain ⟨T, hT⟩ := ih
      by_cases h : ∃ P q, TabX K mg x P q
      · obtain ⟨P0, q0, h0⟩ := h
        refine ⟨(P0, q0) :: T, fun P q => ⟨fun ⟨y, hy, t⟩ => ?_, fun hm => ?_⟩⟩
        · rcases List.mem_cons.mp hy with rfl | hy
          · obtain ⟨rfl, rfl⟩ := tabX_one hK t h0
            exact List.mem_cons_self ..
          · exact List.mem_cons_of_mem _ ((hT P q).mp ⟨y, hy, t⟩)
        · rcases List.mem_cons.mp hm with e | hm
          · cases e
            exact ⟨x, by simp, h0⟩
          · obtain ⟨y, hy, t⟩ := (hT P q).mpr hm
            exact ⟨y, List.mem_cons_of_mem _ hy, t⟩
      · refine ⟨T, fun P q => ⟨fun ⟨y, hy, t⟩ => ?_, fun hm => ?_⟩⟩
        · rcases List.mem_cons.mp hy with rfl | hy
          · exact absurd ⟨P, q, t⟩ h
          · exact (hT P q).mp ⟨y, hy, t⟩
        · obtain ⟨y, hy, t⟩ := (hT P q).mpr hm
          exact ⟨y, List.mem_cons_of_mem _ hy, t⟩
  exact key LN
/-- a table, or what a table tells -/
def isTb (u : HO) : Prop := (∃ ps, u = .tbl ps) ∨ ∃ c q, u = LamX.CodeO c q
theorem tabS_of {H H' : Hp} {P : Addr} {q : Str} (t : LamX.TabS H P q) (e : ∀ b o, H b = some o → isTb o → H' b = some o) : LamX.TabS H' P q := by
  obtain ⟨ps, h1, h2, h3⟩ := t
  refine ⟨ps, e _ _ h1 (.inl ⟨_, rfl⟩), h2, fun pos cv hc => ?_⟩
  obtain ⟨c, e1, e2⟩ := h3 pos cv hc
  exact ⟨c, e1, e _ _ e2 (.inr ⟨_, _, rfl⟩)⟩
structure HR (K : PySem.W.Frag) (mg : Str → Option Value) (ρ : Nat → Addr) (H : Hp) (h : PH) : Prop where
  tab : ∀ P q, TabK K mg P q → LamX.TabS H P q
  objs : ∀ i o, h[i]? = some o → RO K mg ρ h.length H (ρ i) o
  inj : ∀ i j o o', h[i]? = some o → h[j]? = some o' → i ≠ j → ρ i ≠ ρ j

/-- nothing of ours stands there -/
def NT (H : Hp) (a : Addr) : Prop := ∀ u, H a = some u → ∃ ps, u = .tbl ps
theorem NT.no {H : Hp} {a : Addr} {u : HO} (n : NT H a) (e : H a = some u) (h : ∀ ps, u ≠ .tbl ps) : False := by
  obtain ⟨ps, z⟩ := n u e
  exact h ps z
theorem nt_of {H : Hp} {a : Addr} (e : H a = none) : NT H a := fun u z => by rw [e] at z; cases z
/-- from one state to a later one -/
structure Nx (ρ : Nat → Addr) (H : Hp) (n : Nat) (ρ' : Nat → Addr) (H' : Hp) (n' : Nat) : Prop where
  ext : Ext H H'
  len : n ≤ n'
  ge : ∀ i, i < n → ρ' i = ρ i
  keep : ∀ a u, H a = some u → (∀ ps, u ≠ .tbl ps) → (∀ i, i < n → ρ i ≠ a) → H' a = some u
  fresh : ∀ i, n ≤ i → i < n' → NT H (ρ' i)
  dom : ∀ a, NT H' a → NT H a
theorem Nx.refl : Nx ρ H n ρ H n := ⟨.refl, Nat.le_refl _, fun _ _ => rfl, fun _ _ e _ _ => e, fun i h1 h2 => by omega, fun _ e => e⟩
theorem Nx.trans {ρ2 : Nat → Addr} {n2 : Nat} {H2 : Hp} (a : Nx ρ H n ρ' H' n') (b : Nx ρ' H' n' ρ2 H2 n2) : Nx ρ H n ρ2 H2 n2 where
  ext := a.ext.trans b.ext
  len := Nat.le_trans a.len b.len
  ge := fun i hi => (b.ge i (Nat.lt_of_lt_of_le hi a.len)).trans (a.ge i hi)
  keep := fun c u e ht hc => b.keep c u (a.keep c u e ht hc) ht fun i hi z => by
    by_cases h : i < n
    · exact hc i h ((a.ge i h).symm.trans z)
    · have q := a.fresh i (by omega) hi
      rw [z] at q
      exact (q.no e ht).elim
  fresh := fun i h1 h2 => by
    by_cases h : i < n'
    · rw [b.ge i h]; exact a.fresh i h1 h
    · exact a.dom _ (b.fresh i (by omega) h2)
  dom := fun c e => a.dom c (b.dom c e)
theorem HR.cast {h h' : PH} (R : HR K mg ρ H h) (e : h = h') : HR K mg ρ H h' := e ▸ R
theorem RP.nx (x : Nx ρ H n ρ' H' n') {v : V} {d : PV} (h : RP K mg ρ n H v d) : RP K mg ρ' n' H' v d := RP.mono x.ext x.len x.ge h
theorem RPs.nx (x : Nx ρ H n ρ' H' n') {v : List V} {d : List PV} (h : RPs K mg ρ n H v d) : RPs K mg ρ' n' H' v d := RPs.mono x.ext x.len x.ge h
theorem RF.nx {κ : Type} (x : Nx ρ H n ρ' H' n') {v : List (κ × V)} {d : List (κ × PV)} (h : RF K mg ρ n H v d) : RF K mg ρ' n' H' v d := ⟨h.1, h.2.nx x⟩

theorem RO.mono (x : Ext H H') (hn : n ≤ n') (g : ∀ i, i < n → ρ' i = ρ i) {a : Addr} {o : PO} (h : RO K mg ρ n H a o) (e : H' a = H a) : RO K mg ρ' n' H' a o := by
  have m2 : ∀ {v : List V} {d : List PV}, RPs K mg ρ n H v d → RPs K mg ρ' n' H' v d := fun r => RPs.mono x hn g r
  have m3 : ∀ {κ : Type} {v : List (κ × V)} {d : List (κ × PV)}, RF K mg ρ n H v d → RF K mg ρ' n' H' v d := fun r => ⟨r.1, m2 r.2⟩
  cases o with
  | lst k vs =>
    cases k with
    | own => obtain ⟨xs, h1, h2⟩ := h; exact ⟨xs, e.trans h1, m2 h2⟩
    | frz => obtain ⟨xs, o, h1, h2⟩ := h; exact ⟨xs, o, e.trans h1, m2 h2⟩
  | dK kvs => obtain ⟨xs, h1, h2⟩ := h; exact ⟨xs, e.trans h1, m3 h2⟩
  | dT kvs => obtain ⟨xs, h1, h2⟩ := h; exact ⟨xs, e.trans h1, m3 h2⟩
  | ins c fs => obtain ⟨C, dx, xs, h0, h1, h2⟩ := h; exact ⟨C, dx, xs, h0, e.trans h1, m3 h2⟩
theorem RO.some {a : Addr} {o : PO} (h : RO K mg ρ n H a o) : ∃ u, H a = some u := by
  cases o with
  | lst k vs =>
    cases k with
    | own => obtain ⟨xs, h1, _⟩ := h; exact ⟨_, h1⟩
    | frz => obtain ⟨xs, o, h1, _⟩ := h; exact ⟨_, h1⟩
  | dK kvs => obtain ⟨xs, h1, _⟩ := h; exact ⟨_, h1⟩
  | dT kvs => obtain ⟨xs, h1, _⟩ := h; exact ⟨_, h1⟩
  | ins c fs => obtain ⟨C, dx, xs, _, h1, _⟩ := h; exact ⟨_, h1⟩
theorem RO.noTb {a : Addr} {o : PO} {u : HO} (h : RO K mg ρ n H a o) (e : H a = Option.some u) (ht : isTb u) : False := by
  have hx : ∀ u', H a = Option.some u' → u' = u := fun u' e' => Option.some.inj (e'.symm.trans e)
  have no : (∀ ps, u ≠ .tbl ps) → (∀ φ, u ≠ .ext φ) → False := fun h1 h2 => by
    rcases ht with ⟨ps, z⟩ | ⟨c, q, z⟩
    · exact h1 ps z
    · exact h2 _ z
  cases o with
  | lst k vs =>
    cases k with
    | own => obtain ⟨xs, h1, _⟩ := h; rw [← hx _ h1] at no; exact no (fun _ z => by cases z) fun _ z => by cases z
    | frz => obtain ⟨xs, o, h1, _⟩ := h; rw [← hx _ h1] at no; exact no (fun _ z => by cases z) fun _ z => by cases z
  | dK kvs => obtain ⟨xs, h1, _⟩ := h; rw [← hx _ h1] at no; exact no (fun _ z => by cases z) fun _ z => by cases z
  | dT kvs => obtain ⟨xs, h1, _⟩ := h; rw [← hx _ h1] at no; exact no (fun _ z => by cases z) fun _ z => by cases z
  | ins c fs => obtain ⟨C, dx, xs, _, h1, _⟩ := h; rw [← hx _ h1] at no; exact no (fun _ z => by cases z) fun _ z => by cases z
theorem HR.there {h : PH} (R : HR K mg ρ H h) {i : Nat} (hi : i < h.length) : ∃ u, H (ρ i) = Option.some u := (R.objs i _ (List.getElem?_eq_getElem hi)).some
theorem HR.ne {h : PH} (R : HR K mg ρ H h) {i : Nat} (hi : i < h.length) {p : Addr} (hp : H p = none) : ρ i ≠ p := fun z => by
  obtain ⟨u, q⟩ := R.there hi
  rw [z, hp] at q
  cases q

/-- the map with a new object -/
def rn (ρ : Nat → Addr) (n : Nat) (p : Addr) : Nat → Addr := fun i => if i = n then p else ρ i
theorem rn_lt {p : Addr} {i : Nat} (h : i < n) : rn ρ n p i = ρ i := by unfold rn; rw [if_neg (Nat.ne_of_lt h)]
theorem rn_eq {p : Addr} : rn ρ n p n = p := by unfold rn; rw [if_pos rfl]

/-- a fresh thing that is no object of ours (a tuple) -/
theorem HR.tup {h : PH} {p : Addr} {u : HO} (R : HR K mg ρ H h) (hp : H p = none) : HR K mg ρ (upd H p u) h where
  tab := fun P q t => tabS_of (R.tab P q t) fun b o e _ => by rw [upd_ne (ne_of_none e hp)]; exact e
  objs := fun i o e => (R.objs i o e).mono (.new hp) (Nat.le_refl _) (fun _ _ => rfl) (upd_ne (R.ne (List.getElem?_eq_some_iff.mp e).1 hp))
  inj := R.inj
theorem dom_new {p : Addr} {u : HO} (hp : H p = none) : ∀ a, NT (upd H p u) a → NT H a := fun a e => by
  by_cases h : a = p
  · rw [h]; exact nt_of hp
  · intro v z
    exact e v (by rw [upd_ne h]; exact z)
theorem dom_upd {p : Addr} {u : HO} (hu : ∀ ps, u ≠ .tbl ps) : ∀ a, NT (upd H p u) a → NT H a := fun a e => by
  by_cases h : a = p
  · rw [h] at e
    exact (e.no upd_same hu).elim
  · intro v z
    exact e v (by rw [upd_ne h]; exact z)
theorem Nx.tup {p : Addr} {u : HO} (hp : H p = none) : Nx ρ H n ρ (upd H p u) n :=
  ⟨.new hp, Nat.le_refl _, fun _ _ => rfl, fun a w e _ _ => by rw [upd_ne (ne_of_none e hp)]; exact e, fun i h1 h2 => by omega, dom_new hp⟩

/-- a new object -/
theorem HR.new {h : PH} {p : Addr} {u : HO} {o : PO} (R : HR K mg ρ H h) (hp : H p = none) (ro : RO K mg (rn ρ h.length p) (h.length + 1) (upd H p u) p o) : HR K mg (rn ρ h.length p) (upd H p u) (h ++ [o]) where
  tab := fun P q t => tabS_of (R.tab P q t) fun b o e _ => by rw [upd_ne (ne_of_none e hp)]; exact e
  objs := fun i o' e => by
    have hl : (h ++ [o]).length = h.length + 1 := by simp
    rw [hl]
    by_cases hi : i < h.length
    · rw [List.getElem?_append_left hi] at e
      rw [rn_lt hi]
      exact (R.objs i o' e).mono (.new hp) (Nat.le_succ _) (fun j hj => rn_lt hj) (upd_ne (R.ne hi hp))
    · have hlt : i < (h ++ [o]).length := (List.getElem?_eq_some_iff.mp e).1
      have hi' : i = h.length := by omega
      subst hi'
      rw [rn_eq]
      simp at e
      subst e
      exact ro
  inj := fun i j o1 o2 e1 e2 hij he => by
    have hl : (h ++ [o]).length = h.length + 1 := by simp
    have l1 : i < (h ++ [o]).length := (List.getElem?_eq_some_iff.mp e1).1
    have l2 : j < (h ++ [o]).length := (List.getElem?_eq_some_iff.mp e2).1
    by_cases hi : i < h.length
    · rw [List.getElem?_append_left hi] at e1
      by_cases hj : j < h.length
      · rw [List.getElem?_append_left hj] at e2
        rw [rn_lt hi, rn_lt hj] at he
        exact R.inj i j o1 o2 e1 e2 hij he
      · have hj' : j = h.length := by omega
        subst hj'
        rw [rn_lt hi, rn_eq] at he
        exact R.ne hi hp he
    · have hi' : i = h.length := by omega
      subst hi'
      by_cases hj : j < h.length
      · rw [rn_lt hj, rn_eq] at he
        exact R.ne hj hp he.symm
      · omega
theorem Nx.new {h : PH} {p : Addr} {u : HO} {o : PO} (hp : H p = none) : Nx ρ H h.length (rn ρ h.length p) (upd H p u) (h ++ [o]).length :=
  ⟨.new hp, by simp, fun j hj => rn_lt hj, fun a w e _ _ => by rw [upd_ne (ne_of_none e hp)]; exact e, fun i h1 h2 => by
    have hl : (h ++ [o]).length = h.length + 1 := by simp
    have e : i = h.length := by omega
    subst e
    rw [rn_eq]; exact nt_of hp, dom_new hp⟩

/-- an object is written -/
theorem HR.write {h : PH} {i : Nat} {u w : HO} {o o' : PO} (R : HR K mg ρ H h) (hi : h[i]? = some o) (hw : H (ρ i) = some w) (mu : Mut (some w))
    (ro : RO K mg ρ h.length (upd H (ρ i) u) (ρ i) o') : HR K mg ρ (upd H (ρ i) u) (h.set i o') where
  tab := fun P q t => tabS_of (R.tab P q t) fun b v e ht => by
    have hne : b ≠ ρ i := fun z => by
      have ro0 := R.objs i o hi
      rw [z] at e
      exact RO.noTb ro0 e ht
    rw [upd_ne hne]; exact e
  objs := fun j o1 e => by
    rw [List.length_set]
    by_cases hj : j = i
    · subst hj
      have hlt := (List.getElem?_eq_some_iff.mp hi).1
      rw [List.getElem?_set_self hlt] at e
      cases e
      exact ro
    · rw [List.getElem?_set_ne (Ne.symm hj)] at e
      exact (R.objs j o1 e).mono (.mut (by rw [hw]; exact mu)) (Nat.le_refl _) (fun _ _ => rfl) (upd_ne (R.inj j i o1 o e hi hj))
  inj := fun a b o1 o2 e1 e2 hab => by
    have la : a < h.length := by have := (List.getElem?_eq_some_iff.mp e1).1; rwa [List.length_set] at this
    have lb : b < h.length := by have := (List.getElem?_eq_some_iff.mp e2).1; rwa [List.length_set] at this
    exact R.inj a b _ _ (List.getElem?_eq_getElem la) (List.getElem?_eq_getElem lb) hab
theorem Nx.write {i : Nat} {u w : HO} (hi : i < n) (hw : H (ρ i) = some w) (mu : Mut (some w)) (hu : ∀ ps, u ≠ .tbl ps) : Nx ρ H n ρ (upd H (ρ i) u) n :=
  ⟨.mut (by rw [hw]; exact mu), Nat.le_refl _, fun _ _ => rfl, fun a v e _ hc => by rw [upd_ne (Ne.symm (hc i hi))]; exact e, fun j h1 h2 => by omega, dom_upd hu⟩

/-- a list that is read -/
theorem HR.sqL {h : PH} {i : Nat} {k : LK} {vs : List PV} (R : HR K mg ρ H h) (hi : h[i]? = some (.lst k vs)) : ∃ xs, SqL K H (ρ i) xs ∧ RPs K mg ρ h.length H xs vs := by
  have ro := R.objs i _ hi
  cases k with
  | own => obtain ⟨xs, h1, h2⟩ := ro; exact ⟨xs, .inl (.inl h1), h2⟩
  | frz => obtain ⟨xs, o, h1, h2⟩ := ro; exact ⟨xs, .inl (.inr ⟨o, h1⟩), h2⟩
end
end MP

set_option Elab.async false
set_option linter.all false
set_option maxRecDepth 100000
set_option maxHeartbeats 4000000
/-! MPa1: tuple * int, whatever the number. -/
namespace MP
open PySem PySem.Spec PyProof.Rows L2
theorem tuple_mulS (l : Addr) (items : Array Value) (n : Nat) (dd : Option Addr) (sl : Array (Option Value)) (x : Int) (u : Tok) (c0 : (decide (x < -(2 ^ 63)) || decide (x ≥ 2 ^ 63)) = false) (c1 : (items.isEmpty || x == 1) = true) :
    Meets (Builtin.«tuple.__mul__» ⟨[.ref l, .int x u], []⟩) (fun _ R s => s.heap.get? l = some { cls := .type "tuple", dict := dd, data := .seq items n, slots := sl } ∧ R (.ok (.ret (Value.ref l))) s) :=
  .of_wp fun prog w A R s h => by
    obtain ⟨hp, g, d, tk, os⟩ := s
    obtain ⟨hl, h⟩ := h
    have f1 := AutoSeq1.idx_int
    wp_walk using wpAny_loadPart' hl
    repeat (first
      | (refine wpAny_ite_false (decide_eq_false (by rw [c0]; exact Bool.false_ne_true)) ?_; wp_walk using wpAny_loadPart' hl)
      | (refine wpAny_ite_true (decide_eq_true (by rw [c1])) ?_; wp_walk using wpAny_loadPart' hl))
    exact ⟨_, rfl, h⟩
theorem tuple_mul0 (l : Addr) (items : Array Value) (n : Nat) (dd : Option Addr) (sl : Array (Option Value)) (x : Int) (u : Tok) (c0 : (decide (x < -(2 ^ 63)) || decide (x ≥ 2 ^ 63)) = false) (c1 : (items.isEmpty || x == 1) = false) (c2 : (decide (x ≤ 0) || items.isEmpty) = true) :
    Meets (Builtin.«tuple.__mul__» ⟨[.ref l, .int x u], []⟩) (fun _ R s => s.heap.get? l = some { cls := .type "tuple", dict := dd, data := .seq items n, slots := sl } ∧
      R (.ok (.ret (Value.ref s.heap.objs.size))) { s with heap := s.heap.push { cls := Value.type "tuple", data := Data.seq #[] }, toks := s.toks }) :=
  .of_wp fun prog w A R s h => by
    obtain ⟨hp, g, d, tk, os⟩ := s
    obtain ⟨hl, h⟩ := h
    have f1 := AutoSeq1.idx_int
    wp_walk using wpAny_loadPart' hl
    repeat (first
      | (refine wpAny_ite_false (decide_eq_false (by rw [c0]; exact Bool.false_ne_true)) ?_; wp_walk using wpAny_loadPart' hl)
      | (refine wpAny_ite_false (decide_eq_false (by rw [c1]; exact Bool.false_ne_true)) ?_; wp_walk using wpAny_loadPart' hl)
      | (refine wpAny_ite_true (decide_eq_true (by rw [c2])) ?_; wp_walk using wpAny_loadPart' hl))
    exact ⟨_, rfl, h⟩

/-- tuple * int -/
def rRepA (K : PySem.W.Frag) : R2 := fun x y H Q => ∃ l k xs, x = .ref l ∧ y = .int k ∧ SqT K H l xs ∧ -1000000 ≤ k ∧ k ≤ 1000 ∧ xs.length ≤ 1000 ∧ ((xs = [] ∨ k = 1) → Q (.ref l) H) ∧ (xs ≠ [] → k ≤ 0 → ∀ p, H p = none → Q (.ref p) (upd H p (.tup []))) ∧
  (xs ≠ [] → 2 ≤ k → ∀ p, H p = none → Q (.ref p) (upd H p (.tup (List.replicate k.toNat xs).flatten)))
section
variable {X : Cx}
theorem op_repA : OpR X (binaryOp .Mult) (rRepA X.K) := by
  intro pins s σ H x y v u Q I rx ry h
  obtain ⟨l, k, xs, rfl, rfl, hT, h1, h2, hz, q1, q2, q3⟩ := h
  by_cases hs : xs = [] ∨ k = 1
  · cases rx
    obtain ⟨t, rfl⟩ := ry
    obtain ⟨its, r, ⟨⟨cls, dd, data, sl⟩, ho, hc, n, hd⟩, _⟩ := I.tuple hT
    simp only at hc hd
    subst hc hd
    have hle : its.length = xs.length := r.length.symm
    have c0 : (decide (k < -(2 ^ 63)) || decide (k ≥ 2 ^ 63)) = false := by
      rw [decide_eq_false (by omega), decide_eq_false (by omega)] <;> rfl
    have c1 : (its.toArray.isEmpty || k == 1) = true := by
      rcases hs with hs | hs
      · subst hs
        have : its = [] := List.eq_nil_of_length_eq_zero hle
        subst this
        rfl
      · subst hs
        rw [beq_self_eq_true, Bool.or_true]
    refine wpAny_binaryOp_repeat_ref (T := "tuple") (U := "int") (by decide) ⟨_, ho, rfl⟩ (fun s' => typeIs_int s' k t) noFill_tuple_mul F.fills_int_mul F.slot_int_rmul repeat_tuple F.slot_int_index.lookup
      (call_meets F.slot_int_rmul (typeIs_int s k t) F.entry_int_rmul (F.args_int_rmul_2 _ _) (int_rmul_tuple k t l its.toArray n dd sl)
        ⟨ho, rfl, ⟨_, ho, rfl⟩, call_meets F.slot_tuple_mul ⟨_, ho, rfl⟩ F.entry_tuple_mul (F.args_tuple_mul_2 _ _) (tuple_mulS l its.toArray n dd sl k t c0 c1) ⟨ho, ?_⟩⟩)
    exact ⟨.ref l, H, I, rfl, q1 hs⟩
  · have hne : xs ≠ [] := fun e => hs (.inl e)
    have hk1 : k ≠ 1 := fun e => hs (.inr e)
    by_cases hk : k ≤ 0
    · cases rx
      obtain ⟨t, rfl⟩ := ry
      obtain ⟨its, r, ⟨⟨cls, dd, data, sl⟩, ho, hc, n, hd⟩, _⟩ := I.tuple hT
      simp only at hc hd
      subst hc hd
      have hle : its.length = xs.length := r.length.symm
      have hn : its ≠ [] := fun e => hne (by
        rw [e] at hle
        exact List.eq_nil_of_length_eq_zero hle.symm)
      have hi : its.toArray.isEmpty = false := by
        cases its with
        | nil => exact absurd rfl hn
        | cons a b => rfl
      have c0 : (decide (k < -(2 ^ 63)) || decide (k ≥ 2 ^ 63)) = false := by
        rw [decide_eq_false (by omega), decide_eq_false (by omega)] <;> rfl
      have c1 : (its.toArray.isEmpty || k == 1) = false := by
        rw [hi, Bool.false_or]
        exact beq_eq_false_iff_ne.mpr hk1
      have c2 : (decide (k ≤ 0) || its.toArray.isEmpty) = true := by rw [decide_eq_true hk, Bool.true_or]
      refine wpAny_binaryOp_repeat_ref (T := "tuple") (U := "int") (by decide) ⟨_, ho, rfl⟩ (fun s' => typeIs_int s' k t) noFill_tuple_mul F.fills_int_mul F.slot_int_rmul repeat_tuple F.slot_int_index.lookup
        (call_meets F.slot_int_rmul (typeIs_int s k t) F.entry_int_rmul (F.args_int_rmul_2 _ _) (int_rmul_tuple k t l its.toArray n dd sl)
          ⟨ho, rfl, ⟨_, ho, rfl⟩, call_meets F.slot_tuple_mul ⟨_, ho, rfl⟩ F.entry_tuple_mul (F.args_tuple_mul_2 _ _) (tuple_mul0 l its.toArray n dd sl k t c0 c1 c2) ⟨ho, ?_⟩⟩)
      refine ⟨.ref s.heap.objs.size, _, I.laid (t' := s.toks) (o := .tup []) (fun b ob q => Heap.get?_push_of_some _ q) (Nat.le_refl _) ?_, rfl, q2 hne hk _ (I.hok.fresh (Nat.le_refl _))⟩
      exact ⟨Nat.zero_le _, _, .nil, IsTup.new _ _⟩
    · exact op_repT pins s σ H _ _ v u Q I rx ry ⟨l, k, xs, rfl, rfl, hT, hne, by omega, h2, hz, q3 hne (by omega)⟩
end
end MP

set_option Elab.async false
set_option linter.all false
set_option maxRecDepth 100000
set_option maxHeartbeats 4000000
/-! MPa2: max, min of a list or a tuple of ints. -/
namespace MP
open PySem PySem.Spec PyProof.Rows L2 PySem.W
/-- a lot's key -/
def kL (l : List Int) : PyData := .tuple [.int (l.length : Nat), .tuple (l.map .int)]
def sortLot (ls : List (List Int)) : List (List Int) := ls.mergeSort (PySem.W.dataLe false kL)
section
variable {X : Cx}
theorem dp_ints {K : PySem.W.Frag} {H : Hp} : ∀ ns : List Int, DpAll K H (ns.map V.int) (ns.map PyData.int)
  | [] => .nil
  | n :: ns => .cons (.int n) (dp_ints ns)
theorem depth_ints : ∀ ns : List Int, PyData.depthAll (ns.map PyData.int) ≤ 8
  | [] => by simp [PyData.depthAll]
  | n :: ns => by
    have := depth_ints ns
    simp only [List.map_cons, PyData.depthAll, PyData.depth]
    omega
theorem alike_ints (ns : List Int) : AlikeAll (ns.map PyData.int) := ⟨fun x hx y hy => by
  obtain ⟨i, _, rfl⟩ := List.mem_map.mp hx
  obtain ⟨j, _, rfl⟩ := List.mem_map.mp hy
  rfl, fun x hx e => by
  obtain ⟨i, _, rfl⟩ := List.mem_map.mp hx
  cases e⟩
/-- max(xs), min(xs) -/
def rBest (K : PySem.W.Frag) (f : Int → Int → Int) : List V → Hp → VK → Prop := fun xs H Q => ∃ (a : Addr) (n : Int) (ns : List Int), xs = [.ref a] ∧ (SqL K H a ((n :: ns).map V.int) ∨ SqT K H a ((n :: ns).map V.int)) ∧ Q (.int (ns.foldl f n)) H
theorem cr_maxA (hc : X.calm = true) (hu : X.A.units + 64 < cLine) : CallR X (.builtin "max") (rBest X.K max) := by
  intro pins s σ H vs us Q I r h
  obtain ⟨a, n, ns, rfl, hs, q⟩ := h
  rw [Vals.ref1 r]
  have hd := depth_ints (n :: ns)
  have fin : ∀ v h' tk bs, Reads h' v (maxD (.int n) (ns.map .int)) bs → (∀ b o, s.heap.get? b = some o → h'.get? b = some o) → ∃ x H', Inv X pins σ H' { s with heap := h', toks := tk } ∧ RelV x v ∧ Q x H' := fun v h' tk bs rd hk => by
    rw [maxD_ints] at rd
    cases rd
    exact ⟨.int _, H, I.kept hk, ⟨_, rfl⟩, q⟩
  rcases hs with hs | hs
  · obtain ⟨its, rv, hl, _⟩ := I.list hs
    obtain ⟨as, hr⟩ := Dp.readsAll I _ _ its (dp_ints (n :: ns)) rv
    exact max_list_data (I.ok.hd hc) hl.isList hr (alike_ints (n :: ns)) (Nat.lt_of_le_of_lt (Nat.add_le_add_left hd _) (by omega)) fun i v h' tk bs hi rd hk => fin v h' tk bs rd hk
  · obtain ⟨its, rv, hl, _⟩ := I.tuple hs
    obtain ⟨as, hr⟩ := Dp.readsAll I _ _ its (dp_ints (n :: ns)) rv
    exact max_tuple_data (I.ok.hd hc) hl hr (alike_ints (n :: ns)) (Nat.lt_of_le_of_lt (Nat.add_le_add_left hd _) (by omega)) fun i v h' tk bs hi rd hk => fin v h' tk bs rd hk
theorem cr_minA (hc : X.calm = true) (hu : X.A.units + 64 < cLine) : CallR X (.builtin "min") (rBest X.K min) := by
  intro pins s σ H vs us Q I r h
  obtain ⟨a, n, ns, rfl, hs, q⟩ := h
  rw [Vals.ref1 r]
  have hd := depth_ints (n :: ns)
  have fin : ∀ v h' tk bs, Reads h' v (minD (.int n) (ns.map .int)) bs → (∀ b o, s.heap.get? b = some o → h'.get? b = some o) → ∃ x H', Inv X pins σ H' { s with heap := h', toks := tk } ∧ RelV x v ∧ Q x H' := fun v h' tk bs rd hk => by
    rw [minD_ints] at rd
    cases rd
    exact ⟨.int _, H, I.kept hk, ⟨_, rfl⟩, q⟩
  rcases hs with hs | hs
  · obtain ⟨its, rv, hl, _⟩ := I.list hs
    obtain ⟨as, hr⟩ := Dp.readsAll I _ _ its (dp_ints (n :: ns)) rv
    exact min_list_data (I.ok.hd hc) hl.isList hr (alike_ints (n :: ns)) (Nat.lt_of_le_of_lt (Nat.add_le_add_left hd _) (by omega)) fun i v h' tk bs hi rd hk => fin v h' tk bs rd hk
  · obtain ⟨its, rv, hl, _⟩ := I.tuple hs
    obtain ⟨as, hr⟩ := Dp.readsAll I _ _ its (dp_ints (n :: ns)) rv
    exact min_tuple_data (I.ok.hd hc) hl hr (alike_ints (n :: ns)) (Nat.lt_of_le_of_lt (Nat.add_le_add_left hd _) (by omega)) fun i v h' tk bs hi rd hk => fin v h' tk bs rd hk
end
end MP

set_option Elab.async false
set_option linter.all false
set_option maxRecDepth 100000
set_option maxHeartbeats 4000000
/-! MPb: the small language and its pure interpreter. -/
namespace MP
open PySem L2

/-! ### results -/
inductive Res (α : Type) where
  | ok (a : α) (h : PH)
  | exc (c : Str) (vs : List PV) (h : PH)
  | stuck
def M (α : Type) : Type := PH → Res α
namespace M
variable {α β : Type}
def ret (a : α) : M α := fun h => .ok a h
def bind (m : M α) (f : α → M β) : M β := fun h => match m h with
  | .ok a h' => f a h'
  | .exc c vs h' => .exc c vs h'
  | .stuck => .stuck
def stop : M α := fun _ => .stuck
def get : M PH := fun h => .ok h h
/-- an option that must be there -/
def opt (o : Option α) : M α := fun h => match o with
  | some a => .ok a h
  | none => .stuck
end M
instance : Monad M where
  pure := M.ret
  bind := M.bind

/-! ### the language -/
inductive BOp where
  | add | sub | mul | fdiv | mod | pow
  deriving DecidableEq
inductive COp where
  | eq | ne | lt | le | gt | ge | is | isNot | in_ | notIn
  deriving DecidableEq
inductive BI where
  | len | abs | int | tuple | list | all | any | sum | gcd | min | max | sorted | sortedD | repr | str
  deriving DecidableEq
inductive MK where
  | append | pop | extend | index
  deriving DecidableEq
inductive Con where
  | non | bl (b : Bool) | int (i : Int) | str (x : Str)
  deriving DecidableEq
/-- what is walked -/
inductive IK where
  | val | range | zip | enum
  deriving DecidableEq
inductive Tg where
  | nm (i : Nat)
  | tp (ts : List Tg)
/-- a def g that calls what it is handed, within a try; hd: the class that it catches, cs: the classes that it asks of, due: the answers that it holds to be right -/
structure RfD where
  g : Str
  hd : Str
  cs : List Str
  due : List Bool
  deriving DecidableEq
inductive E where
  | slot (i : Nat)
  | con (c : Con)
  | gl (x : Str)
  | bty (t : PTy)
  | tup (es : List E)
  | lst (es : List E)
  | bin (o : BOp) (a b : E)
  | neg (a : E)
  | cmp (o : COp) (a b : E)
  | chain (o o' : COp) (a b c : E)
  | and_ (es : List E)
  | or_ (es : List E)
  | not_ (a : E)
  | ife (c a b : E)
  | bi (f : BI) (es : List E)
  | isi (a : E) (t : PTy)
  | isi2 (a : E) (ts : List PTy)
  | cl (x : Str) (es : List E)
  | fnv (x : Str)
  | dct (ks : List L2.Key) (es : List E)
  | clv (i : Nat) (es : List E)
  | sub (a b : E)
  /-- a place of a dict -/
  | dget (a b : E)
  /-- a key in a dict, or not in it -/
  | cmpD (neg : Bool) (a b : E)
  /-- list(range(..)) -/
  | lrg (es : List E)
  /-- sorted(.., key=lambda lot: (len(lot), lot)) -/
  | sortL (a : E)
  /-- (number, lot) < (number, lot) -/
  | ltT (a b : E)
  /-- g(lambda: x(..)), names handed on -/
  | rfs (r : RfD) (x : Str) (is : List Nat)
  /-- len(set(..)) of ints -/
  | lset (a : E)
  | slc (a lo hi : E)
  /-- texts: a sign of one, a part of one, split (or join), a sign in one; d.get(k, other) -/
  | subS (a b : E)
  | slcS (a lo hi : E)
  | smth (j : Bool) (a b : E)
  | inT (a b : E)
  | dgetD (a b c : E)
  | mth (m : MK) (o : E) (es : List E)
  | lc (elt : E) (tg : Tg) (k : IK) (src : List E) (ifs : List E) (own : List Nat)
/-- a part of a slice that is not written -/
def E.isN : E → Bool
  | .con .non => true
  | _ => false
inductive S where
  | expr (e : E)
  | ret (e : E)
  | retN
  | pass
  | brk
  | cont
  | asg (i : Nat) (e : E)
  | asgT (ts : List Tg) (e : E)
  | par (i j : Nat) (a b : E)
  | setIx (o i e : E)
  | dput (o i e : E)
  | aug (i : Nat) (o : BOp) (e : E)
  | ifS (c : E) (a b : List S)
  | whl (c : E) (b : List S)
  | for_ (tg : Tg) (k : IK) (src : List E) (b : List S)
  | raise (x : Str)
  | tryS (b : List S) (hs : List (Str × List S))

abbrev Env' := List (Option PV)

structure Glob where
  known : Str → Bool
  call : Str → List PV → M PV
  const : Str → Option PV
  sub : Str → Str → Option Bool
  wf : Nat
  /-- isinstance of what is caught -/
  kit : Str → Str → Option Bool
  /-- calls two frames deeper -/
  low : Str → List PV → M PV

/-! ### values -/
def Con.pv : Con → PV
  | .non => .non
  | .bl b => .bl b
  | .int i => .int i
  | .str x => .str x
def toData (h : PH) : Nat → PV → Option PyData
  | 0, _ => none
  | _ + 1, .non => some .none
  | _ + 1, .bl b => some (.bool b)
  | _ + 1, .int i => some (.int i)
  | _ + 1, .str x => some (.str x)
  | n + 1, .tup xs => (xs.mapM (toData h n)).map .tuple
  | n + 1, .obj i => match h[i]? with
    | some (.lst _ xs) => (xs.mapM (toData h n)).map .list
    | _ => none
  | n + 1, .kls xs => (xs.mapM (toData h n)).map .list
  | _ + 1, _ => none
def eqP (h : PH) (a b : PV) : Option Bool := match toData h 70 a, toData h 70 b with
  | some x, some y => if SeqAt.shaped x && SeqAt.shaped y then some (PyData.eqv x y) else (match a, b with
    | .str x, .str y => some (decide (x = y))
    | _, _ => none)
  | _, _ => none
def truthP (h : PH) : PV → Option Bool
  | .non => some false
  | .bl b => some b
  | .int i => some (i != 0)
  | .str x => if x.length ≤ sizeLine then some ((x.length : Int) != 0) else none
  | .tup xs => some (!xs.isEmpty)
  | .obj i => match h[i]? with
    | some (.lst _ xs) => some (!xs.isEmpty)
    | some (.dK kvs) => some (!kvs.isEmpty)
    | _ => none
  | .kls xs => some (!xs.isEmpty)
  | _ => none
def tyP (h : PH) : PV → Option PTy
  | .non => some .non
  | .bl _ => some .bool
  | .int _ => some .int
  | .str _ => some .str
  | .tup _ => some .tuple
  | .obj i => match h[i]? with
    | some (.lst _ _) => some .list
    | some (.dK _) => some .dict
    | some (.dT _) => some .dict
    | _ => none
  | .kls _ => some .list
  | _ => none
def flatP : PV → Bool
  | .non => true
  | .bl _ => true
  | .int _ => true
  | .str _ => true
  | _ => false
def eqF : PV → PV → Bool
  | .non, .non => true
  | .bl a, .bl b => a == b
  | .bl a, .int b => (if a then 1 else 0) == b
  | .int a, .bl b => a == (if b then 1 else 0)
  | .int a, .int b => a == b
  | .str a, .str b => a == b
  | _, _ => false
/-- the items of a list or tuple -/
def itemsP (h : PH) : PV → Option (List PV)
  | .tup xs => some xs
  | .kls xs => some xs
  | .obj i => match h[i]? with
    | some (.lst _ xs) => some xs
    | _ => none
  | _ => none
def inP (h : PH) (x y : PV) : Option Bool := match itemsP h y with
  | some ys => if flatP x && ys.all flatP then some (ys.any fun z => eqF z x) else none
  | none => none
/-- a dict's key -/
def keyP : PV → Option L2.Key
  | .int i => some (.inl i)
  | .str x => some (.inr x)
  | _ => none
/-- a dict of keys that are ints or texts -/
def dctP (h : PH) : PV → Option (List (L2.Key × PV))
  | .obj i => match h[i]? with
    | some (.dK kvs) => some kvs
    | _ => none
  | _ => none
def valP (kvs : List (L2.Key × PV)) (k : L2.Key) : Option PV := (kvs.find? fun kv => decide (kv.1 = k)).map (·.2)
def putP (kvs : List (L2.Key × PV)) (k : L2.Key) (v : PV) : List (L2.Key × PV) :=
  if (kvs.any fun kv => decide (kv.1 = k)) = true then kvs.map (fun kv => if kv.1 = k then (kv.1, v) else kv) else kvs ++ [(k, v)]
def mulOk (i j : Int) : Bool := decide (-(2 ^ 64) < i ∧ i < 2 ^ 64) || decide (-(2 ^ 64) < j ∧ j < 2 ^ 64) || decide (i.natAbs.log2 + j.natAbs.log2 < 1000000)
def newO (o : PO) : M PV := fun h => .ok (.obj h.length) (h ++ [o])
def readM (f : PH → Option α) : M α := fun h => match f h with
  | some a => .ok a h
  | none => .stuck

/-- a list of one's own -/
def ownL (h : PH) (i : Nat) : Option (List PV) := match h[i]? with
  | some (.lst .own xs) => some xs
  | _ => none
def binM : BOp → PV → PV → M PV
  | .add, .int i, .int j => pure (.int (i + j))
  | .add, .str x, .str y => if x.length + y.length ≤ sizeLine then pure (.str (x ++ y)) else M.stop
  | .add, .tup xs, .tup ys => if xs.length + ys.length ≤ sizeLine then pure (.tup (xs ++ ys)) else M.stop
  | .add, .obj i, .obj j => do
    let xs ← readM fun h => ownL h i
    let ys ← readM fun h => ownL h j
    if xs.length + ys.length ≤ sizeLine then newO (.lst .own (xs ++ ys)) else M.stop
  | .sub, .int i, .int j => pure (.int (i - j))
  | .mul, .int i, .int j => if mulOk i j then pure (.int (i * j)) else M.stop
  | .mul, .obj i, .int k => do
    let xs ← readM fun h => ownL h i
    if -(2 ^ 63) ≤ k ∧ k < 2 ^ 63 ∧ xs.length * k.toNat ≤ sizeLine then newO (.lst .own (List.replicate k.toNat xs).flatten) else M.stop
  | .mul, .tup xs, .int k => if -1000000 ≤ k ∧ k ≤ 1000 ∧ xs.length ≤ 1000 then pure (.tup (List.replicate k.toNat xs).flatten) else M.stop
  | .fdiv, .int i, .int j => if 0 < j ∧ j.natAbs.log2 < 9000 then pure (.int (i / j)) else if j ≠ 0 ∧ j.natAbs < 1073741824 then pure (.int (i.fdiv j)) else M.stop
  | .mod, .int i, .int j => if 0 < j then pure (.int (i % j)) else M.stop
  | .pow, .int i, .int j => if 0 ≤ j ∧ j ≤ 1000000 ∧ i.natAbs < 2 ^ 64 then pure (.int (i ^ j.toNat)) else M.stop
  | _, _, _ => M.stop
/-- op= on values that never change -/
def augM : BOp → PV → PV → M PV
  | .add, .int i, .int j => pure (.int (i + j))
  | .add, .str x, .str y => if x.length + y.length ≤ sizeLine then pure (.str (x ++ y)) else M.stop
  | .sub, .int i, .int j => pure (.int (i - j))
  | _, _, _ => M.stop
def cmpM : COp → PV → PV → M PV
  | .eq, x, y => readM fun h => (eqP h x y).map .bl
  | .ne, x, y => readM fun h => (eqP h x y).map fun b => .bl (!b)
  | .lt, .int i, .int j => pure (.bl (decide (i < j)))
  | .le, .int i, .int j => pure (.bl (decide (i ≤ j)))
  | .gt, .int i, .int j => pure (.bl (decide (j < i)))
  | .ge, .int i, .int j => pure (.bl (decide (j ≤ i)))
  | .is, x, .non => pure (.bl (match x with | .non => true | _ => false))
  | .isNot, x, .non => pure (.bl (match x with | .non => false | _ => true))
  | .in_, x, y => readM fun h => (inP h x y).map .bl
  | .notIn, x, y => readM fun h => (inP h x y).map fun b => .bl (!b)
  | _, _, _ => M.stop
def truthM (v : PV) : M Bool := readM fun h => truthP h v

def ixM (a b : PV) : M PV := match b with
  | .int i => do
    let xs ← readM fun h => itemsP h a
    M.opt (atI xs i)
  | _ => M.stop
/-- d[k] -/
def dgetM (a b : PV) : M PV := do
  let kvs ← readM fun h => dctP h a
  let k ← M.opt (keyP b)
  M.opt (valP kvs k)
/-- k in d -/
def dinM (neg : Bool) (b a : PV) : M PV := do
  let kvs ← readM fun h => dctP h a
  let k ← M.opt (keyP b)
  pure (.bl (if neg then !(valP kvs k).isSome else (valP kvs k).isSome))
def intP : PV → Option Int
  | .int i => some i
  | _ => none
def cutP (xs : List PV) (lo hi : Option Int) : List PV := (xs.drop (HT.sIx xs.length 0 lo)).take (HT.sIx xs.length xs.length hi - HT.sIx xs.length 0 lo)
def lstP (h : PH) : PV → Option (List PV)
  | .kls xs => some xs
  | .obj i => match h[i]? with
    | some (.lst _ xs) => some xs
    | _ => none
  | _ => none
def slcM (a : PV) (lo hi : Option Int) : M PV := match a with
  | .tup xs => pure (.tup (cutP xs lo hi))
  | .obj i => do
    let xs ← readM fun h => lstP h (.obj i)
    newO (.lst .own (cutP xs lo hi))
  | .kls xs => newO (.lst .own (cutP xs lo hi))
  | _ => M.stop
def boolsP : List PV → Option (List Bool)
  | [] => some []
  | .bl b :: r => (boolsP r).map (b :: ·)
  | _ => none
def intsP : List PV → Option (List Int)
  | [] => some []
  | .int b :: r => (intsP r).map (b :: ·)
  | _ => none
def lenP (h : PH) : PV → Option Nat
  | .str x => if x.length ≤ sizeLine then some x.length else none
  | v => (itemsP h v).map List.length
def insI (x : Int) : List Int → List Int
  | [] => [x]
  | y :: r => if x ≤ y then x :: y :: r else y :: insI x r
def sortI (l : List Int) : List Int := l.foldr insI []
def maxI : List Int → Option Int
  | [] => none
  | x :: xs => some (xs.foldl max x)
def minI : List Int → Option Int
  | [] => none
  | x :: xs => some (xs.foldl min x)
/-- the keys of a dict, if all are ints -/
def keyIs : List (L2.Key × PV) → Option (List Int)
  | [] => some []
  | (.inl i, _) :: r => (keyIs r).map (i :: ·)
  | _ => none
/-- a def as a value -/
def fnP (known : Str → Bool) : PV → Option Str
  | .fn x => if known x then some x else none
  | _ => none
def mapO {α β : Type} (f : α → Option β) : List α → Option (List β)
  | [] => some []
  | x :: xs => match f x with
    | some y => (mapO f xs).map (y :: ·)
    | none => none
def keyD : L2.Key → PyData
  | .inl i => .int i
  | .inr x => .str x
def leafD : PV → Option PyData
  | .non => some .none
  | .bl b => some (.bool b)
  | .int i => some (.int i)
  | .str x => some (.str x)
  | _ => none
/-- what repr reads, so deep at most -/
def toD (h : PH) : Nat → PV → Option PyData
  | 0, v => leafD v
  | n + 1, v => match v with
    | .tup xs => (mapO (toD h n) xs).map .tuple
    | .obj i => match h[i]? with
      | some (.lst _ xs) => (mapO (toD h n) xs).map .list
      | some (.dK kvs) => (mapO (toD h n) (kvs.map (·.2))).map fun ds => .dict ((kvs.map fun p => keyD p.1).zip ds)
      | _ => none
    | v => leafD v
def repP (h : PH) (v : PV) : Option Str := match toD h 60 v with
  | some d => if d.showable = true ∧ d.shown.length ≤ sizeLine then some d.shown else none
  | none => none
def biM : BI → List PV → M PV
  | .len, [v] => readM fun h => (lenP h v).map fun n => .int n
  | .abs, [.int i] => pure (.int (if i < 0 then -i else i))
  | .int, [.int i] => pure (.int i)
  | .int, [.bl b] => pure (.int (if b then 1 else 0))
  | .int, [.str a] => if a.length ≤ 640 then M.opt ((PySem.intText? a).map .int) else M.stop
  | .tuple, [v] => do
    let xs ← readM fun h => itemsP h v
    pure (.tup xs)
  | .list, [v] => do
    let xs ← readM fun h => itemsP h v
    newO (.lst .own xs)
  | .all, [v] => readM fun h => ((lstP h v).bind boolsP).map fun bs => .bl (bs.all id)
  | .any, [v] => readM fun h => ((lstP h v).bind boolsP).map fun bs => .bl (bs.any id)
  | .sum, [v] => readM fun h => ((lstP h v).bind intsP).map fun bs => .int bs.sum
  | .min, [v] => readM fun h => ((itemsP h v).bind intsP).bind fun ns => (minI ns).map .int
  | .max, [v] => readM fun h => ((itemsP h v).bind intsP).bind fun ns => (maxI ns).map .int
  | .min, [.int a, .int b] => pure (.int (if b < a then b else a))
  | .max, [.int a, .int b] => pure (.int (if b > a then b else a))
  | .sorted, [v] => do
    let ns ← readM fun h => (lstP h v).bind intsP
    newO (.lst .own ((sortI ns).map .int))
  | .sortedD, [v] => do
    let kvs ← readM fun h => dctP h v
    let ns ← M.opt (keyIs kvs)
    if kvs.length < 64 then newO (.lst .own ((sortI ns).map .int)) else M.stop
  | .gcd, [.int a, .int b] => pure (.int ((Nat.gcd a.natAbs b.natAbs : Nat) : Int))
  | .repr, [v] => readM fun h => (repP h v).map .str
  | .str, [.int i] => if i.natAbs.log2 < 1920 then pure (.str (Str.ofString (toString i))) else M.stop
  | _, _ => M.stop
/-! ### texts -/
def signV (c : Nat) : PV := .str ⟨#[c]⟩
def ixSM : PV → PV → M PV
  | .str z, .int i => if z.length ≤ sizeLine then M.opt ((atI z.cps.toList i).map signV) else M.stop
  | _, _ => M.stop
def slcSM (a : PV) (lo hi : Option Int) : M PV := match a with
  | .str z => if z.length ≤ sizeLine then pure (.str (cutS z lo hi)) else M.stop
  | _ => M.stop
def strsP : List PV → Option (List Str)
  | [] => some []
  | .str x :: r => (strsP r).map (x :: ·)
  | _ => none
def strP : PV → Option Str
  | .str x => some x
  | _ => none
def smthM (j : Bool) (x y : PV) : M PV := do
  let a ← M.opt (strP x)
  if j then (do
    let xs ← readM fun h => lstP h y
    let ys ← M.opt (strsP xs)
    if (ys.map (·.length)).sum + ys.length * a.length ≤ 16777216 then pure (.str (Txt.join a ys)) else M.stop)
  else (do
    let b ← M.opt (strP y)
    if (b.length == 0) = false ∧ a.length + 2 ≤ sizeLine then newO (.lst .own ((Txt.split a b).map .str)) else M.stop)
/-- the one sign of a text -/
def oneP : PV → Option Nat
  | .str ⟨a⟩ => match a.toList with
    | [c] => some c
    | _ => none
  | _ => none
def inTM (x y : PV) : M PV := do
  let c ← M.opt (oneP x)
  let z ← M.opt (strP y)
  pure (.bl (decide (c ∈ z.cps.toList)))
def dgetDM (x y z : PV) : M PV := do
  let kvs ← readM fun h => dctP h x
  let k ← M.opt (keyP y)
  pure ((valP kvs k).getD z)
def setO (i : Nat) (o : PO) : M Unit := fun h => .ok () (h.set i o)
/-- the place of the first item that is v -/
def idxP (v : PV) (xs : List PV) : Option Nat := if flatP v && xs.all flatP then (if xs.findIdx (fun z => eqF z v) < xs.length then some (xs.findIdx fun z => eqF z v) else none) else none
def mthM : MK → PV → List PV → M PV
  | .append, .obj i, [v] => do
    let xs ← readM fun h => ownL h i
    if xs.length < sizeLine then M.bind (setO i (.lst .own (xs ++ [v]))) fun _ => pure .non else M.stop
  | .pop, .obj i, [] => do
    let xs ← readM fun h => ownL h i
    let y ← M.opt xs[xs.length - 1]?
    setO i (.lst .own xs.dropLast)
    pure y
  | .pop, .obj i, [.int k] => do
    let xs ← readM fun h => ownL h i
    let j ← M.opt (if -(2 ^ 63) ≤ k ∧ k < 2 ^ 63 then seqIndex? k xs.length else none)
    let y ← M.opt xs[j]?
    setO i (.lst .own (xs.eraseIdx j))
    pure y
  | .extend, .obj i, [.obj j] => do
    let xs ← readM fun h => ownL h i
    let ys ← readM fun h => ownL h j
    if xs.length + ys.length ≤ sizeLine then M.bind (setO i (.lst .own (xs ++ ys))) fun _ => pure .non else M.stop
  | .index, .obj i, [v] => do
    let xs ← readM fun h => lstP h (.obj i)
    let j ← M.opt (idxP v xs)
    pure (.int (j : Nat))
  | _, _, _ => M.stop
/-- a display's dict, filled -/
def putD : PV → List (L2.Key × PV) → M PV
  | .obj i, kvs => M.bind (readM fun h => match h[i]? with | some (.dK []) => some () | _ => none) fun _ => M.bind (setO i (.dK kvs)) fun _ => pure (.obj i)
  | _, _ => M.stop
def rcv (_ : MK) (h : PH) (v : PV) : Option Unit := (lstP h v).map fun _ => ()
def setIxM (o i v : PV) : M Unit := match o, i with
  | .obj p, .int k => do
    let xs ← readM fun h => ownL h p
    let j ← M.opt (ixN xs.length k)
    setO p (.lst .own (xs.set j v))
  | _, _ => M.stop

def dputM (o i v : PV) : M Unit := match o with
  | .obj p => do
    let kvs ← readM fun h => dctP h (.obj p)
    let k ← M.opt (keyP i)
    if kvs.length < sizeLine then setO p (.dK (putP kvs k v)) else M.stop
  | _ => M.stop

/-! ### walks -/
inductive Itr where
  | vals (xs : List PV)
  | rng (lo : Int) (n : Nat)
  | lst (i : Nat)
  | zipT (xs ys : List PV)
  | zipL (i j : Nat)
  | enum (i : Nat)
def zipAt (xs ys : List PV) (k : Nat) : Option PV := match xs[k]?, ys[k]? with
  | some x, some y => some (.tup [x, y])
  | _, _ => none
def Itr.at (it : Itr) (k : Nat) (h : PH) : Option (Option PV) := match it with
  | .vals xs => some xs[k]?
  | .rng lo n => some (if k < n then some (.int (lo + k)) else none)
  | .lst i => (lstP h (.obj i)).map fun xs => xs[k]?
  | .zipT xs ys => some (zipAt xs ys k)
  | .zipL i j => (lstP h (.obj i)).bind fun xs => (lstP h (.obj j)).map fun ys => zipAt xs ys k
  | .enum i => (lstP h (.obj i)).map fun xs => xs[k]?.map fun x => .tup [.int (k : Nat), x]
def Itr.size (it : Itr) (h : PH) : Nat := match it with
  | .vals xs => xs.length
  | .rng _ n => n
  | .lst i => ((lstP h (.obj i)).getD []).length
  | .zipT xs ys => min xs.length ys.length
  | .zipL i j => min ((lstP h (.obj i)).getD []).length ((lstP h (.obj j)).getD []).length
  | .enum i => ((lstP h (.obj i)).getD []).length
def smallI (i : Int) : Bool := decide (-(2 ^ 62) ≤ i ∧ i < 2 ^ 62)
def itrM : IK → List PV → M Itr
  | .val, [.tup xs] => pure (.vals xs)
  | .val, [.kls xs] => pure (.vals xs)
  | .val, [.str x] => pure (.vals (x.cps.toList.map signV))
  | .val, [.obj i] => do
    let _ ← readM fun h => lstP h (.obj i)
    pure (.lst i)
  | .range, [.int j] => if smallI j then pure (.rng 0 j.toNat) else M.stop
  | .range, [.int i, .int j] => if smallI i && smallI j then pure (.rng i (j - i).toNat) else M.stop
  | .zip, [.tup xs, .tup ys] => pure (.zipT xs ys)
  | .zip, [.obj i, .obj j] => do
    let _ ← readM fun h => lstP h (.obj i)
    let _ ← readM fun h => lstP h (.obj j)
    pure (.zipL i j)
  | .enum, [.obj i] => do
    let _ ← readM fun h => lstP h (.obj i)
    pure (.enum i)
  | _, _ => M.stop
/-- tuples of ints -/
def lotsP : List PV → Option (List (List Int))
  | [] => some []
  | .tup xs :: r => (intsP xs).bind fun l => (lotsP r).map (l :: ·)
  | _ :: _ => none
def lotV (l : List Int) : PV := .tup (l.map .int)
def sortLM (v : PV) : M PV := do
  let ls ← readM fun h => (lstP h v).bind lotsP
  if ls.length ≤ 1000 ∧ (∀ l ∈ ls, l.length ≤ 1000) then newO (.lst .own ((sortLot ls).map lotV)) else M.stop
/-- a number and a lot -/
def lotK : PV → Option (Int × List Int)
  | .tup [.int n, .tup xs] => (intsP xs).map fun l => (n, l)
  | _ => none
def kD (p : Int × List Int) : PyData := .tuple [.int p.1, .tuple (p.2.map .int)]
def ltTM (x y : PV) : M PV := do
  let p ← M.opt (lotK x)
  let q ← M.opt (lotK y)
  pure (.bl (PySem.W.dataLt (kD p) (kD q)))
def slotsM : List Nat → Env' → M (List PV)
  | [], _ => pure []
  | i :: is, env => do
    let v ← M.opt (env.getD i none)
    let vs ← slotsM is env
    pure (v :: vs)
def kitsG (kit : Str → Str → Option Bool) (c : Str) : List Str → Option (List Bool)
  | [] => some []
  | x :: xs => (kit c x).bind fun b => (kitsG kit c xs).map fun bs => b :: bs
def rfsM (sub kit : Str → Str → Option Bool) (r : RfD) (m : M PV) : M PV := fun h => match m h with
  | .exc c _ h1 => match sub c r.hd, kitsG kit c r.cs with
    | some true, some bs => (M.bind (newO (.lst .own (bs.map .bl))) fun x => M.bind (newO (.lst .own (r.due.map .bl))) fun y => cmpM .eq x y) h1
    | _, _ => .stuck
  | _ => .stuck
/-- how many unlike ones -/
def distI (ns : List Int) : Nat := (PyProof.Rows.firstMet (fun i => ns.getD i 0) ns.length).length
/-- len(set(..)) -/
def lsetM (v : PV) : M PV := do
  let ns ← readM fun h => (lstP h v).bind intsP
  if ns.length ≤ 4000 then pure (.int (distI ns : Nat)) else M.stop
/-- list(range(..)) -/
def lrgM (vs : List PV) : M PV := do
  let it ← itrM .range vs
  match it with
  | .rng lo n => if n ≤ 16777216 then newO (.lst .own ((List.range n).map fun i => .int (lo + (i : Nat)))) else M.stop
  | _ => M.stop
mutual
/-- the targets' places stored -/
def Tg.slots : Tg → List Nat
  | .nm i => [i]
  | .tp ts => Tg.slotsL ts
def Tg.slotsL : List Tg → List Nat
  | [] => []
  | t :: ts => t.slots ++ Tg.slotsL ts
end
def blP : PV → Option Bool
  | .bl b => some b
  | _ => none
mutual
def putT (h : PH) : Tg → PV → Env' → Option Env'
  | .nm i, v, env => some (env.set i (some v))
  | .tp ts, .tup xs, env => putTs h ts xs env
  | .tp _, _, _ => none
def putTs (h : PH) : List Tg → List PV → Env' → Option Env'
  | [], [], env => some env
  | t :: ts, v :: vs, env => (putT h t v env).bind fun env' => putTs h ts vs env'
  | _, _, _ => none
end
def wipeE (env : Env') : List Nat → Env'
  | [] => env
  | v :: vs => (wipeE env vs).set v none
/-- the loop of a comprehension -/
def lcGo (it : Itr) (body : PV → M (Option PV)) : Nat → Nat → List PV → M (List PV)
  | 0, k, acc => fun h => match it.at k h with
    | some none => .ok acc h
    | _ => .stuck
  | f + 1, k, acc => fun h => match it.at k h with
    | some none => .ok acc h
    | some (some v) => (M.bind (body v) fun r => match r with
      | some y => if acc.length < sizeLine then lcGo it body f (k + 1) (acc ++ [y]) else M.stop
      | none => lcGo it body f (k + 1) acc) h
    | none => .stuck

/-- a part of a slice -/
def partM (e : E) (m : M PV) : M (Option Int) := if e.isN then pure none else do
  let x ← m
  let i ← M.opt (intP x)
  pure (some i)
/-- nothing is raised -/
def noexc {α : Type} (m : M α) : M α := fun h => match m h with
  | .ok a h' => .ok a h'
  | _ => .stuck
mutual
def evalE (G : Glob) : E → Env' → M PV
  | .slot i, env => M.opt (env.getD i none)
  | .con c, _ => pure c.pv
  | .gl x, _ => M.opt (G.const x)
  | .bty t, _ => pure (.ty t)
  | .tup es, env => do
    let vs ← evalEs G es env
    if vs.length ≤ sizeLine then pure (.tup vs) else M.stop
  | .lst es, env => do
    let vs ← evalEs G es env
    if vs.length ≤ sizeLine then newO (.lst .own vs) else M.stop
  | .bin o a b, env => do
    let x ← evalE G a env
    let y ← evalE G b env
    binM o x y
  | .neg a, env => do
    let x ← evalE G a env
    match x with
    | .int i => pure (.int (-i))
    | _ => M.stop
  | .cmp o a b, env => do
    let x ← evalE G a env
    let y ← evalE G b env
    cmpM o x y
  | .chain o o' a b c, env => do
    let x ← evalE G a env
    let y ← evalE G b env
    let z ← cmpM o x y
    match z with
    | .bl true => do
      let w ← evalE G c env
      cmpM o' y w
    | .bl false => pure (.bl false)
    | _ => M.stop
  | .and_ es, env => evalAnd G es env
  | .or_ es, env => evalOr G es env
  | .not_ a, env => do
    let x ← evalE G a env
    let b ← truthM x
    pure (.bl (!b))
  | .ife c a b, env => do
    let t ← evalT G c env
    if t then evalE G a env else evalE G b env
  | .bi f es, env => do
    let vs ← evalEs G es env
    biM f vs
  | .isi a t, env => do
    let x ← evalE G a env
    let c ← readM fun h => tyP h x
    pure (.bl (c.sub t))
  | .isi2 a ts, env => do
    let x ← evalE G a env
    let c ← readM fun h => tyP h x
    pure (.bl (ts.any fun t => c.sub t))
  | .cl x es, env => do
    let vs ← evalEs G es env
    G.call x vs
  | .fnv x, _ => pure (.fn x)
  | .dct ks es, env => if ks.isEmpty then newO (.dK []) else do
    let d ← newO (.dK [])
    let vs ← evalEs G es env
    putD d (ks.zip vs)
  | .clv i es, env => do
    let f ← M.opt (env.getD i none)
    let y ← M.opt (fnP G.known f)
    let vs ← evalEs G es env
    G.call y vs
  | .sub a b, env => do
    let x ← evalE G a env
    let y ← evalE G b env
    ixM x y
  | .dget a b, env => do
    let x ← evalE G a env
    let y ← evalE G b env
    dgetM x y
  | .cmpD neg a b, env => do
    let x ← evalE G a env
    let y ← evalE G b env
    dinM neg x y
  | .lrg es, env => do
    let vs ← evalEs G es env
    lrgM vs
  | .lset a, env => do
    let x ← evalE G a env
    lsetM x
  | .sortL a, env => do
    let x ← evalE G a env
    sortLM x
  | .ltT a b, env => do
    let x ← evalE G a env
    let y ← evalE G b env
    ltTM x y
  | .rfs r x is, env => rfsM G.sub G.kit r (do
    let vs ← slotsM is env
    G.low x vs)
  | .slc a lo hi, env => do
    let x ← evalE G a env
    let l ← partM lo (evalE G lo env)
    let u ← partM hi (evalE G hi env)
    slcM x l u
  | .subS a b, env => do
    let x ← evalE G a env
    let y ← evalE G b env
    ixSM x y
  | .slcS a lo hi, env => do
    let x ← evalE G a env
    let l ← partM lo (evalE G lo env)
    let u ← partM hi (evalE G hi env)
    slcSM x l u
  | .smth j a b, env => do
    let x ← evalE G a env
    let _ ← M.opt (strP x)
    let y ← evalE G b env
    smthM j x y
  | .inT a b, env => do
    let x ← evalE G a env
    let y ← evalE G b env
    inTM x y
  | .dgetD a b c, env => do
    let x ← evalE G a env
    let _ ← readM fun h => dctP h x
    let y ← evalE G b env
    let z ← evalE G c env
    dgetDM x y z
  | .mth m o es, env => do
    let x ← evalE G o env
    let _ ← readM fun h => rcv m h x
    let vs ← evalEs G es env
    mthM m x vs
  | .lc elt tg k src ifs own, env => do
    let it ← M.bind (evalEs G src env) (itrM k)
    let h ← M.get
    let ys ← noexc (lcGo it (fun v => do
      let h ← M.get
      let env' ← M.opt (putT h tg v (wipeE env own))
      let b ← evalIfs G ifs env'
      if b then (do
        let y ← evalE G elt env'
        pure (some y)) else pure none) (it.size h) 0 [])
    newO (.lst .own ys)
def evalEs (G : Glob) : List E → Env' → M (List PV)
  | [], _ => pure []
  | e :: es, env => do
    let v ← evalE G e env
    let vs ← evalEs G es env
    pure (v :: vs)
def evalAnd (G : Glob) : List E → Env' → M PV
  | [], _ => M.stop
  | e :: es, env => do
    let v ← evalE G e env
    match es with
    | [] => pure v
    | _ :: _ => do
      let b ← truthM v
      if b then evalAnd G es env else pure v
def evalOr (G : Glob) : List E → Env' → M PV
  | [], _ => M.stop
  | e :: es, env => do
    let v ← evalE G e env
    match es with
    | [] => pure v
    | _ :: _ => do
      let b ← truthM v
      if b then pure v else evalOr G es env
/-- a test -/
def evalT (G : Glob) : E → Env' → M Bool
  | .not_ a, env => do
    let b ← evalT G a env
    pure (!b)
  | .and_ es, env => tAnd G es env
  | .or_ es, env => tOr G es env
  | .ife c a b, env => do
    let t ← evalT G c env
    if t then evalT G a env else evalT G b env
  | .slot i, env => do
    let x ← M.opt (env.getD i none)
    truthM x
  | .con c, env => truthM c.pv
  | .gl x, env => do
    let v ← M.opt (G.const x)
    truthM v
  | .cmp o a b, env => do
    let x ← evalE G a env
    let y ← evalE G b env
    let z ← cmpM o x y
    M.opt (blP z)
  | .chain o o' a b c, env => do
    let x ← evalE G a env
    let y ← evalE G b env
    let z ← cmpM o x y
    match z with
    | .bl true => do
      let w ← evalE G c env
      let z' ← cmpM o' y w
      M.opt (blP z')
    | .bl false => pure false
    | _ => M.stop
  | .bi f es, env => do
    let vs ← evalEs G es env
    let v ← biM f vs
    truthM v
  | .isi a t, env => do
    let x ← evalE G a env
    let c ← readM fun h => tyP h x
    truthM (.bl (c.sub t))
  | .isi2 a ts, env => do
    let x ← evalE G a env
    let c ← readM fun h => tyP h x
    truthM (.bl (ts.any fun t => c.sub t))
  | .cl x es, env => do
    let vs ← evalEs G es env
    let v ← G.call x vs
    truthM v
  | .clv i es, env => do
    let f ← M.opt (env.getD i none)
    let y ← M.opt (fnP G.known f)
    let vs ← evalEs G es env
    let v ← G.call y vs
    truthM v
  | .sub a b, env => do
    let x ← evalE G a env
    let y ← evalE G b env
    let v ← ixM x y
    truthM v
  | .cmpD neg a b, env => do
    let x ← evalE G a env
    let y ← evalE G b env
    let z ← dinM neg x y
    M.opt (blP z)
  | .ltT a b, env => do
    let x ← evalE G a env
    let y ← evalE G b env
    let z ← ltTM x y
    M.opt (blP z)
  | _, _ => M.stop
def tAnd (G : Glob) : List E → Env' → M Bool
  | [], _ => pure true
  | e :: es, env => do
    let b ← evalT G e env
    if b then tAnd G es env else pure false
def tOr (G : Glob) : List E → Env' → M Bool
  | [], _ => pure false
  | e :: es, env => do
    let b ← evalT G e env
    if b then pure true else tOr G es env
def evalIfs (G : Glob) : List E → Env' → M Bool
  | [], _ => pure true
  | e :: es, env => do
    let b ← evalT G e env
    if b then evalIfs G es env else pure false
end

/-! ### statements -/
inductive SR where
  | nx (env : Env') (h : PH)
  | rt (v : PV) (h : PH)
  | bk (env : Env') (h : PH)
  | ct (env : Env') (h : PH)
  | exc (c : Str) (vs : List PV) (env : Env') (h : PH)
  | stuck
/-- an expression ahead of what follows in a statement -/
def SR.of (env : Env') (r : Res α) (f : α → PH → SR) : SR := match r with
  | .ok a h => f a h
  | .exc c vs h => .exc c vs env h
  | .stuck => .stuck
def noexcS (r : SR) : SR := match r with
  | .exc _ _ _ _ => .stuck
  | r => r
def forGo (it : Itr) (put : PH → PV → Env' → Option Env') (body : Env' → PH → SR) : Nat → Nat → Env' → PH → SR
  | 0, k, env, h => match it.at k h with
    | some none => .nx env h
    | _ => .stuck
  | f + 1, k, env, h => match it.at k h with
    | some none => .nx env h
    | some (some v) => match put h v env with
      | some env1 => match body env1 h with
        | .nx env' h' => forGo it put body f (k + 1) env' h'
        | .ct env' h' => forGo it put body f (k + 1) env' h'
        | .bk env' h' => .nx env' h'
        | .rt v h' => .rt v h'
        | .exc c vs env' h' => .exc c vs env' h'
        | .stuck => .stuck
      | none => .stuck
    | none => .stuck
def whlGo (c : Env' → M Bool) (body : Env' → PH → SR) : Nat → Env' → PH → SR
  | 0, _, _ => .stuck
  | f + 1, env, h => SR.of env (c env h) fun b h1 => if b then (match body env h1 with
    | .nx env' h' => whlGo c body f env' h'
    | .ct env' h' => whlGo c body f env' h'
    | .bk env' h' => .nx env' h'
    | .rt v h' => .rt v h'
    | .exc c vs env' h' => .exc c vs env' h'
    | .stuck => .stuck) else .nx env h1

mutual
def execS (G : Glob) : S → Env' → PH → SR
  | .expr e, env, h => SR.of env (evalE G e env h) fun _ h' => .nx env h'
  | .ret e, env, h => SR.of env (evalE G e env h) fun v h' => .rt v h'
  | .retN, _, h => .rt .non h
  | .pass, env, h => .nx env h
  | .brk, env, h => .bk env h
  | .cont, env, h => .ct env h
  | .asg i e, env, h => SR.of env (evalE G e env h) fun v h' => .nx (env.set i (some v)) h'
  | .asgT ts e, env, h => SR.of env (evalE G e env h) fun v h' => match putT h' (.tp ts) v env with
    | some env' => .nx env' h'
    | none => .stuck
  | .par i j a b, env, h => SR.of env (evalE G a env h) fun v h1 => SR.of env (evalE G b env h1) fun w h2 => .nx ((env.set i (some v)).set j (some w)) h2
  | .setIx o i e, env, h => SR.of env (evalE G e env h) fun v h1 => SR.of env (evalE G o env h1) fun x h2 => SR.of env (evalE G i env h2) fun y h3 => SR.of env (setIxM x y v h3) fun _ h4 => .nx env h4
  | .dput o i e, env, h => SR.of env (evalE G e env h) fun v h1 => SR.of env (evalE G o env h1) fun x h2 => SR.of env (evalE G i env h2) fun y h3 => SR.of env (dputM x y v h3) fun _ h4 => .nx env h4
  | .aug i o e, env, h => match env.getD i none with
    | some x => SR.of env (evalE G e env h) fun y h1 => SR.of env (augM o x y h1) fun z h2 => .nx (env.set i (some z)) h2
    | none => .stuck
  | .ifS c a b, env, h => SR.of env (evalT G c env h) fun t h' => if t then execSs G a env h' else execSs G b env h'
  | .whl c b, env, h => whlGo (evalT G c) (execSs G b) G.wf env h
  | .for_ tg k src b, env, h => SR.of env (M.bind (evalEs G src env) (itrM k) h) fun it h2 => forGo it (fun h => putT h tg) (execSs G b) (it.size h2) 0 env h2
  | .raise x, env, h => .exc x [] env h
  | .tryS b hs, env, h => match execSs G b env h with
    | .exc c vs env' h' => execHs G c vs hs env' h'
    | r => r
def execSs (G : Glob) : List S → Env' → PH → SR
  | [], env, h => .nx env h
  | s :: ss, env, h => match execS G s env h with
    | .nx env' h' => execSs G ss env' h'
    | r => r
def execHs (G : Glob) (c : Str) (vs : List PV) : List (Str × List S) → Env' → PH → SR
  | [], env, h => .exc c vs env h
  | (x, ss) :: hs, env, h => match G.sub c x with
    | some true => noexcS (execSs G ss env h)
    | some false => execHs G c vs hs env h
    | none => .stuck
end

/-! ### a def -/
structure FD where
  ps : List Str
  ns : Nat
  body : List S
abbrev FD.np (fd : FD) : Nat := fd.ps.length
def runF (G : Glob) (fd : FD) (vs : List PV) : M PV := fun h =>
  if vs.length = fd.np then (match execSs G fd.body (vs.map some ++ List.replicate (fd.ns - fd.np) none) h with
    | .nx _ h' => .ok .non h'
    | .rt v h' => .ok v h'
    | .exc c vs _ h' => .exc c vs h'
    | _ => .stuck) else .stuck
structure Prog where
  fT : Str → Option FD
  cT : Str → Option PV
  sub : Str → Str → Option Bool
  wf : Nat
  /-- names that are built-in ones -/
  bl : List Str
  /-- is gcd math.gcd? -/
  gcd : Bool
  /-- the classes that are raised, and those that are caught -/
  exc : List Str
  hdl : List Str
  /-- the defs that make a lambda -/
  lam : List Str
  /-- isinstance of what is caught -/
  kit : Str → Str → Option Bool
  /-- the defs that are handed a lambda -/
  rf : List RfD
  /-- is repr called? (then no lambda is handed on) -/
  rep : Bool
def callF (P : Prog) : Nat → Str → List PV → M PV
  | 0, _, _ => M.stop
  | k + 1, x, vs => match P.fT x with
    | some fd => runF { known := fun x => (P.fT x).isSome, call := callF P k, const := P.cT, sub := P.sub, wf := P.wf, kit := P.kit, low := match k with | j + 2 => callF P j | _ => fun _ _ => M.stop } fd vs
    | none => M.stop
def lowF (P : Prog) (k : Nat) : Str → List PV → M PV := match k with | j + 2 => callF P j | _ => fun _ _ => M.stop
def globOf (P : Prog) (k : Nat) : Glob := { known := fun x => (P.fT x).isSome, call := callF P k, const := P.cT, sub := P.sub, wf := P.wf, kit := P.kit, low := lowF P k }
end MP

set_option Elab.async false
set_option linter.all false
set_option maxRecDepth 100000
set_option maxHeartbeats 4000000
/-! MPc: the primitives of the pure interpreter are those of the model. -/
namespace MP
open PySem PySem.Spec PyProof.Rows L2

/-! ### states -/
def ER (K : PySem.W.Frag) (mg : Str → Option Value) (ρ : Nat → Addr) (n : Nat) (H : Hp) (σ : L2.St) (env : Env') : Prop :=
  σ.length = env.length ∧ ∀ (i : Nat) (v : PV), env[i]? = some (some v) → ∃ x, σ[i]? = some (some x) ∧ RP K mg ρ n H x v

/-- an exception of one's own, as the model has it -/
def XR (mg : Str → Option Value) (c : Str) (vs : List PV) (cls : Value) (d : Option Addr) : Prop := ∃ C, mg c = some (.ref C) ∧ cls = .ref C ∧ vs = [] ∧ d = none

def Post {α : Type} (K : PySem.W.Frag) (mg : Str → Option Value) (ρ : Nat → Addr) (H : Hp) (n : Nat) (r : Res α) (Q : (Nat → Addr) → Hp → PH → α → Prop) (Wx : Str → List PV → Hp → Prop) : Prop :=
  match r with
  | .ok a h' => ∀ ρ' H', Nx ρ H n ρ' H' h'.length → HR K mg ρ' H' h' → Q ρ' H' h' a
  | .exc c vs h' => ∀ ρ' H', Nx ρ H n ρ' H' h'.length → HR K mg ρ' H' h' → Wx c vs H'
  | .stuck => False

section
variable {K : PySem.W.Frag} {mg : Str → Option Value} {ρ ρ' : Nat → Addr} {n n' : Nat} {H H' : Hp} {h h' : PH} {α β : Type} {Wx : Str → List PV → Hp → Prop}

theorem ER.nx {σ : L2.St} {env : Env'} (e : ER K mg ρ n H σ env) (x : Nx ρ H n ρ' H' n') : ER K mg ρ' n' H' σ env :=
  ⟨e.1, fun i v q => let ⟨y, h1, h2⟩ := e.2 i v q; ⟨y, h1, h2.nx x⟩⟩
theorem ER.set {σ : L2.St} {env : Env'} (e : ER K mg ρ n H σ env) {x : V} {v : PV} (r : RP K mg ρ n H x v) (i : Nat) : ER K mg ρ n H (σ.set i (some x)) (env.set i (some v)) := by
  refine ⟨by simp [e.1], fun j w q => ?_⟩
  by_cases hj : i = j
  · subst hj
    by_cases hl : i < env.length
    · rw [List.getElem?_set_self hl] at q
      cases q
      exact ⟨x, by rw [List.getElem?_set_self (by rw [e.1]; exact hl)], r⟩
    · rw [List.getElem?_eq_none (by simpa using hl)] at q; cases q
  · rw [List.getElem?_set_ne hj] at q
    obtain ⟨y, h1, h2⟩ := e.2 j w q
    exact ⟨y, by rw [List.getElem?_set_ne hj]; exact h1, h2⟩
theorem ER.setN {σ : L2.St} {env : Env'} (e : ER K mg ρ n H σ env) (i : Nat) : ER K mg ρ n H (σ.set i none) (env.set i none) := by
  refine ⟨by simp [e.1], fun j w q => ?_⟩
  by_cases hj : i = j
  · subst hj
    by_cases hl : i < env.length
    · rw [List.getElem?_set_self hl] at q
      cases q
    · rw [List.getElem?_eq_none (by simpa using hl)] at q; cases q
  · rw [List.getElem?_set_ne hj] at q
    obtain ⟨y, h1, h2⟩ := e.2 j w q
    exact ⟨y, by rw [List.getElem?_set_ne hj]; exact h1, h2⟩
theorem ER.wipe {σ : L2.St} {env : Env'} (e : ER K mg ρ n H σ env) : ∀ l : List Nat, ER K mg ρ n H (wipe σ l) (wipeE env l)
  | [] => e
  | i :: l => (ER.wipe e l).setN i
theorem ER.getD {σ : L2.St} {env : Env'} (e : ER K mg ρ n H σ env) {i : Nat} {v : PV} (q : env.getD i none = some v) : ∃ x, σ[i]? = some (some x) ∧ RP K mg ρ n H x v := by
  refine e.2 i v ?_
  rw [List.getD_eq_getElem?_getD] at q
  cases h : env[i]? with
  | none => rw [h] at q; cases q
  | some w => rw [h] at q; simp at q; rw [q]

theorem Post.stuck {Q : (Nat → Addr) → Hp → PH → α → Prop} (p : Post K mg ρ H n .stuck Q Wx) : False := p
theorem Post.nxt {r : Res α} {Q : (Nat → Addr) → Hp → PH → α → Prop} (p : Post K mg ρ H n r Q Wx) (x : Nx ρ H n ρ' H' n') : Post K mg ρ' H' n' r Q Wx := by
  cases r with
  | ok a h1 => exact fun ρ2 H2 y => p ρ2 H2 (x.trans y)
  | exc c vs h1 => exact fun ρ2 H2 y => p ρ2 H2 (x.trans y)
  | stuck => exact p
theorem Post.bind {m : M α} {f : α → M β} {Q : (Nat → Addr) → Hp → PH → β → Prop} (p : Post K mg ρ H n (M.bind m f h) Q Wx) :
    Post K mg ρ H n (m h) (fun ρ1 H1 h1 a => Post K mg ρ1 H1 h1.length (f a h1) Q Wx) Wx := by
  unfold M.bind at p
  cases e : m h with
  | ok a h1 =>
    rw [e] at p
    intro ρ1 H1 x R
    simp only at p
    cases e2 : f a h1 with
    | ok b h2 => rw [e2] at p; exact fun ρ2 H2 y R2 => p ρ2 H2 (x.trans y) R2
    | exc c vs h2 => rw [e2] at p; exact fun ρ2 H2 y R2 => p ρ2 H2 (x.trans y) R2
    | stuck => rw [e2] at p; exact p
  | exc c vs h1 => rw [e] at p; exact p
  | stuck => rw [e] at p; exact p
theorem Post.imp {r : Res α} {Q Q' : (Nat → Addr) → Hp → PH → α → Prop} {Wx' : Str → List PV → Hp → Prop} (p : Post K mg ρ H n r Q Wx)
    (hq : ∀ ρ' H' h' a, Nx ρ H n ρ' H' h'.length → HR K mg ρ' H' h' → Q ρ' H' h' a → Q' ρ' H' h' a) (hw : ∀ c vs H', Wx c vs H' → Wx' c vs H') : Post K mg ρ H n r Q' Wx' := by
  cases r with
  | ok a h1 => exact fun ρ1 H1 x R => hq ρ1 H1 h1 a x R (p ρ1 H1 x R)
  | exc c vs h1 => exact fun ρ1 H1 x R => hw c vs H1 (p ρ1 H1 x R)
  | stuck => exact p
theorem Post.pure {a : α} {Q : (Nat → Addr) → Hp → PH → α → Prop} (R : HR K mg ρ H h) (p : Post K mg ρ H h.length ((Pure.pure a : M α) h) Q Wx) : Q ρ H h a := p ρ H .refl R
theorem Post.opt {o : Option α} {Q : (Nat → Addr) → Hp → PH → α → Prop} (R : HR K mg ρ H h) (p : Post K mg ρ H h.length ((M.opt o : M α) h) Q Wx) : ∃ a, o = some a ∧ Q ρ H h a := by
  cases o with
  | none => exact (Post.stuck p).elim
  | some a => exact ⟨a, rfl, p ρ H .refl R⟩
theorem Post.read {f : PH → Option α} {Q : (Nat → Addr) → Hp → PH → α → Prop} (R : HR K mg ρ H h) (p : Post K mg ρ H h.length ((readM f : M α) h) Q Wx) : ∃ a, f h = some a ∧ Q ρ H h a := by
  unfold readM at p
  cases e : f h with
  | none => rw [e] at p; exact (Post.stuck p).elim
  | some a => rw [e] at p; exact ⟨a, rfl, p ρ H .refl R⟩
theorem Post.ite {c : Prop} [Decidable c] {m : M α} {Q : (Nat → Addr) → Hp → PH → α → Prop} (p : Post K mg ρ H n ((if c then m else M.stop) h) Q Wx) : c ∧ Post K mg ρ H n (m h) Q Wx := by
  by_cases hc : c
  · rw [if_pos hc] at p; exact ⟨hc, p⟩
  · rw [if_neg hc] at p; exact (Post.stuck p).elim
/-- a new object -/
theorem Post.newO {o : PO} {Q : (Nat → Addr) → Hp → PH → PV → Prop} {u : HO} (R : HR K mg ρ H h) (p : Post K mg ρ H h.length (newO o h) Q Wx)
    {a : Addr} (ha : H a = none) (ro : RO K mg (rn ρ h.length a) (h.length + 1) (upd H a u) a o) : ∃ ρ' h', RP K mg ρ' h'.length (upd H a u) (.ref a) (.obj h.length) ∧ Q ρ' (upd H a u) h' (.obj h.length) := by
  refine ⟨rn ρ h.length a, h ++ [o], ?_, p _ _ (.new ha) (R.new ha ro)⟩
  have := RP.obj (K := K) (mg := mg) (ρ := rn ρ h.length a) (n := (h ++ [o]).length) (H := upd H a u) (i := h.length) (by simp)
  rw [rn_eq] at this
  exact this
/-- a new tuple -/
theorem Post.tupN {vs : List PV} {xs : List V} {Q : (Nat → Addr) → Hp → PH → PV → Prop} (R : HR K mg ρ H h) (p : Post K mg ρ H h.length ((Pure.pure (.tup vs) : M PV) h) Q Wx)
    {a : Addr} (ha : H a = none) (r : RPs K mg ρ h.length H xs vs) : RP K mg ρ h.length (upd H a (.tup xs)) (.ref a) (.tup vs) ∧ Q ρ (upd H a (.tup xs)) h (.tup vs) :=
  ⟨.tup (SqT.of upd_same) (r.nx (.tup ha)), p _ _ (.tup ha) (R.tup ha)⟩

theorem HR.own {i : Nat} {vs : List PV} (R : HR K mg ρ H h) (e : ownL h i = some vs) : h[i]? = some (.lst .own vs) ∧ ∃ xs, H (ρ i) = some (.lst xs) ∧ RPs K mg ρ h.length H xs vs := by
  unfold ownL at e
  split at e
  · rename_i ys hy
    cases e
    exact ⟨hy, R.objs i _ hy⟩
  · cases e
theorem HR.lstP {i : Nat} {vs : List PV} (R : HR K mg ρ H h) (e : lstP h (.obj i) = some vs) : ∃ xs, SqL K H (ρ i) xs ∧ RPs K mg ρ h.length H xs vs := by
  have e' : (match h[i]? with | some (PO.lst _ xs) => some xs | _ => none) = some vs := e
  split at e'
  · rename_i k ys hy
    cases e'
    exact R.sqL hy
  · cases e'
theorem HR.items {x : V} {v : PV} {vs : List PV} (R : HR K mg ρ H h) (r : RP K mg ρ h.length H x v) (e : itemsP h v = some vs) :
    ∃ a xs, x = .ref a ∧ (SqL K H a xs ∨ SqT K H a xs) ∧ RPs K mg ρ h.length H xs vs ∧ ((∀ ws, v ≠ .tup ws) → SqL K H a xs) ∧ ((∃ ws, v = .tup ws) → SqT K H a xs) := by
  cases r with
  | tup hs hr =>
    have e' : some _ = some vs := e
    cases e'
    exact ⟨_, _, rfl, .inr hs, hr, fun q => absurd rfl (q _), fun _ => hs⟩
  | @obj i hi =>
    have e' : (match h[i]? with | some (PO.lst _ xs) => some xs | _ => none) = some vs := e
    split at e'
    · rename_i k ys hy
      cases e'
      obtain ⟨xs, h1, h2⟩ := R.sqL hy
      exact ⟨_, xs, rfl, .inl h1, h2, fun _ => h1, fun ⟨ws, q⟩ => (nomatch q)⟩
    · cases e'
  | kls hk hr =>
    have e' : some _ = some vs := e
    cases e'
    exact ⟨_, _, rfl, .inl (.inr hk), hr, fun _ => .inr hk, fun ⟨ws, q⟩ => (nomatch q)⟩
  | _ => cases e
/-- a write to a list -/
theorem Post.setO {i : Nat} {vs ws : List PV} {xs ys : List V} {Q : (Nat → Addr) → Hp → PH → Unit → Prop} (R : HR K mg ρ H h) (hi : h[i]? = some (.lst .own vs)) (hx : H (ρ i) = some (.lst xs)) (r : RPs K mg ρ h.length H ys ws)
    (p : Post K mg ρ H h.length (setO i (.lst .own ws) h) Q Wx) : HR K mg ρ (upd H (ρ i) (.lst ys)) (h.set i (.lst .own ws)) ∧ Nx ρ H h.length ρ (upd H (ρ i) (.lst ys)) (h.set i (.lst .own ws)).length ∧ Q ρ (upd H (ρ i) (.lst ys)) (h.set i (.lst .own ws)) () := by
  have hlt := (List.getElem?_eq_some_iff.mp hi).1
  have nx : Nx ρ H h.length ρ (upd H (ρ i) (.lst ys)) h.length := Nx.write hlt hx trivial (fun _ z => by cases z)
  have R' : HR K mg ρ (upd H (ρ i) (.lst ys)) (h.set i (.lst .own ws)) := R.write hi hx trivial ⟨ys, upd_same, r.nx nx⟩
  have nx' : Nx ρ H h.length ρ (upd H (ρ i) (.lst ys)) (h.set i (.lst .own ws)).length := by rw [List.length_set]; exact nx
  exact ⟨R', nx', p _ _ nx' R'⟩

/-- a write to a dict -/
theorem Post.setD {i : Nat} {vs ws : List (L2.Key × PV)} {xs ys : List (L2.Key × V)} {Q : (Nat → Addr) → Hp → PH → Unit → Prop} (R : HR K mg ρ H h) (hi : h[i]? = some (.dK vs)) (hx : H (ρ i) = some (.dK xs)) (r : RF K mg ρ h.length H ys ws)
    (p : Post K mg ρ H h.length (MP.setO i (.dK ws) h) Q Wx) : HR K mg ρ (upd H (ρ i) (.dK ys)) (h.set i (.dK ws)) ∧ Nx ρ H h.length ρ (upd H (ρ i) (.dK ys)) (h.set i (.dK ws)).length ∧ Q ρ (upd H (ρ i) (.dK ys)) (h.set i (.dK ws)) () := by
  have hlt := (List.getElem?_eq_some_iff.mp hi).1
  have nx : Nx ρ H h.length ρ (upd H (ρ i) (.dK ys)) h.length := Nx.write hlt hx trivial (fun _ z => by cases z)
  have R' : HR K mg ρ (upd H (ρ i) (.dK ys)) (h.set i (.dK ws)) := R.write hi hx trivial ⟨ys, upd_same, r.nx nx⟩
  have nx' : Nx ρ H h.length ρ (upd H (ρ i) (.dK ys)) (h.set i (.dK ws)).length := by rw [List.length_set]; exact nx
  exact ⟨R', nx', p _ _ nx' R'⟩

/-- what is told of a value at the end of an expression -/
def QV (K : PySem.W.Frag) (mg : Str → Option Value) (Q : VK) : (Nat → Addr) → Hp → PH → PV → Prop := fun ρ' H' h' v => ∀ x, RP K mg ρ' h'.length H' x v → Q x H'
/-- a two-place operation, by the pure one -/
def rB (K : PySem.W.Frag) (mg : Str → Option Value) (g : PV → PV → M PV) : R2 := fun x y H Q => ∃ v w ρ h Wx, HR K mg ρ H h ∧ RP K mg ρ h.length H x v ∧ RP K mg ρ h.length H y w ∧ Post K mg ρ H h.length (g v w h) (QV K mg Q) Wx
def bo : BOp → Operator
  | .add => .Add
  | .sub => .Sub
  | .mul => .Mult
  | .fdiv => .FloorDiv
  | .mod => .Mod
  | .pow => .Pow
end

section
variable {X : Cx}
theorem mulOk_ok {i j : Int} (h : mulOk i j = true) : IntMulOk i j := by
  unfold mulOk at h
  simp only [Bool.or_eq_true, decide_eq_true_eq] at h
  rcases h with (h | h) | h
  · exact CMul.ok (.inl h)
  · exact CMul.ok (.inr h)
  · exact CMulW.ok h
theorem op_mulA {f : Value → Value → Sem Value} (rule : ∀ (i j : Int) (t u : Tok) (s : Shared) (Q : Value → Shared → Prop) (E : Value → Shared → Prop), IntMulOk i j → Q (.int (i * j) s.toks) { s with toks := s.toks + 1 } → wpAny (model X.prog X.w) X.A (f (.int i t) (.int j u)) Q E s) :
    OpR X f (rI IntMulOk fun i j => .int (i * j)) := opI rule

theorem opB_add : OpR X (binaryOp .Add) (rB X.K X.mg (binM .add)) := by
  intro pins s σ H x y v u Q I rx ry hr
  obtain ⟨a, b, ρ, h, Wx, R, ra, rb, p⟩ := hr
  cases a with
  | int i =>
    cases b with
    | int j =>
      cases ra; cases rb
      exact op_add pins s σ H _ _ v u Q I rx ry ⟨i, j, rfl, rfl, Post.pure R p _ (.int _)⟩
    | _ => exact (Post.stuck p).elim
  | str i =>
    cases b with
    | str j =>
      cases ra; cases rb
      obtain ⟨hc, p⟩ := Post.ite p
      exact op_add_str pins s σ H _ _ v u Q I rx ry ⟨i, j, rfl, rfl, hc, Post.pure R p _ (.str _)⟩
    | _ => exact (Post.stuck p).elim
  | tup vs =>
    cases b with
    | tup ws =>
      cases ra with
      | tup hs hrs =>
        cases rb with
        | tup ht hrt =>
          obtain ⟨hc, p⟩ := Post.ite p
          have hl1 := hrs.length
          have hl2 := hrt.length
          refine op_catA pins s σ H _ _ v u Q I rx ry ⟨_, _, _, _, rfl, rfl, hs, ht, by omega, fun e => ?_, fun _ e => ?_, fun _ _ a ha => ?_⟩
          · subst e
            cases hrs
            exact Post.pure R p _ (.tup ht hrt)
          · subst e
            cases hrt
            rw [List.append_nil] at p
            exact Post.pure R p _ (.tup hs hrs)
          · obtain ⟨r, q⟩ := Post.tupN R p ha (hrs.append hrt)
            exact q _ r
    | _ => exact (Post.stuck p).elim
  | obj i =>
    cases b with
    | obj j =>
      cases ra with
      | obj hi =>
        cases rb with
        | obj hj =>
          obtain ⟨vs, e1, p⟩ := Post.read R (Post.bind p)
          obtain ⟨ws, e2, p⟩ := Post.read R (Post.bind p)
          obtain ⟨hc, p⟩ := Post.ite p
          obtain ⟨_, xs, hx, r1⟩ := R.own e1
          obtain ⟨_, ys, hy, r2⟩ := R.own e2
          have hl1 := r1.length
          have hl2 := r2.length
          refine op_cat pins s σ H _ _ v u Q I rx ry ⟨_, _, xs, ys, rfl, rfl, hx, hy, by omega, fun a ha => ?_⟩
          obtain ⟨ρ', h', r, q⟩ := Post.newO R p ha (u := .lst (xs ++ ys)) ⟨_, upd_same, (r1.append r2).nx (.new ha (o := .lst .own (vs ++ ws)))|> fun z => by simpa using z⟩
          exact q _ r
    | _ => exact (Post.stuck p).elim
  | _ => cases b <;> exact (Post.stuck p).elim
theorem opB_sub : OpR X (binaryOp .Sub) (rB X.K X.mg (binM .sub)) := by
  intro pins s σ H x y v u Q I rx ry hr
  obtain ⟨a, b, ρ, h, Wx, R, ra, rb, p⟩ := hr
  cases a with
  | int i =>
    cases b with
    | int j =>
      cases ra; cases rb
      exact op_sub pins s σ H _ _ v u Q I rx ry ⟨i, j, rfl, rfl, Post.pure R p _ (.int _)⟩
    | _ => exact (Post.stuck p).elim
  | _ => cases b <;> exact (Post.stuck p).elim
theorem opB_mul : OpR X (binaryOp .Mult) (rB X.K X.mg (binM .mul)) := by
  intro pins s σ H x y v u Q I rx ry hr
  obtain ⟨a, b, ρ, h, Wx, R, ra, rb, p⟩ := hr
  cases a with
  | int i =>
    cases b with
    | int j =>
      cases ra; cases rb
      obtain ⟨hc, p⟩ := Post.ite p
      have hr : OpR X (binaryOp .Mult) (rI IntMulOk fun i j => .int (i * j)) := opI fun _ _ _ _ _ _ _ hc q => mul_int q hc
      exact hr pins s σ H _ _ v u Q I rx ry ⟨i, j, rfl, rfl, mulOk_ok hc, Post.pure R p _ (.int _)⟩
    | _ => exact (Post.stuck p).elim
  | obj i =>
    cases b with
    | int k =>
      cases ra with
      | obj hi =>
        cases rb
        obtain ⟨vs, e1, p⟩ := Post.read R (Post.bind p)
        obtain ⟨⟨h1, h2, h3⟩, p⟩ := Post.ite p
        obtain ⟨_, xs, hx, r1⟩ := R.own e1
        have hl1 := r1.length
        refine op_rep pins s σ H _ _ v u Q I rx ry ⟨_, k, xs, rfl, rfl, hx, h1, h2, by rw [hl1]; exact h3, fun a ha => ?_⟩
        have rep : ∀ m : Nat, RPs X.K X.mg ρ h.length H (List.replicate m xs).flatten (List.replicate m vs).flatten := fun m => by
          induction m with
          | zero => exact .nil
          | succ m ih => rw [List.replicate_succ, List.replicate_succ, List.flatten_cons, List.flatten_cons]; exact r1.append ih
        obtain ⟨ρ', h', r, q⟩ := Post.newO R p ha (u := .lst (List.replicate k.toNat xs).flatten) ⟨_, upd_same, (rep _).nx (.new ha (o := .lst .own (List.replicate k.toNat vs).flatten))|> fun z => by simpa using z⟩
        exact q _ r
    | _ => exact (Post.stuck p).elim
  | tup vs =>
    cases b with
    | int k =>
      cases ra with
      | @tup l xs _ hs r1 =>
        cases rb
        obtain ⟨⟨h1, h2, h3⟩, p⟩ := Post.ite p
        have hl1 := r1.length
        have rep : ∀ m : Nat, RPs X.K X.mg ρ h.length H (List.replicate m xs).flatten (List.replicate m vs).flatten := fun m => by
          induction m with
          | zero => exact .nil
          | succ m ih => rw [List.replicate_succ, List.replicate_succ, List.flatten_cons, List.flatten_cons]; exact r1.append ih
        refine op_repA pins s σ H _ _ v u Q I rx ry ⟨l, k, xs, rfl, rfl, hs, h1, h2, by rw [hl1]; exact h3, fun hk => ?_, fun hne hk a ha => ?_, fun hne hk a ha => ?_⟩
        · refine Post.pure R p _ ?_
          have e : (List.replicate k.toNat vs).flatten = vs := by
            rcases hk with hk | hk
            · subst hk
              have : vs = [] := List.eq_nil_of_length_eq_zero hl1.symm
              subst this
              simp
            · subst hk
              simp
          rw [e]
          exact .tup hs r1
        · have e : (List.replicate k.toNat vs).flatten = [] := by
            have : k.toNat = 0 := by omega
            rw [this]
            rfl
          rw [e] at p
          obtain ⟨r, q⟩ := Post.tupN R p ha .nil
          exact q _ r
        · obtain ⟨r, q⟩ := Post.tupN R p ha (rep k.toNat)
          exact q _ r
    | _ => exact (Post.stuck p).elim
  | _ => cases b <;> exact (Post.stuck p).elim
theorem opB_fdiv : OpR X (binaryOp .FloorDiv) (rB X.K X.mg (binM .fdiv)) := by
  intro pins s σ H x y v u Q I rx ry hr
  obtain ⟨a, b, ρ, h, Wx, R, ra, rb, p⟩ := hr
  cases a with
  | int i =>
    cases b with
    | int j =>
      cases ra; cases rb
      have p' : Post X.K X.mg ρ H h.length ((if 0 < j ∧ j.natAbs.log2 < 9000 then (Pure.pure (PV.int (i / j)) : M PV) else if j ≠ 0 ∧ j.natAbs < 1073741824 then Pure.pure (PV.int (i.fdiv j)) else M.stop) h) (QV X.K X.mg Q) Wx := p
      by_cases h1 : 0 < j ∧ j.natAbs.log2 < 9000
      · rw [if_pos h1] at p'
        exact op_fdivW pins s σ H _ _ v u Q I rx ry ⟨i, j, rfl, rfl, h1, Post.pure R p' _ (.int _)⟩
      · rw [if_neg h1] at p'
        obtain ⟨hc, p'⟩ := Post.ite p'
        exact op_fdivN pins s σ H _ _ v u Q I rx ry ⟨i, j, rfl, rfl, hc, Post.pure R p' _ (.int _)⟩
    | _ => exact (Post.stuck p).elim
  | _ => cases b <;> exact (Post.stuck p).elim
theorem opB_mod : OpR X (binaryOp .Mod) (rB X.K X.mg (binM .mod)) := by
  intro pins s σ H x y v u Q I rx ry hr
  obtain ⟨a, b, ρ, h, Wx, R, ra, rb, p⟩ := hr
  cases a with
  | int i =>
    cases b with
    | int j =>
      cases ra; cases rb
      obtain ⟨hc, p⟩ := Post.ite p
      exact op_mod pins s σ H _ _ v u Q I rx ry ⟨i, j, rfl, rfl, hc, Post.pure R p _ (.int _)⟩
    | _ => exact (Post.stuck p).elim
  | _ => cases b <;> exact (Post.stuck p).elim
theorem opB_pow : OpR X (binaryOp .Pow) (rB X.K X.mg (binM .pow)) := by
  intro pins s σ H x y v u Q I rx ry hr
  obtain ⟨a, b, ρ, h, Wx, R, ra, rb, p⟩ := hr
  cases a with
  | int i =>
    cases b with
    | int j =>
      cases ra; cases rb
      obtain ⟨hc, p⟩ := Post.ite p
      exact op_pow pins s σ H _ _ v u Q I rx ry ⟨i, j, rfl, rfl, hc, Post.pure R p _ (.int _)⟩
    | _ => exact (Post.stuck p).elim
  | _ => cases b <;> exact (Post.stuck p).elim
theorem opB (o : BOp) : OpR X (binaryOp (bo o)) (rB X.K X.mg (binM o)) := by
  cases o
  · exact opB_add
  · exact opB_sub
  · exact opB_mul
  · exact opB_fdiv
  · exact opB_mod
  · exact opB_pow

/-! ### comparisons -/
theorem mapM_cons_some {α β : Type} {f : α → Option β} {x : α} {xs : List α} {ys : List β} (e : (x :: xs).mapM f = some ys) : ∃ y r, ys = y :: r ∧ f x = some y ∧ xs.mapM f = some r := by
  rw [List.mapM_cons] at e
  cases h1 : f x with
  | none => rw [h1] at e; cases e
  | some y =>
    rw [h1] at e
    cases h2 : xs.mapM f with
    | none => rw [h2] at e; cases e
    | some r => rw [h2] at e; exact ⟨y, r, (Option.some.inj e).symm, rfl, rfl⟩
theorem toData_dp {K : PySem.W.Frag} {mg : Str → Option Value} {ρ : Nat → Addr} {H : Hp} {h : PH} (R : HR K mg ρ H h) : ∀ (n : Nat) (x : V) (v : PV) (d : PyData), RP K mg ρ h.length H x v → toData h n v = some d → Dp K H x d := by
  intro n
  induction n with
  | zero => intro x v d _ e; cases e
  | succ n ih =>
    have all : ∀ (xs : List V) (vs : List PV) (ds : List PyData), RPs K mg ρ h.length H xs vs → vs.mapM (toData h n) = some ds → DpAll K H xs ds := by
      intro xs
      induction xs with
      | nil =>
        intro vs ds r e
        cases r
        have e' : some [] = some ds := e
        cases e'
        exact .nil
      | cons x xs ihx =>
        intro vs ds r e
        cases r with
        | cons r1 r2 =>
          obtain ⟨y, q, rfl, h1, h2⟩ := mapM_cons_some e
          exact .cons (ih _ _ _ r1 h1) (ihx _ _ r2 h2)
    intro x v d r e
    cases v with
    | non => cases r; cases e; exact .non
    | bl b => cases r; cases e; exact .bl b
    | int i => cases r; cases e; exact .int i
    | str z => cases r; cases e; exact .str z
    | tup vs =>
      cases r with
      | tup hs hr =>
        have e' : (vs.mapM (toData h n)).map PyData.tuple = some d := e
        cases q : vs.mapM (toData h n) with
        | none => rw [q] at e'; cases e'
        | some ds => rw [q] at e'; cases e'; exact .tup hs (all _ _ _ hr q)
    | obj i =>
      cases r with
      | obj hi =>
        have e' : (match h[i]? with | some (PO.lst _ xs) => (xs.mapM (toData h n)).map PyData.list | _ => none) = some d := e
        split at e'
        · rename_i k ys hy
          obtain ⟨xs, h1, h2⟩ := R.sqL hy
          cases q : ys.mapM (toData h n) with
          | none => rw [q] at e'; cases e'
          | some ds => rw [q] at e'; cases e'; exact .lst h1 (all _ _ _ h2 q)
        · cases e'
    | fn _ => cases e
    | ty _ => cases e
    | kls vs =>
      cases r with
      | kls hs hr =>
        have e' : (vs.mapM (toData h n)).map PyData.list = some d := e
        cases q : vs.mapM (toData h n) with
        | none => rw [q] at e'; cases e'
        | some ds => rw [q] at e'; cases e'; exact .lst (.inr hs) (all _ _ _ hr q)
/-- == of data -/
def eqP0 (h : PH) (a b : PV) : Option Bool := match toData h 70 a, toData h 70 b with
  | some x, some y => if SeqAt.shaped x && SeqAt.shaped y then some (PyData.eqv x y) else none
  | _, _ => none
theorem eqP_two {h : PH} {a c : PV} {b : Bool} (e : eqP h a c = some b) : (∃ x y, a = .str x ∧ c = .str y ∧ b = decide (x = y)) ∨ eqP0 h a c = some b := by
  unfold eqP at e
  unfold eqP0
  cases h1 : toData h 70 a with
  | none => rw [h1] at e; cases e
  | some x =>
    cases h2 : toData h 70 c with
    | none => rw [h1, h2] at e; cases e
    | some y =>
      rw [h1, h2] at e
      dsimp only at e ⊢
      by_cases hs : (SeqAt.shaped x && SeqAt.shaped y) = true
      · rw [if_pos hs] at e ⊢; exact .inr e
      · rw [if_neg hs] at e
        split at e
        · cases e; exact .inl ⟨_, _, rfl, rfl, rfl⟩
        · cases e
theorem eqP_dp {K : PySem.W.Frag} {mg : Str → Option Value} {ρ : Nat → Addr} {H : Hp} {h : PH} (R : HR K mg ρ H h) {x y : V} {v w : PV} {b : Bool} (rx : RP K mg ρ h.length H x v) (ry : RP K mg ρ h.length H y w) (e : eqP0 h v w = some b) :
    ∃ d d', Dp K H x d ∧ Dp K H y d' ∧ SeqAt.shaped d = true ∧ SeqAt.shaped d' = true ∧ b = PyData.eqv d d' := by
  unfold eqP0 at e
  split at e
  · rename_i d d' h1 h2
    split at e
    · rename_i hs
      rw [Bool.and_eq_true] at hs
      cases e
      exact ⟨d, d', toData_dp R 70 _ _ _ rx h1, toData_dp R 70 _ _ _ ry h2, hs.1, hs.2, rfl⟩
    · cases e
  · cases e
def co : COp → CmpOp
  | .eq => .Eq
  | .ne => .NotEq
  | .lt => .Lt
  | .le => .LtE
  | .gt => .Gt
  | .ge => .GtE
  | .is => .Is
  | .isNot => .IsNot
  | .in_ => .In
  | .notIn => .NotIn
theorem opC_int {f : Value → Value → Sem Value} {g : PV → PV → M PV} {b : Int → Int → Bool} (hr : OpR X f (rI0 fun i j => .bl (b i j)))
    (h1 : ∀ i j, g (.int i) (.int j) = Pure.pure (.bl (b i j))) (h2 : ∀ v w h, (∀ i j, ¬ (v = .int i ∧ w = .int j)) → g v w h = .stuck) : OpR X f (rB X.K X.mg g) := by
  intro pins s σ H x y v u Q I rx ry hh
  obtain ⟨a, c, ρ, h, Wx, R, ra, rb, p⟩ := hh
  by_cases z : ∃ i j, a = .int i ∧ c = .int j
  · obtain ⟨i, j, rfl, rfl⟩ := z
    rw [h1] at p
    cases ra; cases rb
    exact hr pins s σ H _ _ v u Q I rx ry ⟨i, j, rfl, rfl, Post.pure R p _ (.bl _)⟩
  · rw [h2 a c h fun i j e => z ⟨i, j, e⟩] at p
    exact p.elim
theorem flat_rp {K : PySem.W.Frag} {mg : Str → Option Value} {ρ : Nat → Addr} {n : Nat} {H : Hp} {x : V} {v : PV} (r : RP K mg ρ n H x v) (e : flatP v = true) : flatV x = true := by
  cases r <;> first | rfl | cases e
theorem eqF_rp {K : PySem.W.Frag} {mg : Str → Option Value} {ρ : Nat → Addr} {n : Nat} {H : Hp} {x y : V} {v w : PV} (r : RP K mg ρ n H x v) (q : RP K mg ρ n H y w) (e : flatP v = true) (e' : flatP w = true) : eqV x y = eqF v w := by
  cases r <;> first | (cases e; done) | (cases q <;> first | (cases e'; done) | rfl)
theorem inF_rp {K : PySem.W.Frag} {mg : Str → Option Value} {ρ : Nat → Addr} {n : Nat} {H : Hp} {x : V} {v : PV} (r : RP K mg ρ n H x v) (e : flatP v = true) :
    ∀ {ys : List V} {ws : List PV}, RPs K mg ρ n H ys ws → ws.all flatP = true → ys.all flatV = true ∧ (ys.any fun z => eqV z x) = (ws.any fun z => eqF z v)
  | _, _, .nil, _ => ⟨rfl, rfl⟩
  | _, _, .cons h t, ha => by
    rw [List.all_cons, Bool.and_eq_true] at ha
    obtain ⟨h1, h2⟩ := inF_rp r e t ha.2
    exact ⟨by rw [List.all_cons, h1, flat_rp h ha.1]; rfl, by rw [List.any_cons, List.any_cons, h2, eqF_rp h r ha.1 e]⟩
theorem opC_in (neg : Bool) {f : Value → Value → Sem Value} (hr : OpR X f (rIn X.K neg)) {g : PV → PV → M PV}
    (hg : ∀ v w, g v w = readM fun h => (inP h v w).map fun b => .bl (if neg then !b else b)) : OpR X f (rB X.K X.mg g) := by
  intro pins s σ H x y v u Q I rx ry hh
  obtain ⟨a, c, ρ, h, Wx, R, ra, rb, p⟩ := hh
  rw [hg] at p
  obtain ⟨w, e, q⟩ := Post.read R p
  cases e1 : inP h a c with
  | none => rw [e1] at e; cases e
  | some b =>
    rw [e1] at e
    cases e
    unfold inP at e1
    cases e2 : itemsP h c with
    | none => rw [e2] at e1; cases e1
    | some ws =>
      rw [e2] at e1
      simp only at e1
      split at e1
      · rename_i hf
        rw [Bool.and_eq_true] at hf
        cases e1
        obtain ⟨l, xs, rfl, hs, hr2, _, _⟩ := R.items rb e2
        obtain ⟨f1, f2⟩ := inF_rp ra hf.1 hr2 hf.2
        refine hr pins s σ H _ _ v u Q I rx ry ⟨l, xs, rfl, hs, flat_rp ra hf.1, f1, ?_⟩
        have e3 : (if neg = true then !inV x xs else inV x xs) = (if neg = true then !(ws.any fun z => eqF z a) else ws.any fun z => eqF z a) := by
          have e4 : inV x xs = ws.any fun z => eqF z a := f2
          rw [e4]
        rw [e3]
        exact q _ (.bl _)
      · cases e1
theorem opC (hu : X.A.units + 64 < cLine) (o : COp) : OpR X (compareOp (co o)) (rB X.K X.mg (cmpM o)) := by
  cases o with
  | eq =>
    intro pins s σ H x y v u Q I rx ry hh
    obtain ⟨a, c, ρ, h, Wx, R, ra, rb, p⟩ := hh
    obtain ⟨w, e, q⟩ := Post.read (f := fun h => (eqP h a c).map PV.bl) R p
    cases e1 : eqP h a c with
    | none => rw [e1] at e; cases e
    | some b =>
      rw [e1] at e; cases e
      rcases eqP_two e1 with ⟨x', y', rfl, rfl, rfl⟩ | e1
      · cases ra
        cases rb
        have e2 : decide (V.str x' = V.str y') = decide (x' = y') := by simp
        exact op_eq pins s σ H _ _ v u Q I rx ry ⟨rfl, by rw [e2]; exact q _ (.bl _)⟩
      obtain ⟨d, d', hd, hd', s1, s2, rfl⟩ := eqP_dp R ra rb e1
      exact op_eqD hu pins s σ H _ _ v u Q I rx ry ⟨d, d', hd, hd', s1, s2, q _ (.bl _)⟩
  | ne =>
    intro pins s σ H x y v u Q I rx ry hh
    obtain ⟨a, c, ρ, h, Wx, R, ra, rb, p⟩ := hh
    obtain ⟨w, e, q⟩ := Post.read (f := fun h => (eqP h a c).map fun b => PV.bl (!b)) R p
    cases e1 : eqP h a c with
    | none => rw [e1] at e; cases e
    | some b =>
      rw [e1] at e; cases e
      rcases eqP_two e1 with ⟨x', y', rfl, rfl, rfl⟩ | e1
      · cases ra
        cases rb
        have e2 : decide (V.str x' = V.str y') = decide (x' = y') := by simp
        exact op_ne pins s σ H _ _ v u Q I rx ry ⟨rfl, by rw [e2]; exact q _ (.bl _)⟩
      obtain ⟨d, d', hd, hd', s1, s2, rfl⟩ := eqP_dp R ra rb e1
      exact op_neD hu pins s σ H _ _ v u Q I rx ry ⟨d, d', hd, hd', s1, s2, q _ (.bl _)⟩
  | lt => exact opC_int op_lt (fun _ _ => rfl) fun v w h z => by cases v <;> first | rfl | (cases w <;> first | rfl | exact absurd ⟨rfl, rfl⟩ (z _ _))
  | le => exact opC_int op_le (fun _ _ => rfl) fun v w h z => by cases v <;> first | rfl | (cases w <;> first | rfl | exact absurd ⟨rfl, rfl⟩ (z _ _))
  | gt => exact opC_int op_gt (fun _ _ => rfl) fun v w h z => by cases v <;> first | rfl | (cases w <;> first | rfl | exact absurd ⟨rfl, rfl⟩ (z _ _))
  | ge => exact opC_int op_ge (fun _ _ => rfl) fun v w h z => by cases v <;> first | rfl | (cases w <;> first | rfl | exact absurd ⟨rfl, rfl⟩ (z _ _))
  | is =>
    intro pins s σ H x y v u Q I rx ry hh
    obtain ⟨a, c, ρ, h, Wx, R, ra, rb, p⟩ := hh
    cases c with
    | non =>
      cases rb
      refine op_isN pins s σ H _ _ v u Q I rx ry ⟨rfl, ?_⟩
      have q := Post.pure R p _ (.bl _)
      cases ra <;> exact q
    | _ => exact (Post.stuck p).elim
  | isNot =>
    intro pins s σ H x y v u Q I rx ry hh
    obtain ⟨a, c, ρ, h, Wx, R, ra, rb, p⟩ := hh
    cases c with
    | non =>
      cases rb
      refine op_notN pins s σ H _ _ v u Q I rx ry ⟨rfl, ?_⟩
      have q := Post.pure R p _ (.bl _)
      cases ra <;> exact q
    | _ => exact (Post.stuck p).elim
  | in_ => exact opC_in false op_in_seq fun _ _ => by show (readM _) = readM _; congr
  | notIn => exact opC_in true op_notIn_seq fun _ _ => by show (readM _) = readM _; congr
end
end MP

set_option Elab.async false
set_option linter.all false
set_option maxRecDepth 100000
set_option maxHeartbeats 4000000
/-! MPd: truth, places, slices, built-in functions, methods, isinstance, raise. -/
namespace MP
open PySem PySem.Spec PyProof.Rows L2
section
variable {K : PySem.W.Frag} {mg : Str → Option Value} {ρ ρ' : Nat → Addr} {n n' : Nat} {H H' : Hp} {h h' : PH} {α β : Type} {Wx : Str → List PV → Hp → Prop}
theorem RPs.isEmpty {xs : List V} {vs : List PV} (r : RPs K mg ρ n H xs vs) : (!vs.isEmpty) = !xs.isEmpty := by cases r <;> rfl
theorem tru_rp {x : V} {v : PV} {b : Bool} (R : HR K mg ρ H h) (r : RP K mg ρ h.length H x v) (e : truthP h v = some b) : TruV K x H b := by
  cases r with
  | non => cases e; rfl
  | bl b => cases e; rfl
  | int i => cases e; rfl
  | str z =>
    have e' : (if z.length ≤ sizeLine then some ((z.length : Int) != 0) else none) = some b := e
    split at e'
    · rename_i hz
      cases e'
      exact ⟨hz, rfl⟩
    · cases e'
  | ty _ => cases e
  | fn _ => cases e
  | tup hs hr => cases e; exact .inr (.inl ⟨_, hs, hr.isEmpty⟩)
  | kls hs hr => cases e; exact .inl ⟨_, .inr hs, hr.isEmpty⟩
  | @obj i hi =>
    have e' : (match h[i]? with | some (PO.lst _ xs) => some (!xs.isEmpty) | some (.dK kvs) => some (!kvs.isEmpty) | _ => none) = some b := e
    split at e'
    · rename_i k ys hy
      cases e'
      obtain ⟨xs, h1, h2⟩ := R.sqL hy
      exact .inl ⟨xs, h1, h2.isEmpty⟩
    · rename_i kvs hy
      cases e'
      obtain ⟨xs, h1, h2, _⟩ := R.objs i _ hy
      refine .inr (.inr ⟨xs, h1, ?_⟩)
      cases xs with
      | nil => cases kvs with
        | nil => rfl
        | cons _ _ => cases h2
      | cons _ _ => cases kvs with
        | nil => cases h2
        | cons _ _ => rfl
    · cases e'

theorem atI_rp {xs : List V} {vs : List PV} {i : Int} {v : PV} (r : RPs K mg ρ n H xs vs) (e : atI vs i = some v) : ∃ x, atI xs i = some x ∧ RP K mg ρ n H x v := by
  unfold atI at e ⊢
  rw [r.length]
  cases q : ixN vs.length i with
  | none => rw [q] at e; cases e
  | some j =>
    rw [q] at e
    have e' : vs[j]? = some v := e
    exact r.get e'
theorem cut_rp {xs : List V} {vs : List PV} {lo hi : Option Int} (r : RPs K mg ρ n H xs vs) : RPs K mg ρ n H (cutV xs lo hi) (cutP vs lo hi) := by
  unfold cutV cutP
  rw [r.length]
  exact (r.drop _).take _
theorem bools_rp {vs : List PV} {xs : List V} {bs : List Bool} (r : RPs K mg ρ n H xs vs) (e : boolsP vs = some bs) : xs = bs.map V.bl := by
  induction vs generalizing xs bs with
  | nil => cases r; cases e; rfl
  | cons v vs ih =>
    cases r with
    | cons r1 r2 =>
      cases v with
      | bl b =>
        have e' : (boolsP vs).map (b :: ·) = some bs := e
        cases q : boolsP vs with
        | none => rw [q] at e'; cases e'
        | some cs => rw [q] at e'; cases e'; cases r1; rw [ih r2 q]; rfl
      | _ => cases e
theorem ints_rp {vs : List PV} {xs : List V} {bs : List Int} (r : RPs K mg ρ n H xs vs) (e : intsP vs = some bs) : xs = bs.map V.int := by
  induction vs generalizing xs bs with
  | nil => cases r; cases e; rfl
  | cons v vs ih =>
    cases r with
    | cons r1 r2 =>
      cases v with
      | int b =>
        have e' : (intsP vs).map (b :: ·) = some bs := e
        cases q : intsP vs with
        | none => rw [q] at e'; cases e'
        | some cs => rw [q] at e'; cases e'; cases r1; rw [ih r2 q]; rfl
      | _ => cases e
theorem HR.lstQ {x : V} {v : PV} {vs : List PV} (R : HR K mg ρ H h) (r : RP K mg ρ h.length H x v) (e : MP.lstP h v = some vs) : ∃ a xs, x = .ref a ∧ SqL K H a xs ∧ RPs K mg ρ h.length H xs vs := by
  cases r with
  | obj hi =>
    obtain ⟨xs, h1, h2⟩ := R.lstP e
    exact ⟨_, xs, rfl, h1, h2⟩
  | kls hs hr =>
    have e' : some _ = some vs := e
    cases e'
    exact ⟨_, _, rfl, .inr hs, hr⟩
  | _ => cases e

/-- a call's rule, by the pure one -/
def rC (K : PySem.W.Frag) (mg : Str → Option Value) (g : List PV → M PV) : List V → Hp → VK → Prop := fun xs H Q => ∃ vs ρ h Wx, HR K mg ρ H h ∧ RPs K mg ρ h.length H xs vs ∧ Post K mg ρ H h.length (g vs h) (QV K mg Q) Wx
theorem RPs.one {xs : List V} {v : PV} (r : RPs K mg ρ n H xs [v]) : ∃ x, xs = [x] ∧ RP K mg ρ n H x v := by
  cases r with
  | cons r1 r2 => cases r2; exact ⟨_, rfl, r1⟩
theorem RPs.two {xs : List V} {v w : PV} (r : RPs K mg ρ n H xs [v, w]) : ∃ x y, xs = [x, y] ∧ RP K mg ρ n H x v ∧ RP K mg ρ n H y w := by
  cases r with
  | cons r1 r2 =>
    cases r2 with
    | cons r2 r3 => cases r3; exact ⟨_, _, rfl, r1, r2⟩
end

section
variable {X : Cx}
theorem biB_len : CallR X (.builtin "len") (rC X.K X.mg (biM .len)) := by
  intro pins s σ H xs us Q I rs hh
  obtain ⟨vs, ρ, h, Wx, R, r, p⟩ := hh
  match vs, r, p with
  | [], r, p => exact (Post.stuck p).elim
  | _ :: _ :: _, r, p => exact (Post.stuck p).elim
  | [v], r, p =>
    obtain ⟨x, rfl, rr⟩ := r.one
    obtain ⟨w, e, q⟩ := Post.read (f := fun h => (lenP h v).map fun n => PV.int n) R p
    cases e1 : lenP h v with
    | none => rw [e1] at e; cases e
    | some m =>
      rw [e1] at e; cases e
      refine call_len pins s σ H _ us Q I rs ⟨x, m, rfl, ?_, q _ (.int _)⟩
      cases rr with
      | str z =>
        have e2 : (if z.length ≤ sizeLine then some z.length else none) = some m := e1
        split at e2
        · cases e2; exact ⟨by assumption, rfl⟩
        · cases e2
      | tup hs hr => cases e1; exact .inr ⟨_, hs, hr.length.symm⟩
      | obj hi =>
        cases e3 : itemsP h (.obj _) with
        | none => have e4 : (itemsP h (.obj _)).map List.length = some m := e1; rw [e3] at e4; cases e4
        | some ws =>
          have e4 : (itemsP h (.obj _)).map List.length = some m := e1
          rw [e3] at e4; cases e4
          obtain ⟨a, ys, h1, _, h3, h4, _⟩ := R.items (.obj hi) e3
          cases h1
          exact .inl ⟨ys, h4 (fun _ z => nomatch z), h3.length.symm⟩
      | kls hk hr => cases e1; exact .inl ⟨_, .inr hk, hr.length.symm⟩
      | non => cases e1
      | bl _ => cases e1
      | int _ => cases e1
      | ty _ => cases e1
      | fn _ => cases e1
theorem biB_abs : CallR X (.builtin "abs") (rC X.K X.mg (biM .abs)) := by
  intro pins s σ H xs us Q I rs hh
  obtain ⟨vs, ρ, h, Wx, R, r, p⟩ := hh
  match vs, r, p with
  | [], r, p => exact (Post.stuck p).elim
  | v :: _ :: _, r, p => cases v <;> exact (Post.stuck p).elim
  | [v], r, p =>
    cases v with
    | int i =>
      obtain ⟨x, rfl, rr⟩ := r.one
      cases rr
      exact call_abs pins s σ H _ us Q I rs ⟨i, rfl, Post.pure R p _ (.int _)⟩
    | _ => exact (Post.stuck p).elim
theorem biB_int : CallR X (.type "int") (rC X.K X.mg (biM .int)) := by
  intro pins s σ H xs us Q I rs hh
  obtain ⟨vs, ρ, h, Wx, R, r, p⟩ := hh
  match vs, r, p with
  | [], r, p => exact (Post.stuck p).elim
  | v :: _ :: _, r, p => cases v <;> exact (Post.stuck p).elim
  | [v], r, p =>
    cases v with
    | int i =>
      obtain ⟨x, rfl, rr⟩ := r.one
      cases rr
      exact call_int1 pins s σ H _ us Q I rs (.inl ⟨i, rfl, Post.pure R p _ (.int _)⟩)
    | bl b =>
      obtain ⟨x, rfl, rr⟩ := r.one
      cases rr
      exact call_int1 pins s σ H _ us Q I rs (.inr ⟨b, rfl, Post.pure R p _ (.int _)⟩)
    | str a =>
      obtain ⟨x, rfl, rr⟩ := r.one
      cases rr
      obtain ⟨hl, p⟩ := Post.ite p
      obtain ⟨w, e, q⟩ := Post.opt R p
      cases e1 : PySem.intText? a with
      | none => rw [e1] at e; cases e
      | some n =>
        rw [e1] at e
        cases e
        exact call_int_str pins s σ H _ us Q I rs ⟨a, n, rfl, e1, hl, q _ (.int _)⟩
    | _ => exact (Post.stuck p).elim
theorem biB_str : CallR X (.type "str") (rC X.K X.mg (biM .str)) := by
  intro pins s σ H xs us Q I rs hh
  obtain ⟨vs, ρ, h, Wx, R, r, p⟩ := hh
  match vs, r, p with
  | [], r, p => exact (Post.stuck p).elim
  | v :: _ :: _, r, p => cases v <;> exact (Post.stuck p).elim
  | [v], r, p =>
    cases v with
    | int i =>
      obtain ⟨x, rfl, rr⟩ := r.one
      cases rr
      obtain ⟨hl, p⟩ := Post.ite p
      exact call_str_int pins s σ H _ us Q I rs ⟨i, rfl, hl, Post.pure R p _ (.str _)⟩
    | _ => exact (Post.stuck p).elim
theorem biB_tuple : CallR X (.type "tuple") (rC X.K X.mg (biM .tuple)) := by
  intro pins s σ H xs us Q I rs hh
  obtain ⟨vs, ρ, h, Wx, R, r, p⟩ := hh
  match vs, r, p with
  | [], r, p => exact (Post.stuck p).elim
  | _ :: _ :: _, r, p => exact (Post.stuck p).elim
  | [v], r, p =>
    obtain ⟨x, rfl, rr⟩ := r.one
    obtain ⟨ws, e, p1⟩ := Post.read R (Post.bind p)
    obtain ⟨a, ys, rfl, _, h3, h4, h5⟩ := R.items rr e
    refine call_tuple_of pins s σ H _ us Q I rs ⟨a, ys, rfl, ?_⟩
    cases rr with
    | tup hs hr =>
      cases e
      exact .inr ⟨h5 ⟨_, rfl⟩, Post.pure R p1 _ (.tup hs hr)⟩
    | obj hi =>
      refine .inl ⟨h4 (fun _ z => nomatch z), fun l hl => ?_⟩
      obtain ⟨r2, q⟩ := Post.tupN R p1 hl h3
      exact q _ r2
    | kls hk hr =>
      refine .inl ⟨h4 (fun _ z => nomatch z), fun l hl => ?_⟩
      obtain ⟨r2, q⟩ := Post.tupN R p1 hl h3
      exact q _ r2
    | _ => cases e
theorem biB_list : CallR X (.type "list") (rC X.K X.mg (biM .list)) := by
  intro pins s σ H xs us Q I rs hh
  obtain ⟨vs, ρ, h, Wx, R, r, p⟩ := hh
  match vs, r, p with
  | [], r, p => exact (Post.stuck p).elim
  | _ :: _ :: _, r, p => exact (Post.stuck p).elim
  | [v], r, p =>
    obtain ⟨x, rfl, rr⟩ := r.one
    obtain ⟨ws, e, p⟩ := Post.read R (Post.bind p)
    obtain ⟨a, ys, rfl, h2, h3, _, _⟩ := R.items rr e
    refine call_list_of pins s σ H _ us Q I rs ⟨a, ys, rfl, h2, fun l hl => ?_⟩
    obtain ⟨ρ', h', r2, q⟩ := Post.newO R p hl (u := .lst ys) ⟨_, upd_same, (h3.nx (.new hl (o := .lst .own ws)))|> fun z => by simpa using z⟩
    exact q _ r2
theorem biB_all (hc : X.calm = true) : CallR X (.builtin "all") (rC X.K X.mg (biM .all)) := by
  intro pins s σ H xs us Q I rs hh
  obtain ⟨vs, ρ, h, Wx, R, r, p⟩ := hh
  match vs, r, p with
  | [], r, p => exact (Post.stuck p).elim
  | _ :: _ :: _, r, p => exact (Post.stuck p).elim
  | [v], r, p =>
    obtain ⟨x, rfl, rr⟩ := r.one
    obtain ⟨w, e, q⟩ := Post.read (f := fun h => ((lstP h v).bind boolsP).map fun (bs : List Bool) => PV.bl (bs.all id)) R p
    cases e1 : lstP h v with
    | none => rw [e1] at e; cases e
    | some ws =>
      rw [e1] at e
      cases e2 : boolsP ws with
      | none => simp only [Option.bind_some, e2] at e; cases e
      | some bs =>
        simp only [Option.bind_some, e2] at e
        cases e
        obtain ⟨a, ys, rfl, h1, h2⟩ := R.lstQ rr e1
        have := bools_rp h2 e2
        subst this
        exact cr_all hc pins s σ H _ us Q I rs ⟨a, bs, rfl, h1, q _ (.bl _)⟩
theorem biB_any (hc : X.calm = true) : CallR X (.builtin "any") (rC X.K X.mg (biM .any)) := by
  intro pins s σ H xs us Q I rs hh
  obtain ⟨vs, ρ, h, Wx, R, r, p⟩ := hh
  match vs, r, p with
  | [], r, p => exact (Post.stuck p).elim
  | _ :: _ :: _, r, p => exact (Post.stuck p).elim
  | [v], r, p =>
    obtain ⟨x, rfl, rr⟩ := r.one
    obtain ⟨w, e, q⟩ := Post.read (f := fun h => ((lstP h v).bind boolsP).map fun (bs : List Bool) => PV.bl (bs.any id)) R p
    cases e1 : lstP h v with
    | none => rw [e1] at e; cases e
    | some ws =>
      rw [e1] at e
      cases e2 : boolsP ws with
      | none => simp only [Option.bind_some, e2] at e; cases e
      | some bs =>
        simp only [Option.bind_some, e2] at e
        cases e
        obtain ⟨a, ys, rfl, h1, h2⟩ := R.lstQ rr e1
        have := bools_rp h2 e2
        subst this
        exact cr_any hc pins s σ H _ us Q I rs ⟨a, bs, rfl, h1, q _ (.bl _)⟩
theorem biB_sum (hc : X.calm = true) : CallR X (.builtin "sum") (rC X.K X.mg (biM .sum)) := by
  intro pins s σ H xs us Q I rs hh
  obtain ⟨vs, ρ, h, Wx, R, r, p⟩ := hh
  match vs, r, p with
  | [], r, p => exact (Post.stuck p).elim
  | _ :: _ :: _, r, p => exact (Post.stuck p).elim
  | [v], r, p =>
    obtain ⟨x, rfl, rr⟩ := r.one
    obtain ⟨w, e, q⟩ := Post.read (f := fun h => ((lstP h v).bind intsP).map fun (bs : List Int) => PV.int bs.sum) R p
    cases e1 : lstP h v with
    | none => rw [e1] at e; cases e
    | some ws =>
      rw [e1] at e
      cases e2 : intsP ws with
      | none => simp only [Option.bind_some, e2] at e; cases e
      | some bs =>
        simp only [Option.bind_some, e2] at e
        cases e
        obtain ⟨a, ys, rfl, h1, h2⟩ := R.lstQ rr e1
        have := ints_rp h2 e2
        subst this
        exact cr_sum hc pins s σ H _ us Q I rs ⟨a, bs, rfl, h1, q _ (.int _)⟩
theorem biB_min (hc : X.calm = true) (hu : X.A.units + 64 < cLine) : CallR X (.builtin "min") (rC X.K X.mg (biM .min)) := by
  intro pins s σ H xs us Q I rs hh
  obtain ⟨vs, ρ, h, Wx, R, r, p⟩ := hh
  match vs, r, p with
  | [], r, p => exact (Post.stuck p).elim
  | [v], r, p =>
    obtain ⟨x, rfl, rr⟩ := r.one
    have p : Post X.K X.mg ρ H h.length ((readM fun h => ((itemsP h v).bind intsP).bind fun ns => (minI ns).map PV.int : M PV) h) (QV X.K X.mg Q) Wx := by cases v <;> exact p
    obtain ⟨w, e, q⟩ := Post.read R p
    cases e1 : itemsP h v with
    | none => rw [e1] at e; cases e
    | some ws =>
      rw [e1] at e
      cases e2 : intsP ws with
      | none => simp only [Option.bind_some, e2] at e; cases e
      | some bs =>
        simp only [Option.bind_some, e2] at e
        obtain ⟨a, ys, rfl, h1, h2, _, _⟩ := R.items rr e1
        have := ints_rp h2 e2
        subst this
        cases bs with
        | nil => cases e
        | cons n ns =>
          cases e
          exact cr_minA hc hu pins s σ H _ us Q I rs ⟨a, n, ns, rfl, h1, q _ (.int _)⟩
  | v :: w :: _ :: _, r, p => cases v <;> cases w <;> exact (Post.stuck p).elim
  | [v, w], r, p =>
    cases v with
    | int i =>
      cases w with
      | int j =>
        obtain ⟨x, y, rfl, r1, r2⟩ := r.two
        cases r1; cases r2
        exact call_min2 hc pins s σ H _ us Q I rs ⟨i, j, rfl, Post.pure R p _ (.int _)⟩
      | _ => exact (Post.stuck p).elim
    | _ => cases w <;> exact (Post.stuck p).elim
theorem biB_max (hc : X.calm = true) (hu : X.A.units + 64 < cLine) : CallR X (.builtin "max") (rC X.K X.mg (biM .max)) := by
  intro pins s σ H xs us Q I rs hh
  obtain ⟨vs, ρ, h, Wx, R, r, p⟩ := hh
  match vs, r, p with
  | [], r, p => exact (Post.stuck p).elim
  | [v], r, p =>
    obtain ⟨x, rfl, rr⟩ := r.one
    have p : Post X.K X.mg ρ H h.length ((readM fun h => ((itemsP h v).bind intsP).bind fun ns => (maxI ns).map PV.int : M PV) h) (QV X.K X.mg Q) Wx := by cases v <;> exact p
    obtain ⟨w, e, q⟩ := Post.read R p
    cases e1 : itemsP h v with
    | none => rw [e1] at e; cases e
    | some ws =>
      rw [e1] at e
      cases e2 : intsP ws with
      | none => simp only [Option.bind_some, e2] at e; cases e
      | some bs =>
        simp only [Option.bind_some, e2] at e
        obtain ⟨a, ys, rfl, h1, h2, _, _⟩ := R.items rr e1
        have := ints_rp h2 e2
        subst this
        cases bs with
        | nil => cases e
        | cons n ns =>
          cases e
          exact cr_maxA hc hu pins s σ H _ us Q I rs ⟨a, n, ns, rfl, h1, q _ (.int _)⟩
  | v :: w :: _ :: _, r, p => cases v <;> cases w <;> exact (Post.stuck p).elim
  | [v, w], r, p =>
    cases v with
    | int i =>
      cases w with
      | int j =>
        obtain ⟨x, y, rfl, r1, r2⟩ := r.two
        cases r1; cases r2
        exact call_max2 hc pins s σ H _ us Q I rs ⟨i, j, rfl, Post.pure R p _ (.int _)⟩
      | _ => exact (Post.stuck p).elim
    | _ => cases w <;> exact (Post.stuck p).elim
theorem insI_perm {x : Int} : ∀ {l : List Int}, (insI x l).Perm (x :: l)
  | [] => .refl _
  | y :: r => by
    unfold insI
    split
    · exact .refl _
    · exact (List.Perm.cons y insI_perm).trans (.swap _ _ _)
theorem insI_sorted {x : Int} : ∀ {l : List Int}, l.Pairwise (· ≤ ·) → (insI x l).Pairwise (· ≤ ·)
  | [], _ => by simp [insI]
  | y :: r, h => by
    obtain ⟨h1, h2⟩ := List.pairwise_cons.mp h
    unfold insI
    split
    · rename_i hxy
      refine List.pairwise_cons.mpr ⟨fun z hz => ?_, h⟩
      rcases List.mem_cons.mp hz with rfl | hz
      · exact hxy
      · exact Int.le_trans hxy (h1 z hz)
    · refine List.pairwise_cons.mpr ⟨fun z hz => ?_, insI_sorted h2⟩
      rcases List.mem_cons.mp (insI_perm.mem_iff.mp hz) with rfl | hz
      · omega
      · exact h1 z hz
theorem sortI_perm : ∀ {l : List Int}, (sortI l).Perm l
  | [] => .refl _
  | x :: l => insI_perm.trans (.cons x sortI_perm)
theorem sortI_sorted : ∀ {l : List Int}, (sortI l).Pairwise (· ≤ ·)
  | [] => .nil
  | x :: l => insI_sorted (sortI_sorted (l := l))
theorem sortI_eq {l m : List Int} (h : m.Perm l) (hs : m.Pairwise (· ≤ ·)) : m = sortI l :=
  List.Perm.eq_of_pairwise (le := (· ≤ ·)) (fun a b _ _ h1 h2 => Int.le_antisymm h1 h2) hs sortI_sorted (h.trans sortI_perm.symm)
theorem rps_of_ints {K : PySem.W.Frag} {mg : Str → Option Value} {ρ : Nat → Addr} {n : Nat} {H : Hp} : ∀ is : List Int, RPs K mg ρ n H (is.map V.int) (is.map PV.int)
  | [] => .nil
  | i :: is => .cons (.int _) (rps_of_ints is)
theorem biB_sorted : CallR X (.builtin "sorted") (rC X.K X.mg (biM .sorted)) := by
  intro pins s σ H xs us Q I rs hh
  obtain ⟨vs, ρ, h, Wx, R, r, p⟩ := hh
  match vs, r, p with
  | [], r, p => exact (Post.stuck p).elim
  | _ :: _ :: _, r, p => exact (Post.stuck p).elim
  | [v], r, p =>
    obtain ⟨x, rfl, rr⟩ := r.one
    obtain ⟨bs, e, p⟩ := Post.read (f := fun h => (lstP h v).bind intsP) R (Post.bind p)
    cases e1 : lstP h v with
    | none => rw [e1] at e; cases e
    | some ws =>
      rw [e1] at e
      have e2 : intsP ws = some bs := e
      obtain ⟨a, ys, rfl, h1, h2⟩ := R.lstQ rr e1
      have := ints_rp h2 e2
      subst this
      refine cr_sortedI pins s σ H _ us Q I rs ⟨a, bs, rfl, h1, fun ns' p' hp hs hn => ?_⟩
      have e3 := sortI_eq hp hs
      subst e3
      obtain ⟨ρ', h', r, q⟩ := Post.newO R p hn (u := .lst ((sortI bs).map V.int)) ⟨_, upd_same, rps_of_ints _⟩
      exact q _ r
/-! dicts -/
theorem RF.cons_inv {K : PySem.W.Frag} {mg : Str → Option Value} {ρ : Nat → Addr} {n : Nat} {H : Hp} {xs : List (L2.Key × V)} {q : L2.Key × PV} {kvs : List (L2.Key × PV)} (r : RF K mg ρ n H xs (q :: kvs)) : ∃ x xs', xs = (q.1, x) :: xs' ∧ RP K mg ρ n H x q.2 ∧ RF K mg ρ n H xs' kvs := by
  obtain ⟨r1, r2⟩ := r
  cases xs with
  | nil => cases r1
  | cons y ys =>
    have r1' : y.1 :: ys.map (·.1) = q.1 :: kvs.map (·.1) := r1
    obtain ⟨e1, e2⟩ := List.cons.inj r1'
    have r2' : RPs K mg ρ n H (y.2 :: ys.map (·.2)) (q.2 :: kvs.map (·.2)) := r2
    cases r2' with
    | cons a b => exact ⟨y.2, ys, by rw [← e1], a, e2, b⟩
theorem RF.cons' {K : PySem.W.Frag} {mg : Str → Option Value} {ρ : Nat → Addr} {n : Nat} {H : Hp} {xs : List (L2.Key × V)} {kvs : List (L2.Key × PV)} {k : L2.Key} {x : V} {v : PV} (a : RP K mg ρ n H x v) (r : RF K mg ρ n H xs kvs) : RF K mg ρ n H ((k, x) :: xs) ((k, v) :: kvs) := ⟨by show k :: xs.map (·.1) = k :: kvs.map (·.1); rw [r.1], .cons a r.2⟩
theorem RF.nil_inv {K : PySem.W.Frag} {mg : Str → Option Value} {ρ : Nat → Addr} {n : Nat} {H : Hp} {xs : List (L2.Key × V)} (r : RF K mg ρ n H xs []) : xs = [] := by
  have r1 : xs.map (·.1) = [] := r.1
  simpa using r1
theorem valP_rp {K : PySem.W.Frag} {mg : Str → Option Value} {ρ : Nat → Addr} {n : Nat} {H : Hp} {k : L2.Key} : ∀ {kvs : List (L2.Key × PV)} {xs : List (L2.Key × V)}, RF K mg ρ n H xs kvs → (∀ v, valP kvs k = some v → ∃ x, valV xs k = some x ∧ RP K mg ρ n H x v) ∧ (valP kvs k = none → valV xs k = none)
  | [], xs, r => by
    have := r.nil_inv
    subst this
    exact ⟨fun v e => (nomatch e), fun _ => rfl⟩
  | q :: kvs, xs, r => by
    obtain ⟨x, xs', rfl, r1, r2⟩ := r.cons_inv
    obtain ⟨i1, i2⟩ := valP_rp (k := k) r2
    unfold valP valV
    by_cases e : q.1 = k
    · simp only [List.find?_cons, e, decide_true, Option.map_some]
      exact ⟨fun v ev => ⟨x, rfl, by cases ev; exact r1⟩, fun ev => by cases ev⟩
    · simp only [List.find?_cons, e, decide_false]
      exact ⟨i1, i2⟩
theorem any_rp {K : PySem.W.Frag} {mg : Str → Option Value} {ρ : Nat → Addr} {n : Nat} {H : Hp} {k : L2.Key} : ∀ {kvs : List (L2.Key × PV)} {xs : List (L2.Key × V)}, RF K mg ρ n H xs kvs → (xs.any fun kv => decide (kv.1 = k)) = kvs.any fun kv => decide (kv.1 = k)
  | [], xs, r => by
    have := r.nil_inv
    subst this
    rfl
  | q :: kvs, xs, r => by
    obtain ⟨x, xs', rfl, r1, r2⟩ := r.cons_inv
    rw [List.any_cons, List.any_cons, any_rp r2]
theorem app_rf {K : PySem.W.Frag} {mg : Str → Option Value} {ρ : Nat → Addr} {n : Nat} {H : Hp} {k : L2.Key} {x : V} {v : PV} (rx : RP K mg ρ n H x v) : ∀ {kvs : List (L2.Key × PV)} {xs : List (L2.Key × V)}, RF K mg ρ n H xs kvs → RF K mg ρ n H (xs ++ [(k, x)]) (kvs ++ [(k, v)])
  | [], xs, r => by
    have := r.nil_inv
    subst this
    exact .cons' rx r
  | q :: kvs, xs, r => by
    obtain ⟨y, xs', rfl, r1, r2⟩ := r.cons_inv
    exact .cons' r1 (app_rf rx r2)
theorem rep_rf {K : PySem.W.Frag} {mg : Str → Option Value} {ρ : Nat → Addr} {n : Nat} {H : Hp} {k : L2.Key} {x : V} {v : PV} (rx : RP K mg ρ n H x v) : ∀ {kvs : List (L2.Key × PV)} {xs : List (L2.Key × V)}, RF K mg ρ n H xs kvs → RF K mg ρ n H (xs.map fun kv => if kv.1 = k then (kv.1, x) else kv) (kvs.map fun kv => if kv.1 = k then (kv.1, v) else kv)
  | [], xs, r => by
    have := r.nil_inv
    subst this
    exact r
  | q :: kvs, xs, r => by
    obtain ⟨y, xs', rfl, r1, r2⟩ := r.cons_inv
    rw [List.map_cons, List.map_cons]
    by_cases e : q.1 = k
    · rw [if_pos e, if_pos (show (q.1, y).1 = k from e)]
      exact .cons' rx (rep_rf rx r2)
    · rw [if_neg e, if_neg (show ¬ (q.1, y).1 = k from e)]
      exact .cons' r1 (rep_rf rx r2)
theorem putP_rp {K : PySem.W.Frag} {mg : Str → Option Value} {ρ : Nat → Addr} {n : Nat} {H : Hp} {k : L2.Key} {x : V} {v : PV} {kvs : List (L2.Key × PV)} {xs : List (L2.Key × V)} (rx : RP K mg ρ n H x v) (r : RF K mg ρ n H xs kvs) : RF K mg ρ n H (putK xs k x) (putP kvs k v) := by
  unfold putK putP
  rw [any_rp r]
  split
  · exact rep_rf rx r
  · exact app_rf rx r
theorem key_rp {K : PySem.W.Frag} {mg : Str → Option Value} {ρ : Nat → Addr} {n : Nat} {H : Hp} {y : V} {w : PV} {k : L2.Key} (r : RP K mg ρ n H y w) (e : keyP w = some k) : y = kV k := by
  cases r with
  | int i => cases e; rfl
  | str x => cases e; rfl
  | _ => cases e
theorem keyIs_rp {K : PySem.W.Frag} {mg : Str → Option Value} {ρ : Nat → Addr} {n : Nat} {H : Hp} : ∀ {kvs : List (L2.Key × PV)} {xs : List (L2.Key × V)} {ns : List Int}, RF K mg ρ n H xs kvs → keyIs kvs = some ns → xs.map (·.1) = ns.map Sum.inl
  | [], xs, ns, r, e => by
    have := r.nil_inv
    subst this
    cases e
    rfl
  | (.inl i, v) :: kvs, xs, ns, r, e => by
    obtain ⟨x, xs', rfl, r1, r2⟩ := r.cons_inv
    have e' : (keyIs kvs).map (i :: ·) = some ns := e
    cases q : keyIs kvs with
    | none => rw [q] at e'; cases e'
    | some ms =>
      rw [q] at e'
      cases e'
      rw [List.map_cons, keyIs_rp r2 q]
      rfl
  | (.inr _, v) :: kvs, xs, ns, r, e => by cases e
theorem HR.dct {K : PySem.W.Frag} {mg : Str → Option Value} {ρ : Nat → Addr} {H : Hp} {h : PH} {x : V} {v : PV} {kvs : List (L2.Key × PV)} (R : HR K mg ρ H h) (r : RP K mg ρ h.length H x v) (e : dctP h v = some kvs) : ∃ i xs, v = .obj i ∧ x = .ref (ρ i) ∧ h[i]? = some (.dK kvs) ∧ H (ρ i) = some (.dK xs) ∧ RF K mg ρ h.length H xs kvs := by
  cases r with
  | @obj i hi =>
    have e' : (match h[i]? with | some (PO.dK kvs) => some kvs | _ => none) = some kvs := e
    split at e'
    · rename_i kvs' hy
      cases e'
      obtain ⟨xs, h1, h2⟩ := R.objs i _ hy
      exact ⟨i, xs, rfl, rfl, hy, h1, h2⟩
    · cases e'
  | _ => cases e
theorem biB_sortedD (hc : X.calm = true) : CallR X (.builtin "sorted") (rC X.K X.mg (biM .sortedD)) := by
  intro pins s σ H xs us Q I rs hh
  obtain ⟨vs, ρ, h, Wx, R, r, p⟩ := hh
  match vs, r, p with
  | [], r, p => exact (Post.stuck p).elim
  | _ :: _ :: _, r, p => exact (Post.stuck p).elim
  | [v], r, p =>
    obtain ⟨x, rfl, rr⟩ := r.one
    obtain ⟨kvs, e, p1⟩ := Post.read R (Post.bind p)
    obtain ⟨bs, eb, p2⟩ := Post.opt R (Post.bind p1)
    obtain ⟨hl, p3⟩ := Post.ite p2
    obtain ⟨i, ys, rfl, rfl, _, h1, h2⟩ := R.dct rr e
    have hk := keyIs_rp h2 eb
    have hlen : bs.length < 64 := by
      have e1 := congrArg List.length hk
      have e2 := congrArg List.length h2.1
      simp only [List.length_map] at e1 e2
      omega
    refine call_sortedDI hc pins s σ H _ us Q I rs ⟨_, ys, bs, rfl, .inl h1, hk, hlen, fun ns' p' hp hs hn => ?_⟩
    have e3 := sortI_eq hp hs
    subst e3
    obtain ⟨ρ', h', r, q⟩ := Post.newO R p3 hn (u := .lst ((sortI bs).map V.int)) ⟨_, upd_same, rps_of_ints _⟩
    exact q _ r
theorem biB_gcd : CallR X (.builtin "math.gcd") (rC X.K X.mg (biM .gcd)) := by
  intro pins s σ H xs us Q I rs hh
  obtain ⟨vs, ρ, h, Wx, R, r, p⟩ := hh
  match vs, r, p with
  | [], r, p => exact (Post.stuck p).elim
  | [v], r, p => cases v <;> exact (Post.stuck p).elim
  | v :: w :: _ :: _, r, p => cases v <;> first | exact (Post.stuck p).elim | (cases w <;> exact (Post.stuck p).elim)
  | [v, w], r, p =>
    cases v with
    | int i =>
      cases w with
      | int j =>
        obtain ⟨x, y, rfl, r1, r2⟩ := r.two
        cases r1; cases r2
        exact cr_gcd pins s σ H _ us Q I rs ⟨i, j, rfl, Post.pure R p _ (.int _)⟩
      | _ => exact (Post.stuck p).elim
    | _ => exact (Post.stuck p).elim

/-! ### places, slices -/
theorem ixB : IxR X (rB X.K X.mg ixM) := by
  intro value slice pins s σ H x y v u Q I rx ry hh hs
  obtain ⟨a, b, ρ, h, Wx, R, ra, rb, p⟩ := hh
  cases b with
  | int i =>
    cases rb
    obtain ⟨ws, e, p⟩ := Post.read R (Post.bind p)
    obtain ⟨z, ez, q⟩ := Post.opt R p
    obtain ⟨l, ys, rfl, h2, h3, h4, h5⟩ := R.items ra e
    obtain ⟨zv, e1, e2⟩ := atI_rp h3 ez
    rcases h2 with h2 | h2
    · exact ix_list value slice pins s σ H _ _ v u Q I rx ry ⟨l, ys, i, zv, rfl, rfl, h2, e1, q _ e2⟩ hs
    · exact ix_tup value slice pins s σ H _ _ v u Q I rx ry ⟨l, ys, i, zv, rfl, rfl, h2, e1, q _ e2⟩ hs
  | _ => exact (Post.stuck p).elim
def rS (K : PySem.W.Frag) (mg : Str → Option Value) : V → Option Int → Option Int → Hp → VK → Prop := fun x lo hi H Q => ∃ v ρ h Wx, HR K mg ρ H h ∧ RP K mg ρ h.length H x v ∧ Post K mg ρ H h.length (slcM v lo hi h) (QV K mg Q) Wx
theorem full_cut {α : Type} {xs : List α} {i j : Nat} (h : i = 0 ∧ j = xs.length) : (xs.drop i).take (j - i) = xs := by
  obtain ⟨rfl, rfl⟩ := h
  simp
theorem slB : SlR X (rS X.K X.mg) := by
  intro pins s σ H x v vl vu lo hi sl Q I rx hs pl pu hh
  obtain ⟨a, ρ, h, Wx, R, ra, p⟩ := hh
  cases a with
  | tup ws =>
    cases ra with
    | tup ht hr =>
      refine sl_tupA pins s σ H _ v vl vu lo hi sl Q I rx hs pl pu ⟨_, _, rfl, ht, fun hf => ?_, fun _ l hl => ?_⟩
      · have e : cutP ws lo hi = ws := by
          unfold cutP
          rw [hr.length] at hf
          exact full_cut hf
        have q := Post.pure R p
        rw [e] at q
        exact q _ (.tup ht hr)
      · obtain ⟨r, q⟩ := Post.tupN R p hl (cut_rp (lo := lo) (hi := hi) hr)
        exact q _ r
  | obj i =>
    obtain ⟨ws, e, p⟩ := Post.read R (Post.bind p)
    obtain ⟨l, ys, rfl, h1, h2⟩ := R.lstQ ra e
    refine sl_list pins s σ H _ v vl vu lo hi sl Q I rx hs pl pu ⟨l, ys, rfl, h1, fun a ha => ?_⟩
    obtain ⟨ρ', h', r, q⟩ := Post.newO R p ha (u := .lst (cutV ys lo hi)) ⟨_, upd_same, ((cut_rp (lo := lo) (hi := hi) h2).nx (.new ha (o := .lst .own (cutP ws lo hi))))|> fun z => by simpa using z⟩
    exact q _ r
  | kls ws =>
    cases ra with
    | kls hk hr =>
      refine sl_list pins s σ H _ v vl vu lo hi sl Q I rx hs pl pu ⟨_, _, rfl, .inr hk, fun a ha => ?_⟩
      obtain ⟨ρ', h', r, q⟩ := Post.newO R p ha (u := .lst (cutV _ lo hi)) ⟨_, upd_same, ((cut_rp (lo := lo) (hi := hi) hr).nx (.new ha (o := .lst .own (cutP ws lo hi))))|> fun z => by simpa using z⟩
      exact q _ r
  | _ => exact (Post.stuck p).elim

/-! ### methods of lists -/
def rM (K : PySem.W.Frag) (mg : Str → Option Value) (g : PV → List PV → M PV) : V → List V → Hp → VK → Prop := fun x xs H Q => ∃ v vs ρ h Wx, HR K mg ρ H h ∧ RP K mg ρ h.length H x v ∧ RPs K mg ρ h.length H xs vs ∧ Post K mg ρ H h.length (g v vs h) (QV K mg Q) Wx
theorem mtB_append : MtR X "list.append" (rM X.K X.mg (mthM .append)) := by
  intro pins s σ H x xs v us Q I rx rs hh
  obtain ⟨a, vs, ρ, h, Wx, R, ra, r, p⟩ := hh
  cases a with
  | obj i =>
    match vs, r, p with
    | [], r, p => exact (Post.stuck p).elim
    | _ :: _ :: _, r, p => exact (Post.stuck p).elim
    | [w], r, p =>
      obtain ⟨y, rfl, rr⟩ := r.one
      obtain ⟨ws, e, p⟩ := Post.read R (Post.bind p)
      obtain ⟨hc, p⟩ := Post.ite p
      obtain ⟨hi, zs, hz, rz⟩ := R.own e
      cases ra
      refine mt_append pins s σ H _ _ v us Q I rx rs ⟨_, zs, y, rfl, rfl, hz, by rw [rz.length]; exact hc, ?_⟩
      obtain ⟨R', nx, p⟩ := Post.setO R hi hz (rz.append (.cons rr .nil)) (Post.bind p)
      exact Post.pure R' p _ .non
  | _ => exact (Post.stuck p).elim
theorem RPs.dropLast {K : PySem.W.Frag} {mg : Str → Option Value} {ρ : Nat → Addr} {n : Nat} {H : Hp} {xs : List V} {vs : List PV} (r : RPs K mg ρ n H xs vs) : RPs K mg ρ n H xs.dropLast vs.dropLast := by
  rw [List.dropLast_eq_take, List.dropLast_eq_take, r.length]
  exact r.take _
theorem mtB_pop : MtR X "list.pop" (rM X.K X.mg (mthM .pop)) := by
  intro pins s σ H x xs v us Q I rx rs hh
  obtain ⟨a, vs, ρ, h, Wx, R, ra, r, p⟩ := hh
  cases a with
  | obj i =>
    match vs, r, p with
    | [], r, p =>
      cases r
      obtain ⟨ws, e, p⟩ := Post.read R (Post.bind p)
      obtain ⟨y, ey, p⟩ := Post.opt R (Post.bind p)
      obtain ⟨hi, zs, hz, rz⟩ := R.own e
      cases ra
      obtain ⟨z, e1, e2⟩ := rz.get ey
      refine mt_pop pins s σ H _ _ v us Q I rx rs ⟨_, zs, z, rfl, rfl, hz, by rw [rz.length]; exact e1, ?_⟩
      obtain ⟨R', nx, p⟩ := Post.setO R hi hz rz.dropLast (Post.bind p)
      exact Post.pure R' p _ (e2.nx nx)
    | .int k :: [], r, p =>
      obtain ⟨kx, rfl, rr⟩ := r.one
      cases rr
      obtain ⟨ws, e, p⟩ := Post.read R (Post.bind p)
      obtain ⟨j, ej, p⟩ := Post.opt R (Post.bind p)
      obtain ⟨y, ey, p⟩ := Post.opt R (Post.bind p)
      obtain ⟨hi, zs, hz, rz⟩ := R.own e
      cases ra
      obtain ⟨z, e1, e2⟩ := rz.get ey
      split at ej
      · rename_i hk
        refine mt_popAt pins s σ H _ _ v us Q I rx rs ⟨_, zs, k, j, z, rfl, rfl, hz, hk.1, hk.2, by rw [rz.length]; exact ej, e1, ?_⟩
        obtain ⟨R', nx, p⟩ := Post.setO R hi hz (rz.eraseIdx j) (Post.bind p)
        exact Post.pure R' p _ (e2.nx nx)
      · cases ej
    | w :: _ :: _, r, p => cases w <;> exact (Post.stuck p).elim
    | .non :: [], r, p => exact (Post.stuck p).elim
    | .bl _ :: [], r, p => exact (Post.stuck p).elim
    | .str _ :: [], r, p => exact (Post.stuck p).elim
    | .tup _ :: [], r, p => exact (Post.stuck p).elim
    | .obj _ :: [], r, p => exact (Post.stuck p).elim
    | .fn _ :: [], r, p => exact (Post.stuck p).elim
    | .kls _ :: [], r, p => exact (Post.stuck p).elim
    | .ty _ :: [], r, p => exact (Post.stuck p).elim
  | _ => exact (Post.stuck p).elim
theorem idx_rp {K : PySem.W.Frag} {mg : Str → Option Value} {ρ : Nat → Addr} {n : Nat} {H : Hp} {xs : List V} {vs : List PV} {y : V} {w : PV} {j : Nat} (r : RPs K mg ρ n H xs vs) (ry : RP K mg ρ n H y w) (e : idxP w vs = some j) :
    flatV y = true ∧ xs.all flatV = true ∧ ∃ z, xs[j]? = some z ∧ eqV z y = true ∧ ∀ (m : Nat) (z' : V), m < j → xs[m]? = some z' → eqV z' y = false := by
  unfold idxP at e
  split at e
  · rename_i hf
    rw [Bool.and_eq_true] at hf
    split at e
    · rename_i hj
      cases e
      have all := List.all_eq_true.mp hf.2
      refine ⟨flat_rp ry hf.1, (inF_rp ry hf.1 r hf.2).1, ?_⟩
      have eg : vs[vs.findIdx fun z => eqF z w]? = some vs[vs.findIdx fun z => eqF z w] := List.getElem?_eq_getElem hj
      obtain ⟨z, h1, h2⟩ := r.get eg
      refine ⟨z, h1, ?_, fun m z' hm hz => ?_⟩
      · rw [eqF_rp h2 ry (all _ (List.getElem_mem hj)) hf.1]
        exact List.findIdx_getElem (p := fun z => eqF z w) (w := hj)
      · have hml : m < vs.length := Nat.lt_trans hm hj
        have eg' : vs[m]? = some vs[m] := List.getElem?_eq_getElem hml
        obtain ⟨z2, h3, h4⟩ := r.get eg'
        rw [hz] at h3
        cases h3
        rw [eqF_rp h4 ry (all _ (List.getElem_mem hml)) hf.1]
        have := List.not_of_lt_findIdx (p := fun z => eqF z w) (xs := vs) hm
        simpa using this
    · cases e
  · cases e
theorem mtB_index : MtR X "list.index" (rM X.K X.mg (mthM .index)) := by
  intro pins s σ H x xs v us Q I rx rs hh
  obtain ⟨a, vs, ρ, h, Wx, R, ra, r, p⟩ := hh
  cases a with
  | obj i =>
    match vs, r, p with
    | [], r, p => exact (Post.stuck p).elim
    | _ :: _ :: _, r, p => exact (Post.stuck p).elim
    | [w], r, p =>
      obtain ⟨y, rfl, rr⟩ := r.one
      obtain ⟨ws, e, p⟩ := Post.read R (Post.bind p)
      obtain ⟨j, ej, p⟩ := Post.opt R (Post.bind p)
      obtain ⟨zs, hz, rz⟩ := R.lstP e
      cases ra
      obtain ⟨f1, f2, z, g1, g2, g3⟩ := idx_rp rz rr ej
      exact mt_index pins s σ H _ _ v us Q I rx rs ⟨_, zs, y, j, z, rfl, rfl, hz, f1, f2, g1, g2, g3, Post.pure R p _ (.int _)⟩
  | _ => exact (Post.stuck p).elim
theorem mtB_extend : MtR X "list.extend" (rM X.K X.mg (mthM .extend)) := by
  intro pins s σ H x xs v us Q I rx rs hh
  obtain ⟨a, vs, ρ, h, Wx, R, ra, r, p⟩ := hh
  cases a with
  | obj i =>
    match vs, r, p with
    | [], r, p => exact (Post.stuck p).elim
    | w :: _ :: _, r, p => cases w <;> exact (Post.stuck p).elim
    | [w], r, p =>
      cases w with
      | obj j =>
        obtain ⟨y, rfl, rr⟩ := r.one
        obtain ⟨ws, e, p⟩ := Post.read R (Post.bind p)
        obtain ⟨ws2, e2, p⟩ := Post.read R (Post.bind p)
        obtain ⟨hc, p⟩ := Post.ite p
        obtain ⟨hi, zs, hz, rz⟩ := R.own e
        obtain ⟨hi2, zs2, hz2, rz2⟩ := R.own e2
        cases ra
        cases rr
        refine mt_extend pins s σ H _ _ v us Q I rx rs ⟨_, _, zs, zs2, rfl, rfl, hz, hz2, by rw [rz.length, rz2.length]; exact hc, ?_⟩
        obtain ⟨R', nx, p⟩ := Post.setO R hi hz (rz.append rz2) (Post.bind p)
        exact Post.pure R' p _ .non
      | _ => exact (Post.stuck p).elim
  | _ => exact (Post.stuck p).elim
theorem rcv_rp {K : PySem.W.Frag} {mg : Str → Option Value} {ρ : Nat → Addr} {H : Hp} {h : PH} {m : MK} {x : V} {v : PV} {u : Unit} (R : HR K mg ρ H h) (r : RP K mg ρ h.length H x v) (e : rcv m h v = some u) : tyV K "list" x H := by
  unfold rcv at e
  cases e1 : lstP h v with
  | none => rw [e1] at e; cases e
  | some ws =>
    obtain ⟨a, ys, rfl, h1, _⟩ := R.lstQ r e1
    exact .inl ⟨rfl, ys, h1⟩
/-- o[i] = v -/
def rST (K : PySem.W.Frag) (mg : Str → Option Value) : TSet := fun o i v H Q => ∃ a b c ρ h Wx, HR K mg ρ H h ∧ RP K mg ρ h.length H o a ∧ RP K mg ρ h.length H i b ∧ RP K mg ρ h.length H v c ∧ Post K mg ρ H h.length (setIxM a b c h) (fun _ H' _ _ => Q H') Wx
theorem setB : PSet X (rST X.K X.mg) := by
  intro pins s σ H o i v ov iv u Q I ro ri rv hh
  obtain ⟨a, b, c, ρ, h, Wx, R, ra, rb, rc, p⟩ := hh
  cases a with
  | obj j =>
    cases b with
    | int k =>
      cases ra; cases rb
      obtain ⟨ws, e, p⟩ := Post.read R (Post.bind p)
      obtain ⟨m, em, p⟩ := Post.opt R (Post.bind p)
      obtain ⟨hi, zs, hz, rz⟩ := R.own e
      refine set_list pins s σ H _ _ v ov iv u Q I ro ri rv ⟨_, zs, k, m, rfl, rfl, hz, by rw [rz.length]; exact em, ?_⟩
      obtain ⟨R', nx, q⟩ := Post.setO R hi hz (RPs.set rc m rz) p
      exact q
    | _ => exact (Post.stuck p).elim
  | _ => exact (Post.stuck p).elim

/-! ### isinstance -/
theorem kit_pty : ∀ t c : PTy, kitB t.name c.name = some (t.sub c) := by
  intro t c
  cases t <;> cases c <;> decide +kernel
theorem tyX_rp {K : PySem.W.Frag} {mg : Str → Option Value} {ρ : Nat → Addr} {H : Hp} {h : PH} {x : V} {v : PV} {t : PTy} (R : HR K mg ρ H h) (r : RP K mg ρ h.length H x v) (e : tyP h v = some t) : TyX K H x (.type t.name) := by
  cases r with
  | non => cases e; exact .base .non
  | bl b => cases e; exact .base (.bl b)
  | int i => cases e; exact .base (.int i)
  | str z => cases e; exact .base (.str z)
  | ty _ => cases e
  | fn _ => cases e
  | tup hs hr =>
    cases e
    rcases hs with (hs | ⟨o, hs⟩) | ⟨o, its, m, h1, h2, _⟩
    · exact .base (.tup hs)
    · exact .fTuple hs
    · exact .kTuple h1 h2
  | kls hk hr =>
    cases e
    obtain ⟨o, its, m, h1, h2, _⟩ := hk
    exact .kList h1 h2
  | @obj i hi =>
    have e' : (match h[i]? with | some (PO.lst _ _) => some PTy.list | some (.dK _) => some .dict | some (.dT _) => some .dict | _ => none) = some t := e
    split at e'
    · rename_i k ys hy
      cases e'
      have ro := R.objs i _ hy
      cases k with
      | own => obtain ⟨xs, h1, _⟩ := ro; exact .base (.lst h1)
      | frz => obtain ⟨xs, o, h1, _⟩ := ro; exact .base (.frz h1)
    · rename_i kvs hy
      cases e'
      obtain ⟨xs, h1, _⟩ := R.objs i _ hy
      exact .base (.dK h1)
    · rename_i kvs hy
      cases e'
      obtain ⟨xs, h1, _⟩ := R.objs i _ hy
      exact .base (.dT h1)
    · cases e'

/-! ### raise X() -/
theorem pmk_own0 {C : Addr} {bmB : List Value} {B newId initId : String} {x : Str} {p pos : Pos} (F : ExcBaseFacts B newId initId bmB) (q : PySem.W.excIn X.K C bmB newId = true) (gC : X.mg x = some (.ref C)) (kC : PySem.W.keepIn X.K (.ref C) = true) (r : Raises X (.ref C)) (hg : Gl X x)
    (hdb : (x == ("__debug__" : Str)) = false) : PMk X (.Call (.Name x p) [] [] pos) (fun _ H Q => Q (.ref C) none H) := by
  intro pins s σ H Q I h
  refine wpAny_Call_Name_kw (ld_glob I hg gC ?_ hdb)
  refine PySem.W.callWith_K0 I.kIn kC ?_
  show wpAny _ _ (call (.ref C) []) _ _ _
  obtain ⟨bm, N, nm, qn, bs, hdct, sn, sub, ab, col, dd, k0, k1, k2, k3, k5, mN, hC, hN, hni, T⟩ := exc_obj I.kIn q
  refine wpAny_call_exc_subT F T hC hN hni (fun h' e hm => ?_) (by show 0 ≤ sizeLine; exact Nat.zero_le _)
  exact mk_of I hm r h (I.hok.gone hm.new)
end
end MP

set_option Elab.async false
set_option linter.all false
set_option maxRecDepth 100000
set_option maxHeartbeats 4000000
/-! MPu: repr of what is read. -/
namespace MP
open PySem PySem.Spec PyProof.Rows L2

theorem mapO_len {α β : Type} {f : α → Option β} : ∀ {xs : List α} {ys : List β}, mapO f xs = some ys → ys.length = xs.length
  | [], ys, e => by cases e; rfl
  | x :: xs, ys, e => by
    unfold mapO at e
    split at e
    · cases q : mapO f xs with
      | none => rw [q] at e; cases e
      | some zs => rw [q] at e; cases e; simp [mapO_len q]
    · cases e
def encK : L2.Key → PyData := keyD
theorem keyD_reads {h : Heap} {k : L2.Key} {u : Value} (e : L2.keyIs k u = true) : Reads h u (keyD k) [] := by
  rcases keyIs_shape e with ⟨i, t, rfl, rfl⟩ | ⟨x, t, rfl, rfl⟩
  · exact .int i t
  · exact .str x t
theorem depthAll_le {n : Nat} : ∀ {ds : List PyData}, (∀ d ∈ ds, d.depth ≤ n) → PyData.depthAll ds ≤ n
  | [], _ => Nat.zero_le _
  | d :: ds, h => by
    unfold PyData.depthAll
    have h1 := h d (List.mem_cons_self ..)
    have h2 := depthAll_le (ds := ds) fun x hx => h x (List.mem_cons_of_mem _ hx)
    omega
theorem depthKv_le {n : Nat} : ∀ {ks : List L2.Key} {ds : List PyData}, (∀ d ∈ ds, d.depth ≤ n) → PyData.depthKv ((ks.map keyD).zip ds) ≤ n
  | [], ds, _ => by simp [PyData.depthKv]
  | k :: ks, [], _ => by simp [PyData.depthKv]
  | k :: ks, d :: ds, h => by
    simp only [List.map_cons, List.zip_cons_cons]
    unfold PyData.depthKv
    have h1 := h d (List.mem_cons_self ..)
    have h2 := depthKv_le (ks := ks) (ds := ds) fun x hx => h x (List.mem_cons_of_mem _ hx)
    have h3 : (keyD k).depth = 0 := by cases k <;> rfl
    omega

section
variable {X : Cx} {pins : List (Addr × Obj)} {σ : L2.St} {H : Hp} {s : Shared} {ρ : Nat → Addr} {h : PH}
/-- values read one by one -/
theorem reads_all {n : Nat} {f : PV → Option PyData} (ih : ∀ {v : PV} {d : PyData} {x : V} {u : Value}, f v = some d → RP X.K X.mg ρ h.length H x v → RelV x u → ∃ as, Reads s.heap u d as ∧ sysModules ∉ as ∧ d.depth ≤ n) :
    ∀ {vs : List PV} {ds : List PyData} {xs : List V} {us : List Value}, mapO f vs = some ds → RPs X.K X.mg ρ h.length H xs vs → Vals xs us → ∃ as, ReadsAll s.heap us ds as ∧ sysModules ∉ as ∧ ∀ d ∈ ds, d.depth ≤ n
  | [], ds, _, _, e, .nil, .nil => by cases e; exact ⟨[], .nil, by simp, by simp⟩
  | v :: vs, ds, _, _, e, .cons r rs, .cons q qs => by
    unfold mapO at e
    split at e
    · rename_i d hd
      cases e2 : mapO f vs with
      | none => rw [e2] at e; cases e
      | some es =>
        rw [e2] at e
        cases e
        obtain ⟨as, h1, h2, h3⟩ := ih hd r q
        obtain ⟨bs, k1, k2, k3⟩ := reads_all ih e2 rs qs
        refine ⟨as ++ bs, .cons h1 k1, fun hm => (List.mem_append.mp hm).elim h2 k2, fun d' hd' => ?_⟩
        rcases List.mem_cons.mp hd' with rfl | hd'
        · exact h3
        · exact k3 d' hd'
    · cases e
theorem leaf_reads {v : PV} {d : PyData} {x : V} {u : Value} (e : leafD v = some d) (r : RP X.K X.mg ρ h.length H x v) (q : RelV x u) : ∃ as, Reads s.heap u d as ∧ sysModules ∉ as ∧ d.depth ≤ 0 := by
  cases r with
  | non => cases e; obtain rfl : u = Value.none := q; exact ⟨[], .none, by simp, Nat.le_refl _⟩
  | bl b => cases e; obtain rfl : u = Value.bool b := q; exact ⟨[], .bool b, by simp, Nat.le_refl _⟩
  | int i => cases e; obtain ⟨t, rfl⟩ : ∃ t, u = Value.int i t := q; exact ⟨[], .int i t, by simp, Nat.le_refl _⟩
  | str z => cases e; obtain ⟨t, rfl⟩ : ∃ t, u = Value.str z t := q; exact ⟨[], .str z t, by simp, Nat.le_refl _⟩
  | _ => cases e
theorem vals_kv {κ : Type} : ∀ {xs : List (κ × V)} {ys : List (κ × Value)}, KV xs ys → Vals (xs.map (·.2)) (ys.map (·.2)) ∧ xs.map (·.1) = ys.map (·.1)
  | _, _, .nil => ⟨.nil, rfl⟩
  | _, _, .cons r rs => ⟨.cons r.2 (vals_kv rs).1, by simp [r.1, (vals_kv rs).2]⟩
theorem pairs_read {h : Heap} : ∀ {kvs : List (L2.Key × Value)} {ds : List PyData} {as : List Addr}, ReadsAll h (kvs.map (·.2)) ds as → PyProof.V.PairsRead h keyD kvs ((kvs.map fun p => keyD p.1).zip ds) as
  | [], _, _, r => by cases r; exact .nil
  | (k, v) :: kvs, _, _, r => by
    cases r with
    | cons r rs => exact .cons r (pairs_read rs)
theorem to_reads (I : Inv X pins σ H s) (R : HR X.K X.mg ρ H h) (hsys : ∃ o, X.base.get? sysModules = some o) : ∀ (n : Nat) {v : PV} {d : PyData} {x : V} {u : Value}, toD h n v = some d → RP X.K X.mg ρ h.length H x v → RelV x u → ∃ as, Reads s.heap u d as ∧ sysModules ∉ as ∧ d.depth ≤ n
  | 0, v, d, x, u, e, r, q => leaf_reads e r q
  | n + 1, v, d, x, u, e, r, q => by
    have no : ∀ {a : Addr} {w : HO}, H a = some w → sysModules ≠ a := fun {a w} e z => by
      obtain ⟨o, ho⟩ := hsys
      have := (I.bs _ _ ho).2
      rw [z, e] at this
      cases this
    have lf : leafD v = some d → ∃ as, Reads s.heap u d as ∧ sysModules ∉ as ∧ d.depth ≤ n + 1 := fun e => by
      obtain ⟨as, h1, h2, h3⟩ := leaf_reads (s := s) e r q
      exact ⟨as, h1, h2, by omega⟩
    cases r with
    | non => exact lf e
    | bl b => exact lf e
    | int i => exact lf e
    | str z => exact lf e
    | ty z => exact lf e
    | fn z => exact lf e
    | kls z w => exact lf e
    | @tup a xs vs hs hr =>
      obtain rfl : u = Value.ref a := q
      have e' : (mapO (toD h n) vs).map PyData.tuple = some d := e
      cases e1 : mapO (toD h n) vs with
      | none => rw [e1] at e'; cases e'
      | some ds =>
        rw [e1] at e'
        cases e'
        obtain ⟨its, rv, ⟨o, h1, h2, m, h3⟩, _⟩ := I.tuple hs
        obtain ⟨as, k1, k2, k3⟩ := reads_all (to_reads I R hsys n) e1 hr rv
        exact ⟨as, .tuple h1 h2 h3 k1, k2, by unfold PyData.depth; have := depthAll_le k3; omega⟩
    | @obj i hi =>
      obtain rfl : u = Value.ref (ρ i) := q
      have e' : (match h[i]? with
        | some (PO.lst _ xs) => (mapO (toD h n) xs).map PyData.list
        | some (.dK kvs) => (mapO (toD h n) (kvs.map (·.2))).map fun ds => .dict ((kvs.map fun p => keyD p.1).zip ds)
        | _ => none) = some d := e
      split at e'
      · rename_i k vs hy
        cases e1 : mapO (toD h n) vs with
        | none => rw [e1] at e'; cases e'
        | some ds =>
          rw [e1] at e'
          cases e'
          have hno : sysModules ≠ ρ i := by
            obtain ⟨w, hw⟩ := (R.objs i _ hy).some
            exact no hw
          obtain ⟨xs, hq, hr⟩ := R.sqL hy
          obtain ⟨its, rv, ⟨o, m, h1, h2, _, h3⟩, _⟩ := I.list hq
          obtain ⟨as, k1, k2, k3⟩ := reads_all (to_reads I R hsys n) e1 hr rv
          exact ⟨ρ i :: as, .list h1 h2 h3 k1, fun hm => (List.mem_cons.mp hm).elim hno k2, by unfold PyData.depth; have := depthAll_le k3; omega⟩
      · rename_i kvs hy
        cases e1 : mapO (toD h n) (kvs.map (·.2)) with
        | none => rw [e1] at e'; cases e'
        | some ds =>
          rw [e1] at e'
          cases e'
          obtain ⟨xs, hq, hk, hr⟩ := R.objs i _ hy
          obtain ⟨_, hS, vs, kv, hd⟩ := dk_of I.hok hq
          obtain ⟨rv, ek⟩ := vals_kv kv
          obtain ⟨as, k1, k2, k3⟩ := reads_all (to_reads I R hsys n) e1 hr rv
          have ek2 : (vs.map fun p => keyD p.1) = kvs.map fun p => keyD p.1 := by
            have := congrArg (List.map keyD) (ek.symm.trans hk)
            simpa [List.map_map, Function.comp_def] using this
          have rd := PyProof.V.reads_dictOf (enc := keyD) (fun k key hk => keyD_reads hk) hd (pairs_read k1)
          rw [ek2] at rd
          exact ⟨_, rd, fun hm => (List.mem_cons.mp hm).elim (no hq) k2, by
            unfold PyData.depth
            have : PyData.depthKv ((kvs.map fun p => keyD p.1).zip ds) ≤ n := by
              have := depthKv_le (ks := kvs.map (·.1)) k3
              simpa [List.map_map, Function.comp_def] using this
            omega⟩
      · cases e'

theorem biB_repr (hg : X.A.guards = some []) (hu : X.A.units + 64 < cLine) (hsys : ∃ o, X.base.get? sysModules = some o) : CallR X (.builtin "repr") (rC X.K X.mg (biM .repr)) := by
  intro pins s σ H xs us Q I rs hh
  obtain ⟨vs, ρ, h, Wx, R, r, p⟩ := hh
  match vs, r, p with
  | [], r, p => exact (Post.stuck p).elim
  | _ :: _ :: _, r, p => exact (Post.stuck p).elim
  | [v], r, p =>
    obtain ⟨x, rfl, rr⟩ := r.one
    obtain ⟨w, e, q⟩ := Post.read (f := fun h => (repP h v).map PV.str) R p
    cases e1 : repP h v with
    | none => rw [e1] at e; cases e
    | some m =>
      rw [e1] at e; cases e
      unfold repP at e1
      split at e1
      · rename_i d hd
        split at e1
        · rename_i hc
          cases e1
          cases rs with
          | @cons _ u _ _ ru rn =>
            cases rn
            obtain ⟨as, h1, h2, h3⟩ := to_reads I R hsys 60 hd rr ru
            have fin : ∀ h' t tk, (∀ b o, s.heap.get? b = some o → h'.get? b = some o) → EP X pins σ Q (.str d.shown t) { s with heap := h', toks := tk } := fun h' t tk hk => ⟨.str d.shown, H, I.kept (t' := tk) hk, ⟨t, rfl⟩, q _ (.str _)⟩
            cases h1 with
            | none => exact PySem.P.repr_of_none (fin s.heap _ _ fun _ _ e => e)
            | bool b => exact PySem.P.repr_of_bool (fin s.heap _ _ fun _ _ e => e)
            | int i t => exact PySem.P.repr_of_int (by simpa [PyData.showable] using hc.1) (fin s.heap _ _ fun _ _ e => e)
            | str y t => exact PySem.P.repr_of_str (fin s.heap _ _ fun _ _ e => e) hc.2
            | list a1 a2 a3 a4 => exact repr_of_reads' (Reads.list a1 a2 a3 a4) hc.1 (fun _ => h2) hg (by omega) (fun _ _ e => e) (fun h' t tk hk => fin h' t tk hk) hc.2
            | tuple a1 a2 a3 a4 => exact repr_of_reads' (Reads.tuple a1 a2 a3 a4) hc.1 (fun _ => h2) hg (by omega) (fun _ _ e => e) (fun h' t tk hk => fin h' t tk hk) hc.2
            | dict a1 a2 a3 a4 a5 => exact repr_of_reads' (Reads.dict a1 a2 a3 a4 a5) hc.1 (fun _ => h2) hg (by omega) (fun _ _ e => e) (fun h' t tk hk => fin h' t tk hk) hc.2
        · cases e1
      · cases e1
end
end MP

set_option Elab.async false
set_option linter.all false
set_option maxRecDepth 100000
set_option maxHeartbeats 4000000
/-! MPv: promises of defs where it is known, if it is asked for, that no repr is under way. -/
namespace MP
open PySem PySem.Spec PyProof.Rows L2
/-- FnOk, the promise held to only where no repr is under way (if R) -/
structure FnG (R : Bool) (P : Program) (w : World) (K : PySem.W.Frag) (mg : Str → Option Value) (base : Heap) (CX : CXT) (k : Nat) (f : Addr) (fd : FuncData) (ps : List Str) (sp : Sp) : Prop where
  len : ∀ vs H Q E, sp vs H Q E → vs.length = ps.length
  run : ∀ (A : Around) (outer : List Env) (s : Shared) (H : Hp) (args : Args) (us : List Value) (vs : List V) (Q : VK) (E : XK), Room k A → (R = true → A.guards = some []) → Env0 P w K mg base A outer s H → BindsTo s fd args (ps.zip us) → Vals vs us → sp vs H Q E →
    codeAny (model P w) A (.call (.ref f) args) (CR CX outer P w H s Q E) s
theorem FnG.ok {P : Program} {w : World} {K : PySem.W.Frag} {mg : Str → Option Value} {base : Heap} {CX : CXT} {k : Nat} {f : Addr} {fd : FuncData} {ps : List Str} {sp : Sp} (F : FnG false P w K mg base CX k f fd ps sp) : FnOk P w K mg base CX k f fd ps sp :=
  ⟨F.len, fun A outer s H args us vs Q E hr => F.run A outer s H args us vs Q E hr fun z => nomatch z⟩
theorem FnG.of {P : Program} {w : World} {K : PySem.W.Frag} {mg : Str → Option Value} {base : Heap} {CX : CXT} {k : Nat} {f : Addr} {fd : FuncData} {ps : List Str} {sp : Sp} (F : FnOk P w K mg base CX k f fd ps sp) : FnG false P w K mg base CX k f fd ps sp :=
  ⟨F.len, fun A outer s H args us vs Q E hr _ => F.run A outer s H args us vs Q E hr⟩
theorem FnG.imp {R : Bool} {P : Program} {w : World} {K : PySem.W.Frag} {mg : Str → Option Value} {base : Heap} {CX : CXT} {k : Nat} {f : Addr} {fd : FuncData} {ps : List Str} {sp sp' : Sp} (F : FnG R P w K mg base CX k f fd ps sp)
    (h : ∀ vs H Q E, sp' vs H Q E → sp vs H Q E) : FnG R P w K mg base CX k f fd ps sp' :=
  ⟨fun vs H Q E q => F.len vs H Q E (h _ _ _ _ q), fun A outer s H args us vs Q E hr hg he hb hv hs => F.run A outer s H args us vs Q E hr hg he hb hv (h _ _ _ _ hs)⟩
section
variable {R : Bool} {X : Cx} {CX : CXT} {k : Nat} {f : Addr} {fd : FuncData} {ps : List Str} {sp : Sp} {E : L2.St → XK} {x : Str} {p pos : Pos} {e : Expr} {es : List Expr} {t : TA}
theorem run_fnG {pins : List (Addr × Obj)} {σ : L2.St} {H : Hp} {s : Shared} {Q : VK} {us : List Value} {vs : List V} (F : FnG R X.prog X.w X.K X.mg X.base CX k f fd ps sp) (hr : Room k X.A) (hgu : R = true → X.A.guards = some []) (hb : Binds X.K fd ps []) (hx : PassesAt CX X σ (E σ))
    (I : Inv X pins σ H s) (r : Vals vs us) (h : sp vs H Q (E σ)) : wpAny (model X.prog X.w) X.A (call (.ref f) us) (EP X pins σ Q) X.xe s := by
  have b := hb s us I.kIn (by rw [List.append_nil, ← r.length]; exact F.len _ _ _ _ h)
  rw [List.append_nil] at b
  refine wpAny_call (codeAny_mono (F.run X.A X.stack s H ⟨us, []⟩ us vs Q (E σ) hr hgu I.env0 b r h) fun z s' hq => ?_)
  cases z with
  | error e => exact hx pins H s e s' I hq
  | ok fl => cases fl <;> first | exact I.after hq | exact False.elim hq
theorem pe_callG (F : FnG R X.prog X.w X.K X.mg X.base CX k f fd ps sp) (hr : Room k X.A) (hgu : R = true → X.A.guards = some []) (hg : Gl X x) (hm : X.mg x = some (.ref f)) (hk : PySem.W.keepIn X.K (.ref f) = true) (hb : Binds X.K fd ps []) (hx : ∀ σ, PassesAt CX X σ (E σ))
    (ha : PA X (e :: es) t) (hdb : (x == ("__debug__" : Str)) = false) (he : starEach (e :: es) X.env = (false, eval e X.env) :: starEach es X.env) (hpl : (backTo pos (starEach es X.env)).any (·.1) = false) :
    PE X (.Call (.Name x p) (e :: es) [] pos) (tCallS sp E t) :=
  ⟨fun pins s σ H Q I h => wpAny_Call_Name_kw (ld_glob I hg hm (PySem.W.callWith_K (h₀ := X.base) I.ok.mod.kin hk (thn (ha.run pos pins s σ H _ I h) fun us s1 ⟨vs, H1, I1, r, q⟩ => ⟨I1.kIn, run_fnG F hr hgu hb (hx σ) I1 r q⟩) he hpl) hdb)⟩
end
/-- a def's promise from its body's -/
theorem fn_ofG {R : Bool} {CX : CXT} {P : Program} {w : World} {K : PySem.W.Frag} {mg : Str → Option Value} {base : Heap} {k : Nat} {f : Addr} {name qual : Str} {params : Arguments} {body : List Stmt} {scope : Scope} {dV kV doc pm cdv ct oc : Value} {an od : Option Addr}
    {osl : Array (Option Value)} {N ps : List Str} {sp : Sp} (lk : K.lookup f = some ⟨oc, od, .func (PySem.W.fnOf name qual params body scope dV kV doc pm an cdv ct), osl⟩) (hcd : PySem.W.codeIn K cdv qual = true) (S : FnScope N ps scope)
    (len : ∀ vs H Q E, sp vs H Q E → vs.length = ps.length)
    (hbody : ∀ (A : Around) (outer : List Env) (s : Shared) (H : Hp) (vs : List V) (Q : VK) (E : XK), Room k (A.deeper (envOfC qual scope s.heap.objs.size f cdv)) → (R = true → A.guards = some []) → sp vs H Q E →
      ∃ t, PSs (cxOf CX P w K mg base N qual scope f cdv A outer s H E) body t ∧ t { nx := fun _ H' => Q .non H', rt := Q } (start N vs) H) :
    FnG R P w K mg base CX (k + 1) f (PySem.W.fnOf name qual params body scope dV kV doc pm an cdv ct) ps sp where
  len := len
  run := fun A outer s H args us vs Q E hr hgu e0 hb r hsp => by
    have up : ∀ b o, base.get? b = some o → s.heap.get? b = some o := fun b o e => (e0.bs b o e).1
    have kinds : ∀ y ∈ ps.zip us, scope.names.lookup y.1 = some .local ∨ (scope.names.lookup y.1 = some .cell ∧ ((cellsFrom (s.heap.objs.size + 1) scope.names []).lookup y.1).isSome = true) := fun ⟨n, v⟩ hy =>
      (S.par n (List.of_mem_zip hy).1).imp id fun q => ⟨q, PySem.W.cellsFrom_some _ _ _ (.inl q)⟩
    refine codeAny_call_function hr.depth ((e0.mod.kin.keeps up) _ _ lk) rfl S.co S.gen rfl (PySem.W.codeRec_of (e0.mod.kin.keeps up) hcd) (hb _ _ _ _ (wpAny_newFunctionEnv_cells S.kind kinds fun env he s1 x => ?_))
    subst he
    refine ⟨(e0.mod.nolimit.keeps up).keeps x.toInCall.keep, codeAny_func ?_⟩
    obtain ⟨t, ht, hq⟩ := hbody A outer s H vs Q E (hr.deeper _) hgu hsp
    have I : Inv (cxOf CX P w K mg base N qual scope f cdv A outer s H E) [] (start N vs) H s1 := inv_start S hr.hd e0 (len _ _ _ _ hsp) r x
    refine wpAny_mono (ht.run [] s1 (start N vs) H _ I hq) (fun fl s' hs => ?_) fun e s' hs => hs
    cases fl with
    | ret u =>
      obtain ⟨v, σ', H', J, rv, q⟩ := hs
      exact ⟨v, H', J.os, J.bare, J.base, J.hok, rv, q⟩
    | next =>
      obtain ⟨σ', H', J, q⟩ := hs
      exact ⟨V.non, H', J.os, J.bare, J.base, J.hok, rfl, q⟩
    | brk =>
      obtain ⟨_, _, _, q⟩ := hs
      exact False.elim q
    | cont =>
      obtain ⟨_, _, _, q⟩ := hs
      exact False.elim q
end MP

set_option Elab.async false
set_option linter.all false
set_option maxRecDepth 100000
set_option maxHeartbeats 4000000
/-! MPq: a law's end, where no repr is under way at its beginning. -/
namespace MP
open PySem PySem.Spec PyProof.Rows L2
/-- the law is called: nothing but the script may be tracked, and it stands apart from sys.modules -/
theorem law_callG {R : Bool} {P : Program} {w : World} {K : PySem.W.Frag} {mg mb : Str → Option Value} {CX : CXT} {k : Nat} {fa a : Addr} {fd : FuncData} {x : Str} {sp : Sp} {s₁ : Shared} {vs : List Value} {ns : List Int}
    (KX : K.In s₁.heap) (hns : s₁.heap.Ns mainGlobals mg) (hb : s₁.heap.Ns builtinsNs mb) (hbb : ∀ x : Str, x ≠ "__name__" → mb x = bootBuiltins x) (hlim : s₁.heap.NoLimit) (hsee : s₁.heap.NoSeer) (hg : s₁.gens = #[])
    (ha : s₁.heap.get? a = some { cls := .type "list", data := .seq vs.toArray }) (hi : IntsAre vs ns) (hl : ns.length ≤ sizeLine) (hr : Room k callerA)
    (F : ∀ base : Heap, K.In base → base.Ns mainGlobals mg → (∃ o, base.get? sysModules = some o) → FnG R P w K mg base CX k fa fd [x] sp) (hbind : ∀ (s : Shared) (u : Value), BindsTo s fd ⟨[u], []⟩ [(x, u)])
    (hsp : ∀ H : Hp, Only H → SqL K H a (ns.map V.int) → sp [.ref a] H (fun v _ => v = .bl true) fun _ _ _ => False)
    (hCX : ∀ H e s', CX [] H s₁ (fun _ _ _ => False) e s' → False) :
    codeAny (model P w) callerA (.call (.ref fa) ⟨[.ref a], []⟩) (fun r s' => r = .ok (.ret (.bool true)) ∧ OldK s₁.heap s'.heap ∧ s'.os = s₁.os ∧ AllBare s'.gens) s₁ := by
  have rv := vals_ints hi
  have key : ∀ H : Hp, Only H → SqL K H a (ns.map V.int) → HOk P w H s₁.heap → (∀ b, H b ≠ none → b = a) → (H a ≠ none → K.lookup a = none) →
      codeAny (model P w) callerA (.call (.ref fa) ⟨[.ref a], []⟩) (fun r s' => r = .ok (.ret (.bool true)) ∧ OldK s₁.heap s'.heap ∧ s'.os = s₁.os ∧ AllBare s'.gens) s₁ := fun H hO hS hok hA hK => by
    have dict0 : ∀ {b : Addr} {o : Obj} {es : Array DictEntry} {ep : Nat}, s₁.heap.get? b = some o → o.data = .dict es ep → H b = none := fun {b o es ep} e d => by
      cases q : H b with
      | none => rfl
      | some u =>
        obtain rfl := hA b (by rw [q]; exact fun z => nomatch z)
        rw [ha] at e
        cases e
        cases d
    have ns0 : ∀ {b : Addr} {m : Str → Option Value}, s₁.heap.Ns b m → (hidT s₁.heap H).Ns b m := fun {b m} ⟨o, es, ep, e, d, r⟩ => ⟨o, es, ep, hidT_get e (dict0 e d), d, r⟩
    have k0 : K.In (hidT s₁.heap H) := fun b o e => hidT_get (KX b o e) (by
      cases q : H b with
      | none => rfl
      | some u =>
        obtain rfl := hA b (by rw [q]; exact fun z => nomatch z)
        rw [hK (by rw [q]; exact fun z => nomatch z)] at e
        cases e)
    obtain ⟨mm, ⟨so, es, ep, se, sd, _⟩, _⟩ := hsee.mods
    have e0 : Env0 P w K mg (hidT s₁.heap H) callerA [] s₁ H := ⟨rfl, ⟨k0, ns0 hns, ⟨mb, ns0 hb, hbb⟩, hlim.elim fun mc q => ⟨mc, ns0 q.1, q.2⟩⟩, fun b o e => of_hidT e, Nat.le_of_eq (hidT_size _ _), trivial, (fun b hb => nomatch hb), hok, .of_eq hg⟩
    refine codeAny_mono ((F _ k0 (ns0 hns) ⟨so, hidT_get se (dict0 se sd)⟩).run callerA [] s₁ H ⟨[.ref a], []⟩ [.ref a] [.ref a] _ _ hr (fun _ => rfl) e0 (hbind s₁ (.ref a)) (.cons rfl .nil) (hsp H hO hS)) fun r s' h => ?_
    cases r with
    | error e => exact (hCX H e s' h).elim
    | ok fl =>
      cases fl with
      | ret u =>
        obtain ⟨v, H', os, bare, un, hok', r', q⟩ := h
        obtain rfl : v = .bl true := q
        obtain rfl : u = Value.bool true := r'
        refine ⟨rfl, OldK.of_keep fun b o e => ?_, os, bare⟩
        rcases hO b with z | ⟨ob, xs, z⟩
        · exact un.keep b o e z (fun y => nomatch y) (fun y => nomatch y)
        · have e1 := (hok b _ z).1
          have e2 := (hok' b _ (un.frzs b ob _ z)).1
          rw [e] at e1
          cases e1
          exact e2
      | _ => exact False.elim h
  cases hk : K.lookup a with
  | some o =>
    have e := KX a o hk
    rw [ha] at e
    cases e
    exact key (fun _ => none) (fun _ => .inl rfl) (.inr ⟨_, vs.toArray, _, hk, rfl, rfl, rfl, by rw [List.size_toArray, hi.length]; exact hl, by simpa using rv⟩) (fun b u z => by cases (show (none : Option HO) = some u from z)) (fun b z => absurd rfl z) fun z => absurd rfl z
  | none =>
    have at0 : ∀ {b : Addr} {u : HO}, (if b = a then some (HO.frz { cls := .type "list", data := .seq vs.toArray } (.lst (ns.map V.int))) else none) = some u → b = a ∧ u = .frz { cls := .type "list", data := .seq vs.toArray } (.lst (ns.map V.int)) := fun {b u} z => by
      split at z
      · rename_i hb
        cases z
        exact ⟨hb, rfl⟩
      · cases z
    refine key (fun b => if b = a then some (.frz { cls := .type "list", data := .seq vs.toArray } (.lst (ns.map V.int))) else none) (fun b => ?_) (.inl (.inr ⟨{ cls := .type "list", data := .seq vs.toArray }, if_pos rfl⟩)) (fun b u z => ?_) (fun b z => ?_) fun _ => hk
    · by_cases hb : b = a
      · exact .inr ⟨_, _, if_pos hb⟩
      · exact .inl (if_neg hb)
    · obtain ⟨rfl, rfl⟩ := at0 z
      exact ⟨ha, by rw [List.length_map]; exact hl, vs, _, rv, ha⟩
    · cases q : (if b = a then some (HO.frz { cls := .type "list", data := .seq vs.toArray } (.lst (ns.map V.int))) else none) with
      | none => exact absurd q z
      | some u => exact (at0 q).1
theorem walk_ofG {R : Bool} {l : PySem.W.OpenLaw} {n k : Nat} {q : Program} {loose : List Str} {XP : (Str → Option Value) → Heap → Prop} {YP : World → Heap → Prop} {d : DefRec} {K : Params → PySem.W.Frag} {CX : World → CXT} {sp : World → Sp} {x : Str}
    (hn : l.most = some n) (hn2 : n ≤ sizeLine) (hdf : d.params.defaults = []) (hr : Room k callerA) (hi : importsNone q = true)
    (hY : ∀ (w : World) (h : Heap), YP w h → (K w.params).In h)
    (F : ∀ (w : World) (mg : Str → Option Value) (fa : Addr) (h : Heap), (K w.params).In h → h.Ns mainGlobals mg → mg d.name = some (.ref fa) →
      ∃ fd : FuncData, (∀ (s : Shared) (u : Value), BindsTo s fd ⟨[u], []⟩ [(x, u)]) ∧
        ∀ base : Heap, (K w.params).In base → base.Ns mainGlobals mg → (∃ o, base.get? sysModules = some o) → FnG R l.prog w (K w.params) mg base (CX w) k fa fd [x] (sp w))
    (hsp : ∀ (w : World) (H : Hp) (a : Addr) (ns : List Int), ns.length ≤ n → Only H → SqL (K w.params) H a (ns.map V.int) → sp w [.ref a] H (fun v _ => v = .bl true) fun _ _ _ => False)
    (hCX : ∀ (w : World) (H : Hp) (s : Shared) (e : Value) (s' : Shared), CX w [] H s (fun _ _ _ => False) e s' → False) :
    PySem.W.WalkO q loose XP YP l.row.toRowW d [] (fun f vs => PySem.call f vs) :=
  Att.attach_call hn hdf fun w s₀ s₁ mg mb fa o pm cd doc a vs ns G Y ho hd hcd hmg hobj hints hlen hg => by
    obtain ⟨fd, hb, hF⟩ := F w mg fa _ (hY w _ Y) G.T.g hmg
    exact law_callG (hY w _ Y) G.T.g G.T.b G.T.builtins G.T.nolimit (G.T.seer hi) hg hobj hints (Nat.le_trans hlen hn2) hr hF hb (fun H hO hS => hsp w H a ns hlen hO hS) fun H e s' => hCX w H s₁ e s'
end MP

set_option Elab.async false
set_option linter.all false
set_option maxRecDepth 100000
set_option maxHeartbeats 4000000
/-! MPe: readings by pure functions, construct by construct. -/
namespace MP
open PySem PySem.Spec PyProof.Rows L2

theorem bind_assoc {α β γ : Type} (m : M α) (f : α → M β) (g : β → M γ) : M.bind (M.bind m f) g = M.bind m fun a => M.bind (f a) g := by
  funext h
  unfold M.bind
  cases m h <;> rfl

/-! ### weaker readings -/
section
variable {X : Cx} {e : Expr} {es : List Expr} {tg : Expr}
theorem pe_imp {t t' : TE} (p : PE X e t) (i : ∀ σ H Q, t' σ H Q → t σ H Q) : PE X e t' := ⟨fun pins s σ H Q I h => p.run pins s σ H Q I (i σ H Q h)⟩
theorem pt_imp {t t' : TT} (p : PT X e t) (i : ∀ σ H Q, t' σ H Q → t σ H Q) : PT X e t' := ⟨fun pins s σ H Q I h => p.run pins s σ H Q I (i σ H Q h)⟩
theorem pw_imp {t t' : TT} (p : PW X e t) (i : ∀ σ H Q, t' σ H Q → t σ H Q) : PW X e t' := ⟨fun wh pins s σ H Q I h => p.run wh pins s σ H Q I (i σ H Q h)⟩
theorem pts_imp {t t' : TT} (p : PTs X es t) (i : ∀ σ H Q, t' σ H Q → t σ H Q) : PTs X es t' := ⟨fun pins s σ H Q I h => p.run pins s σ H Q I (i σ H Q h)⟩
theorem pa_imp {t t' : TA} (p : PA X es t) (i : ∀ σ H Q, t' σ H Q → t σ H Q) : PA X es t' := ⟨fun pos pins s σ H Q I h => p.run pos pins s σ H Q I (i σ H Q h)⟩
theorem po_imp {o : Option Expr} {t t' : TO} (p : L2.PO X o t) (i : ∀ σ H Q, t' σ H Q → t σ H Q) : L2.PO X o t' := ⟨fun pins s σ H Q I h => p.run pins s σ H Q I (i σ H Q h)⟩
theorem ps_imp {st : Stmt} {t t' : TS} (p : PS X st t) (i : ∀ D σ H, t' D σ H → t D σ H) : PS X st t' := ⟨fun pins s σ H D I h => p.run pins s σ H D I (i D σ H h)⟩
theorem pss_imp {st : List Stmt} {t t' : TS} (p : PSs X st t) (i : ∀ D σ H, t' D σ H → t D σ H) : PSs X st t' := ⟨fun pins s σ H D I h => p.run pins s σ H D I (i D σ H h)⟩
theorem pi_imp {w w' : TI} (p : PI X tg e w) (i : ∀ σ H Q, w' σ H Q → w σ H Q) : PI X tg e w' := ⟨fun pins s σ H R I h => p.run pins s σ H R I (i σ H R h)⟩
theorem pi_or {w w' : TI} (p : PI X tg e w) (q : PI X tg e w') : PI X tg e (fun σ H R => w σ H R ∨ w' σ H R) := ⟨fun pins s σ H R I h => h.elim (p.run pins s σ H R I) (q.run pins s σ H R I)⟩
theorem pg_imp {g g' : TG} (p : PG X tg g) (i : ∀ v σ H Q, g' v σ H Q → g v σ H Q) : PG X tg g' := ⟨fun pins s σ H v u Q I r h => p.run pins s σ H v u Q I r (i v σ H Q h)⟩
theorem pgs_imp {g g' : TGs} (p : PGs X es g) (i : ∀ v σ H Q, g' v σ H Q → g v σ H Q) : PGs X es g' := ⟨fun pins s σ H v u Q I r h => p.run pins s σ H v u Q I r (i v σ H Q h)⟩
end

/-! ### the readings -/
def WXp (mg : Str → Option Value) (W : WX) (σ : L2.St) : Str → List PV → Hp → Prop := fun c vs H' => ∀ cls d, XR mg c vs cls d → W cls d σ H'
section
variable (K : PySem.W.Frag) (mg : Str → Option Value) (W : WX)
def TEf (f : Env' → M PV) : TE := fun σ H Q => ∃ env ρ h, HR K mg ρ H h ∧ ER K mg ρ h.length H σ env ∧ Post K mg ρ H h.length (f env h) (QV K mg Q) (WXp mg W σ)
def TAf (f : Env' → M (List PV)) : TA := fun σ H Q => ∃ env ρ h, HR K mg ρ H h ∧ ER K mg ρ h.length H σ env ∧ Post K mg ρ H h.length (f env h) (fun ρ' H' h' vs => ∀ xs, RPs K mg ρ' h'.length H' xs vs → Q xs H') (WXp mg W σ)
def TTf (f : Env' → M Bool) : TT := fun σ H Q => ∃ env ρ h, HR K mg ρ H h ∧ ER K mg ρ h.length H σ env ∧ Post K mg ρ H h.length (f env h) (fun _ H' _ b => Q b H') (WXp mg W σ)
def TOf (f : Env' → M (Option Int)) : TO := fun σ H Q => ∃ env ρ h, HR K mg ρ H h ∧ ER K mg ρ h.length H σ env ∧ Post K mg ρ H h.length (f env h) (fun _ H' _ b => Q b H') (WXp mg W σ)
end
section
variable {K : PySem.W.Frag} {mg : Str → Option Value} {W : WX} {σ : L2.St} {H : Hp} {ρ : Nat → Addr} {h : PH} {env : Env'} {β : Type}
theorem TEf.seq {f : Env' → M PV} {k : PV → M β} {Qo : (Nat → Addr) → Hp → PH → β → Prop} {Rq : VK} (R : HR K mg ρ H h) (er : ER K mg ρ h.length H σ env)
    (p : Post K mg ρ H h.length (M.bind (f env) k h) Qo (WXp mg W σ))
    (g : ∀ ρ1 H1 h1 v x, Nx ρ H h.length ρ1 H1 h1.length → HR K mg ρ1 H1 h1 → ER K mg ρ1 h1.length H1 σ env → RP K mg ρ1 h1.length H1 x v → Post K mg ρ1 H1 h1.length (k v h1) Qo (WXp mg W σ) → Rq x H1) : TEf K mg W f σ H Rq :=
  ⟨env, ρ, h, R, er, p.bind.imp (fun ρ1 H1 h1 v nx R1 q x rx => g ρ1 H1 h1 v x nx R1 (er.nx nx) rx q) fun _ _ _ z => z⟩
theorem TAf.seq {f : Env' → M (List PV)} {k : List PV → M β} {Qo : (Nat → Addr) → Hp → PH → β → Prop} {Rq : List V → Hp → Prop} (R : HR K mg ρ H h) (er : ER K mg ρ h.length H σ env)
    (p : Post K mg ρ H h.length (M.bind (f env) k h) Qo (WXp mg W σ))
    (g : ∀ ρ1 H1 h1 v x, Nx ρ H h.length ρ1 H1 h1.length → HR K mg ρ1 H1 h1 → ER K mg ρ1 h1.length H1 σ env → RPs K mg ρ1 h1.length H1 x v → Post K mg ρ1 H1 h1.length (k v h1) Qo (WXp mg W σ) → Rq x H1) : TAf K mg W f σ H Rq :=
  ⟨env, ρ, h, R, er, p.bind.imp (fun ρ1 H1 h1 v nx R1 q x rx => g ρ1 H1 h1 v x nx R1 (er.nx nx) rx q) fun _ _ _ z => z⟩
theorem TTf.seq {f : Env' → M Bool} {k : Bool → M β} {Qo : (Nat → Addr) → Hp → PH → β → Prop} {Rq : Bool → Hp → Prop} (R : HR K mg ρ H h) (er : ER K mg ρ h.length H σ env)
    (p : Post K mg ρ H h.length (M.bind (f env) k h) Qo (WXp mg W σ))
    (g : ∀ ρ1 H1 h1 v, Nx ρ H h.length ρ1 H1 h1.length → HR K mg ρ1 H1 h1 → ER K mg ρ1 h1.length H1 σ env → Post K mg ρ1 H1 h1.length (k v h1) Qo (WXp mg W σ) → Rq v H1) : TTf K mg W f σ H Rq :=
  ⟨env, ρ, h, R, er, p.bind.imp (fun ρ1 H1 h1 v nx R1 q => g ρ1 H1 h1 v nx R1 (er.nx nx) q) fun _ _ _ z => z⟩
theorem TOf.seq {f : Env' → M (Option Int)} {k : Option Int → M β} {Qo : (Nat → Addr) → Hp → PH → β → Prop} {Rq : Option Int → Hp → Prop} (R : HR K mg ρ H h) (er : ER K mg ρ h.length H σ env)
    (p : Post K mg ρ H h.length (M.bind (f env) k h) Qo (WXp mg W σ))
    (g : ∀ ρ1 H1 h1 v, Nx ρ H h.length ρ1 H1 h1.length → HR K mg ρ1 H1 h1 → ER K mg ρ1 h1.length H1 σ env → Post K mg ρ1 H1 h1.length (k v h1) Qo (WXp mg W σ) → Rq v H1) : TOf K mg W f σ H Rq :=
  ⟨env, ρ, h, R, er, p.bind.imp (fun ρ1 H1 h1 v nx R1 q => g ρ1 H1 h1 v nx R1 (er.nx nx) q) fun _ _ _ z => z⟩
end

/-! ### expressions -/
section
variable {X : Cx} {W : WX} {a b c e : Expr} {es : List Expr} {fa fb fc : Env' → M PV} {fs : Env' → M (List PV)} {ft : Env' → M Bool} {pos p : Pos} {j : Nat}
abbrev RE (X : Cx) (W : WX) (e : Expr) (f : Env' → M PV) : Prop := PE X e (TEf X.K X.mg W f)
abbrev RA (X : Cx) (W : WX) (e : List Expr) (f : Env' → M (List PV)) : Prop := PA X e (TAf X.K X.mg W f)
abbrev RT (X : Cx) (W : WX) (e : Expr) (f : Env' → M Bool) : Prop := PT X e (TTf X.K X.mg W f)
abbrev RW (X : Cx) (W : WX) (e : Expr) (f : Env' → M Bool) : Prop := PW X e (TTf X.K X.mg W f)

theorem re_slot {i : Nat} {x : Str} (hN : X.N[i]? = some x) (hv : Vis X.env.scope x) (hd : (x == ("__debug__" : Str)) = false) (hcd : (x == ("__classdict__" : Str)) = false) :
    RE X W (.Name x pos) (fun env => M.opt (env.getD i none)) :=
  pe_imp (pe_var hN hv hd hcd) fun σ H Q ⟨env, ρ, h, R, er, p⟩ => by
    obtain ⟨v, e, q⟩ := Post.opt R p
    obtain ⟨x, h1, h2⟩ := er.getD e
    exact ⟨x, h1, q x h2⟩
theorem re_con_int {i : Int} : RE X W (.Constant (.int i) j pos) (fun _ => pure (.int i)) := pe_imp pe_int fun σ H Q ⟨env, ρ, h, R, er, p⟩ => Post.pure R p _ (.int _)
theorem re_con_bl {i : Bool} : RE X W (.Constant (.bool i) j pos) (fun _ => pure (.bl i)) := pe_imp pe_bl fun σ H Q ⟨env, ρ, h, R, er, p⟩ => Post.pure R p _ (.bl _)
theorem re_con_non : RE X W (.Constant .none j pos) (fun _ => pure .non) := pe_imp pe_non fun σ H Q ⟨env, ρ, h, R, er, p⟩ => Post.pure R p _ .non
theorem re_con_str {i : Str} : RE X W (.Constant (.str i) j pos) (fun _ => pure (.str i)) := pe_imp pe_str fun σ H Q ⟨env, ρ, h, R, er, p⟩ => Post.pure R p _ (.str _)
/-- a constant or def of the module: true in every heap -/
def KV' (K : PySem.W.Frag) (mg : Str → Option Value) (x : Str) (v : PV) : Prop := ∃ u y, mg x = some u ∧ RelV y u ∧ ∀ ρ n H, RP K mg ρ n H y v
theorem re_gl {x : Str} {o : Option PV} (hg : Gl X x) (hd : (x == ("__debug__" : Str)) = false) (hk : ∀ v, o = some v → KV' X.K X.mg x v) : RE X W (.Name x pos) (fun _ => M.opt o) := by
  cases o with
  | none => exact ⟨fun pins s σ H Q I ⟨env, ρ, h, R, er, p⟩ => (Post.stuck p).elim⟩
  | some v =>
    obtain ⟨u, y, hm, r, k⟩ := hk v rfl
    refine pe_imp (pe_glob hg hm r hd) fun σ H Q ⟨env, ρ, h, R, er, p⟩ => ?_
    obtain ⟨w, e, q⟩ := Post.opt R p
    cases e
    exact q _ (k _ _ _)
theorem re_bty {x : Str} {t : PTy} (hg : Gl X x) (hm : X.mg x = none) (hv : bootBuiltins x = some (.type t.name)) (hn : x ≠ "__name__") (hd : (x == ("__debug__" : Str)) = false) : RE X W (.Name x pos) (fun _ => pure (.ty t)) :=
  pe_imp (pe_bltn (v := .ty t.name) hg hm hv rfl hn hd) fun σ H Q ⟨env, ρ, h, R, er, p⟩ => Post.pure R p _ (.ty _)

theorem ra_nil : RA X W [] (fun _ => pure []) := pa_imp pa_nil fun σ H Q ⟨env, ρ, h, R, er, p⟩ => Post.pure R p _ .nil
theorem ra_cons (ha : RE X W e fa) (hs : RA X W es fs) (hst : starEach (e :: es) X.env = (false, eval e X.env) :: starEach es X.env) :
    RA X W (e :: es) (fun env => do let v ← fa env; let vs ← fs env; pure (v :: vs)) :=
  pa_imp (pa_cons ha hs hst) fun σ H Q ⟨env, ρ, h, R, er, p⟩ => TEf.seq R er p fun ρ1 H1 h1 v x nx1 R1 er1 rx p1 => TAf.seq R1 er1 p1 fun ρ2 H2 h2 vs xs nx2 R2 er2 rs p2 => Post.pure R2 p2 _ (.cons (rx.nx nx2) rs)
theorem re_tup {k : Nat} (hs : RA X W es fs) : RE X W (.Tuple es k pos) (fun env => do let vs ← fs env; if vs.length ≤ sizeLine then pure (.tup vs) else M.stop) :=
  pe_imp (pe_tup hs) fun σ H Q ⟨env, ρ, h, R, er, p⟩ => TAf.seq R er p fun ρ1 H1 h1 v x nx1 R1 er1 rx p1 => by
    obtain ⟨hc, p2⟩ := Post.ite p1
    refine ⟨by rw [rx.length]; exact hc, fun l hl => ?_⟩
    obtain ⟨r, q⟩ := Post.tupN R1 p2 hl rx
    exact q _ r
theorem re_lst (hs : RA X W es fs) : RE X W (.List es pos) (fun env => do let vs ← fs env; if vs.length ≤ sizeLine then newO (.lst .own vs) else M.stop) :=
  pe_imp (pe_lst hs) fun σ H Q ⟨env, ρ, h, R, er, p⟩ => TAf.seq R er p fun ρ1 H1 h1 v x nx1 R1 er1 rx p1 => by
    obtain ⟨hc, p2⟩ := Post.ite p1
    refine ⟨by rw [rx.length]; exact hc, fun l hl => ?_⟩
    obtain ⟨ρ', h', r, q⟩ := Post.newO R1 p2 hl (u := .lst x) ⟨_, upd_same, (rx.nx (.new hl (o := .lst .own v)))|> fun z => by simpa using z⟩
    exact q _ r
theorem re_bin {o : BOp} (ha : RE X W a fa) (hb : RE X W b fb) : RE X W (.BinOp a (bo o) b pos) (fun env => do let x ← fa env; let y ← fb env; binM o x y) :=
  pe_imp (pe_op (opB o) ha hb) fun σ H Q ⟨env, ρ, h, R, er, p⟩ => TEf.seq R er p fun ρ1 H1 h1 v x nx1 R1 er1 rx p1 => TEf.seq R1 er1 p1 fun ρ2 H2 h2 w y nx2 R2 er2 ry p2 =>
    ⟨v, w, ρ2, h2, _, R2, rx.nx nx2, ry, p2⟩
theorem re_neg (ha : RE X W a fa) : RE X W (.UnaryOp .USub a pos) (fun env => do let x ← fa env; match x with | .int i => pure (.int (-i)) | _ => M.stop) :=
  pe_imp (pe_un un_neg ha) fun σ H Q ⟨env, ρ, h, R, er, p⟩ => TEf.seq R er p fun ρ1 H1 h1 v x nx1 R1 er1 rx p1 => by
    cases v with
    | int i => cases rx; exact ⟨i, rfl, Post.pure R1 p1 _ (.int _)⟩
    | _ => exact (Post.stuck p1).elim
theorem co_mark {o : COp} (b : Expr) (h : ∀ es k q, b ≠ .Set es k q) : behindInMarks (co o) b = false := by
  cases b <;> first | rfl | exact absurd rfl (h _ _ _)
theorem re_cmp {o : COp} (hu : X.A.units + 64 < cLine) (ha : RE X W a fa) (hb : RE X W b fb) (hm : behindInMarks (co o) b = false) : RE X W (.Compare a [co o] [b] pos) (fun env => do let x ← fa env; let y ← fb env; cmpM o x y) :=
  pe_imp (pe_cmpR (opC hu o) ha hb hm) fun σ H Q ⟨env, ρ, h, R, er, p⟩ => TEf.seq R er p fun ρ1 H1 h1 v x nx1 R1 er1 rx p1 => TEf.seq R1 er1 p1 fun ρ2 H2 h2 w y nx2 R2 er2 ry p2 =>
    ⟨v, w, ρ2, h2, _, R2, rx.nx nx2, ry, p2⟩
theorem rt_cmp {o : COp} (hu : X.A.units + 64 < cLine) (ha : RE X W a fa) (hb : RE X W b fb) (hm : behindInMarks (co o) b = false) : RT X W (.Compare a [co o] [b] pos) (fun env => do let x ← fa env; let y ← fb env; let z ← cmpM o x y; M.opt (blP z)) :=
  pt_imp (pt_cmpR (opC hu o) ha hb hm) fun σ H Q ⟨env, ρ, h, R, er, p⟩ => TEf.seq R er p fun ρ1 H1 h1 v x nx1 R1 er1 rx p1 => TEf.seq R1 er1 p1 fun ρ2 H2 h2 w y nx2 R2 er2 ry p2 =>
    ⟨v, w, ρ2, h2, _, R2, rx.nx nx2, ry, p2.bind.imp (fun ρ3 H3 h3 z nx3 R3 q x rx => by
      obtain ⟨b, e, q2⟩ := Post.opt R3 q
      cases z with
      | bl b' => cases e; cases rx; exact ⟨_, rfl, q2⟩
      | _ => cases e) fun _ _ _ z => z⟩
theorem re_chain {o o' : COp} (hu : X.A.units + 64 < cLine) (ha : RE X W a fa) (hb : RE X W b fb) (hc : RE X W c fc) (hm : lastMarks [co o, co o'] [b, c] = false) :
    RE X W (.Compare a [co o, co o'] [b, c] pos) (fun env => do
      let x ← fa env
      let y ← fb env
      let z ← cmpM o x y
      match z with
      | .bl true => do
        let w ← fc env
        cmpM o' y w
      | .bl false => pure (.bl false)
      | _ => M.stop) :=
  pe_imp (pe_chain (opC hu o) (opC hu o') ha hb hc hm) fun σ H Q ⟨env, ρ, h, R, er, p⟩ => TEf.seq R er p fun ρ1 H1 h1 v x nx1 R1 er1 rx p1 => TEf.seq R1 er1 p1 fun ρ2 H2 h2 w y nx2 R2 er2 ry p2 =>
    ⟨v, w, ρ2, h2, _, R2, rx.nx nx2, ry, p2.bind.imp (fun ρ3 H3 h3 z nx3 R3 q zx rz => by
      cases z with
      | bl b' =>
        cases rz
        refine ⟨b', rfl, ?_⟩
        cases b' with
        | true =>
          rw [if_pos rfl]
          exact TEf.seq R3 (er2.nx nx3) q fun ρ4 H4 h4 w' y' nx4 R4 er4 ry' p4 => ⟨w, w', ρ4, h4, _, R4, (ry.nx nx3).nx nx4, ry', p4⟩
        | false =>
          rw [if_neg Bool.false_ne_true]
          exact Post.pure R3 q _ (.bl _)
      | _ => exact (Post.stuck q).elim) fun _ _ _ z => z⟩
theorem rt_chain {o o' : COp} (hu : X.A.units + 64 < cLine) (ha : RE X W a fa) (hb : RE X W b fb) (hc : RE X W c fc) (hm : lastMarks [co o, co o'] [b, c] = false) :
    RT X W (.Compare a [co o, co o'] [b, c] pos) (fun env => do
      let x ← fa env
      let y ← fb env
      let z ← cmpM o x y
      match z with
      | .bl true => do
        let w ← fc env
        let z' ← cmpM o' y w
        M.opt (blP z')
      | .bl false => pure false
      | _ => M.stop) :=
  pt_imp (pt_chain (opC hu o) (opC hu o') ha hb hc hm) fun σ H Q ⟨env, ρ, h, R, er, p⟩ => TEf.seq R er p fun ρ1 H1 h1 v x nx1 R1 er1 rx p1 => TEf.seq R1 er1 p1 fun ρ2 H2 h2 w y nx2 R2 er2 ry p2 =>
    ⟨v, w, ρ2, h2, _, R2, rx.nx nx2, ry, p2.bind.imp (fun ρ3 H3 h3 z nx3 R3 q zx rz => by
      cases z with
      | bl b' =>
        cases rz
        refine ⟨b', rfl, ?_⟩
        cases b' with
        | true =>
          rw [if_pos rfl]
          exact TEf.seq R3 (er2.nx nx3) q fun ρ4 H4 h4 w' y' nx4 R4 er4 ry' p4 => ⟨w, w', ρ4, h4, _, R4, (ry.nx nx3).nx nx4, ry', p4.bind.imp (fun ρ5 H5 h5 z nx5 R5 q x rx => by
            obtain ⟨b, e, q2⟩ := Post.opt R5 q
            cases z with
            | bl b' => cases e; cases rx; exact ⟨_, rfl, q2⟩
            | _ => cases e) fun _ _ _ z => z⟩
        | false =>
          rw [if_neg Bool.false_ne_true]
          exact ⟨false, rfl, Post.pure R3 q⟩
      | _ => exact (Post.stuck q).elim) fun _ _ _ z => z⟩
theorem Post.tru {K : PySem.W.Frag} {mg : Str → Option Value} {ρ : Nat → Addr} {H : Hp} {h : PH} {x : V} {v : PV} {β : Type} {k : Bool → M β} {Q : (Nat → Addr) → Hp → PH → β → Prop} {Wx : Str → List PV → Hp → Prop} (R : HR K mg ρ H h) (r : RP K mg ρ h.length H x v)
    (p : Post K mg ρ H h.length (M.bind (truthM v) k h) Q Wx) : ∃ b, TruV K x H b ∧ Post K mg ρ H h.length (k b h) Q Wx := by
  obtain ⟨b, e, q⟩ := Post.read R (Post.bind p)
  exact ⟨b, tru_rp R r e, q⟩
theorem Post.tru1 {K : PySem.W.Frag} {mg : Str → Option Value} {ρ : Nat → Addr} {H : Hp} {h : PH} {x : V} {v : PV} {Q : (Nat → Addr) → Hp → PH → Bool → Prop} {Wx : Str → List PV → Hp → Prop} (R : HR K mg ρ H h) (r : RP K mg ρ h.length H x v)
    (p : Post K mg ρ H h.length (truthM v h) Q Wx) : ∃ b, TruV K x H b ∧ Q ρ H h b := by
  obtain ⟨b, e, q⟩ := Post.read R p
  exact ⟨b, tru_rp R r e, q⟩
theorem re_not (ha : RE X W a fa) : RE X W (.UnaryOp .Not a pos) (fun env => do let x ← fa env; let b ← truthM x; pure (.bl (!b))) :=
  pe_imp (pe_notT ha) fun σ H Q ⟨env, ρ, h, R, er, p⟩ => TEf.seq R er p fun ρ1 H1 h1 v x nx1 R1 er1 rx p1 => by
    obtain ⟨b, t, q⟩ := Post.tru R1 rx p1
    exact ⟨b, t, Post.pure R1 q _ (.bl _)⟩
theorem re_and1 {op : BoolOp} (ha : RE X W a fa) : RE X W (.BoolOp op [a] pos) fa := pe_one ha
theorem re_and (ha : RE X W a fa) (hb : RE X W (.BoolOp .And (b :: es) pos) fb) : RE X W (.BoolOp .And (a :: b :: es) pos) (fun env => do let v ← fa env; let t ← truthM v; if t then fb env else pure v) :=
  pe_imp (pe_andT ha hb) fun σ H Q ⟨env, ρ, h, R, er, p⟩ => TEf.seq R er p fun ρ1 H1 h1 v x nx1 R1 er1 rx p1 => by
    obtain ⟨b, t, q⟩ := Post.tru R1 rx p1
    refine ⟨b, t, ?_⟩
    cases b with
    | true => exact ⟨env, ρ1, h1, R1, er1, q⟩
    | false => exact Post.pure R1 q _ rx
theorem re_or (ha : RE X W a fa) (hb : RE X W (.BoolOp .Or (b :: es) pos) fb) : RE X W (.BoolOp .Or (a :: b :: es) pos) (fun env => do let v ← fa env; let t ← truthM v; if t then pure v else fb env) :=
  pe_imp (pe_orT ha hb) fun σ H Q ⟨env, ρ, h, R, er, p⟩ => TEf.seq R er p fun ρ1 H1 h1 v x nx1 R1 er1 rx p1 => by
    obtain ⟨b, t, q⟩ := Post.tru R1 rx p1
    refine ⟨b, t, ?_⟩
    cases b with
    | true => exact Post.pure R1 q _ rx
    | false => exact ⟨env, ρ1, h1, R1, er1, q⟩
theorem re_ife (hc : RT X W c ft) (ha : RE X W a fa) (hb : RE X W b fb) : RE X W (.IfExp c a b pos) (fun env => do let t ← ft env; if t then fa env else fb env) :=
  pe_imp (pe_ifExp hc ha hb) fun σ H Q ⟨env, ρ, h, R, er, p⟩ => TTf.seq R er p fun ρ1 H1 h1 t nx1 R1 er1 p1 => by
    cases t with
    | true => exact ⟨env, ρ1, h1, R1, er1, p1⟩
    | false => exact ⟨env, ρ1, h1, R1, er1, p1⟩

/-! ### tests -/
theorem rt_def (ha : RE X W a fa) (he : ∀ whole, isTrue a X.env whole = (do let v ← whole; standAt a.pos; holding [v] (truthy v))) : RT X W a (fun env => do let x ← fa env; truthM x) :=
  pt_imp (pt_truth ha he) fun σ H Q ⟨env, ρ, h, R, er, p⟩ => TEf.seq R er p fun ρ1 H1 h1 v x nx1 R1 er1 rx p1 => Post.tru1 R1 rx p1
theorem rt_not {f : Env' → M Bool} (ha : RT X W a f) : RT X W (.UnaryOp .Not a pos) (fun env => do let b ← f env; pure (!b)) :=
  pt_imp (pt_not ha) fun σ H Q ⟨env, ρ, h, R, er, p⟩ => TTf.seq R er p fun ρ1 H1 h1 t nx1 R1 er1 p1 => Post.pure R1 p1
theorem rw_and0 : RW X W (.BoolOp .And [] pos) (fun _ => pure true) :=
  ⟨fun wh pins s σ H Q I ⟨env, ρ, h, R, er, p⟩ => isTrue_and_nil ⟨H, I, Post.pure R p⟩⟩
theorem rw_or0 : RW X W (.BoolOp .Or [] pos) (fun _ => pure false) :=
  ⟨fun wh pins s σ H Q I ⟨env, ρ, h, R, er, p⟩ => isTrue_or_nil ⟨H, I, Post.pure R p⟩⟩
theorem rw_and {f g : Env' → M Bool} (ha : RT X W a f) (hb : RW X W (.BoolOp .And es pos) g) : RW X W (.BoolOp .And (a :: es) pos) (fun env => do let b ← f env; if b then g env else pure false) := by
  refine ⟨fun wh pins s σ H Q I ⟨env, ρ, h, R, er, p⟩ => ?_⟩
  have q : TTf X.K X.mg W f σ H (fun b H1 => if b = true then TTf X.K X.mg W g σ H1 Q else Q false H1) := TTf.seq R er p fun ρ1 H1 h1 t nx1 R1 er1 p1 => by
    cases t with
    | true => exact ⟨env, ρ1, h1, R1, er1, p1⟩
    | false => exact Post.pure R1 p1
  refine isTrue_and (thn (ha.run pins s σ H _ I q) fun c s1 ⟨H1, I1, q1⟩ => ?_)
  cases c with
  | true => exact hb.run wh pins s1 σ H1 Q I1 q1
  | false => exact ⟨H1, I1, q1⟩
theorem rw_or {f g : Env' → M Bool} (ha : RT X W a f) (hb : RW X W (.BoolOp .Or es pos) g) : RW X W (.BoolOp .Or (a :: es) pos) (fun env => do let b ← f env; if b then pure true else g env) := by
  refine ⟨fun wh pins s σ H Q I ⟨env, ρ, h, R, er, p⟩ => ?_⟩
  have q : TTf X.K X.mg W f σ H (fun b H1 => if b = true then Q true H1 else TTf X.K X.mg W g σ H1 Q) := TTf.seq R er p fun ρ1 H1 h1 t nx1 R1 er1 p1 => by
    cases t with
    | true => exact Post.pure R1 p1
    | false => exact ⟨env, ρ1, h1, R1, er1, p1⟩
  refine isTrue_or (thn (ha.run pins s σ H _ I q) fun c s1 ⟨H1, I1, q1⟩ => ?_)
  cases c with
  | true => exact ⟨H1, I1, q1⟩
  | false => exact hb.run wh pins s1 σ H1 Q I1 q1
theorem rt_ife {f g k : Env' → M Bool} (hc : RT X W c f) (ha : RT X W a g) (hb : RT X W b k) : RT X W (.IfExp c a b pos) (fun env => do let t ← f env; if t then g env else k env) := by
  refine ⟨fun pins s σ H Q I ⟨env, ρ, h, R, er, p⟩ => ?_⟩
  have q : TTf X.K X.mg W f σ H (fun t H1 => if t = true then TTf X.K X.mg W g σ H1 Q else TTf X.K X.mg W k σ H1 Q) := TTf.seq R er p fun ρ1 H1 h1 t nx1 R1 er1 p1 => by
    cases t with
    | true => exact ⟨env, ρ1, h1, R1, er1, p1⟩
    | false => exact ⟨env, ρ1, h1, R1, er1, p1⟩
  show wpAny _ _ (do if ← isTrue c X.env (eval c X.env) then isTrue a X.env (eval a X.env) else isTrue b X.env (eval b X.env)) _ _ _
  refine wpAny_bind (thn (hc.run pins s σ H _ I q) fun t s1 ⟨H1, I1, q1⟩ => ?_)
  cases t with
  | true => exact ha.run pins s1 σ H1 Q I1 q1
  | false => exact hb.run pins s1 σ H1 Q I1 q1

/-! ### calls, places, slices, methods -/
theorem re_callB {x : Str} {id : String} {g : List PV → M PV} (hc : CallR X (.builtin id) (rC X.K X.mg g)) (hg : Gl X x) (hm : X.mg x = none) (hv : bootBuiltins x = some (.builtin id)) (ha : RA X W (e :: es) fs) (hn : x ≠ "__name__") (hdb : (x == ("__debug__" : Str)) = false)
    (he : starEach (e :: es) X.env = (false, eval e X.env) :: starEach es X.env) (hpl : (backTo pos (starEach es X.env)).any (·.1) = false) : RE X W (.Call (.Name x p) (e :: es) [] pos) (fun env => do let vs ← fs env; g vs) :=
  pe_imp (pe_callB hc hg hm hv ha hn hdb he hpl) fun σ H Q ⟨env, ρ, h, R, er, p⟩ => TAf.seq R er p fun ρ1 H1 h1 v x nx1 R1 er1 rx p1 => ⟨v, ρ1, h1, _, R1, rx, p1⟩
theorem re_callTy {x : Str} {T : String} {g : List PV → M PV} (hc : CallR X (.type T) (rC X.K X.mg g)) (hg : Gl X x) (hm : X.mg x = none) (hv : bootBuiltins x = some (.type T)) (ha : RA X W (e :: es) fs) (hn : x ≠ "__name__") (hdb : (x == ("__debug__" : Str)) = false)
    (he : starEach (e :: es) X.env = (false, eval e X.env) :: starEach es X.env) (hpl : (backTo pos (starEach es X.env)).any (·.1) = false) : RE X W (.Call (.Name x p) (e :: es) [] pos) (fun env => do let vs ← fs env; g vs) :=
  pe_imp (pe_callTy hc hg hm hv ha hn hdb he hpl) fun σ H Q ⟨env, ρ, h, R, er, p⟩ => TAf.seq R er p fun ρ1 H1 h1 v x nx1 R1 er1 rx p1 => ⟨v, ρ1, h1, _, R1, rx, p1⟩
theorem re_callG {x : Str} {id : String} {g : List PV → M PV} (hc : CallR X (.builtin id) (rC X.K X.mg g)) (hg : Gl X x) (hm : X.mg x = some (.builtin id)) (ha : RA X W (e :: es) fs) (hdb : (x == ("__debug__" : Str)) = false)
    (he : starEach (e :: es) X.env = (false, eval e X.env) :: starEach es X.env) (hpl : (backTo pos (starEach es X.env)).any (·.1) = false) : RE X W (.Call (.Name x p) (e :: es) [] pos) (fun env => do let vs ← fs env; g vs) :=
  pe_imp (pe_callBfun hc hg hm ha hdb he hpl) fun σ H Q ⟨env, ρ, h, R, er, p⟩ => TAf.seq R er p fun ρ1 H1 h1 v x nx1 R1 er1 rx p1 => ⟨v, ρ1, h1, _, R1, rx, p1⟩
theorem re_isi {x y : Str} {t : PTy} {p2 : Pos} (ha : RE X W a fa) (hg : Gl X x) (hm : X.mg x = none) (hv : bootBuiltins x = some (.builtin "isinstance")) (hn : x ≠ "__name__") (hdb : (x == ("__debug__" : Str)) = false)
    (hg2 : Gl X y) (hm2 : X.mg y = none) (hv2 : bootBuiltins y = some (.type t.name)) (hn2 : y ≠ "__name__") (hd2 : (y == ("__debug__" : Str)) = false)
    (he : starEach (a :: [.Name y p2]) X.env = (false, eval a X.env) :: starEach [.Name y p2] X.env) : RE X W (.Call (.Name x p) [a, .Name y p2] [] pos) (fun env => do let x ← fa env; let c ← readM fun h => tyP h x; pure (.bl (c.sub t))) :=
  pe_imp (pe_callB call_isi hg hm hv (pa_cons ha (pa_cons (pe_bltn (v := .ty t.name) hg2 hm2 hv2 rfl hn2 hd2) pa_nil) he) hn hdb he rfl) fun σ H Q ⟨env, ρ, h, R, er, p⟩ => TEf.seq R er p fun ρ1 H1 h1 v x nx1 R1 er1 rx p1 => by
    obtain ⟨c, e, q⟩ := Post.read R1 (Post.bind p1)
    exact ⟨x, .ty t.name, _, _, _, rfl, .ty t.name, tyX_rp R1 rx e, kit_ty (kit_pty c t), Post.pure R1 q _ (.bl _)⟩
theorem re_sub (ha : RE X W a fa) (hb : RE X W b fb) (hs : PlainIx b) : RE X W (.Subscript a b pos) (fun env => do let x ← fa env; let y ← fb env; ixM x y) :=
  pe_imp (pe_ix ixB ha hb hs) fun σ H Q ⟨env, ρ, h, R, er, p⟩ => TEf.seq R er p fun ρ1 H1 h1 v x nx1 R1 er1 rx p1 => TEf.seq R1 er1 p1 fun ρ2 H2 h2 w y nx2 R2 er2 ry p2 =>
    ⟨v, w, ρ2, h2, _, R2, rx.nx nx2, ry, p2⟩
/-! dicts -/
theorem re_dget (hu : X.A.units + 64 < cLine) (ha : RE X W a fa) (hb : RE X W b fb) (hs : NoSl b) : RE X W (.Subscript a b pos) (fun env => do let x ← fa env; let y ← fb env; dgetM x y) :=
  pe_imp (pe_dget (by omega) ha hb hs) fun σ H Q ⟨env, ρ, h, R, er, p⟩ => TEf.seq R er p fun ρ1 H1 h1 v x nx1 R1 er1 rx p1 => TEf.seq R1 er1 p1 fun ρ2 H2 h2 w y nx2 R2 er2 ry p2 => by
    obtain ⟨kvs, e1, p3⟩ := Post.read R2 (Post.bind p2)
    obtain ⟨k, e2, p4⟩ := Post.opt R2 (Post.bind p3)
    obtain ⟨z, e3, q⟩ := Post.opt R2 p4
    obtain ⟨i, xs, _, ex, _, g1, g2⟩ := R2.dct (rx.nx nx2) e1
    obtain ⟨xz, g3, g4⟩ := (valP_rp g2).1 z e3
    have ey := key_rp ry e2
    subst ey ex
    exact ⟨_, xz, rfl, by rw [← g3]; exact DGet.k g1, q _ g4⟩
theorem re_cmpD {neg : Bool} (hu : X.A.units + 64 < cLine) (ha : RE X W a fa) (hb : RE X W b fb) (hm : behindInMarks (if neg then .NotIn else .In) b = false) : RE X W (.Compare a [if neg then .NotIn else .In] [b] pos) (fun env => do let x ← fa env; let y ← fb env; dinM neg x y) := by
  have go : ∀ {σ : L2.St} {H : Hp} {Q : VK}, TEf X.K X.mg W (fun env => do let x ← fa env; let y ← fb env; dinM neg x y) σ H Q → TEf X.K X.mg W fa σ H fun y H1 => TEf X.K X.mg W fb σ H1 fun x H2 => ∃ a o, x = .ref a ∧ DGet H2 a y o ∧ Q (.bl (if neg then !o.isSome else o.isSome)) H2 := fun ⟨env, ρ, h, R, er, p⟩ => TEf.seq R er p fun ρ1 H1 h1 v x nx1 R1 er1 rx p1 => TEf.seq R1 er1 p1 fun ρ2 H2 h2 w y nx2 R2 er2 ry p2 => by
    obtain ⟨kvs, e1, p3⟩ := Post.read R2 (Post.bind p2)
    obtain ⟨k, e2, p4⟩ := Post.opt R2 (Post.bind p3)
    have q := Post.pure R2 p4
    obtain ⟨i, xs, _, ex, _, g1, g2⟩ := R2.dct ry e1
    have ey := key_rp (rx.nx nx2) e2
    subst ey ex
    have es : (valV xs k).isSome = (valP kvs k).isSome := by
      cases e3 : valP kvs k with
      | none => rw [(valP_rp g2).2 e3]; rfl
      | some z => obtain ⟨xz, g3, g4⟩ := (valP_rp g2).1 z e3; rw [g3]; rfl
    exact ⟨_, valV xs k, rfl, DGet.k g1, by rw [es]; exact q _ (.bl _)⟩
  cases neg with
  | true => exact pe_imp (pe_cmp (pc_dnotin (by omega) ha hb) hm) fun σ H Q hh => go hh
  | false => exact pe_imp (pe_cmp (pc_din (by omega) ha hb) hm) fun σ H Q hh => go hh
theorem rt_cmpD {neg : Bool} (hu : X.A.units + 64 < cLine) (ha : RE X W a fa) (hb : RE X W b fb) (hm : behindInMarks (if neg then .NotIn else .In) b = false) : RT X W (.Compare a [if neg then .NotIn else .In] [b] pos) (fun env => do let x ← fa env; let y ← fb env; let z ← dinM neg x y; M.opt (blP z)) := by
  have go : ∀ {σ : L2.St} {H : Hp} {Q : Bool → Hp → Prop}, TTf X.K X.mg W (fun env => do let x ← fa env; let y ← fb env; let z ← dinM neg x y; M.opt (blP z)) σ H Q → TEf X.K X.mg W fa σ H fun y H1 => TEf X.K X.mg W fb σ H1 fun x H2 => ∃ a o, x = .ref a ∧ DGet H2 a y o ∧ ∃ c, V.bl (if neg then !o.isSome else o.isSome) = .bl c ∧ Q c H2 := fun ⟨env, ρ, h, R, er, p⟩ => TEf.seq R er p fun ρ1 H1 h1 v x nx1 R1 er1 rx p1 => TEf.seq R1 er1 p1 fun ρ2 H2 h2 w y nx2 R2 er2 ry p2 => by
    have p2 := Post.bind p2
    obtain ⟨kvs, e1, p3⟩ := Post.read R2 (Post.bind p2)
    obtain ⟨k, e2, p4⟩ := Post.opt R2 (Post.bind p3)
    have q := Post.pure R2 p4
    obtain ⟨i, xs, _, ex, _, g1, g2⟩ := R2.dct ry e1
    have ey := key_rp (rx.nx nx2) e2
    subst ey ex
    have es : (valV xs k).isSome = (valP kvs k).isSome := by
      cases e3 : valP kvs k with
      | none => rw [(valP_rp g2).2 e3]; rfl
      | some z => obtain ⟨xz, g3, g4⟩ := (valP_rp g2).1 z e3; rw [g3]; rfl
    obtain ⟨c, ec, q⟩ := Post.opt R2 q
    exact ⟨_, valV xs k, rfl, DGet.k g1, c, by rw [es]; cases ec; rfl, q⟩
  cases neg with
  | true => exact pt_imp (pt_cmp (pc_dnotin (by omega) ha hb) hm) fun σ H Q hh => go hh
  | false => exact pt_imp (pt_cmp (pc_din (by omega) ha hb) hm) fun σ H Q hh => go hh
theorem lrg_rp {Q : VK} {vs : List PV} {lo hi : Int} {σ : L2.St} {H : Hp} {ρ : Nat → Addr} {h : PH} {Wx : Str → List PV → Hp → Prop} (R : HR X.K X.mg ρ H h) (b : -(2 ^ 62) ≤ lo ∧ lo < 2 ^ 62 ∧ -(2 ^ 62) ≤ hi ∧ hi < 2 ^ 62)
    (p : Post X.K X.mg ρ H h.length ((if (hi - lo).toNat ≤ 16777216 then newO (.lst .own ((List.range (hi - lo).toNat).map fun i => .int (lo + (i : Nat)))) else M.stop : M PV) h) (QV X.K X.mg Q) Wx) : RgOk lo hi ∧ ∀ q, H q = none → Q (.ref q) (upd H q (.lst (rgV lo hi))) := by
  obtain ⟨hc, p⟩ := Post.ite p
  refine ⟨⟨b.1, b.2.1, b.2.2.1, b.2.2.2, hc⟩, fun q hq => ?_⟩
  have rr : ∀ {ρ : Nat → Addr} {n : Nat} {H : Hp} (l : List Nat), RPs X.K X.mg ρ n H (l.map fun i => V.int (lo + (i : Nat))) (l.map fun i => PV.int (lo + (i : Nat))) := fun {ρ n H} l => by
    induction l with
    | nil => exact .nil
    | cons i l ih => exact .cons (.int _) ih
  obtain ⟨ρ', h', r, q2⟩ := Post.newO R p hq (u := .lst (rgV lo hi)) ⟨_, upd_same, rr _⟩
  exact q2 _ r
/-- len(set(xs)) of ints -/
def tLSet (K : PySem.W.Frag) (ta : TE) : TE := fun σ H Q => ta σ H fun x H1 => ∃ (l : Addr) (ns : List Int), x = .ref l ∧ SqL K H1 l (ns.map V.int) ∧ ns.length ≤ 4000 ∧ Q (.int (distI ns : Nat)) H1
theorem distI_le {ns : List Int} : distI ns ≤ ns.length := PyProof.Rows.firstMet_length_le _ _
theorem pe_lset {a : Expr} {ta : TE} {p p2 q2 : Pos} (hc : X.calm = true) (hg : Gl X "len") (hm : X.mg "len" = none) (hg2 : Gl X "set") (hm2 : X.mg "set" = none) (ha : PE X a ta) (na : starEach [a] X.env = (false, eval a X.env) :: starEach [] X.env) :
    PE X (.Call (.Name "len" p) [.Call (.Name "set" p2) [a] [] q2] [] pos) (tLSet X.K ta) := by
  refine ⟨fun pins s σ H Q I h => ?_⟩
  refine Call_ (ld_blt I hg hm boot_len ?_)
  refine PyProof.Rows.callWith_builtin1 (PyProof.Rows.args_cons ?_ rfl) rfl rfl
  refine Call_ (ld_blt I hg2 hm2 boot_set ?_)
  refine PyProof.Rows.callWith_type1 (PyProof.Rows.args_cons (thn (ha.run pins s σ H _ I h) fun v s1 ⟨x, H1, I1, r1, q1⟩ => PyProof.Rows.args_nil ?_) na) na rfl
  obtain ⟨l, ns, rfl, hq, hl, q1⟩ := q1
  cases r1
  obtain ⟨its, r, pl, hz⟩ := I1.list hq
  have hlen : its.toArray.size = ns.length := by rw [List.size_toArray, ← r.length, List.length_map]
  refine call_set_list (I1.ok.hd hc) pl.isList (by simpa using RZ.intsAre_vals r) (by rw [hlen]; unfold scanBound; omega) fun h' tk hS hk => ?_
  refine PyProof.Rows.args_nil ?_
  rw [hlen] at hS
  obtain ⟨o, es, ep, t, ho, hex, hd, _, _, _, hf, hn⟩ := hS
  have I2 : Inv X pins σ H1 { s1 with heap := h', toks := tk } := I1.kept fun b o e => hk b o (Heap.lt_size e) e
  have hn2 : es.size = distI ns := hn
  have hle := distI_le (ns := ns)
  exact call_len_set ho hex hd hf (by rw [hn2] <;> omega) ⟨.int (distI ns : Nat), H1, I2.tok _, ⟨_, by rw [hn2]⟩, q1⟩
theorem re_lset {p p2 q2 : Pos} (hc : X.calm = true) (hg : Gl X "len") (hm : X.mg "len" = none) (hg2 : Gl X "set") (hm2 : X.mg "set" = none) (ha : RE X W a fa) (na : starEach [a] X.env = (false, eval a X.env) :: starEach [] X.env) :
    RE X W (.Call (.Name "len" p) [.Call (.Name "set" p2) [a] [] q2] [] pos) (fun env => do let v ← fa env; lsetM v) :=
  pe_imp (pe_lset hc hg hm hg2 hm2 ha na) fun σ H Q ⟨env, ρ, h, R, er, p⟩ => TEf.seq R er p fun ρ1 H1 h1 v x nx1 R1 er1 rx p1 => by
    obtain ⟨ns, e, p2⟩ := Post.read R1 (Post.bind p1)
    cases e1 : lstP h1 v with
    | none => rw [e1] at e; cases e
    | some ws =>
      rw [e1] at e
      have e : intsP ws = some ns := e
      obtain ⟨hl, p3⟩ := Post.ite p2
      obtain ⟨a, ys, rfl, k1, k2⟩ := R1.lstQ rx e1
      have := ints_rp k2 e
      subst this
      exact ⟨a, ns, rfl, k1, hl, Post.pure R1 p3 _ (.int _)⟩
theorem small_of' {i : Int} (h : smallI i = true) : -(2 ^ 62) ≤ i ∧ i < 2 ^ 62 := of_decide_eq_true h
theorem re_lrg1 {p p2 q2 : Pos} (hc : X.calm = true) (hg : Gl X "list") (hm : X.mg "list" = none) (hg2 : Gl X "range") (hm2 : X.mg "range" = none) (ha : RE X W a fa) (na : starEach [a] X.env = (false, eval a X.env) :: starEach [] X.env) :
    RE X W (.Call (.Name "list" p) [.Call (.Name "range" p2) [a] [] q2] [] pos) (fun env => do let v ← fa env; lrgM [v]) :=
  pe_imp (pe_listRg hc hg hm (prg_1 hg2 hm2 ha na) rfl) fun σ H Q ⟨env, ρ, h, R, er, p⟩ => TEf.seq R er p fun ρ1 H1 h1 v x nx1 R1 er1 rx p1 => by
    cases v with
    | int j =>
      cases rx
      have p1 : Post X.K X.mg ρ1 H1 h1.length (M.bind (if smallI j then M.ret (Itr.rng 0 j.toNat) else M.stop) (fun it => match it with
        | .rng lo n => if n ≤ 16777216 then newO (.lst .own ((List.range n).map fun i => .int (lo + (i : Nat)))) else M.stop
        | _ => M.stop) h1) (QV X.K X.mg Q) (WXp X.mg W σ) := p1
      obtain ⟨hc, p2⟩ := Post.ite (Post.bind p1)
      have p3 := Post.pure R1 p2
      obtain ⟨b1, b2⟩ := small_of' hc
      have e : (j - 0).toNat = j.toNat := by rw [Int.sub_zero]
      exact ⟨j, rfl, lrg_rp (lo := 0) (hi := j) (vs := []) (σ := σ) R1 ⟨by decide, by decide, b1, b2⟩ (by rw [e]; exact p3)⟩
    | _ => exact (Post.stuck p1).elim
theorem re_lrg2 {p p2 q2 : Pos} (hc : X.calm = true) (hg : Gl X "list") (hm : X.mg "list" = none) (hg2 : Gl X "range") (hm2 : X.mg "range" = none) (ha : RE X W a fa) (hb : RE X W b fb) (na : starEach [a, b] X.env = (false, eval a X.env) :: starEach [b] X.env) (nb : starEach [b] X.env = (false, eval b X.env) :: starEach [] X.env) (hp : (backTo q2 (starEach [b] X.env)).any (·.1) = false) :
    RE X W (.Call (.Name "list" p) [.Call (.Name "range" p2) [a, b] [] q2] [] pos) (fun env => do let v ← fa env; let w ← fb env; lrgM [v, w]) :=
  pe_imp (pe_listRg hc hg hm (prg_2 hg2 hm2 ha hb na nb hp) rfl) fun σ H Q ⟨env, ρ, h, R, er, p⟩ => TEf.seq R er p fun ρ1 H1 h1 v x nx1 R1 er1 rx p1 => TEf.seq R1 er1 p1 fun ρ2 H2 h2 w y nx2 R2 er2 ry p2 => by
    cases v with
    | int i =>
      cases w with
      | int j =>
        cases rx
        cases ry
        have p1 : Post X.K X.mg ρ2 H2 h2.length (M.bind (if smallI i && smallI j then M.ret (Itr.rng i (j - i).toNat) else M.stop) (fun it => match it with
          | .rng lo n => if n ≤ 16777216 then newO (.lst .own ((List.range n).map fun i => .int (lo + (i : Nat)))) else M.stop
          | _ => M.stop) h2) (QV X.K X.mg Q) (WXp X.mg W σ) := p2
        obtain ⟨hc, p3⟩ := Post.ite (Post.bind p1)
        have p4 := Post.pure R2 p3
        rw [Bool.and_eq_true] at hc
        obtain ⟨b1, b2⟩ := small_of' hc.1
        obtain ⟨b3, b4⟩ := small_of' hc.2
        exact ⟨i, j, rfl, rfl, lrg_rp (lo := i) (hi := j) (vs := []) (σ := σ) R2 ⟨b1, b2, b3, b4⟩ p4⟩
      | _ => exact (Post.stuck p2).elim
    | _ => exact (Post.stuck p2).elim
theorem ro_none : L2.PO X none (TOf X.K X.mg W (fun _ => pure none)) := po_imp po_none fun σ H Q ⟨env, ρ, h, R, er, p⟩ => Post.pure R p
theorem ro_some (ha : RE X W a fa) : L2.PO X (some a) (TOf X.K X.mg W (fun env => do let x ← fa env; let i ← M.opt (intP x); pure (some i))) :=
  po_imp (po_some ha) fun σ H Q ⟨env, ρ, h, R, er, p⟩ => TEf.seq R er p fun ρ1 H1 h1 v x nx1 R1 er1 rx p1 => by
    obtain ⟨i, e, q⟩ := Post.opt R1 (Post.bind p1)
    cases v with
    | int k => cases e; cases rx; exact ⟨_, rfl, Post.pure R1 q⟩
    | _ => cases e
theorem re_slc {lo hi : Option Expr} {fl fu : Env' → M (Option Int)} {p2 : Pos} (ha : RE X W a fa) (hl : L2.PO X lo (TOf X.K X.mg W fl)) (hu : L2.PO X hi (TOf X.K X.mg W fu)) :
    RE X W (.Subscript a (.Slice lo hi none p2) pos) (fun env => do let x ← fa env; let l ← fl env; let u ← fu env; slcM x l u) :=
  pe_imp (pe_slice slB ha hl hu) fun σ H Q ⟨env, ρ, h, R, er, p⟩ => TEf.seq R er p fun ρ1 H1 h1 v x nx1 R1 er1 rx p1 => TOf.seq R1 er1 p1 fun ρ2 H2 h2 w nx2 R2 er2 p2 =>
    TOf.seq R2 er2 p2 fun ρ3 H3 h3 w nx3 R3 er3 p3 => ⟨v, ρ3, h3, _, R3, (rx.nx nx2).nx nx3, p3⟩
theorem re_mth {m : MK} {o : Expr} {fo : Env' → M PV} {name : Str} {apos : Pos} {id : String} (slot : Slot "list" name id) (hty : typeOf (.builtin id) = pure (.type "method_descriptor")) (hm : MtR X id (rM X.K X.mg (mthM m))) (ho : RE X W o fo) (ha : RA X W (e :: es) fs)
    (hbase : attributeBase o name X.env (eval o X.env) = eval o X.env)
    (hfew : ((backTo pos (starEach (e :: es) X.env)).all (fun x => !x.1) && (backToKw pos (keywordEach [] X.env)).all (fun x => x.1.isSome) && decide ((e :: es).length + ([] : List Keyword).length + (if ([] : List Keyword).isEmpty then 0 else 1) < 30)) = true)
    (hline : (apos.endLine == pos.line) = true) (hs : starEach (e :: es) X.env = (false, eval e X.env) :: starEach es X.env) (hplain : (backTo pos (starEach es X.env)).any (·.1) = false) :
    RE X W (.Call (.Attribute o name apos) (e :: es) [] pos) (fun env => do let x ← fo env; let _ ← readM fun h => rcv m h x; let vs ← fs env; mthM m x vs) :=
  pe_imp (pe_bm PySem.F.plainAttrs_list slot hty hm ho ha hbase hfew hline hs hplain) fun σ H Q ⟨env, ρ, h, R, er, p⟩ => TEf.seq R er p fun ρ1 H1 h1 v x nx1 R1 er1 rx p1 => by
    obtain ⟨u, eu, p2⟩ := Post.read R1 (Post.bind p1)
    exact ⟨rcv_rp R1 rx eu, TAf.seq R1 er1 p2 fun ρ2 H2 h2 vs xs nx2 R2 er2 rs p3 => ⟨v, vs, ρ2, h2, _, R2, rx.nx nx2, rs, p3⟩⟩
theorem re_mth0 {m : MK} {o : Expr} {fo : Env' → M PV} {name : Str} {apos : Pos} {id : String} (slot : Slot "list" name id) (hty : typeOf (.builtin id) = pure (.type "method_descriptor")) (hm : MtR X id (rM X.K X.mg (mthM m))) (ho : RE X W o fo)
    (hbase : attributeBase o name X.env (eval o X.env) = eval o X.env) (hline : (apos.endLine == pos.line) = true) :
    RE X W (.Call (.Attribute o name apos) [] [] pos) (fun env => do let x ← fo env; let _ ← readM fun h => rcv m h x; mthM m x []) :=
  pe_imp (pe_bm0 PySem.F.plainAttrs_list slot hty hm ho hbase hline) fun σ H Q ⟨env, ρ, h, R, er, p⟩ => TEf.seq R er p fun ρ1 H1 h1 v x nx1 R1 er1 rx p1 => by
    obtain ⟨u, eu, p2⟩ := Post.read R1 (Post.bind p1)
    exact ⟨rcv_rp R1 rx eu, ⟨v, [], ρ1, h1, _, R1, rx, .nil, p2⟩⟩
end
end MP

set_option Elab.async false
set_option linter.all false
set_option maxRecDepth 100000
set_option maxHeartbeats 4000000
/-! MPo: texts: signs, parts, split, join, a sign in one; d.get(k, other). -/
namespace MP
open PySem PySem.Spec PyProof.Rows L2
section
variable {K : PySem.W.Frag} {mg : Str → Option Value} {ρ : Nat → Addr} {H : Hp} {n : Nat}
theorem rps_strs : ∀ ys : List Str, RPs K mg ρ n H (ys.map V.str) (ys.map PV.str)
  | [] => .nil
  | y :: ys => .cons (.str y) (rps_strs ys)
theorem strs_rp : ∀ {vs : List PV} {ys : List Str} {xs : List V}, strsP vs = some ys → RPs K mg ρ n H xs vs → xs = ys.map V.str
  | [], ys, xs, e, r => by cases e; cases r; rfl
  | .str x :: vs, ys, _, e, .cons r rs => by
    have e : (strsP vs).map (x :: ·) = some ys := e
    cases q : strsP vs with
    | none => rw [q] at e; cases e
    | some zs =>
      rw [q] at e
      cases e
      cases r
      rw [strs_rp q rs]
      rfl
  | .non :: _, _, _, e, _ => by cases e
  | .bl _ :: _, _, _, e, _ => by cases e
  | .int _ :: _, _, _, e, _ => by cases e
  | .tup _ :: _, _, _, e, _ => by cases e
  | .obj _ :: _, _, _, e, _ => by cases e
  | .fn _ :: _, _, _, e, _ => by cases e
  | .ty _ :: _, _, _, e, _ => by cases e
  | .kls _ :: _, _, _, e, _ => by cases e
theorem str_rp {v : PV} {x : V} {a : Str} (e : strP v = some a) (r : RP K mg ρ n H x v) : v = .str a ∧ x = .str a := by
  cases v <;> first | (cases e; cases r; exact ⟨rfl, rfl⟩) | cases e
theorem one_rp {v : PV} {x : V} {c : Nat} (e : oneP v = some c) (r : RP K mg ρ n H x v) : x = .str ⟨#[c]⟩ := by
  cases v with
  | str a =>
    cases r
    obtain ⟨a⟩ := a
    have e : (match a.toList with | [c] => some c | _ => none) = some c := e
    split at e
    · rename_i c' h
      cases e
      have : a = #[c] := by
        rw [← Array.toArray_toList (xs := a), h]
      rw [this]
    · cases e
  | _ => cases e
end
section
variable {X : Cx} {W : WX} {a b d : Expr} {fa fb fd : Env' → M PV} {pos p apos : Pos}
theorem ixSB : IxR X (rB X.K X.mg ixSM) := by
  intro value slice pins s σ H x y v u Q I rx ry hh hs
  obtain ⟨a, b, ρ, h, Wx, R, ra, rb, p⟩ := hh
  cases a with
  | str z =>
    cases b with
    | int i =>
      cases ra
      cases rb
      obtain ⟨hz, p⟩ := Post.ite p
      obtain ⟨w, e, q⟩ := Post.opt R p
      cases e1 : atI z.cps.toList i with
      | none => rw [e1] at e; cases e
      | some c =>
        rw [e1] at e
        cases e
        exact ix_str value slice pins s σ H _ _ v u Q I rx ry ⟨z, i, c, rfl, rfl, hz, e1, q _ (.str _)⟩ hs
    | _ => exact (Post.stuck p).elim
  | _ => exact (Post.stuck p).elim
def rSS (K : PySem.W.Frag) (mg : Str → Option Value) : V → Option Int → Option Int → Hp → VK → Prop := fun x lo hi H Q => ∃ v ρ h Wx, HR K mg ρ H h ∧ RP K mg ρ h.length H x v ∧ Post K mg ρ H h.length (slcSM v lo hi h) (QV K mg Q) Wx
theorem slSB : SlR X (rSS X.K X.mg) := by
  intro pins s σ H x v vl vu lo hi sl Q I rx hs pl pu hh
  obtain ⟨a, ρ, h, Wx, R, ra, p⟩ := hh
  cases a with
  | str z =>
    cases ra
    obtain ⟨hz, p⟩ := Post.ite p
    exact sl_str pins s σ H _ v vl vu lo hi sl Q I rx hs pl pu ⟨z, rfl, hz, Post.pure R p _ (.str _)⟩
  | _ => exact (Post.stuck p).elim
theorem re_subS (ha : RE X W a fa) (hb : RE X W b fb) (hs : PlainIx b) : RE X W (.Subscript a b pos) (fun env => do let x ← fa env; let y ← fb env; ixSM x y) :=
  pe_imp (pe_ix ixSB ha hb hs) fun σ H Q ⟨env, ρ, h, R, er, p⟩ => TEf.seq R er p fun ρ1 H1 h1 v x nx1 R1 er1 rx p1 => TEf.seq R1 er1 p1 fun ρ2 H2 h2 w y nx2 R2 er2 ry p2 =>
    ⟨v, w, ρ2, h2, _, R2, rx.nx nx2, ry, p2⟩
theorem re_slcS {lo hi : Option Expr} {fl fu : Env' → M (Option Int)} {p2 : Pos} (ha : RE X W a fa) (hl : L2.PO X lo (TOf X.K X.mg W fl)) (hu : L2.PO X hi (TOf X.K X.mg W fu)) :
    RE X W (.Subscript a (.Slice lo hi none p2) pos) (fun env => do let x ← fa env; let l ← fl env; let u ← fu env; slcSM x l u) :=
  pe_imp (pe_slice slSB ha hl hu) fun σ H Q ⟨env, ρ, h, R, er, p⟩ => TEf.seq R er p fun ρ1 H1 h1 v x nx1 R1 er1 rx p1 => TOf.seq R1 er1 p1 fun ρ2 H2 h2 w nx2 R2 er2 p2 =>
    TOf.seq R2 er2 p2 fun ρ3 H3 h3 w nx3 R3 er3 p3 => ⟨v, ρ3, h3, _, R3, (rx.nx nx2).nx nx3, p3⟩
theorem re_split (ha : RE X W a fa) (hb : RE X W b fb) (hs : starEach [b] X.env = [(false, eval b X.env)]) (hbase : attributeBase a "split" X.env (eval a X.env) = eval a X.env) (hline : (apos.endLine == pos.line) = true) :
    RE X W (.Call (.Attribute a "split" apos) [b] [] pos) (fun env => do let x ← fa env; let _ ← M.opt (strP x); let y ← fb env; smthM false x y) :=
  pe_imp (pe_split ha hb hs hbase hline) fun σ H Q ⟨env, ρ, h, R, er, p⟩ => TEf.seq R er p fun ρ1 H1 h1 v x nx1 R1 er1 rx p1 => by
    obtain ⟨z, e1, p2⟩ := Post.opt R1 (Post.bind p1)
    obtain ⟨rfl, rfl⟩ := str_rp e1 rx
    refine ⟨⟨z, rfl⟩, TEf.seq R1 er1 p2 fun ρ2 H2 h2 w y nx2 R2 er2 ry p3 => ?_⟩
    obtain ⟨b', e3, p5⟩ := Post.opt R2 (Post.bind p3)
    obtain ⟨rfl, rfl⟩ := str_rp e3 ry
    obtain ⟨hc, p6⟩ := Post.ite p5
    refine ⟨z, b', rfl, rfl, hc.1, hc.2, fun l hl => ?_⟩
    obtain ⟨ρ', h', r, q⟩ := Post.newO R2 p6 hl (u := .lst ((Txt.split z b').map V.str)) ⟨_, upd_same, rps_strs _⟩
    exact q _ r
theorem re_join (ha : RE X W a fa) (hb : RE X W b fb) (hs : starEach [b] X.env = [(false, eval b X.env)]) (hbase : attributeBase a "join" X.env (eval a X.env) = eval a X.env) (hline : (apos.endLine == pos.line) = true) :
    RE X W (.Call (.Attribute a "join" apos) [b] [] pos) (fun env => do let x ← fa env; let _ ← M.opt (strP x); let y ← fb env; smthM true x y) :=
  pe_imp (pe_join ha hb hs hbase hline) fun σ H Q ⟨env, ρ, h, R, er, p⟩ => TEf.seq R er p fun ρ1 H1 h1 v x nx1 R1 er1 rx p1 => by
    obtain ⟨z, e1, p2⟩ := Post.opt R1 (Post.bind p1)
    obtain ⟨rfl, rfl⟩ := str_rp e1 rx
    refine ⟨⟨z, rfl⟩, TEf.seq R1 er1 p2 fun ρ2 H2 h2 w y nx2 R2 er2 ry p3 => ?_⟩
    obtain ⟨vs, e3, p5⟩ := Post.read R2 (Post.bind p3)
    obtain ⟨ys, e4, p6⟩ := Post.opt R2 (Post.bind p5)
    obtain ⟨hc, p7⟩ := Post.ite p6
    obtain ⟨l, xs, rfl, h1, h2⟩ := R2.lstQ ry e3
    have := strs_rp e4 h2
    subst this
    exact ⟨z, l, ys, rfl, rfl, .inl h1, hc, Post.pure R2 p7 _ (.str _)⟩
theorem op_inT : OpR X (compareOp .In) (rB X.K X.mg inTM) := by
  intro pins s σ H x y v u Q I rx ry hh
  obtain ⟨a, c, ρ, h, Wx, R, ra, rb, p⟩ := hh
  obtain ⟨p1, e1, p2⟩ := Post.opt R (Post.bind p)
  obtain ⟨q1, e2, p3⟩ := Post.opt R (Post.bind p2)
  have := one_rp e1 ra
  subst this
  obtain ⟨rfl, rfl⟩ := str_rp e2 rb
  exact op_in_sign pins s σ H _ _ v u Q I rx ry ⟨p1, q1, rfl, rfl, Post.pure R p3 _ (.bl _)⟩
theorem re_inT (ha : RE X W a fa) (hb : RE X W b fb) (hm : behindInMarks .In b = false) : RE X W (.Compare a [.In] [b] pos) (fun env => do let x ← fa env; let y ← fb env; inTM x y) :=
  pe_imp (pe_cmpR op_inT ha hb hm) fun σ H Q ⟨env, ρ, h, R, er, p⟩ => TEf.seq R er p fun ρ1 H1 h1 v x nx1 R1 er1 rx p1 => TEf.seq R1 er1 p1 fun ρ2 H2 h2 w y nx2 R2 er2 ry p2 =>
    ⟨v, w, ρ2, h2, _, R2, rx.nx nx2, ry, p2⟩
theorem re_dgetD (hu : X.A.units + 64 < cLine) (ha : RE X W a fa) (hb : RE X W b fb) (hd : RE X W d fd) (m : M2 X a "get" apos b d pos) :
    RE X W (.Call (.Attribute a "get" apos) [b, d] [] pos) (fun env => do let x ← fa env; let _ ← readM fun h => dctP h x; let y ← fb env; let z ← fd env; dgetDM x y z) :=
  pe_imp (pe_dget2 (by omega) ha hb hd m) fun σ H Q ⟨env, ρ, h, R, er, p⟩ => TEf.seq R er p fun ρ1 H1 h1 v x nx1 R1 er1 rx p1 => by
    obtain ⟨kvs0, e0, p2⟩ := Post.read R1 (Post.bind p1)
    obtain ⟨i0, xs0, _, ex, _, g0, _⟩ := R1.dct rx e0
    subst ex
    refine ⟨_, rfl, .inl ⟨_, .inl g0⟩, TEf.seq R1 er1 p2 fun ρ2 H2 h2 w y nx2 R2 er2 ry p3 => TEf.seq R2 er2 p3 fun ρ3 H3 h3 w3 z nx3 R3 er3 rz p4 => ?_⟩
    obtain ⟨kvs, e1, p5⟩ := Post.read R3 (Post.bind p4)
    obtain ⟨k, e2, p6⟩ := Post.opt R3 (Post.bind p5)
    have q := Post.pure R3 p6
    obtain ⟨i, xs, _, ex, _, g1, g2⟩ := R3.dct ((rx.nx nx2).nx nx3) e1
    have exx : ρ1 i0 = ρ3 i := by injection ex
    have ey := key_rp (ry.nx nx3) e2
    subst ey
    refine ⟨valV xs k, DGet.k (by rw [exx]; exact g1), ?_⟩
    cases e3 : valP kvs k with
    | none =>
      rw [(valP_rp g2).2 e3]
      rw [e3] at q
      exact q _ rz
    | some z' =>
      obtain ⟨xz, g3, g4⟩ := (valP_rp g2).1 z' e3
      rw [g3]
      rw [e3] at q
      exact q _ g4
end
end MP

set_option Elab.async false
set_option linter.all false
set_option maxRecDepth 100000
set_option maxHeartbeats 4000000
/-! MPs: sorted(lots, key=lambda lot: (len(lot), lot)). -/
namespace MP
open PySem PySem.Spec PyProof.Rows L2 PySem.W PySem.Calls
abbrev lamB (nm : Str) (k2 : Nat) (p1 p2 p3 p4 p5 : Pos) : Expr := .Tuple [.Call (.Name "len" p1) [.Name nm p2] [] p3, .Name nm p4] k2 p5
theorem reads_ints {h : Heap} : ∀ {its : List Value} {l : List Int}, IntsAre its l → ReadsAll h its (l.map .int) []
  | _, _, .nil => .nil
  | _, _, .cons n t r => by
    have := ReadsAll.cons (Reads.int (h := h) n t) (reads_ints r)
    simpa using this
theorem lam_key {prog : Program} {w : World} {A : Around} {s : Shared} {f c' t : Addr} {qual nm : Str} {params : Arguments} {scope : Scope} {pm ctv : Value} {mg mb : Str → Option Value} {its : List Value} {l : List Int} {k2 : Nat} {p1 p2 p3 p4 p5 : Pos}
    (hroom : A.depth < recursionLimit)
    (ho : s.heap.get? f = some (kla_obj "<lambda>" qual params (lamB nm k2 p1 p2 p3 p4 p5) scope [] pm c' ctv))
    (hcd : s.heap.CodeRec (.ref c') qual)
    (hbind : ∀ v, bindArgs (kla_fn "<lambda>" qual params (lamB nm k2 p1 p2 p3 p4 p5) scope [] pm (.ref c') ctv) ⟨[v], []⟩ = pure [(nm, v)])
    (hk : scope.kind = .function) (hco : scope.isCoroutine = false) (hgen : scope.isGenerator = false) (hcell : ∀ x ∈ scope.names, x.2 ≠ .cell) (hnm : scope.names.lookup nm = some .local) (hlen : scope.names.lookup ("len" : Str) = some .globalImplicit)
    (hdn : (nm == ("__debug__" : Str)) = false)
    (hg : s.heap.Ns mainGlobals mg) (hm : mg "len" = none) (hb : s.heap.Ns builtinsNs mb) (hv : mb "len" = some (.builtin "len")) (hlim : s.heap.NoLimit)
    (hx : IsTup s.heap t its.toArray) (hi : IntsAre its l) (hl : l.length ≤ 1000) :
    wpAny (model prog w) A (call (.ref f) [.ref t]) (KeyPure (kL l) s) (fun _ _ => False) s := by
  refine wpAny_call (codeAny_mono (R := fun r s' => ∃ v, r = .ok (.ret v) ∧ KeyPure (kL l) s v s') ?_ fun r s' hq => by obtain ⟨v, e, hq⟩ := hq; subst e; exact hq)
  refine kla_callFunE hroom ho rfl hco hgen rfl hcd ?_
  rw [hbind]
  refine wpAny_pure (wpAny_newFunctionEnv hcell (fun y hy => by rw [List.mem_singleton.mp hy]; exact hnm) (fun h₁ hns hsb => ⟨hlim.fresh _ hsb, ?_⟩) hk)
  have kp : ∀ b o, s.heap.get? b = some o → h₁.get? b = some o := fun b o e => hsb.extBut b o (Nat.ne_of_lt (Heap.lt_size e)) (Heap.get?_push_of_some _ e)
  have hx1 : IsTup h₁ t its.toArray := by
    obtain ⟨o, e, r⟩ := hx
    exact ⟨o, kp _ _ e, r⟩
  have hil : its.length = l.length := hi.length
  refine kla_codeExpr (wpAny_mono (E := fun _ _ => False) ?_ (fun v s' hq => ⟨v, rfl, hq⟩) (fun _ _ z => z.elim))
  refine wpAny_Tuple (args_cons (Call_ (Calls.Name_function_global hk hlen (Calls.loadGlobal_builtin (hg.keeps kp) hm (hb.keeps kp) hv (callWith_builtin1 (args_cons (wpAny_Name (wpAny_loadName_local (v := .ref t) hk hnm hns (by simp) ?_) hdn) rfl) rfl rfl)) (by decide))) rfl)
  refine args_nil (len_tuple hx1 (by rw [List.size_toArray, hil]; omega) ?_)
  refine args_cons (wpAny_Name (wpAny_loadName_local (v := .ref t) hk hnm hns (by simp) (args_nil ⟨by rw [sizeLine_eq]; simp, ?_⟩)) hdn) rfl
  refine ⟨_, _, rfl, fun b o e => Heap.get?_push_of_some _ (kp b o e), ?_⟩
  have e1 : ((its.toArray.size : Nat) : Int) = (l.length : Nat) := by rw [List.size_toArray, hil]
  rw [e1]
  obtain ⟨o, e2, e3, n, e4⟩ := hx1
  have rt : Reads (h₁.push { cls := .type "tuple", data := .seq [Value.int (l.length : Nat) (s.toks + [(nm, Value.ref t)].length + 1), Value.ref t].toArray }) (.ref t) (.tuple (l.map .int)) [] := Reads.tuple (Heap.get?_push_of_some _ e2) e3 e4 (by simpa using reads_ints hi)
  have := Reads.tuple (h := h₁.push { cls := .type "tuple", data := .seq [Value.int (l.length : Nat) (s.toks + [(nm, Value.ref t)].length + 1), Value.ref t].toArray }) (a := h₁.objs.size) (Heap.get?_push_size _ rfl) rfl rfl (ReadsAll.cons (Reads.int _ _) (ReadsAll.cons rt .nil))
  exact this
/-! ### the rule -/
/-- tuples of ints -/
def LotsV (K : PySem.W.Frag) (H : Hp) : List V → List (List Int) → Prop := Paired fun x l => ∃ t, x = .ref t ∧ SqT K H t (l.map V.int)
theorem lots_each {K : PySem.W.Frag} {H : Hp} : ∀ {xs : List V} {its : List Value} {ls : List (List Int)}, LotsV K H xs ls → Vals xs its → EachIs (fun v l => ∃ t, v = Value.ref t ∧ SqT K H t (l.map V.int)) its ls
  | _, _, _, .nil, .nil => .nil
  | _, _, _, .cons h1 h2, .cons r1 r2 => by
    obtain ⟨t, rfl, h⟩ := h1
    cases r1
    exact .cons ⟨t, rfl, h⟩ (lots_each h2 r2)
theorem each_lots {K : PySem.W.Frag} {H : Hp} : ∀ {out : List Value} {ls : List (List Int)}, EachIs (fun v l => ∃ t, v = Value.ref t ∧ SqT K H t (l.map V.int)) out ls → ∃ xs, LotsV K H xs ls ∧ Vals xs out
  | _, _, .nil => ⟨[], .nil, .nil⟩
  | _, _, .cons h1 h2 => by
    obtain ⟨t, rfl, h⟩ := h1
    obtain ⟨xs, a, b⟩ := each_lots h2
    exact ⟨V.ref t :: xs, .cons ⟨t, rfl, h⟩ a, .cons rfl b⟩
section
variable {X : Cx}
/-- sorted(a, key=lambda lot: (len(lot), lot)) -/
def tSortL (K : PySem.W.Frag) (T : List (Addr × Str)) (ta : TE) : TE := fun σ H Q => ta σ H fun x H1 => ∃ (a : Addr) (xs : List V) (ls : List (List Int)), x = .ref a ∧ SqL K H1 a xs ∧ LotsV K H1 xs ls ∧ ls.length ≤ 1000 ∧ (∀ l ∈ ls, l.length ≤ 1000) ∧ LamX.Tabs T H1 ∧
  ∀ (H2 : Hp) (p : Addr) (out : List V), LamX.ExtN H1 H2 → LamX.Tabs T H2 → H2 p = none → LotsV K H2 out (sortLot ls) → Q (.ref p) (upd H2 p (.lst out))
theorem sqT_extN {K : PySem.W.Frag} {H H' : Hp} (e : LamX.ExtN H H') {t : Addr} {xs : List V} (h : SqT K H t xs) : SqT K H' t xs := by
  rcases h with (h | ⟨o, h⟩) | h
  · exact .inl (.inl (e _ _ h fun _ z => by cases z))
  · exact .inl (.inr ⟨o, e _ _ h fun _ z => by cases z⟩)
  · exact .inr h
theorem lots_extN {K : PySem.W.Frag} {H H' : Hp} (e : LamX.ExtN H H') : ∀ {xs : List V} {ls : List (List Int)}, LotsV K H xs ls → LotsV K H' xs ls
  | _, _, .nil => .nil
  | _, _, .cons h1 h2 => by
    obtain ⟨t, rfl, h⟩ := h1
    exact .cons ⟨t, rfl, sqT_extN e h⟩ (lots_extN e h2)
theorem sqL_extN {K : PySem.W.Frag} {H H' : Hp} (e : LamX.ExtN H H') {t : Addr} {xs : List V} (h : SqL K H t xs) : SqL K H' t xs := by
  rcases h with (h | ⟨o, h⟩) | h
  · exact .inl (.inl (e _ _ h fun _ z => by cases z))
  · exact .inl (.inr ⟨o, e _ _ h fun _ z => by cases z⟩)
  · exact .inr h
theorem clo_nil {cells : List (Str × Addr)} : ∀ {names : List (Str × NameKind)} {acc : List (Str × Addr)}, (∀ y ∈ names, y.2 ≠ .free) → cloFrom cells names acc = acc
  | [], _, _ => rfl
  | (n, k) :: r, acc, h => by
    have hk : k ≠ .free := h (n, k) (by simp)
    unfold cloFrom
    rw [if_neg (by simpa using hk)]
    exact clo_nil fun y hy => h y (List.mem_cons_of_mem _ hy)
theorem kL_depth {l : List Int} : (kL l).depth ≤ 8 := by
  have h1 : ∀ l : List Int, PyData.depthAll (l.map .int) ≤ 1 := fun l => by
    induction l with
    | nil => simp [PyData.depthAll]
    | cons a l ih =>
      simp only [List.map_cons, PyData.depthAll, PyData.depth]
      omega
  have := h1 l
  simp only [kL, PyData.depth, PyData.depthAll]
  omega
theorem alike_kL (l m : List Int) : alike (kL l) (kL m) = true := by
  have := PySem.W.alike_ints l m
  simp [kL, alike, alikeAll, this]
theorem pe_sortL {T : List (Addr × Str)} {c P : Addr} {a : Expr} {ta : TE} {nm : Str} {params : Arguments} {scope : Scope} {k2 : Nat} {p p1 p2 p3 p4 p5 lpos kpos pos : Pos} (hg : Gl X "sorted") (hm : X.mg "sorted" = none) (hml : X.mg "len" = none) (ha : PE X a ta)
    (na : starEach [a] X.env = (false, eval a X.env) :: starEach [] X.env) (hd : X.A.depth < recursionLimit) (hu : X.A.units + 64 < cLine)
    (TB : LamX.TabB X.base X.mg c P) (hcode : X.env.code = .ref c) (hmT : (P, X.env.qual ++ "<lambda>") ∈ T) (huT : ∀ q ∈ T, q.1 = P → q.2 = X.env.qual ++ "<lambda>") (hdef : defaultsOf params X.env = ([], []))
    (hbind : ∀ (q : Str) (pm cv ctv v : Value), bindArgs (kla_fn "<lambda>" q params (lamB nm k2 p1 p2 p3 p4 p5) scope [] pm cv ctv) ⟨[v], []⟩ = pure [(nm, v)])
    (hk : scope.kind = .function) (hco : scope.isCoroutine = false) (hgen : scope.isGenerator = false) (hns : ∀ y ∈ scope.names, y.2 ≠ .cell ∧ y.2 ≠ .free) (hnm : scope.names.lookup nm = some .local) (hlen : scope.names.lookup ("len" : Str) = some .globalImplicit) (hdn : (nm == ("__debug__" : Str)) = false) :
    PE X (.Call (.Name "sorted" p) [a] [⟨some "key", .Lambda params (lamB nm k2 p1 p2 p3 p4 p5) scope lpos, kpos⟩] pos) (tSortL X.K T ta) := by
  refine ⟨fun pins s σ H Q I h => ?_⟩
  refine wpAny_Call_Name_kw (ld_blt I hg hm boot_sorted ?_)
  refine callWith_kw (args_cons (thn (ha.run pins s σ H _ I h) fun v s1 ⟨x, H1, I1, r1, q1⟩ => args_nil ?_) na) (by rw [na]; rfl) (by rw [na]; rfl) rfl rfl
  obtain ⟨l, xs, ls, rfl, hq, hlots, hl, hll, hT, q⟩ := q1
  cases r1
  show wpAny _ _ (evalAll ((do let v ← eval (.Lambda params (lamB nm k2 p1 p2 p3 p4 p5) scope lpos) X.env; standAt pos; pure v) :: [])) _ _ _
  refine wpAny_evalAll_cons (wpAny_bind (LamX.lam_make2 I1 TB hcode hmT huT hT hdef (fun y hy e => absurd e (hns y hy).2) fun f c' pm ctv H2 s2 I2 eN T2 hf hfn hfr hco2 => wpAny_bind (wpAny_standAt (wpAny_pure (wpAny_evalAll_nil ?_)))))
  rw [clo_nil fun y hy => (hns y hy).2] at hf
  show wpAny _ _ (call (.builtin "sorted") [.ref l] [(Str.ofString "key", .ref f)]) _ _ _
  obtain ⟨its, rv, pl, hz⟩ := I2.list (sqL_extN eN hq)
  have hlots2 := lots_extN eN hlots
  have he := lots_each hlots2 rv
  obtain ⟨⟨oc, vs, tq, hoc, hdc, hvc⟩, _, _⟩ := I2.hok c' _ hco2
  obtain ⟨mb, hb, hbb⟩ := I2.mod.blt
  refine sorted_key_data (b := false) (R := fun v l => ∃ t, v = Value.ref t ∧ SqT X.K H2 t (l.map V.int)) kL pl.isList he (AllAlike.of alike_kL) (Sortable.tuples fun _ => ⟨_, _, rfl⟩) (by rw [sizeLine_eq]; omega) (fun y _ => by have := kL_depth (l := y); omega) (ksk_s1 _ _) (fun _ => ksk_l1 _ _) (fun _ => ksk_t1 _ _) (fun v y hv hy hh tk kp => ?_) fun out cc h' tk kp hfr2 hD hlo hE => ?_
  · obtain ⟨t, rfl, hst⟩ := hv
    obtain ⟨its2, rv2, ht2, _⟩ := I2.tuple hst
    refine lam_key (mg := X.mg) (mb := mb) (its := its2) (s := { s2 with heap := hh, toks := tk }) hd (kp _ _ hf) ⟨c', oc, vs, tq, rfl, kp _ _ hoc, hdc, hvc⟩ (fun v => hbind _ _ _ _ v) hk hco hgen (fun y hy => (hns y hy).1) hnm hlen hdn ((I2.mod.glob.keeps I2.bk).keeps kp) hml ((hb.keeps I2.bk).keeps kp) ?_ (I2.nolimit.keeps kp) ?_ rv2.ints (hll y hy)
    · rw [hbb _ (by decide)]
      exact boot_len
    · obtain ⟨o, e1, e2⟩ := ht2
      exact ⟨o, kp _ _ e1, e2⟩
  · obtain ⟨xs', k1, k2'⟩ := each_lots hE
    refine ⟨.ref (s2.heap.objs.size + 1), upd H2 (s2.heap.objs.size + 1) (.lst xs'), I2.laid (t' := tk) kp (Nat.le_succ _) ⟨?_, out, cc, k2', hD⟩, rfl, q H2 _ xs' eN T2 (I2.hok.fresh (Nat.le_succ _)) k1⟩
    rw [k2'.length, hlo, sizeLine_eq]
    omega
/-- a lambda's parameter and names -/
def lamOK (params : Arguments) (scope : Scope) (nm : Str) : Bool := (match params with
  | ⟨[], [a], none, [], [], none, []⟩ => a.arg == nm
  | _ => false) && decide (scope.kind = .function) && !scope.isCoroutine && !scope.isGenerator && scope.names.all (fun y => !decide (y.2 = .cell) && !decide (y.2 = .free)) && decide (scope.names.lookup nm = some .local) && decide (scope.names.lookup ("len" : Str) = some .globalImplicit)
theorem lamOK_by {params : Arguments} {scope : Scope} {nm : Str} (h : lamOK params scope nm = true) : (∃ a : Arg, params = ⟨[], [a], none, [], [], none, []⟩ ∧ a.arg = nm) ∧ scope.kind = .function ∧ scope.isCoroutine = false ∧ scope.isGenerator = false ∧ (∀ y ∈ scope.names, y.2 ≠ .cell ∧ y.2 ≠ .free) ∧ scope.names.lookup nm = some .local ∧ scope.names.lookup ("len" : Str) = some .globalImplicit := by
  unfold lamOK at h
  simp only [Bool.and_eq_true, Bool.not_eq_true', decide_eq_true_eq, List.all_eq_true, decide_eq_false_iff_not] at h
  obtain ⟨⟨⟨⟨⟨⟨h1, h2⟩, h3⟩, h4⟩, h5⟩, h6⟩, h7⟩ := h
  refine ⟨?_, h2, h3, h4, h5, h6, h7⟩
  split at h1
  · exact ⟨_, rfl, beq_iff_eq.mp h1⟩
  · cases h1
theorem lam_bind {a : Arg} {q : Str} {body : Expr} {scope : Scope} {pm cv ctv v : Value} : bindArgs (kla_fn "<lambda>" q ⟨[], [a], none, [], [], none, []⟩ body scope [] pm cv ctv) ⟨[v], []⟩ = pure [(a.arg, v)] := by
  have e : List.lookup a.arg [(a.arg, v)] = some v := by simp
  simp [bindArgs, seqItems?, e]
  first
    | rfl
    | (simp [notAStandIn]; done)
    | (unfold notAStandIn; rfl)
    | (unfold notAStandIn; simp; done)
theorem lots_rp {K : PySem.W.Frag} {mg : Str → Option Value} {ρ : Nat → Addr} {n : Nat} {H : Hp} : ∀ {ys : List V} {ws : List PV} {ls : List (List Int)}, RPs K mg ρ n H ys ws → lotsP ws = some ls → LotsV K H ys ls
  | _, _, _, .nil, e => by cases e; exact .nil
  | _, w :: ws', _, .cons r1 r2, e => by
    cases w with
    | tup xs =>
      have e : ((intsP xs).bind fun l => (lotsP ws').map (l :: ·)) = some _ := e
      cases e1 : intsP xs with
      | none => rw [e1] at e; cases e
      | some l =>
        rw [e1] at e
        cases e2 : lotsP ws' with
        | none => simp [e2] at e
        | some r =>
          simp [e2] at e
          subst e
          cases r1 with
          | tup h1 h2 =>
            have := ints_rp h2 e1
            subst this
            exact .cons ⟨_, rfl, h1⟩ (lots_rp r2 e2)
    | _ => cases e
theorem rps_lots {K : PySem.W.Frag} {mg : Str → Option Value} {ρ : Nat → Addr} {n : Nat} {H : Hp} : ∀ {ys : List V} {ls : List (List Int)}, LotsV K H ys ls → RPs K mg ρ n H ys (ls.map lotV)
  | _, _, .nil => .nil
  | _, _, .cons h1 h2 => by
    obtain ⟨t, rfl, h⟩ := h1
    have ri : ∀ l : List Int, RPs K mg ρ n H (l.map V.int) (l.map PV.int) := fun l => by
      induction l with
      | nil => exact .nil
      | cons a l ih => exact .cons (.int _) ih
    exact .cons (.tup h (ri _)) (rps_lots h2)
/-- a table may be written, all else stays -/
theorem HR.extN {K : PySem.W.Frag} {mg : Str → Option Value} {ρ : Nat → Addr} {H H' : Hp} {h : PH} (R : HR K mg ρ H h) (e : LamX.ExtN H H') (ht : ∀ P q, TabK K mg P q → LamX.TabS H' P q) : HR K mg ρ H' h where
  tab := ht
  objs := fun i o hi => by
    have ro := R.objs i o hi
    refine ro.mono ⟨fun b xs q => e b _ q (fun _ z => by cases z), fun b o' u q => e b _ q (fun _ z => by cases z)⟩ (Nat.le_refl _) (fun _ _ => rfl) ?_
    obtain ⟨u, hu⟩ := ro.some
    rw [hu]
    exact e _ _ hu fun ps z => RO.noTb ro hu (.inl ⟨ps, z⟩)
  inj := R.inj
theorem Nx.extN {ρ : Nat → Addr} {H H' : Hp} {n : Nat} (e : LamX.ExtN H H') : Nx ρ H n ρ H' n :=
  ⟨⟨fun b xs q => e b _ q (fun _ z => by cases z), fun b o' u q => e b _ q (fun _ z => by cases z)⟩, Nat.le_refl _, fun _ _ => rfl, fun a u q ht _ => e a u q ht, fun i h1 h2 => by omega, fun a nt u q => by
    by_cases h : ∃ ps, u = .tbl ps
    · exact h
    · exact nt u (e a u q fun ps z => h ⟨ps, z⟩)⟩
theorem re_sortL {W : WX} {fa : Env' → M PV} {c P : Addr} {a : Expr} {nm : Str} {params : Arguments} {scope : Scope} {k2 : Nat} {p p1 p2 p3 p4 p5 lpos kpos pos : Pos} (hg : Gl X "sorted") (hm : X.mg "sorted" = none) (hml : X.mg "len" = none) (ha : RE X W a fa)
    (na : starEach [a] X.env = (false, eval a X.env) :: starEach [] X.env) (hd : X.A.depth < recursionLimit) (hu : X.A.units + 64 < cLine) (hKin : X.K.In X.base)
    (TB : LamX.TabB X.base X.mg c P) (hcode : X.env.code = .ref c) (TK : TabK X.K X.mg P (X.env.qual ++ "<lambda>")) (TU : ∀ Pt q q', TabK X.K X.mg Pt q → TabK X.K X.mg Pt q' → q = q') (hok : lamOK params scope nm = true) (hdn : (nm == ("__debug__" : Str)) = false) :
    RE X W (.Call (.Name "sorted" p) [a] [⟨some "key", .Lambda params (lamB nm k2 p1 p2 p3 p4 p5) scope lpos, kpos⟩] pos) (fun env => do let v ← fa env; sortLM v) := by
  obtain ⟨T, hT⟩ := tabs_list (mg := X.mg) hKin
  obtain ⟨⟨pa, rfl, hpa⟩, hk, hco, hgen, hns, hnm, hlen⟩ := lamOK_by hok
  refine pe_imp (pe_sortL (T := T) hg hm hml ha na hd hu TB hcode ((hT _ _).mp TK) (fun q hq e => ?_) rfl (fun q pm cv ctv v => by rw [← hpa]; exact lam_bind) hk hco hgen hns hnm hlen hdn) fun σ H Q ⟨env, ρ, h, R, er, p⟩ => TEf.seq R er p fun ρ1 H1 h1 v x nx1 R1 er1 rx p1 => ?_
  · have := (hT q.1 q.2).mpr hq
    rw [e] at this
    exact TU _ _ _ this TK
  · obtain ⟨ls, e, p2⟩ := Post.read R1 (Post.bind p1)
    cases e1 : lstP h1 v with
    | none => rw [e1] at e; cases e
    | some ws =>
      rw [e1] at e
      have e : lotsP ws = some ls := e
      obtain ⟨hl, p3⟩ := Post.ite p2
      obtain ⟨a', ys, rfl, j1, j2⟩ := R1.lstQ rx e1
      refine ⟨a', ys, ls, rfl, j1, lots_rp j2 e, hl.1, hl.2, fun q hq => R1.tab _ _ ((hT _ _).mpr hq), fun H2 p' out eN T2 hp hlo => ?_⟩
      have R2 : HR X.K X.mg ρ1 H2 h1 := R1.extN eN fun P q t => T2 _ ((hT P q).mp t)
      have hnx : Nx ρ1 H2 h1.length (rn ρ1 h1.length p') (upd H2 p' (.lst out)) (h1 ++ [PO.lst .own ((sortLot ls).map lotV)]).length := Nx.new hp
      obtain ⟨ρ', h', r2, q2⟩ := Post.newO R2 (p3.nxt (Nx.extN eN)) hp (u := .lst out) ⟨out, upd_same, by
        have := (rps_lots (mg := X.mg) (ρ := ρ1) (n := h1.length) hlo).nx hnx
        simpa using this⟩
      exact q2 _ r2
end
structure VSort where
  x : Str
  p : Pos
  a : Expr
  kw : Str
  params : Arguments
  y : Str
  p1 : Pos
  nm : Str
  p2 : Pos
  p3 : Pos
  nm' : Str
  p4 : Pos
  k2 : Nat
  p5 : Pos
  scope : Scope
  lpos : Pos
  kpos : Pos
  pos : Pos
def vSort : Expr → Option VSort
  | .Call (.Name x p) [a] [⟨some kw, .Lambda params (.Tuple [.Call (.Name y p1) [.Name nm p2] [] p3, .Name nm' p4] k2 p5) scope lpos, kpos⟩] pos => some ⟨x, p, a, kw, params, y, p1, nm, p2, p3, nm', p4, k2, p5, scope, lpos, kpos, pos⟩
  | _ => none
theorem vSort_eq {e : Expr} {v : VSort} (h : vSort e = some v) : e = .Call (.Name v.x v.p) [v.a] [⟨some v.kw, .Lambda v.params (.Tuple [.Call (.Name v.y v.p1) [.Name v.nm v.p2] [] v.p3, .Name v.nm' v.p4] v.k2 v.p5) v.scope v.lpos, v.kpos⟩] v.pos := by
  unfold vSort at h
  split at h
  · cases h; rfl
  · cases h
end MP

set_option Elab.async false
set_option linter.all false
set_option maxRecDepth 100000
set_option maxHeartbeats 4000000
/-! MPf: walks, targets, comprehensions, statements. -/
namespace MP
open PySem PySem.Spec PyProof.Rows L2 RZ

/-! ### a walk and its pure one -/
def JOk (K : PySem.W.Frag) (mg : Str → Option Value) (ρ : Nat → Addr) (H : Hp) (n : Nat) (it : Itr) (J : It) : Prop :=
  ∀ ρ' H' h' k, Nx ρ H n ρ' H' h'.length → HR K mg ρ' H' h' → (it.at k h' = some none → J.stop k H') ∧
    ∀ v, it.at k h' = some (some v) → J.go k H' ∧ ∀ x H2, J.yld k H' x H2 → Nx ρ' H' h'.length ρ' H2 h'.length ∧ HR K mg ρ' H2 h' ∧ RP K mg ρ' h'.length H2 x v
section
variable {K : PySem.W.Frag} {mg : Str → Option Value} {ρ ρ' : Nat → Addr} {H H' : Hp} {n n' : Nat} {h h' : PH}
theorem JOk.nx {it : Itr} {J : It} (j : JOk K mg ρ H n it J) (x : Nx ρ H n ρ' H' n') : JOk K mg ρ' H' n' it J := fun ρ2 H2 h2 k y R => j ρ2 H2 h2 k (x.trans y) R
theorem jok_tup {a : Addr} {xs : List V} {vs : List PV} (hs : SqT K H a xs) (r : RPs K mg ρ n H xs vs) : JOk K mg ρ H n (.vals vs) (Itt K a) := fun ρ' H' h' k nx R => by
  have hs' := nx.ext.sqT hs
  have r' := r.nx nx
  refine ⟨fun e => ?_, fun v e => ?_⟩
  · have e' : vs[k]? = none := Option.some.inj e
    exact ⟨xs, hs', by rw [r'.length]; exact List.getElem?_eq_none_iff.mp e'⟩
  · have e' : vs[k]? = some v := Option.some.inj e
    obtain ⟨x, h1, h2⟩ := r'.get e'
    refine ⟨⟨xs, x, hs', h1⟩, fun y H2 ⟨eH, q⟩ => ?_⟩
    subst eH
    refine ⟨.refl, R, ?_⟩
    have := q xs hs'
    rw [h1] at this
    cases this
    exact h2
theorem jok_kls {a : Addr} {xs : List V} {vs : List PV} (hs : Kon K a xs) (r : RPs K mg ρ n H xs vs) : JOk K mg ρ H n (.vals vs) (Itl K a) := fun ρ' H' h' k nx R => by
  have hs' : SqL K H' a xs := .inr hs
  have r' := r.nx nx
  refine ⟨fun e => ?_, fun v e => ?_⟩
  · have e' : vs[k]? = none := Option.some.inj e
    exact ⟨xs, hs', by rw [r'.length]; exact List.getElem?_eq_none_iff.mp e'⟩
  · have e' : vs[k]? = some v := Option.some.inj e
    obtain ⟨x, h1, h2⟩ := r'.get e'
    refine ⟨⟨xs, x, hs', h1⟩, fun y H2 ⟨eH, q⟩ => ?_⟩
    subst eH
    refine ⟨.refl, R, ?_⟩
    have := q xs hs'
    rw [h1] at this
    cases this
    exact h2
theorem jok_str (x : Str) : JOk K mg ρ H n (.vals (x.cps.toList.map signV)) (Its x) := fun ρ' H' h' k nx R => by
  refine ⟨fun e => ?_, fun v e => ?_⟩
  · have e' : (x.cps.toList.map signV)[k]? = none := Option.some.inj e
    rw [List.getElem?_eq_none_iff, List.length_map] at e'
    show x.cps.size ≤ k
    simpa using e'
  · have e' : (x.cps.toList.map signV)[k]? = some v := Option.some.inj e
    rw [List.getElem?_map] at e'
    cases hc : x.cps.toList[k]? with
    | none => rw [hc] at e'; cases e'
    | some c =>
      rw [hc] at e'
      cases e'
      have hk : k < x.cps.size := by simpa using (List.getElem?_eq_some_iff.mp hc).1
      refine ⟨hk, fun y H2 ⟨eH, c', hc', ey⟩ => ?_⟩
      subst eH ey
      have : x.cps[k]? = some c := by rw [← Array.getElem?_toList]; exact hc
      rw [this] at hc'
      cases hc'
      exact ⟨.refl, R, .str _⟩
theorem jok_rng {lo : Int} {m : Nat} : JOk K mg ρ H n (.rng lo m) (L2.Itr lo m) := fun ρ' H' h' k nx R => by
  refine ⟨fun e => ?_, fun v e => ?_⟩
  · have e' : (if k < m then some (PV.int (lo + k)) else none) = none := Option.some.inj e
    split at e'
    · cases e'
    · show m ≤ k
      omega
  · have e' : (if k < m then some (PV.int (lo + k)) else none) = some v := Option.some.inj e
    split at e'
    · rename_i hk
      cases e'
      refine ⟨hk, fun y H2 ⟨eH, q⟩ => ?_⟩
      subst eH q
      exact ⟨.refl, R, .int _⟩
    · cases e'
theorem jok_lst {i : Nat} (hi : i < n) : JOk K mg ρ H n (.lst i) (Itl K (ρ i)) := fun ρ' H' h' k nx R => by
  have eρ : ρ' i = ρ i := nx.ge i hi
  refine ⟨fun e => ?_, fun v e => ?_⟩
  · have e' : (lstP h' (.obj i)).map (fun xs => xs[k]?) = some none := e
    cases q : lstP h' (.obj i) with
    | none => rw [q] at e'; cases e'
    | some vs =>
      rw [q] at e'
      have e2 : vs[k]? = none := Option.some.inj e'
      obtain ⟨xs, h1, h2⟩ := R.lstP q
      rw [eρ] at h1
      exact ⟨xs, h1, by rw [h2.length]; exact List.getElem?_eq_none_iff.mp e2⟩
  · have e' : (lstP h' (.obj i)).map (fun xs => xs[k]?) = some (some v) := e
    cases q : lstP h' (.obj i) with
    | none => rw [q] at e'; cases e'
    | some vs =>
      rw [q] at e'
      have e2 : vs[k]? = some v := Option.some.inj e'
      obtain ⟨xs, h1, h2⟩ := R.lstP q
      rw [eρ] at h1
      obtain ⟨x, h3, h4⟩ := h2.get e2
      refine ⟨⟨xs, x, h1, h3⟩, fun y H2 ⟨eH, q⟩ => ?_⟩
      subst eH
      refine ⟨.refl, R, ?_⟩
      have := q xs h1
      rw [h3] at this
      cases this
      exact h4
theorem zipAt_some {xs ys : List PV} {k : Nat} {v : PV} (e : zipAt xs ys k = some v) : ∃ x y, xs[k]? = some x ∧ ys[k]? = some y ∧ v = .tup [x, y] := by
  unfold zipAt at e
  split at e
  · rename_i x y h1 h2
    cases e
    exact ⟨x, y, h1, h2, rfl⟩
  · cases e
theorem zipAt_none {xs ys : List PV} {k : Nat} (e : zipAt xs ys k = none) : xs.length ≤ k ∨ ys.length ≤ k := by
  by_cases h1 : k < xs.length
  · by_cases h2 : k < ys.length
    · unfold zipAt at e
      rw [List.getElem?_eq_getElem h1, List.getElem?_eq_getElem h2] at e
      cases e
    · exact .inr (by omega)
  · exact .inl (by omega)
/-- an item that is a tuple of its own -/
theorem pair_new {T : Addr} {x y : V} {v w : PV} (R : HR K mg ρ H h) (hT : H T = none) (rx : RP K mg ρ h.length H x v) (ry : RP K mg ρ h.length H y w) :
    Nx ρ H h.length ρ (upd H T (.tup [x, y])) h.length ∧ HR K mg ρ (upd H T (.tup [x, y])) h ∧ RP K mg ρ h.length (upd H T (.tup [x, y])) (.ref T) (.tup [v, w]) :=
  ⟨.tup hT, R.tup hT, .tup (SqT.of upd_same) ((RPs.cons rx (.cons ry .nil)).nx (.tup hT))⟩
theorem jok_zipT {a b : Addr} {xs ys : List V} {vs ws : List PV} (ha : SqT K H a xs) (hb : SqT K H b ys) (ra : RPs K mg ρ n H xs vs) (rb : RPs K mg ρ n H ys ws) : JOk K mg ρ H n (.zipT vs ws) (ItzT K a b) := fun ρ' H' h' k nx R => by
  have ha' := nx.ext.sqT ha
  have hb' := nx.ext.sqT hb
  have ra' := ra.nx nx
  have rb' := rb.nx nx
  refine ⟨fun e => ?_, fun v e => ?_⟩
  · have e' : zipAt vs ws k = none := Option.some.inj e
    refine ⟨xs, ys, ha', hb', ?_⟩
    rw [ra'.length, rb'.length]
    exact zipAt_none e'
  · have e' : zipAt vs ws k = some v := Option.some.inj e
    obtain ⟨p, q, h1, h2, rfl⟩ := zipAt_some e'
    obtain ⟨x, x1, x2⟩ := ra'.get h1
    obtain ⟨y, y1, y2⟩ := rb'.get h2
    refine ⟨⟨xs, ys, x, y, ha', hb', x1, y1⟩, fun z H2 ⟨T, x', y', ez, hT, eH, g1, g2⟩ => ?_⟩
    have z1 := g1 xs ha'
    have z2 := g2 ys hb'
    rw [x1] at z1
    rw [y1] at z2
    cases z1
    cases z2
    subst ez eH
    exact pair_new R hT x2 y2
theorem jok_zipL {i j : Nat} (hi : i < n) (hj : j < n) : JOk K mg ρ H n (.zipL i j) (Itz K (ρ i) (ρ j)) := fun ρ' H' h' k nx R => by
  have ei : ρ' i = ρ i := nx.ge i hi
  have ej : ρ' j = ρ j := nx.ge j hj
  have both : ∀ o, (Itr.zipL i j).at k h' = some o → ∃ vs ws xs ys, SqL K H' (ρ i) xs ∧ SqL K H' (ρ j) ys ∧ RPs K mg ρ' h'.length H' xs vs ∧ RPs K mg ρ' h'.length H' ys ws ∧ o = zipAt vs ws k := fun o e => by
    have e' : (lstP h' (.obj i)).bind (fun xs => (lstP h' (.obj j)).map fun ys => zipAt xs ys k) = some o := e
    cases q : lstP h' (.obj i) with
    | none => rw [q] at e'; cases e'
    | some vs =>
      cases q2 : lstP h' (.obj j) with
      | none => rw [q, q2] at e'; cases e'
      | some ws =>
        rw [q, q2] at e'
        obtain ⟨xs, h1, h2⟩ := R.lstP q
        obtain ⟨ys, h3, h4⟩ := R.lstP q2
        rw [ei] at h1
        rw [ej] at h3
        exact ⟨vs, ws, xs, ys, h1, h3, h2, h4, (Option.some.inj e').symm⟩
  refine ⟨fun e => ?_, fun v e => ?_⟩
  · obtain ⟨vs, ws, xs, ys, h1, h2, h3, h4, h5⟩ := both _ e
    refine ⟨xs, ys, h1, h2, ?_⟩
    rw [h3.length, h4.length]
    exact zipAt_none h5.symm
  · obtain ⟨vs, ws, xs, ys, h1, h2, h3, h4, h5⟩ := both _ e
    obtain ⟨p, q, g1, g2, rfl⟩ := zipAt_some h5.symm
    obtain ⟨x, x1, x2⟩ := h3.get g1
    obtain ⟨y, y1, y2⟩ := h4.get g2
    refine ⟨⟨xs, ys, x, y, h1, h2, x1, y1⟩, fun z H2 ⟨T, x', y', ez, hT, eH, f1, f2⟩ => ?_⟩
    have z1 := f1 xs h1
    have z2 := f2 ys h2
    rw [x1] at z1
    rw [y1] at z2
    cases z1
    cases z2
    subst ez eH
    exact pair_new R hT x2 y2
theorem jok_enum {i : Nat} (hi : i < n) : JOk K mg ρ H n (.enum i) (Ite K (ρ i)) := fun ρ' H' h' k nx R => by
  have ei : ρ' i = ρ i := nx.ge i hi
  refine ⟨fun e => ?_, fun v e => ?_⟩
  · have e' : (lstP h' (.obj i)).map (fun xs => xs[k]?.map fun x => PV.tup [.int (k : Nat), x]) = some none := e
    cases q : lstP h' (.obj i) with
    | none => rw [q] at e'; cases e'
    | some vs =>
      rw [q] at e'
      have e2 : vs[k]? = none := by simpa using e'
      obtain ⟨xs, h1, h2⟩ := R.lstP q
      rw [ei] at h1
      exact ⟨xs, h1, by rw [h2.length]; exact List.getElem?_eq_none_iff.mp e2⟩
  · have e' : (lstP h' (.obj i)).map (fun xs => xs[k]?.map fun x => PV.tup [.int (k : Nat), x]) = some (some v) := e
    cases q : lstP h' (.obj i) with
    | none => rw [q] at e'; cases e'
    | some vs =>
      rw [q] at e'
      have e2 : vs[k]?.map (fun x => PV.tup [.int (k : Nat), x]) = some v := Option.some.inj e'
      cases q2 : vs[k]? with
      | none => rw [q2] at e2; cases e2
      | some p =>
        rw [q2] at e2
        cases e2
        obtain ⟨xs, h1, h2⟩ := R.lstP q
        rw [ei] at h1
        obtain ⟨x, x1, x2⟩ := h2.get q2
        refine ⟨⟨xs, x, h1, x1⟩, fun z H2 hz => ?_⟩
        obtain ⟨T, x', ez, hT, eH, f1⟩ := hz
        have z1 := f1 xs h1
        rw [x1] at z1
        cases z1
        subst ez eH
        exact pair_new R hT (.int _) x2
end

/-- what is walked, by its pure source -/
def TIf (K : PySem.W.Frag) (mg : Str → Option Value) (W : WX) (k : IK) (f : Env' → M (List PV)) : TI := fun σ H R => ∃ env ρ h, HR K mg ρ H h ∧ ER K mg ρ h.length H σ env ∧
  Post K mg ρ H h.length (M.bind (f env) (itrM k) h) (fun ρ' H' h' it => ∀ J, JOk K mg ρ' H' h'.length it J → R J H') (WXp mg W σ)
section
variable {X : Cx} {W : WX} {tg e : Expr} {fa fb : Env' → M PV}
theorem ri_val (ha : RE X W e fa) : PI X tg e (TIf X.K X.mg W .val (fun env => do let v ← fa env; pure [v])) :=
  pi_imp (pi_or (pi_or (pi_list ha) (pi_tup ha)) (pi_str ha)) fun σ H R ⟨env, ρ, h, R0, er, p⟩ => by
    have p' : Post X.K X.mg ρ H h.length (M.bind (fa env) (fun v => itrM .val [v]) h) (fun ρ' H' h' it => ∀ J, JOk X.K X.mg ρ' H' h'.length it J → R J H') (WXp X.mg W σ) := by
      have e1 : M.bind (do let v ← fa env; pure [v] : M (List PV)) (itrM .val) = M.bind (fa env) (fun v => itrM .val [v]) := by
        show M.bind (M.bind (fa env) fun v => M.ret [v]) (itrM .val) = _
        rw [bind_assoc]
        rfl
      rw [← e1]
      exact p
    have p2 := p'.bind
    cases q : fa env h with
    | stuck => rw [q] at p2; exact (Post.stuck p2).elim
    | exc c vs h1 =>
      refine .inl (.inl ⟨env, ρ, h, R0, er, ?_⟩)
      rw [q] at p2 ⊢
      exact p2
    | ok v h1 =>
      rw [q] at p2
      have cont : (∀ ρ1 H1, Nx ρ H h.length ρ1 H1 h1.length → HR X.K X.mg ρ1 H1 h1 → Post X.K X.mg ρ1 H1 h1.length (itrM .val [v] h1) (fun ρ' H' h' it => ∀ J, JOk X.K X.mg ρ' H' h'.length it J → R J H') (WXp X.mg W σ)) := p2
      cases v with
      | tup vs =>
        refine .inl (.inr ⟨env, ρ, h, R0, er, ?_⟩)
        rw [q]
        refine fun ρ1 H1 nx R1 x rx => ?_
        have c := Post.pure R1 (cont ρ1 H1 nx R1)
        cases rx with
        | tup hs hr => exact ⟨_, rfl, ⟨_, hs⟩, c _ (jok_tup hs hr)⟩
      | kls vs =>
        refine .inl (.inl ⟨env, ρ, h, R0, er, ?_⟩)
        rw [q]
        refine fun ρ1 H1 nx R1 x rx => ?_
        have c := Post.pure R1 (cont ρ1 H1 nx R1)
        cases rx with
        | kls hs hr => exact ⟨_, rfl, ⟨_, .inr hs⟩, c _ (jok_kls hs hr)⟩
      | obj i =>
        refine .inl (.inl ⟨env, ρ, h, R0, er, ?_⟩)
        rw [q]
        refine fun ρ1 H1 nx R1 x rx => ?_
        obtain ⟨ws, e, c⟩ := Post.read R1 (Post.bind (cont ρ1 H1 nx R1))
        have c := Post.pure R1 c
        cases rx with
        | obj hi =>
          obtain ⟨xs, h2, _⟩ := R1.lstP e
          exact ⟨_, rfl, ⟨xs, h2⟩, c _ (jok_lst hi)⟩
      | non => exact .inl (.inl ⟨env, ρ, h, R0, er, by rw [q]; exact fun ρ1 H1 nx R1 x rx => (Post.stuck (cont ρ1 H1 nx R1)).elim⟩)
      | bl _ => exact .inl (.inl ⟨env, ρ, h, R0, er, by rw [q]; exact fun ρ1 H1 nx R1 x rx => (Post.stuck (cont ρ1 H1 nx R1)).elim⟩)
      | int _ => exact .inl (.inl ⟨env, ρ, h, R0, er, by rw [q]; exact fun ρ1 H1 nx R1 x rx => (Post.stuck (cont ρ1 H1 nx R1)).elim⟩)
      | str z =>
        refine .inr ⟨env, ρ, h, R0, er, ?_⟩
        rw [q]
        refine fun ρ1 H1 nx R1 x rx => ?_
        have c := Post.pure R1 (cont ρ1 H1 nx R1)
        cases rx with
        | str _ => exact ⟨z, rfl, c _ (jok_str z)⟩
      | fn _ => exact .inl (.inl ⟨env, ρ, h, R0, er, by rw [q]; exact fun ρ1 H1 nx R1 x rx => (Post.stuck (cont ρ1 H1 nx R1)).elim⟩)
      | ty _ => exact .inl (.inl ⟨env, ρ, h, R0, er, by rw [q]; exact fun ρ1 H1 nx R1 x rx => (Post.stuck (cont ρ1 H1 nx R1)).elim⟩)
theorem small_of {i : Int} (h : smallI i = true) : -(2 ^ 62) ≤ i ∧ i < 2 ^ 62 := of_decide_eq_true h
theorem ri_range1 {a : Expr} {fs : Env' → M (List PV)} {p pos : Pos} (hg : Gl X "range") (hm : X.mg "range" = none) (ha : RA X W [a] fs) (hs : starEach [a] X.env = [(false, eval a X.env)]) (hl : ∀ env h vs h', fs env h = .ok vs h' → vs.length = 1) :
    PI X tg (.Call (.Name "range" p) [a] [] pos) (TIf X.K X.mg W .range fs) :=
  pi_imp (pi_range1 hg hm ha hs) fun σ H R ⟨env, ρ, h, R0, er, p⟩ => by
    refine ⟨env, ρ, h, R0, er, ?_⟩
    have p2 := p.bind
    cases q : fs env h with
    | stuck => rw [q] at p2; exact (Post.stuck p2).elim
    | exc c vs h1 => rw [q] at p2; exact p2
    | ok vs h1 =>
      have hl1 := hl env h vs h1 q
      rw [q] at p2
      intro ρ1 H1 nx R1 xs rs
      have c := p2 ρ1 H1 nx R1
      match vs, hl1, c, rs with
      | [v], _, c, rs =>
        obtain ⟨x, rfl, r1⟩ := rs.one
        cases v with
        | int j =>
          cases r1
          obtain ⟨hc, c⟩ := Post.ite c
          have c := Post.pure R1 c
          obtain ⟨b1, b2⟩ := small_of hc
          exact ⟨j, rfl, b1, b2, c _ jok_rng⟩
        | _ => exact (Post.stuck c).elim
theorem ri_zip {a b : Expr} {elts : List Expr} {kk : Nat} {fs : Env' → M (List PV)} {p pos tpos : Pos} (hg : Gl X "zip") (hm : X.mg "zip" = none) (ha : RA X W [a, b] fs) (hs : starEach [a, b] X.env = (false, eval a X.env) :: starEach [b] X.env) (hp : (backTo pos (starEach [b] X.env)).any (·.1) = false)
    (hl : ∀ env h vs h', fs env h = .ok vs h' → vs.length = 2) : PI X (.Tuple elts kk tpos) (.Call (.Name "zip" p) [a, b] [] pos) (TIf X.K X.mg W .zip fs) :=
  pi_imp (pi_zipA hg hm ha hs hp) fun σ H R ⟨env, ρ, h, R0, er, p⟩ => by
    refine ⟨env, ρ, h, R0, er, ?_⟩
    have p2 := p.bind
    cases q : fs env h with
    | stuck => rw [q] at p2; exact (Post.stuck p2).elim
    | exc c vs h1 => rw [q] at p2; exact p2
    | ok vs h1 =>
      have hl1 := hl env h vs h1 q
      rw [q] at p2
      intro ρ1 H1 nx R1 xs rs
      have c := p2 ρ1 H1 nx R1
      match vs, hl1, c, rs with
      | [v, w], _, c, rs =>
        obtain ⟨x, y, rfl, r1, r2⟩ := rs.two
        cases v with
        | tup vs =>
          cases w with
          | tup ws =>
            cases r1 with
            | tup h1 q1 =>
              cases r2 with
              | tup h2 q2 =>
                have c := Post.pure R1 c
                exact ⟨_, _, _, _, rfl, .inr ⟨h1, h2, c _ (jok_zipT h1 h2 q1 q2)⟩⟩
          | _ => exact (Post.stuck c).elim
        | obj i =>
          cases w with
          | obj j =>
            cases r1 with
            | obj hi =>
              cases r2 with
              | obj hj =>
                obtain ⟨us, e1, c⟩ := Post.read R1 (Post.bind c)
                obtain ⟨ws, e2, c⟩ := Post.read R1 (Post.bind c)
                have c := Post.pure R1 c
                obtain ⟨xs, g1, _⟩ := R1.lstP e1
                obtain ⟨ys, g2, _⟩ := R1.lstP e2
                exact ⟨_, _, xs, ys, rfl, .inl ⟨g1, g2, c _ (jok_zipL hi hj)⟩⟩
          | _ => exact (Post.stuck c).elim
        | _ => cases w <;> exact (Post.stuck c).elim
theorem ri_enum {a : Expr} {elts : List Expr} {kk : Nat} {fs : Env' → M (List PV)} {p pos tpos : Pos} (hg : Gl X "enumerate") (hm : X.mg "enumerate" = none) (ha : RA X W [a] fs) (hs : starEach [a] X.env = [(false, eval a X.env)])
    (hl : ∀ env h vs h', fs env h = .ok vs h' → vs.length = 1) : PI X (.Tuple elts kk tpos) (.Call (.Name "enumerate" p) [a] [] pos) (TIf X.K X.mg W .enum fs) :=
  pi_imp (pi_enum hg hm ha hs) fun σ H R ⟨env, ρ, h, R0, er, p⟩ => by
    refine ⟨env, ρ, h, R0, er, ?_⟩
    have p2 := p.bind
    cases q : fs env h with
    | stuck => rw [q] at p2; exact (Post.stuck p2).elim
    | exc c vs h1 => rw [q] at p2; exact p2
    | ok vs h1 =>
      have hl1 := hl env h vs h1 q
      rw [q] at p2
      intro ρ1 H1 nx R1 xs rs
      have c := p2 ρ1 H1 nx R1
      match vs, hl1, c, rs with
      | [v], _, c, rs =>
        obtain ⟨x, rfl, r1⟩ := rs.one
        cases v with
        | obj i =>
          cases r1 with
          | obj hi =>
            obtain ⟨us, e1, c⟩ := Post.read R1 (Post.bind c)
            have c := Post.pure R1 c
            obtain ⟨xs, g1, _⟩ := R1.lstP e1
            exact ⟨_, xs, rfl, g1, c _ (jok_enum hi)⟩
        | _ => exact (Post.stuck c).elim
theorem ri_range2 {a b : Expr} {fs : Env' → M (List PV)} {p pos : Pos} (hg : Gl X "range") (hm : X.mg "range" = none) (ha : RA X W [a, b] fs) (hs : starEach [a, b] X.env = [(false, eval a X.env), (false, eval b X.env)]) (hs2 : starEach [b] X.env = [(false, eval b X.env)])
    (hl : ∀ env h vs h', fs env h = .ok vs h' → vs.length = 2) : PI X tg (.Call (.Name "range" p) [a, b] [] pos) (TIf X.K X.mg W .range fs) :=
  pi_imp (pi_range2 hg hm ha hs hs2) fun σ H R ⟨env, ρ, h, R0, er, p⟩ => by
    refine ⟨env, ρ, h, R0, er, ?_⟩
    have p2 := p.bind
    cases q : fs env h with
    | stuck => rw [q] at p2; exact (Post.stuck p2).elim
    | exc c vs h1 => rw [q] at p2; exact p2
    | ok vs h1 =>
      have hl1 := hl env h vs h1 q
      rw [q] at p2
      intro ρ1 H1 nx R1 xs rs
      have c := p2 ρ1 H1 nx R1
      match vs, hl1, c, rs with
      | [v, w], _, c, rs =>
        obtain ⟨x, y, rfl, r1, r2⟩ := rs.two
        cases v with
        | int i =>
          cases w with
          | int j =>
            cases r1
            cases r2
            obtain ⟨hc, c⟩ := Post.ite c
            have c := Post.pure R1 c
            rw [Bool.and_eq_true] at hc
            obtain ⟨b1, b2⟩ := small_of hc.1
            obtain ⟨b3, b4⟩ := small_of hc.2
            exact ⟨i, j, rfl, ⟨b1, b2, b3, b4⟩, c _ jok_rng⟩
          | _ => exact (Post.stuck c).elim
        | _ => exact (Post.stuck c).elim
end

/-! ### targets -/
def SameBut (σ σ' : L2.St) (l : List Nat) : Prop := σ'.length = σ.length ∧ ∀ i : Nat, i ∉ l → σ'[i]? = σ[i]?
def TGf (K : PySem.W.Frag) (mg : Str → Option Value) (tg : Tg) : TG := fun x σ H Q => ∃ v env ρ h env', HR K mg ρ H h ∧ ER K mg ρ h.length H σ env ∧ RP K mg ρ h.length H x v ∧ putT h tg v env = some env' ∧ ∀ σ', ER K mg ρ h.length H σ' env' → SameBut σ σ' tg.slots → Q σ' H
def TGsf (K : PySem.W.Frag) (mg : Str → Option Value) (ts : List Tg) : TGs := fun xs σ H Q => ∃ vs env ρ h env', HR K mg ρ H h ∧ ER K mg ρ h.length H σ env ∧ RPs K mg ρ h.length H xs vs ∧ putTs h ts vs env = some env' ∧ ∀ σ', ER K mg ρ h.length H σ' env' → SameBut σ σ' (Tg.slotsL ts) → Q σ' H
section
variable {X : Cx} {pos : Pos}
theorem SameBut.refl {σ : L2.St} {l : List Nat} : SameBut σ σ l := ⟨rfl, fun _ _ => rfl⟩
theorem SameBut.trans {σ σ1 σ2 : L2.St} {l m : List Nat} (a : SameBut σ σ1 l) (b : SameBut σ1 σ2 m) : SameBut σ σ2 (l ++ m) :=
  ⟨b.1.trans a.1, fun i hi => by rw [List.mem_append, not_or] at hi; exact (b.2 i hi.2).trans (a.2 i hi.1)⟩
theorem rg_nm {i : Nat} {x : Str} (hN : X.N.Nodup) (hi : X.N[i]? = some x) (hx : Loc X.env.scope x) (hf : X.fn x = true ∨ X.env.scope.names.lookup x = some .local) : PG X (.Name x pos) (TGf X.K X.mg (.nm i)) :=
  pg_imp (pg_name hN hi hx hf) fun v σ H Q ⟨w, env, ρ, h, env', R, er, r, e, q⟩ => by
    cases e
    refine q _ (er.set r i) ⟨by simp, fun j hj => ?_⟩
    have : i ≠ j := fun z => hj (by rw [z]; exact List.mem_singleton.mpr rfl)
    exact List.getElem?_set_ne this
theorem rgs_nil : PGs X [] (TGsf X.K X.mg []) :=
  pgs_imp pgs_nil fun vs σ H Q ⟨ws, env, ρ, h, env', R, er, r, e, q⟩ => by
    cases r with
    | nil => cases e; exact ⟨rfl, q _ er .refl⟩
    | cons _ _ => cases e
theorem rgs_cons {e : Expr} {es : List Expr} {t : Tg} {ts : List Tg} (h1 : PG X e (TGf X.K X.mg t)) (h2 : PGs X es (TGsf X.K X.mg ts)) (hs : (assignEach (e :: es) X.env).map (·.2) = assign e X.env :: (assignEach es X.env).map (·.2)) : PGs X (e :: es) (TGsf X.K X.mg (t :: ts)) :=
  pgs_imp (pgs_cons h1 h2 hs) fun vs σ H Q ⟨ws, env, ρ, h, env', R, er, r, e, q⟩ => by
    cases r with
    | nil => cases e
    | cons r1 r2 =>
      rename_i w ws' 
      have e' : (putT h t _ env).bind (fun env1 => putTs h ts _ env1) = some env' := e
      cases e1 : putT h t _ env with
      | none => rw [e1] at e'; cases e'
      | some env1 =>
        rw [e1] at e'
        exact ⟨_, _, rfl, _, env, ρ, h, env1, R, er, r1, e1, fun σ1 er1 sb1 => ⟨_, env1, ρ, h, env', R, er1, r2, e', fun σ2 er2 sb2 => q σ2 er2 (sb1.trans sb2)⟩⟩
theorem putTs_len {h : PH} : ∀ {ts : List Tg} {vs : List PV} {env env' : Env'}, putTs h ts vs env = some env' → vs.length = ts.length
  | [], [], _, _, _ => rfl
  | [], _ :: _, _, _, e => by cases e
  | _ :: _, [], _, _, e => by cases e
  | t :: ts, v :: vs, env, env', e => by
    have e' : (putT h t v env).bind (fun env1 => putTs h ts vs env1) = some env' := e
    cases e1 : putT h t v env with
    | none => rw [e1] at e'; cases e'
    | some env1 => rw [e1] at e'; simp [putTs_len (ts := ts) e']
theorem rg_tup {es : List Expr} {k : Nat} {ts : List Tg} (hc : X.calm = true) (h : PGs X es (TGsf X.K X.mg ts)) (hn : (assignEach es X.env).length = ts.length) (hst : (assignEach es X.env).findIdx? (·.1) = none) : PG X (.Tuple es k pos) (TGf X.K X.mg (.tp ts)) :=
  pg_imp (pg_tup hc h hn hst) fun v σ H Q ⟨w, env, ρ, h, env', R, er, r, e, q⟩ => by
    cases r with
    | @tup a xs vs hs hr =>
      have e' : putTs h ts vs env = some env' := e
      exact ⟨a, xs, rfl, hs, by rw [hr.length]; exact putTs_len e', vs, env, ρ, h, env', R, er, hr, e', q⟩
    | _ => cases e
theorem wipe_get {σ : L2.St} {i : Nat} : ∀ {l : List Nat}, (wipe σ l)[i]? = if i ∈ l then (if i < σ.length then some none else none) else σ[i]?
  | [] => by simp [wipe]
  | v :: l => by
    unfold wipe
    by_cases h : v = i
    · subst h
      rw [if_pos (List.mem_cons_self)]
      by_cases hl : v < σ.length
      · rw [if_pos hl, List.getElem?_set_self (by rw [wipe_length]; exact hl)]
      · rw [if_neg hl]
        exact List.getElem?_eq_none (by rw [List.length_set, wipe_length]; omega)
    · rw [List.getElem?_set_ne h, wipe_get (l := l)]
      by_cases hm : i ∈ l
      · rw [if_pos hm, if_pos (List.mem_cons_of_mem _ hm)]
      · rw [if_neg hm, if_neg (by simp [hm, Ne.symm h])]
theorem wipe_same {σ σ2 : L2.St} {l m : List Nat} (s : SameBut (wipe σ l) σ2 m) (hs : ∀ i ∈ m, i ∈ l) : wipe σ2 l = wipe σ l := by
  apply List.ext_getElem?
  intro i
  rw [wipe_get, wipe_get]
  have hl : σ2.length = σ.length := s.1.trans (wipe_length _ _)
  by_cases hm : i ∈ l
  · rw [if_pos hm, if_pos hm, hl]
  · rw [if_neg hm, if_neg hm, s.2 i (fun z => hm (hs i z)), wipe_get, if_neg hm]
end

/-! ### comprehensions -/
def eraseH (H : Hp) (D : Addr) : Hp := fun b => if b = D then none else H b
section
variable {K : PySem.W.Frag} {mg : Str → Option Value} {ρ ρ' : Nat → Addr} {H H' Hv : Hp} {n n' : Nat} {h h' : PH} {D : Addr} {xs : List V} {α : Type}
theorem erase_same : eraseH H D D = none := by unfold eraseH; rw [if_pos rfl]
theorem erase_ne {b : Addr} (hb : b ≠ D) : eraseH H D b = H b := by unfold eraseH; rw [if_neg hb]
theorem erase_upd (hD : H D = some (.lst xs)) : upd (eraseH H D) D (.lst xs) = H := by
  funext b
  by_cases hb : b = D
  · subst hb; rw [upd_same, hD]
  · rw [upd_ne hb, erase_ne hb]
theorem sqT_erase {a : Addr} {ys : List V} (hD : H D = some (.lst xs)) (h : SqT K H a ys) : SqT K (eraseH H D) a ys := by
  rcases h with (h | ⟨o, h⟩) | h
  · refine .inl (.inl ?_)
    rw [erase_ne (fun z => by subst z; rw [hD] at h; cases h)]
    exact h
  · refine .inl (.inr ⟨o, ?_⟩)
    rw [erase_ne (fun z => by subst z; rw [hD] at h; cases h)]
    exact h
  · exact .inr h
mutual
theorem RP.erase (hD : H D = some (.lst xs)) : ∀ {v : V} {d : PV}, RP K mg ρ n H v d → RP K mg ρ n (eraseH H D) v d
  | _, _, .non => .non
  | _, _, .bl b => .bl b
  | _, _, .int i => .int i
  | _, _, .str s => .str s
  | _, _, .ty s => .ty s
  | _, _, .tup h r => .tup (sqT_erase hD h) (RPs.erase hD r)
  | _, _, .obj h => .obj h
  | _, _, .fn h => .fn h
  | _, _, .kls h r => .kls h (RPs.erase hD r)
theorem RPs.erase (hD : H D = some (.lst xs)) : ∀ {v : List V} {d : List PV}, RPs K mg ρ n H v d → RPs K mg ρ n (eraseH H D) v d
  | _, _, .nil => .nil
  | _, _, .cons h r => .cons (RP.erase hD h) (RPs.erase hD r)
end
theorem RO.erase {a : Addr} {o : PO} (hD : H D = Option.some (HO.lst xs)) (ha : a ≠ D) (r : RO K mg ρ n H a o) : RO K mg ρ n (eraseH H D) a o := by
  cases o with
  | lst k vs =>
    cases k with
    | own => obtain ⟨ys, h1, h2⟩ := r; exact ⟨ys, (erase_ne ha).trans h1, h2.erase hD⟩
    | frz => obtain ⟨ys, o, h1, h2⟩ := r; exact ⟨ys, o, (erase_ne ha).trans h1, h2.erase hD⟩
  | dK kvs => obtain ⟨ys, h1, h2, h3⟩ := r; exact ⟨ys, (erase_ne ha).trans h1, h2, h3.erase hD⟩
  | dT kvs => obtain ⟨ys, h1, h2, h3⟩ := r; exact ⟨ys, (erase_ne ha).trans h1, h2, h3.erase hD⟩
  | ins c fs => obtain ⟨C, dx, ys, h0, h1, h2, h3⟩ := r; exact ⟨C, dx, ys, h0, (erase_ne ha).trans h1, h2, h3.erase hD⟩
theorem HR.erase (hD : H D = Option.some (HO.lst xs)) (hr : ∀ i, i < h.length → ρ i ≠ D) (R : HR K mg ρ H h) : HR K mg ρ (eraseH H D) h :=
  ⟨fun P q t => tabS_of (R.tab P q t) fun b o e ht => by
    have hne : b ≠ D := fun z => by
      rw [z, hD] at e
      cases e
      rcases ht with ⟨ps, z⟩ | ⟨c, q, z⟩
      · cases z
      · unfold LamX.CodeO at z; cases z
    rw [erase_ne hne]; exact e, fun i o e => (R.objs i o e).erase hD (hr i (List.getElem?_eq_some_iff.mp e).1), R.inj⟩
theorem Nx.erase (hv : Hv D = none) (hr : ∀ i, i < n → ρ i ≠ D) (x : Nx ρ (upd Hv D (.lst xs)) n ρ' H' n') : H' D = some (.lst xs) ∧ (∀ i, i < n' → ρ' i ≠ D) ∧ Nx ρ Hv n ρ' (eraseH H' D) n' := by
  have hD : H' D = some (.lst xs) := x.keep D _ upd_same (fun _ z => by cases z) hr
  have hr' : ∀ i, i < n' → ρ' i ≠ D := fun i hi z => by
    by_cases h : i < n
    · rw [x.ge i h] at z; exact hr i h z
    · have q := x.fresh i (by omega) hi
      rw [z] at q
      exact (q.no upd_same (fun _ z => by cases z)).elim
  refine ⟨hD, hr', ⟨⟨fun b ys e => ?_, fun b o u e => ?_⟩, x.len, x.ge, fun a u e ht hc => ?_, fun i h1 h2 => ?_, fun a e => ?_⟩⟩
  · have hb : b ≠ D := ne_of_none e hv
    rw [erase_ne hb]
    exact x.ext.tups b ys (by rw [upd_ne hb]; exact e)
  · have hb : b ≠ D := ne_of_none e hv
    rw [erase_ne hb]
    exact x.ext.frzs b o u (by rw [upd_ne hb]; exact e)
  · have hb : a ≠ D := ne_of_none e hv
    rw [erase_ne hb]
    exact x.keep a u (by rw [upd_ne hb]; exact e) ht hc
  · have q := x.fresh i h1 h2
    intro u e
    exact q u (by rw [upd_ne (hr' i h2)]; exact e)
  · by_cases hb : a = D
    · subst hb; exact nt_of hv
    · have q := x.dom a (fun u z => e u (by rw [erase_ne hb]; exact z))
      intro u z
      exact q u (by rw [upd_ne hb]; exact z)
end
section
variable {X : Cx} {W : WX} {pos : Pos}
abbrev WF : WX := fun _ _ _ _ => False
theorem noexc_bind {α β : Type} (m : M α) (k : α → M β) : noexc (M.bind m k) = M.bind (noexc m) fun a => noexc (k a) := by
  funext h
  cases e : m h with
  | ok a h1 => cases e2 : k a h1 <;> simp [noexc, M.bind, e, e2]
  | exc c vs h1 => simp [noexc, M.bind, e]
  | stuck => simp [noexc, M.bind, e]
theorem noexc_get : noexc M.get = M.get := rfl
theorem noexc_opt {α : Type} (o : Option α) : noexc (M.opt o) = M.opt o := by
  funext h
  unfold noexc M.opt
  cases o <;> rfl
theorem noexc_ret {α : Type} (a : α) : noexc (M.ret a) = M.ret a := rfl
theorem ret_bind {α β : Type} (a : α) (k : α → M β) : M.bind (M.ret a) k = k a := rfl
theorem get_bind {β : Type} (k : PH → M β) (h : PH) : M.bind M.get k h = k h h := rfl
theorem Post.lift {α : Type} {K : PySem.W.Frag} {mg : Str → Option Value} {ρ : Nat → Addr} {Hv : Hp} {h : PH} {D : Addr} {xs : List V} {m : M α} {n : Nat} {Q : (Nat → Addr) → Hp → PH → α → Prop} {Wx Wx' : Str → List PV → Hp → Prop}
    (p : Post K mg ρ Hv n (noexc m h) Q Wx) (hv : Hv D = none) (hr : ∀ i, i < n → ρ i ≠ D) :
    Post K mg ρ (upd Hv D (.lst xs)) n (m h) (fun ρ2 H2 h2 a => H2 D = some (.lst xs) ∧ (∀ i, i < h2.length → ρ2 i ≠ D) ∧ Nx ρ Hv n ρ2 (eraseH H2 D) h2.length ∧ HR K mg ρ2 (eraseH H2 D) h2 ∧ Q ρ2 (eraseH H2 D) h2 a) Wx' := by
  unfold noexc at p
  cases e : m h with
  | ok a h1 =>
    rw [e] at p
    intro ρ2 H2 nx R2
    obtain ⟨a1, a2, a3⟩ := nx.erase hv hr
    have R3 := R2.erase a1 a2
    exact ⟨a1, a2, a3, R3, p ρ2 _ a3 R3⟩
  | exc c vs h1 => rw [e] at p; exact (Post.stuck p).elim
  | stuck => rw [e] at p; exact (Post.stuck p).elim
theorem HR.back {K : PySem.W.Frag} {mg : Str → Option Value} {ρ : Nat → Addr} {H : Hp} {h : PH} {D : Addr} {xs : List V} (hD : H D = some (.lst xs)) (R : HR K mg ρ (eraseH H D) h) : HR K mg ρ H h ∧ Nx ρ (eraseH H D) h.length ρ H h.length := by
  have e := erase_upd hD
  have a := R.tup (p := D) (u := .lst xs) erase_same
  have b : Nx ρ (eraseH H D) h.length ρ (upd (eraseH H D) D (.lst xs)) h.length := .tup erase_same
  rw [e] at a b
  exact ⟨a, b⟩

/-- the body of a turn, pure -/
def lcBody (tg : Tg) (own : List Nat) (fi : Env' → M Bool) (fe : Env' → M PV) (env : Env') : PV → M (Option PV) := fun v => do
  let h ← M.get
  let env' ← M.opt (putT h tg v (wipeE env own))
  let b ← fi env'
  if b then (do
    let y ← fe env'
    pure (some y)) else pure none
/-- the whole, behind its source -/
def lcRest (tg : Tg) (own : List Nat) (fi : Env' → M Bool) (fe : Env' → M PV) (env : Env') (it : Itr) : M PV := do
  let h ← M.get
  let ys ← noexc (lcGo it (lcBody tg own fi fe env) (it.size h) 0 [])
  newO (.lst .own ys)
theorem lc_sound {k : IK} {fs : Env' → M (List PV)} {tg : Tg} {own : List Nat} {fi : Env' → M Bool} {fe : Env' → M PV} (hown : ∀ i ∈ tg.slots, i ∈ own) {σ : L2.St} {H : Hp} {Q : VK}
    (hh : TEf X.K X.mg W (fun env => M.bind (M.bind (fs env) (itrM k)) (lcRest tg own fi fe env)) σ H Q) :
    tLc (TIf X.K X.mg W k fs) (TGf X.K X.mg tg) (TTf X.K X.mg WF fi) (TEf X.K X.mg WF fe) own σ H Q := by
  obtain ⟨env, ρ, h, R, er, p⟩ := hh
  refine ⟨env, ρ, h, R, er, p.bind.imp (fun ρ1 H1 h1 it nx1 R1 p1 J jk D hD => ?_) fun _ _ _ z => z⟩
  have p1 : Post X.K X.mg ρ1 H1 h1.length (M.bind (noexc (lcGo it (lcBody tg own fi fe env) (it.size h1) 0 [])) (fun ys => newO (.lst .own ys)) h1) (QV X.K X.mg Q) (WXp X.mg W σ) := p1
  refine ⟨fun i m H => ∃ ρ' Hv h' accV acc, H = upd Hv D (.lst accV) ∧ Hv D = none ∧ (∀ j, j < h'.length → ρ' j ≠ D) ∧ Nx ρ1 H1 h1.length ρ' Hv h'.length ∧ HR X.K X.mg ρ' Hv h' ∧ ER X.K X.mg ρ' h'.length Hv σ env ∧
    RPs X.K X.mg ρ' h'.length Hv accV acc ∧ Post X.K X.mg ρ' Hv h'.length (M.bind (noexc (lcGo it (lcBody tg own fi fe env) m i acc)) (fun ys => newO (.lst .own ys)) h') (QV X.K X.mg Q) (WXp X.mg W σ),
    ⟨it.size h1, ρ1, H1, h1, [], [], rfl, hD, fun j hj => R1.ne hj hD, .refl, R1, er.nx nx1, .nil, p1⟩, ?_⟩
  rintro i m H ⟨ρ', Hv, h', accV, acc, rfl, hv, hr, nxv, Rv, erv, racc, pv⟩
  have Rr : HR X.K X.mg ρ' (upd Hv D (.lst accV)) h' := Rv.tup hv
  have nxr : Nx ρ' Hv h'.length ρ' (upd Hv D (.lst accV)) h'.length := .tup hv
  obtain ⟨jstop, jgo⟩ := jk ρ' (upd Hv D (.lst accV)) h' i (nxv.trans nxr) Rr
  have stop : it.at i h' = some none → noexc (lcGo it (lcBody tg own fi fe env) m i acc) h' = .ok acc h' := fun e => by
    cases m with
    | zero => unfold noexc lcGo; rw [e]
    | succ m => unfold noexc lcGo; rw [e]
  cases e : it.at i h' with
  | none =>
    have : noexc (lcGo it (lcBody tg own fi fe env) m i acc) h' = .stuck := by
      cases m with
      | zero => unfold noexc lcGo; rw [e]
      | succ m => unfold noexc lcGo; rw [e]
    have p2 := pv.bind
    rw [this] at p2
    exact (Post.stuck p2).elim
  | some o =>
    cases o with
    | none =>
      refine .inl ⟨jstop e, ?_⟩
      have p2 := pv.bind
      rw [stop e] at p2
      have p3 := p2 ρ' Hv .refl Rv
      obtain ⟨ρ2, h2, r, q⟩ := Post.newO Rv p3 hv (u := .lst accV) ⟨accV, upd_same, (racc.nx (.new hv (o := .lst .own acc)))|> fun z => by simpa using z⟩
      exact q _ r
    | some v =>
      cases m with
      | zero =>
        have : noexc (lcGo it (lcBody tg own fi fe env) 0 i acc) h' = .stuck := by unfold noexc lcGo; rw [e]
        have p2 := pv.bind
        rw [this] at p2
        exact (Post.stuck p2).elim
      | succ m =>
        obtain ⟨go, yld⟩ := jgo v e
        have un : lcGo it (lcBody tg own fi fe env) (m + 1) i acc h' = M.bind (lcBody tg own fi fe env v) (fun r => match r with
            | some y => if acc.length < sizeLine then lcGo it (lcBody tg own fi fe env) m (i + 1) (acc ++ [y]) else M.stop
            | none => lcGo it (lcBody tg own fi fe env) m (i + 1) acc) h' := by
          simp only [lcGo, e]
          try rfl
        have un2 : noexc (lcGo it (lcBody tg own fi fe env) (m + 1) i acc) h' = noexc (M.bind (lcBody tg own fi fe env v) (fun r => match r with
            | some y => if acc.length < sizeLine then lcGo it (lcBody tg own fi fe env) m (i + 1) (acc ++ [y]) else M.stop
            | none => lcGo it (lcBody tg own fi fe env) m (i + 1) acc)) h' := by unfold noexc; rw [un]
        have pv2 : Post X.K X.mg ρ' Hv h'.length (M.bind (noexc (M.bind (lcBody tg own fi fe env v) (fun r => match r with
            | some y => if acc.length < sizeLine then lcGo it (lcBody tg own fi fe env) m (i + 1) (acc ++ [y]) else M.stop
            | none => lcGo it (lcBody tg own fi fe env) m (i + 1) acc))) (fun ys => newO (.lst .own ys)) h') (QV X.K X.mg Q) (WXp X.mg W σ) := by
          unfold M.bind at pv ⊢
          rw [un2] at pv
          exact pv
        have body : lcBody tg own fi fe env v = M.bind M.get fun h => M.bind (M.opt (putT h tg v (wipeE env own))) fun env' => M.bind (fi env') fun b => if b then M.bind (fe env') (fun y => M.ret (some y)) else M.ret none := rfl
        rw [body] at pv2
        simp only [noexc_bind, bind_assoc, noexc_get, noexc_opt] at pv2
        rw [get_bind] at pv2
        obtain ⟨env', ep, pv3⟩ := Post.opt Rv (Post.bind pv2)
        refine .inr ⟨go, fun H' => ∃ ρ' Hv h' accV acc, H' = upd Hv D (.lst accV) ∧ Hv D = none ∧ (∀ j, j < h'.length → ρ' j ≠ D) ∧ Nx ρ1 H1 h1.length ρ' Hv h'.length ∧ HR X.K X.mg ρ' Hv h' ∧ ER X.K X.mg ρ' h'.length Hv σ env ∧
          RPs X.K X.mg ρ' h'.length Hv accV acc ∧ Post X.K X.mg ρ' Hv h'.length (M.bind (noexc (lcGo it (lcBody tg own fi fe env) m (i + 1) acc)) (fun ys => newO (.lst .own ys)) h') (QV X.K X.mg Q) (WXp X.mg W σ), fun H' w => ⟨m, Nat.lt_succ_self _, w⟩, fun x H' y => ?_⟩
        obtain ⟨nxT, RT, rx⟩ := yld x H' y
        obtain ⟨hDT, hrT, nxeT⟩ := nxT.erase hv hr
        have ReT := RT.erase hDT hr
        have erT := (erv.nx nxr).nx nxT
        have pv3 := Post.nxt pv3 nxeT
        have nxv := nxv.trans nxeT
        have erv := erv.nx nxeT
        have racc := racc.nx nxeT
        have eH := (erase_upd hDT).symm
        have hv : eraseH H' D D = none := erase_same
        generalize eraseH H' D = Hv at *
        subst eH
        refine ⟨v, wipeE env own, ρ', h', env', RT, erT.wipe own, rx, ep, fun σ2 er2 sb => ⟨wipe_same sb hown, ?_⟩⟩
        refine ⟨env', ρ', h', RT, er2, (Post.lift (Wx' := WXp X.mg WF σ2) (Post.bind pv3) hv hr).imp (fun ρ3 H3 h3 b nx3 R3 q3 => ?_) fun _ _ _ z => z⟩
        obtain ⟨hD3, hr3, nxe3, Re3, p3⟩ := q3
        have nx3' : Nx ρ' (upd Hv D (.lst accV)) h'.length ρ3 H3 h3.length := nx3
        cases b with
        | false =>
          rw [if_neg Bool.false_ne_true]
          simp only [Bool.false_eq_true, if_false, noexc_ret, ret_bind] at p3
          exact ⟨ρ3, eraseH H3 D, h3, accV, acc, (erase_upd hD3).symm, erase_same, hr3, nxv.trans nxe3, Re3, erv.nx nxe3, racc.nx nxe3, p3⟩
        | true =>
          rw [if_pos rfl]
          simp only [if_true, noexc_bind, bind_assoc, noexc_ret, ret_bind] at p3
          have p4 := (Post.lift (xs := accV) (Wx' := WXp X.mg WF σ2) (Post.bind p3) erase_same hr3)
          rw [erase_upd hD3] at p4
          refine ⟨env', ρ3, h3, R3, er2.nx nx3', p4.imp (fun ρ4 H4 h4 w nx4 R4 q4 y ry => ?_) fun _ _ _ z => z⟩
          obtain ⟨hD4, hr4, nxe4, Re4, p5⟩ := q4
          by_cases hc : acc.length < sizeLine
          · rw [if_pos hc] at p5
            refine ⟨accV, hD4, by rw [racc.length]; exact hc, ?_⟩
            have nxa : Nx ρ' Hv h'.length ρ4 (eraseH H4 D) h4.length := nxe3.trans nxe4
            refine ⟨ρ4, eraseH H4 D, h4, accV ++ [y], acc ++ [w], ?_, erase_same, hr4, nxv.trans nxa, Re4, erv.nx nxa, (racc.nx nxa).append (.cons (ry.erase hD4) .nil), p5⟩
            rw [← erase_upd hD4, upd_upd, erase_upd hD4]
          · rw [if_neg hc] at p5
            have p6 := p5.bind
            exact (Post.stuck p6).elim
end
end MP

set_option Elab.async false
set_option linter.all false
set_option maxRecDepth 100000
set_option maxHeartbeats 4000000
/-! MPg: statements. -/
namespace MP
open PySem PySem.Spec PyProof.Rows L2

def PostS (K : PySem.W.Frag) (mg : Str → Option Value) (ρ : Nat → Addr) (H : Hp) (n : Nat) (r : SR) (D : Ends) (W : WX) : Prop := match r with
  | .nx env' h' => ∀ ρ' H' σ', Nx ρ H n ρ' H' h'.length → HR K mg ρ' H' h' → ER K mg ρ' h'.length H' σ' env' → D.nx σ' H'
  | .rt v h' => ∀ ρ' H' x, Nx ρ H n ρ' H' h'.length → HR K mg ρ' H' h' → RP K mg ρ' h'.length H' x v → D.rt x H'
  | .bk env' h' => ∀ ρ' H' σ', Nx ρ H n ρ' H' h'.length → HR K mg ρ' H' h' → ER K mg ρ' h'.length H' σ' env' → D.bk σ' H'
  | .ct env' h' => ∀ ρ' H' σ', Nx ρ H n ρ' H' h'.length → HR K mg ρ' H' h' → ER K mg ρ' h'.length H' σ' env' → D.ct σ' H'
  | .exc c vs env' h' => ∀ ρ' H' σ', Nx ρ H n ρ' H' h'.length → HR K mg ρ' H' h' → ER K mg ρ' h'.length H' σ' env' → ∀ cls d, XR mg c vs cls d → W cls d σ' H'
  | .stuck => False
def TSf (K : PySem.W.Frag) (mg : Str → Option Value) (W : WX) (f : Env' → PH → SR) : TS := fun D σ H => ∃ env ρ h, HR K mg ρ H h ∧ ER K mg ρ h.length H σ env ∧ PostS K mg ρ H h.length (f env h) D W
section
variable {K : PySem.W.Frag} {mg : Str → Option Value} {W : WX} {ρ ρ' : Nat → Addr} {H H' : Hp} {n n' : Nat} {h h' : PH} {D : Ends} {env : Env'} {σ : L2.St} {α : Type}
theorem PostS.nxt {r : SR} (p : PostS K mg ρ H n r D W) (x : Nx ρ H n ρ' H' n') : PostS K mg ρ' H' n' r D W := by
  cases r with
  | nx e h => exact fun ρ2 H2 σ2 y => p ρ2 H2 σ2 (x.trans y)
  | rt v h => exact fun ρ2 H2 σ2 y => p ρ2 H2 σ2 (x.trans y)
  | bk e h => exact fun ρ2 H2 σ2 y => p ρ2 H2 σ2 (x.trans y)
  | ct e h => exact fun ρ2 H2 σ2 y => p ρ2 H2 σ2 (x.trans y)
  | exc c vs e h => exact fun ρ2 H2 σ2 y => p ρ2 H2 σ2 (x.trans y)
  | stuck => exact p
theorem PostS.of {r : Res α} {f : α → PH → SR} (er : ER K mg ρ n H σ env) (p : PostS K mg ρ H n (SR.of env r f) D W) :
    Post K mg ρ H n r (fun ρ1 H1 h1 a => PostS K mg ρ1 H1 h1.length (f a h1) D W) (WXp mg W σ) := by
  cases r with
  | ok a h1 => exact fun ρ1 H1 nx R1 => PostS.nxt p nx
  | exc c vs h1 => exact fun ρ1 H1 nx R1 => p ρ1 H1 σ nx R1 (er.nx nx)
  | stuck => exact p
theorem TEf.of {f : Env' → M PV} {k : PV → PH → SR} {Rq : VK} (R : HR K mg ρ H h) (er : ER K mg ρ h.length H σ env) (p : PostS K mg ρ H h.length (SR.of env (f env h) k) D W)
    (g : ∀ ρ1 H1 h1 v x, Nx ρ H h.length ρ1 H1 h1.length → HR K mg ρ1 H1 h1 → ER K mg ρ1 h1.length H1 σ env → RP K mg ρ1 h1.length H1 x v → PostS K mg ρ1 H1 h1.length (k v h1) D W → Rq x H1) : TEf K mg W f σ H Rq :=
  ⟨env, ρ, h, R, er, (PostS.of er p).imp (fun ρ1 H1 h1 v nx R1 q x rx => g ρ1 H1 h1 v x nx R1 (er.nx nx) rx q) fun _ _ _ z => z⟩
theorem TTf.of {f : Env' → M Bool} {k : Bool → PH → SR} {Rq : Bool → Hp → Prop} (R : HR K mg ρ H h) (er : ER K mg ρ h.length H σ env) (p : PostS K mg ρ H h.length (SR.of env (f env h) k) D W)
    (g : ∀ ρ1 H1 h1 v, Nx ρ H h.length ρ1 H1 h1.length → HR K mg ρ1 H1 h1 → ER K mg ρ1 h1.length H1 σ env → PostS K mg ρ1 H1 h1.length (k v h1) D W → Rq v H1) : TTf K mg W f σ H Rq :=
  ⟨env, ρ, h, R, er, (PostS.of er p).imp (fun ρ1 H1 h1 v nx R1 q => g ρ1 H1 h1 v nx R1 (er.nx nx) q) fun _ _ _ z => z⟩
end

section
variable {X : Cx} {W : WX} {e a b c o i : Expr} {st : Stmt} {sts body : List Stmt} {fe fa fb fo fi : Env' → M PV} {ft : Env' → M Bool} {g g' : Env' → PH → SR} {pos p : Pos}
abbrev RS (X : Cx) (W : WX) (s : Stmt) (f : Env' → PH → SR) : Prop := PS X s (TSf X.K X.mg W f)
abbrev RSs (X : Cx) (W : WX) (s : List Stmt) (f : Env' → PH → SR) : Prop := PSs X s (TSf X.K X.mg W f)

theorem rss_nil : RSs X W [] (fun env h => .nx env h) := pss_imp pss_nil fun D σ H ⟨env, ρ, h, R, er, p⟩ => p ρ H σ .refl R er
def seqS (f g : Env' → PH → SR) : Env' → PH → SR := fun env h => match f env h with
  | .nx env' h' => g env' h'
  | r => r
theorem rss_cons (h1 : RS X W st g) (h2 : RSs X W sts g') : RSs X W (st :: sts) (seqS g g') :=
  pss_imp (pss_cons h1 h2) fun D σ H ⟨env, ρ, h, R, er, p⟩ => by
    refine ⟨env, ρ, h, R, er, ?_⟩
    unfold seqS at p
    cases q : g env h with
    | nx env' h' =>
      rw [q] at p
      exact fun ρ1 H1 σ1 nx1 R1 er1 => ⟨env', ρ1, h', R1, er1, PostS.nxt p nx1⟩
    | rt v h' => rw [q] at p; exact p
    | bk env' h' => rw [q] at p; exact p
    | ct env' h' => rw [q] at p; exact p
    | exc c vs env' h' => rw [q] at p; exact p
    | stuck => rw [q] at p; exact p
theorem rs_expr (he : RE X W e fe) (hs : swapsWith e none pos.line X.env = pure false) : RS X W (.Expr e pos) (fun env h => SR.of env (fe env h) fun _ h' => .nx env h') :=
  ps_imp (ps_expr he hs) fun D σ H ⟨env, ρ, h, R, er, p⟩ => TEf.of R er p fun ρ1 H1 h1 v x nx1 R1 er1 rx p1 => p1 ρ1 H1 σ .refl R1 er1
theorem rs_ret (he : RE X W e fe) : RS X W (.Return (some e) pos) (fun env h => SR.of env (fe env h) fun v h' => .rt v h') :=
  ps_imp (ps_ret he) fun D σ H ⟨env, ρ, h, R, er, p⟩ => TEf.of R er p fun ρ1 H1 h1 v x nx1 R1 er1 rx p1 => p1 ρ1 H1 x .refl R1 rx
theorem rs_retN : RS X W (.Return none pos) (fun _ h => .rt .non h) := ps_imp ps_retN fun D σ H ⟨env, ρ, h, R, er, p⟩ => p ρ H .non .refl R .non
theorem rs_pass : RS X W (.Pass pos) (fun env h => .nx env h) := ps_imp ps_pass fun D σ H ⟨env, ρ, h, R, er, p⟩ => p ρ H σ .refl R er
theorem rs_brk : RS X W (.Break pos) (fun env h => .bk env h) := ps_imp ps_break fun D σ H ⟨env, ρ, h, R, er, p⟩ => p ρ H σ .refl R er
theorem rs_cont : RS X W (.Continue pos) (fun env h => .ct env h) := ps_imp ps_continue fun D σ H ⟨env, ρ, h, R, er, p⟩ => p ρ H σ .refl R er
theorem rs_asg {i : Nat} {x : Str} (hN : X.N.Nodup) (hi : X.N[i]? = some x) (hx : Loc X.env.scope x) (he : RE X W e fe) (hs : swapsWith e (some (.Name x p)) pos.line X.env = pure false) (hf : X.fn x = true ∨ X.env.scope.names.lookup x = some .local) :
    RS X W (.Assign [.Name x p] e pos) (fun env h => SR.of env (fe env h) fun v h' => .nx (env.set i (some v)) h') :=
  ps_imp (ps_set hN hi hx he hs hf) fun D σ H ⟨env, ρ, h, R, er, p⟩ => TEf.of R er p fun ρ1 H1 h1 v x nx1 R1 er1 rx p1 => p1 ρ1 H1 _ .refl R1 (er1.set rx _)
theorem rs_asgT {es : List Expr} {k : Nat} {ts : List Tg} (he : RE X W e fe) (hg : PG X (.Tuple es k p) (TGf X.K X.mg (.tp ts))) (hs : swapsWithSole [.Tuple es k p] e pos.line X.env = pure false) (hw : swappedStores [.Tuple es k p] e X.env = pure none)
    (h1 : (assignEach [.Tuple es k p] X.env).map (·.2) = [assign (.Tuple es k p) X.env]) :
    RS X W (.Assign [.Tuple es k p] e pos) (fun env h => SR.of env (fe env h) fun v h' => match putT h' (.tp ts) v env with | some env' => .nx env' h' | none => .stuck) :=
  ps_imp (ps_asg he hg hs hw h1) fun D σ H ⟨env, ρ, h, R, er, p⟩ => TEf.of R er p fun ρ1 H1 h1 v x nx1 R1 er1 rx p1 => by
    cases q : putT h1 (.tp ts) v env with
    | none => simp only [q] at p1; exact p1.elim
    | some env' => simp only [q] at p1; exact ⟨v, env, ρ1, h1, env', R1, er1, rx, q, fun σ' er' _ => p1 ρ1 H1 σ' .refl R1 er'⟩
theorem rs_par {i j : Nat} {x y : Str} {px py pt : Pos} {kt k2 : Nat} {pt2 : Pos} {fs : Env' → M (List PV)} (hc : X.calm = true) (hN : X.N.Nodup) (hi : X.N[i]? = some x) (hj : X.N[j]? = some y) (hij : i ≠ j)
    (hx : X.env.scope.names.lookup x = some .local) (hy : X.env.scope.names.lookup y = some .local) (ha : RE X W a fa) (hb : RE X W b fb) (hsa : starEach [a, b] X.env = (false, eval a X.env) :: starEach [b] X.env) (hsb : starEach [b] X.env = (false, eval b X.env) :: starEach [] X.env)
    (hw : swappedStores [.Tuple [.Name x px, .Name y py] kt pt] (.Tuple [a, b] k2 pt2) X.env = pure (some [x, y])) (hs : swapsWithSole [.Tuple [.Name x px, .Name y py] kt pt] (.Tuple [a, b] k2 pt2) pos.line X.env = pure false) :
    RS X W (.Assign [.Tuple [.Name x px, .Name y py] kt pt] (.Tuple [a, b] k2 pt2) pos) (fun env h => SR.of env (fa env h) fun v h1 => SR.of env (fb env h1) fun w h2 => .nx ((env.set i (some v)).set j (some w)) h2) :=
  ps_imp (ps_par hc hN hi hj hij hx hy (pa_cons ha (pa_cons hb pa_nil hsb) hsa) hw hs) fun D σ H ⟨env, ρ, h, R, er, p⟩ => TEf.of R er p fun ρ1 H1 h1 v x nx1 R1 er1 rx p1 => TEf.of R1 er1 p1 fun ρ2 H2 h2 w y nx2 R2 er2 ry p2 =>
    ⟨x, y, rfl, p2 ρ2 H2 _ .refl R2 ((er2.set (rx.nx nx2) _).set ry _)⟩
theorem rs_setIx (he : RE X W e fe) (ho : RE X W o fo) (hi : RE X W i fi) (ha : ∀ v, assign (.Subscript o i p) X.env v = (do
      let ov ← holding [v] (eval o X.env)
      let iv ← holding [v, ov] (eval i X.env)
      standAt p
      holding [v, ov, iv] (setItem ov iv v)
      release [v, ov, iv] [])) (hs : swapsWithSole [.Subscript o i p] e pos.line X.env = pure false) :
    RS X W (.Assign [.Subscript o i p] e pos) (fun env h => SR.of env (fe env h) fun v h1 => SR.of env (fo env h1) fun x h2 => SR.of env (fi env h2) fun y h3 => SR.of env (setIxM x y v h3) fun _ h4 => .nx env h4) :=
  ps_imp (ps_asg he (pg_sub ho hi setB ha) hs (by rfl) (by rfl)) fun D σ H ⟨env, ρ, h, R, er, p⟩ => TEf.of R er p fun ρ1 H1 h1 v x nx1 R1 er1 rx p1 => TEf.of R1 er1 p1 fun ρ2 H2 h2 w y nx2 R2 er2 ry p2 =>
    TEf.of R2 er2 p2 fun ρ3 H3 h3 u z nx3 R3 er3 rz p3 => ⟨w, u, v, ρ3, h3, _, R3, ry.nx nx3, rz, (rx.nx nx2).nx nx3, (PostS.of er3 p3).imp (fun ρ4 H4 h4 _ nx4 R4 q => q ρ4 H4 σ .refl R4 (er3.nx nx4)) fun _ _ _ z => z⟩
/-- op= -/
def rBi (K : PySem.W.Frag) (mg : Str → Option Value) (g : PV → PV → M PV) : TIp := rB K mg g
theorem ipB (o : BOp) : PIp X (bo o) (rBi X.K X.mg (augM o)) := by
  intro pins s σ H x y v u Q I rx ry hh
  obtain ⟨a, c, ρ, h, Wx, R, ra, rb, p⟩ := hh
  cases o with
  | add =>
    cases a with
    | int i =>
      cases c with
      | int j =>
        cases ra; cases rb
        exact iop_add pins s σ H _ _ v u Q I rx ry ⟨i, j, rfl, rfl, Post.pure R p _ (.int _)⟩
      | _ => exact (Post.stuck p).elim
    | str i =>
      cases c with
      | str j =>
        cases ra; cases rb
        obtain ⟨hc, p⟩ := Post.ite p
        exact iop_add_str pins s σ H _ _ v u Q I rx ry ⟨i, j, rfl, rfl, hc, Post.pure R p _ (.str _)⟩
      | _ => exact (Post.stuck p).elim
    | _ => cases c <;> exact (Post.stuck p).elim
  | sub =>
    cases a with
    | int i =>
      cases c with
      | int j =>
        cases ra; cases rb
        exact iop_sub pins s σ H _ _ v u Q I rx ry ⟨i, j, rfl, rfl, Post.pure R p _ (.int _)⟩
      | _ => exact (Post.stuck p).elim
    | _ => cases c <;> exact (Post.stuck p).elim
  | mul => cases a <;> cases c <;> exact (Post.stuck p).elim
  | fdiv => cases a <;> cases c <;> exact (Post.stuck p).elim
  | mod => cases a <;> cases c <;> exact (Post.stuck p).elim
  | pow => cases a <;> cases c <;> exact (Post.stuck p).elim
theorem rs_aug {i : Nat} {x : Str} {o : BOp} (hN : X.N.Nodup) (hi : X.N[i]? = some x) (hx : Loc X.env.scope x) (he : RE X W e fe) (hf : X.fn x = true ∨ X.env.scope.names.lookup x = some .local) :
    RS X W (.AugAssign (.Name x p) (bo o) e pos) (fun env h => match env.getD i none with
      | some x => SR.of env (fe env h) fun y h1 => SR.of env (augM o x y h1) fun z h2 => .nx (env.set i (some z)) h2
      | none => .stuck) :=
  ps_imp (ps_aug hN hi hx he (ipB o) hf) fun D σ H ⟨env, ρ, h, R, er, p⟩ => by
    cases q : env.getD i none with
    | none => simp only [q] at p; exact p.elim
    | some v =>
      simp only [q] at p
      obtain ⟨x, e1, e2⟩ := er.getD q
      exact ⟨x, e1, TEf.of R er p fun ρ1 H1 h1 w y nx1 R1 er1 ry p1 => ⟨v, w, ρ1, h1, _, R1, e2.nx nx1, ry, (PostS.of er1 p1).imp (fun ρ2 H2 h2 z nx2 R2 q2 zx rz => q2 ρ2 H2 _ .refl R2 ((er1.nx nx2).set rz _)) fun _ _ _ z => z⟩⟩
theorem rs_dput (hu : X.A.units + 64 < cLine) (he : RE X W e fe) (ho : RE X W o fo) (hi : RE X W i fi) (hs : swapsWith e (some (.Subscript o i p)) pos.line X.env = pure false) :
    RS X W (.Assign [.Subscript o i p] e pos) (fun env h => SR.of env (fe env h) fun v h1 => SR.of env (fo env h1) fun x h2 => SR.of env (fi env h2) fun y h3 => SR.of env (dputM x y v h3) fun _ h4 => .nx env h4) :=
  ps_imp (ps_dput (by omega) ho hi he hs) fun D σ H ⟨env, ρ, h, R, er, p⟩ => TEf.of R er p fun ρ1 H1 h1 v x nx1 R1 er1 rx p1 => TEf.of R1 er1 p1 fun ρ2 H2 h2 w y nx2 R2 er2 ry p2 =>
    TEf.of R2 er2 p2 fun ρ3 H3 h3 u z nx3 R3 er3 rz p3 => by
      have p4 := PostS.of er3 p3
      cases w with
      | obj j =>
        obtain ⟨kvs, e1, p5⟩ := Post.read R3 (Post.bind p4)
        obtain ⟨k, e2, p6⟩ := Post.opt R3 (Post.bind p5)
        obtain ⟨hl, p7⟩ := Post.ite p6
        obtain ⟨i, xs, ei, ex, hh, g1, g2⟩ := R3.dct (ry.nx nx3) e1
        cases ei
        have ez := key_rp rz e2
        subst ez ex
        have hl2 : xs.length < sizeLine := by
          have := congrArg List.length g2.1
          simp only [List.length_map] at this
          omega
        obtain ⟨R', nx', q⟩ := Post.setD R3 hh g1 (putP_rp ((rx.nx nx2).nx nx3) g2) p7
        exact ⟨_, _, rfl, DPut.k g1 hl2, q ρ3 _ σ .refl R' (er3.nx nx')⟩
      | _ => exact (Post.stuck p4).elim
theorem rs_if (hc : RT X W c ft) (ha : RSs X W sts g) (hb : RSs X W body g') : RS X W (.If c sts body pos) (fun env h => SR.of env (ft env h) fun t h' => if t then g env h' else g' env h') :=
  ps_imp (ps_if hc ha hb) fun D σ H ⟨env, ρ, h, R, er, p⟩ => TTf.of R er p fun ρ1 H1 h1 t nx1 R1 er1 p1 => by
    cases t with
    | true => exact ⟨env, ρ1, h1, R1, er1, p1⟩
    | false => exact ⟨env, ρ1, h1, R1, er1, p1⟩
theorem rs_whl {wf : Nat} (hp : PassesOwn (model X.prog X.w) X.A X.env X.xe) (hc : RT X W c ft) (hb : RSs X W body g) : RS X W (.While c body [] pos) (whlGo ft g wf) :=
  ps_imp (ps_while hp hc hb) fun D σ H ⟨env, ρ, h, R, er, p⟩ => by
    refine ⟨fun m σ H => ∃ env ρ h, HR X.K X.mg ρ H h ∧ ER X.K X.mg ρ h.length H σ env ∧ PostS X.K X.mg ρ H h.length (whlGo ft g m env h) D W, ⟨wf, env, ρ, h, R, er, p⟩, ?_⟩
    rintro m σ H ⟨env, ρ, h, R, er, p⟩
    cases m with
    | zero => exact p.elim
    | succ m =>
      refine TTf.of R er p fun ρ1 H1 h1 t nx1 R1 er1 p1 => ?_
      cases t with
      | false => exact p1 ρ1 H1 σ .refl R1 er1
      | true =>
        rw [if_pos rfl]
        simp only [if_true] at p1
        refine ⟨fun σ H => ∃ env ρ h, HR X.K X.mg ρ H h ∧ ER X.K X.mg ρ h.length H σ env ∧ PostS X.K X.mg ρ H h.length (whlGo ft g m env h) D W, fun σ' H' w => ⟨m, Nat.lt_succ_self _, w⟩, env, ρ1, h1, R1, er1, ?_⟩
        cases q : g env h1 with
        | nx env' h' => rw [q] at p1; exact fun ρ2 H2 σ2 nx2 R2 er2 => ⟨env', ρ2, h', R2, er2, PostS.nxt p1 nx2⟩
        | ct env' h' => rw [q] at p1; exact fun ρ2 H2 σ2 nx2 R2 er2 => ⟨env', ρ2, h', R2, er2, PostS.nxt p1 nx2⟩
        | bk env' h' => rw [q] at p1; exact p1
        | rt v h' => rw [q] at p1; exact p1
        | exc c vs env' h' => rw [q] at p1; exact p1
        | stuck => rw [q] at p1; exact p1
theorem rs_for {tg iter : Expr} {t : Tg} {k : IK} {fs : Env' → M (List PV)} (hp : PassesOwn (model X.prog X.w) X.A X.env X.xe) (hc : X.calm = true) (hi : PI X tg iter (TIf X.K X.mg W k fs)) (hg : PG X tg (TGf X.K X.mg t)) (hb : RSs X W body g)
    (hs : ∀ x, foldedSetIterable iter X.env x = pure x) :
    RS X W (.For tg iter body [] pos) (fun env h => SR.of env (M.bind (fs env) (itrM k) h) fun it h2 => forGo it (fun h => putT h t) g (it.size h2) 0 env h2) :=
  ps_imp (ps_for hp hc hi hg hb hs) fun D σ H ⟨env, ρ, h, R, er, p⟩ => by
    have p1 := PostS.of er p
    refine ⟨env, ρ, h, R, er, p1.imp (fun ρ1 H1 h1 it nx1 R1 q J jk => ?_) fun _ _ _ z => z⟩
    refine ⟨fun i m σ H => ∃ env ρ h, Nx ρ1 H1 h1.length ρ H h.length ∧ HR X.K X.mg ρ H h ∧ ER X.K X.mg ρ h.length H σ env ∧ PostS X.K X.mg ρ H h.length (forGo it (fun h => putT h t) g m i env h) D W, ⟨it.size h1, env, ρ1, h1, .refl, R1, er.nx nx1, q⟩, ?_⟩
    rintro i m σ H ⟨env, ρ, h, nx, R, er, p⟩
    obtain ⟨jstop, jgo⟩ := jk ρ H h i nx R
    cases e : it.at i h with
    | none =>
      have : forGo it (fun h => putT h t) g m i env h = .stuck := by
        cases m with
        | zero => unfold forGo; rw [e]
        | succ m => unfold forGo; rw [e]
      rw [this] at p
      exact p.elim
    | some o =>
      cases o with
      | none =>
        have : forGo it (fun h => putT h t) g m i env h = .nx env h := by
          cases m with
          | zero => unfold forGo; rw [e]
          | succ m => unfold forGo; rw [e]
        rw [this] at p
        exact .inl ⟨jstop e, p ρ H σ .refl R er⟩
      | some v =>
        cases m with
        | zero =>
          have : forGo it (fun h => putT h t) g 0 i env h = .stuck := by unfold forGo; rw [e]
          rw [this] at p
          exact p.elim
        | succ m =>
          obtain ⟨go, yld⟩ := jgo v e
          unfold forGo at p
          simp only [e] at p
          cases ep : putT h t v env with
          | none => rw [ep] at p; exact p.elim
          | some env1 =>
            rw [ep] at p
            simp only at p
            refine .inr ⟨go, fun σ H => ∃ env ρ h, Nx ρ1 H1 h1.length ρ H h.length ∧ HR X.K X.mg ρ H h ∧ ER X.K X.mg ρ h.length H σ env ∧ PostS X.K X.mg ρ H h.length (forGo it (fun h => putT h t) g m (i + 1) env h) D W, fun σ' H' w => ⟨m, Nat.lt_succ_self _, w⟩, fun x H' y => ?_⟩
            obtain ⟨nxT, RT, rx⟩ := yld x H' y
            have p := PostS.nxt p nxT
            refine ⟨v, env, ρ, h, env1, RT, er.nx nxT, rx, ep, fun σ2 er2 _ => ⟨env1, ρ, h, RT, er2, ?_⟩⟩
            cases q : g env1 h with
            | nx env' h' => rw [q] at p; exact fun ρ2 H2 σ2 nx2 R2 er2 => ⟨env', ρ2, h', nx.trans (nxT.trans nx2), R2, er2, PostS.nxt p nx2⟩
            | ct env' h' => rw [q] at p; exact fun ρ2 H2 σ2 nx2 R2 er2 => ⟨env', ρ2, h', nx.trans (nxT.trans nx2), R2, er2, PostS.nxt p nx2⟩
            | bk env' h' => rw [q] at p; exact p
            | rt v h' => rw [q] at p; exact p
            | exc c vs env' h' => rw [q] at p; exact p
            | stuck => rw [q] at p; exact p

/-! ### raise, try -/
/-- a class of one's own that is raised -/
structure ExcOk (K : PySem.W.Frag) (mg : Str → Option Value) (c : Str) (C : Addr) : Prop where
  gl : mg c = some (.ref C)
  kp : PySem.W.keepIn K (.ref C) = true
  ex : PySem.W.excIn K C [.type "ValueError", .type "Exception", .type "BaseException", .type "object"] "ValueError.__new__" = true
  sb : PySem.W.subIn K (.ref C) (.type "BaseException") = some true
  ty : PySem.W.typeIn K (.ref C) = some (.type "type")
theorem rs_raise {x : Str} {C : Addr} {p2 : Pos} (hc : X.calm = true) (tk : Takes X W) (ok : ExcOk X.K X.mg x C) (hg : Gl X x) (hd : (x == ("__debug__" : Str)) = false) : RS X W (.Raise (some (.Call (.Name x p) [] [] p2)) none pos) (fun env h => .exc x [] env h) :=
  ps_imp (ps_raise hc tk (pmk_own0 PySem.F.excBase_ValueError ok.ex ok.gl ok.kp (raises_own ok.sb ok.ty) hg hd)) fun D σ H ⟨env, ρ, h, R, er, p⟩ => p ρ H σ .refl R er (.ref C) none ⟨C, ok.gl, rfl, rfl, rfl⟩
theorem PostS.noexc {K : PySem.W.Frag} {mg : Str → Option Value} {ρ : Nat → Addr} {H : Hp} {n : Nat} {r : SR} {D : Ends} {W W' : WX} (p : PostS K mg ρ H n (noexcS r) D W) : PostS K mg ρ H n r D W' := by
  cases r with
  | exc c vs e h => exact p.elim
  | _ => exact p
/-- the clauses, pure -/
def hdsGo (sub : Str → Str → Option Bool) (c : Str) (vs : List PV) : List (Str × (Env' → PH → SR)) → Env' → PH → SR
  | [], env, h => .exc c vs env h
  | (x, g) :: hs, env, h => match sub c x with
    | some true => noexcS (g env h)
    | some false => hdsGo sub c vs hs env h
    | none => .stuck
def clauses (K : PySem.W.Frag) (mg : Str → Option Value) : List (Addr × (Env' → PH → SR)) → List (Value × (Addr → Value → Option Addr → TS)) := fun l => l.map fun q => (Value.ref q.1, fun _ _ _ => TSf K mg WF q.2)
theorem wMany_of {K : PySem.W.Frag} {mg : Str → Option Value} {sub : Str → Str → Option Bool} {c : Str} {vs : List PV} {C : Addr} : ∀ {l : List (Str × (Env' → PH → SR))} {as : List Addr}, (∀ (i : Nat) x g a b, l[i]? = some (x, g) → as[i]? = some a → sub c x = some b → PySem.W.exmOne K (.ref C) (.ref a) = some b) → as.length = l.length →
    ∀ {W : WX} {D : Ends} {ρ : Nat → Addr} {H : Hp} {h : PH} {env : Env'} {σ : L2.St} {d : Option Addr}, HR K mg ρ H h → ER K mg ρ h.length H σ env → XR mg c vs (.ref C) d → PostS K mg ρ H h.length (hdsGo sub c vs l env h) D W →
      wMany K W D (clauses K mg (as.zip (l.map (·.2)))) (.ref C) d σ H
  | [], [], _, _, W, D, ρ, H, h, env, σ, d, R, er, x, p => p ρ H σ .refl R er (.ref C) d x
  | [], _ :: _, _, hl, _, _, _, _, _, _, _, _, _, _, _, _ => by cases hl
  | _ :: _, [], _, hl, _, _, _, _, _, _, _, _, _, _, _, _ => by cases hl
  | (y, g) :: l, a :: as, hm, hl, W, D, ρ, H, h, env, σ, d, R, er, x, p => by
    unfold hdsGo at p
    cases e : sub c y with
    | none => rw [e] at p; exact p.elim
    | some b =>
      rw [e] at p
      refine ⟨b, hm 0 y g a b rfl rfl e, fun e b hb => ?_, fun e => ?_⟩
      · subst e
        exact ⟨env, ρ, h, R, er, PostS.noexc p⟩
      · subst e
        exact wMany_of (l := l) (as := as) (fun i x g a b h1 h2 => hm (i + 1) x g a b h1 h2) (by simpa using hl) R er x p
theorem rs_try {h₀ : ExceptHandler} {hds : List ExceptHandler} {sub : Str → Str → Option Bool} {l : List (Str × (Env' → PH → SR))} {as : List Addr} (hs : X.stack = X.env :: X.outer) (hf : X.env.frame = some X.env.locals) (tk : Takes X W)
    (hb : ∀ (W : WX) (pn : List (Addr × Obj)) (xe : Value → Shared → Prop), Takes (X.tr pn xe) W → PassesOwn (model X.prog X.w) X.A X.env xe → RSs (X.tr pn xe) W body g)
    (hh : HdsOk X (h₀ :: hds) (clauses X.K X.mg (as.zip (l.map (·.2))))) (hl : as.length = l.length)
    (hm : ∀ c C, X.mg c = some (.ref C) → ∀ (i : Nat) x k a b, l[i]? = some (x, k) → as[i]? = some a → sub c x = some b → PySem.W.exmOne X.K (.ref C) (.ref a) = some b) :
    RS X W (.Try body (h₀ :: hds) [] [] pos) (fun env h => match g env h with
      | .exc c vs env' h' => hdsGo sub c vs l env' h'
      | r => r) :=
  ps_imp (ps_try_many (tb := fun W => TSf X.K X.mg W g) hs hf tk hb hh) fun D σ H ⟨env, ρ, h, R, er, p⟩ => by
    refine ⟨env, ρ, h, R, er, ?_⟩
    cases q : g env h with
    | exc c vs env' h' =>
      simp only [q] at p
      intro ρ1 H1 σ1 nx1 R1 er1 cls d x
      obtain ⟨C, gC, rfl, h3, h4⟩ := id x
      exact wMany_of (hm c C gC) hl R1 er1 x (PostS.nxt p nx1)
    | nx e h => simp only [q] at p; exact p
    | rt e h => simp only [q] at p; exact p
    | bk e h => simp only [q] at p; exact p
    | ct e h => simp only [q] at p; exact p
    | stuck => simp only [q] at p; exact p

/-! ### calls of defs -/
/-- a def's promise, by the pure one -/
def spP (K : PySem.W.Frag) (mg : Str → Option Value) (f : List PV → M PV) (np : Nat) : Sp := fun xs H Q E => xs.length = np ∧ ∃ vs ρ h, HR K mg ρ H h ∧ RPs K mg ρ h.length H xs vs ∧
  Post K mg ρ H h.length (f vs h) (QV K mg Q) (fun c ws H' => ∀ cls d, XR mg c ws cls d → E cls d H')
theorem pe_callS0 {G : Bool} {CX : CXT} {k : Nat} {f : Addr} {fd : FuncData} {ps : List Str} {sp : Sp} {E : L2.St → XK} {x : Str} (F : FnG G X.prog X.w X.K X.mg X.base CX k f fd ps sp) (hr : Room k X.A) (hgu : G = true → X.A.guards = some []) (hg : Gl X x) (hm : X.mg x = some (.ref f)) (hk : PySem.W.keepIn X.K (.ref f) = true) (hb : Binds X.K fd ps []) (hx : ∀ σ, PassesAt CX X σ (E σ))
    (hdb : (x == ("__debug__" : Str)) = false) : PE X (.Call (.Name x p) [] [] pos) (tCallS sp E tNil) := by
  refine ⟨fun pins s σ H Q I h => ?_⟩
  refine wpAny_Call_Name_kw (ld_glob I hg hm ?_ hdb)
  exact PySem.W.callWith_K0 I.kIn hk (run_fnG (us := []) F hr hgu hb (hx σ) I .nil h)
theorem re_cl {G : Bool} {k : Nat} {f : Addr} {fd : FuncData} {ps : List Str} {x : Str} {cf : List PV → M PV} {es : List Expr} {fs : Env' → M (List PV)} (tk : Takes X W) (F : FnG G X.prog X.w X.K X.mg X.base (L2.CX X.prog X.w) k f fd ps (spP X.K X.mg cf ps.length)) (hr : Room k X.A) (hgu : G = true → X.A.guards = some []) (hg : Gl X x) (hm : X.mg x = some (.ref f)) (hk : PySem.W.keepIn X.K (.ref f) = true) (hb : Binds X.K fd ps [])
    (hdb : (x == ("__debug__" : Str)) = false) (hlen : ∀ vs h, vs.length ≠ ps.length → cf vs h = .stuck) (ha : RA X W es fs) (hst : es = [] ∨ ∃ e r, es = e :: r ∧ starEach (e :: r) X.env = (false, eval e X.env) :: starEach r X.env ∧ (backTo pos (starEach r X.env)).any (·.1) = false) (hnil : es = [] → fs = fun _ => pure []) :
    RE X W (.Call (.Name x p) es [] pos) (fun env => do let vs ← fs env; cf vs) := by
  have fin : ∀ (ρ1 : Nat → Addr) (H1 : Hp) (h1 : PH) (vs : List PV) (xs : List V) (σ : L2.St) (Q : VK), HR X.K X.mg ρ1 H1 h1 → RPs X.K X.mg ρ1 h1.length H1 xs vs → Post X.K X.mg ρ1 H1 h1.length (cf vs h1) (QV X.K X.mg Q) (WXp X.mg W σ) → spP X.K X.mg cf ps.length xs H1 Q (WE W σ) := fun ρ1 H1 h1 vs xs σ Q R1 rs p1 => by
    refine ⟨?_, vs, ρ1, h1, R1, rs, p1⟩
    rw [rs.length]
    by_cases hl : vs.length = ps.length
    · exact hl
    · rw [hlen vs h1 hl] at p1
      exact (Post.stuck p1).elim
  rcases hst with rfl | ⟨e, r, rfl, he, hpl⟩
  · refine pe_imp (pe_callS0 F hr hgu hg hm hk hb (fun σ => passAt tk σ) hdb) fun σ H Q ⟨env, ρ, h, R, er, p⟩ => ?_
    rw [hnil rfl] at p
    exact fin ρ H h [] [] σ Q R .nil p
  · exact pe_imp (pe_callG F hr hgu hg hm hk hb (fun σ => passAt tk σ) ha hdb he hpl) fun σ H Q ⟨env, ρ, h, R, er, p⟩ => TAf.seq R er p fun ρ1 H1 h1 v x nx1 R1 er1 rx p1 => fin ρ1 H1 h1 v x σ Q R1 rx p1
/-- what is asked of a def that is called -/
def CallOk (G : Bool) (X : Cx) (k : Nat) (known : Str → Bool) (call : Str → List PV → M PV) : Prop := ∀ y, known y = true → ∃ f fdat ps, X.mg y = some (.ref f) ∧ PySem.W.keepIn X.K (.ref f) = true ∧ Binds X.K fdat ps [] ∧ FnG G X.prog X.w X.K X.mg X.base (L2.CX X.prog X.w) k f fdat ps (spP X.K X.mg (call y) ps.length) ∧ ∀ vs h, vs.length ≠ ps.length → call y vs h = .stuck
/-- a call of a name of one's own that holds a def -/
theorem re_clv {G : Bool} {k i : Nat} {x : Str} {known : Str → Bool} {call : Str → List PV → M PV} {fs : Env' → M (List PV)} {e : Expr} {es : List Expr} (tk : Takes X W) (hcall : CallOk G X k known call) (hr : Room k X.A) (hgu : G = true → X.A.guards = some []) (hN : X.N[i]? = some x) (hv : Vis X.env.scope x) (hdb : (x == ("__debug__" : Str)) = false) (hcd : (x == ("__classdict__" : Str)) = false)
    (ha : RA X W (e :: es) fs) (he : starEach (e :: es) X.env = (false, eval e X.env) :: starEach es X.env) (hpl : (backTo pos (starEach es X.env)).any (·.1) = false) :
    RE X W (.Call (.Name x p) (e :: es) [] pos) (fun env => do let f ← M.opt (env.getD i none); let y ← M.opt (fnP known f); let vs ← fs env; call y vs) := by
  refine ⟨fun pins s σ H Q I ⟨env, ρ, h, R, er, p⟩ => ?_⟩
  obtain ⟨v, ev, p1⟩ := Post.opt R (Post.bind p)
  obtain ⟨y, ey, p2⟩ := Post.opt R (Post.bind p1)
  cases v with
  | fn y' =>
    have ey' : (if known y' then some y' else none) = some y := ey
    split at ey'
    · rename_i hk
      cases ey'
      obtain ⟨xv, hs, rx⟩ := er.getD ev
      cases rx with
      | @fn _ fa hm =>
        obtain ⟨f, fdat, ps, h1, h2, h3, h4, h5⟩ := hcall y hk
        rw [hm] at h1
        cases h1
        refine wpAny_Call_Name_kw (thn ((pe_var (pos := _) hN hv hdb hcd).run pins s σ H (fun v H1 => v = .ref fa ∧ H1 = H) I ⟨.ref fa, hs, rfl, rfl⟩) fun u s1 ⟨v, H1, I1, r1, q1⟩ => ?_)
        obtain ⟨rfl, rfl⟩ := q1
        cases r1
        have ht : TAf X.K X.mg W fs σ H1 (fun xs H1 => spP X.K X.mg (call y) ps.length xs H1 Q (WE W σ)) := TAf.seq R er p2 fun ρ1 H1 h1 v x nx1 R1 er1 rx p1 => by
          refine ⟨?_, v, ρ1, h1, R1, rx, p1⟩
          rw [rx.length]
          by_cases hl : v.length = ps.length
          · exact hl
          · rw [h5 v h1 hl] at p1
            exact (Post.stuck p1).elim
        refine PySem.W.callWith_K (h₀ := X.base) I.ok.mod.kin h2 (thn (ha.run _ pins s1 σ _ _ I1 ht) fun us s2 ⟨vs, H2, I2, r, q⟩ => ⟨I2.kIn, ?_⟩) he hpl
        exact run_fnG h4 hr hgu h3 (passAt tk σ) I2 r q
    · cases ey'
  | _ => cases ey
end
end MP

set_option Elab.async false
set_option linter.all false
set_option maxRecDepth 100000
set_option maxHeartbeats 4000000
/-! MPr: lots with their numbers compared; a def that is handed a lambda, calls it within a try, and asks of what kind it caught is. -/
namespace MP
open PySem PySem.Spec PyProof.Rows L2
section
variable {X : Cx}
theorem alike_ints2 : ∀ l m : List Int, PySem.W.alikeAll (l.map PyData.int) (m.map PyData.int) = true
  | [], _ => by simp [PySem.W.alikeAll]
  | _ :: _, [] => by simp [PySem.W.alikeAll]
  | a :: l, b :: m => by simp [PySem.W.alikeAll, PySem.W.alike, alike_ints2 l m]
theorem alike_kD (p q : Int × List Int) : PySem.W.alike (kD p) (kD q) = true := by
  unfold kD
  simp [PySem.W.alike, PySem.W.alikeAll, alike_ints2]
theorem depth_kD (p : Int × List Int) : (kD p).depth ≤ 40 := by
  have := depth_ints p.2
  unfold kD
  simp only [PyData.depth, PyData.depthAll]
  omega
theorem lotK_dp {K : PySem.W.Frag} {mg : Str → Option Value} {ρ : Nat → Addr} {n : Nat} {H : Hp} {x : V} {v : PV} {p : Int × List Int} (r : RP K mg ρ n H x v) (e : lotK v = some p) : Dp K H x (kD p) := by
  unfold lotK at e
  split at e
  · rename_i i xs
    cases e1 : intsP xs with
    | none => rw [e1] at e; cases e
    | some l =>
      rw [e1] at e
      cases e
      cases r with
      | tup h1 h2 =>
        cases h2 with
        | cons ra rb =>
          cases rb with
          | cons rc rd =>
            cases rd
            cases ra
            cases rc with
            | tup h3 h4 =>
              have := ints_rp h4 e1
              subst this
              exact .tup h1 (.cons (.int i) (.cons (.tup h3 (dp_ints l)) .nil))
  · cases e
theorem op_ltL (hu : X.A.units + 64 < cLine) : OpR X (compareOp .Lt) (rB X.K X.mg ltTM) := by
  intro pins s σ H x y v u Q I rx ry hh
  obtain ⟨a, c, ρ, h, Wx, R, ra, rb, p⟩ := hh
  obtain ⟨p1, e1, p2⟩ := Post.opt R (Post.bind p)
  obtain ⟨q1, e2, p3⟩ := Post.opt R (Post.bind p2)
  obtain ⟨as, r1⟩ := Dp.reads I _ x v (lotK_dp ra e1) rx
  obtain ⟨bs, r2⟩ := Dp.reads I _ y u (lotK_dp rb e2) ry
  have hd := depth_kD p1
  exact PySem.W.lt_data r1 r2 (alike_kD p1 q1) (fun z => nomatch z) (Nat.lt_of_le_of_lt (Nat.add_le_add_left (Nat.le_trans (Nat.min_le_left _ _) hd) _) (by omega)) ⟨.bl _, H, I, rfl, Post.pure R p3 _ (.bl _)⟩
end
section
variable {X : Cx} {W : WX} {a b : Expr} {fa fb : Env' → M PV} {pos p : Pos}
theorem re_ltT (hu : X.A.units + 64 < cLine) (ha : RE X W a fa) (hb : RE X W b fb) (hm : behindInMarks .Lt b = false) : RE X W (.Compare a [.Lt] [b] pos) (fun env => do let x ← fa env; let y ← fb env; ltTM x y) :=
  pe_imp (pe_cmpR (op_ltL hu) ha hb hm) fun σ H Q ⟨env, ρ, h, R, er, p⟩ => TEf.seq R er p fun ρ1 H1 h1 v x nx1 R1 er1 rx p1 => TEf.seq R1 er1 p1 fun ρ2 H2 h2 w y nx2 R2 er2 ry p2 =>
    ⟨v, w, ρ2, h2, _, R2, rx.nx nx2, ry, p2⟩
theorem rt_ltT (hu : X.A.units + 64 < cLine) (ha : RE X W a fa) (hb : RE X W b fb) (hm : behindInMarks .Lt b = false) : RT X W (.Compare a [.Lt] [b] pos) (fun env => do let x ← fa env; let y ← fb env; let z ← ltTM x y; M.opt (blP z)) :=
  pt_imp (pt_cmpR (op_ltL hu) ha hb hm) fun σ H Q ⟨env, ρ, h, R, er, p⟩ => TEf.seq R er p fun ρ1 H1 h1 v x nx1 R1 er1 rx p1 => TEf.seq R1 er1 p1 fun ρ2 H2 h2 w y nx2 R2 er2 ry p2 =>
    ⟨v, w, ρ2, h2, _, R2, rx.nx nx2, ry, p2.bind.imp (fun ρ3 H3 h3 z nx3 R3 q x rx => by
      obtain ⟨b, e, q2⟩ := Post.opt R3 q
      cases z with
      | bl b' => cases e; cases rx; exact ⟨_, rfl, q2⟩
      | _ => cases e) fun _ _ _ z => z⟩
end
/-! ### a def that is handed a lambda -/
/-- a class by its name -/
def ClsN (mg : Str → Option Value) (c : Str) (v : V) (u : Value) : Prop := RelV v u ∧ (∀ w, RelV v w → w = u) ∧ (mg c = some u ∨ (mg c = none ∧ bootBuiltins c = some u)) ∧ c ≠ "__name__" ∧ (c == ("__debug__" : Str)) = false
def KitAll (K : PySem.W.Frag) (mg : Str → Option Value) (D : Addr) : List Str → List Bool → Prop
  | [], [] => True
  | c :: cs, b :: bs => (∃ v u, ClsN mg c v u ∧ PySem.W.kitOne K (.ref D) u = some b) ∧ KitAll K mg D cs bs
  | _, _ => False
def isIsE (e c : Str) : Expr → Bool
  | .Call (.Name x _) [.Name y _, .Name z _] [] _ => x == "isinstance" && y == e && z == c
  | _ => false
def isIsEs (e : Str) : List Str → List Expr → Bool
  | [], [] => true
  | c :: cs, x :: xs => isIsE e c x && isIsEs e cs xs
  | _, _ => false
def isBls : List Bool → List Expr → Bool
  | [], [] => true
  | b :: bs, .Constant (.bool b') _ _ :: xs => b == b' && isBls bs xs
  | _, _ => false
section
variable {X : Cx} {a D : Addr} {oe : Obj} {pn : List (Addr × Obj)} {e : Str}
theorem isIsE_eq {c : Str} {x : Expr} (h : isIsE e c x = true) : ∃ p1 p2 p3 p4, x = .Call (.Name "isinstance" p1) [.Name e p2, .Name c p3] [] p4 := by
  unfold isIsE at h
  split at h
  · simp only [Bool.and_eq_true, beq_iff_eq] at h
    obtain ⟨⟨rfl, rfl⟩, rfl⟩ := h
    exact ⟨_, _, _, _, rfl⟩
  · cases h
/-- isinstance(e, ..), one class behind another -/
theorem pa_isE (C : ExcC X.K D) (hz : Zc (.ref D) none oe) (hf : ∃ vs, oe.data = .fields vs) (hi : Gl X "isinstance") (hm : X.mg "isinstance" = none) (hN : X.N[2]? = some e) (hv : Vis X.env.scope e) (hd : (e == ("__debug__" : Str)) = false) (hcd : (e == ("__classdict__" : Str)) = false) :
    ∀ (cs : List Str) (xs : List Expr) (bs : List Bool), isIsEs e cs xs = true → (∀ c ∈ cs, Gl X c) → KitAll X.K X.mg D cs bs →
      PA (X.suite a ((a, oe) :: pn)) xs (fun σ H Q => σ[2]? = some (some (.ref a)) ∧ Q (bs.map V.bl) H)
  | [], [], [], _, _, _ => pa_imp pa_nil fun σ H Q ⟨_, q⟩ => q
  | c :: cs, x :: xs, b :: bs, h, hg, hk => by
    have h' : (isIsE e c x && isIsEs e cs xs) = true := h
    rw [Bool.and_eq_true] at h'
    obtain ⟨p1, p2, p3, p4, rfl⟩ := isIsE_eq h'.1
    obtain ⟨⟨v, u, ⟨r1, r2, r3, r4, r5⟩, r6⟩, hk2⟩ := hk
    have gc : Gl X c := hg c (by simp)
    have pc : PE (X.suite a ((a, oe) :: pn)) (.Name c p3) (tC v) := by
      rcases r3 with r3 | ⟨r3, r3'⟩
      · exact pe_glob (X := X.suite a ((a, oe) :: pn)) gc r3 r1 r5
      · exact pe_bltn (X := X.suite a ((a, oe) :: pn)) gc r3 r3' r1 r4 r5
    have st : ∀ (y : Expr) (ys : List Expr) (env : Env), (∃ z q, y = .Name z q) ∨ (∃ f l k q, y = .Call f l k q) → starEach (y :: ys) env = (false, eval y env) :: starEach ys env := fun y ys env h => by
      rcases h with ⟨z, q, rfl⟩ | ⟨f, l, k, q, rfl⟩ <;> rfl
    have one : PE (X.suite a ((a, oe) :: pn)) (.Call (.Name "isinstance" p1) [.Name e p2, .Name c p3] [] p4) (tCB (rIsE X.K D a) _) :=
      pe_callB (X := X.suite a ((a, oe) :: pn)) (call_isE C hz hf) hi hm rfl (pa_cons (pe_var (X := X.suite a ((a, oe) :: pn)) hN hv hd hcd) (pa_cons pc pa_nil (st _ _ _ (.inl ⟨_, _, rfl⟩))) (st _ _ _ (.inl ⟨_, _, rfl⟩))) (by decide) (by decide) (st _ _ _ (.inl ⟨_, _, rfl⟩)) rfl
    refine pa_imp (pa_cons one (pa_isE C hz hf hi hm hN hv hd hcd cs xs bs h'.2 (fun c hc => hg c (List.mem_cons_of_mem _ hc)) hk2) (st _ _ _ (.inr ⟨_, _, _, _, rfl⟩))) fun σ H Q ⟨s2, q⟩ => ?_
    exact ⟨.ref a, s2, v, u, b, rfl, r2, r6, s2, q⟩
  | [], [], _ :: _, _, _, hk => hk.elim
  | _ :: _, _ :: _, [], _, _, hk => hk.elim
  | [], _ :: _, _, h, _, _ => by cases h
  | _ :: _, [], _, h, _, _ => by cases h
end
def okM (x : Str) : Bool := !(x == ("__debug__" : Str)) && !(x == ("__classdict__" : Str)) && x != "__name__"
/-- the body of such a def -/
def chkRf (r : RfD) (sg : Scope) (a fn e : Str) : List Stmt → Bool
  | [.Assign [.Name f0 _] (.Constant .none _ _) _, .Try [.Expr (.Call (.Name a' _) [] [] _) _] [.ExceptHandler (some (.Name hd _)) (some e') [.Assign [.Name f1 _] (.List calls _) _] _] [] [] _, .Return (some (.Compare (.Name f2 _) [op] [.List cons _] _)) _] =>
    f0 == fn && f1 == fn && f2 == fn && a' == a && hd == r.hd && e' == e && op == .Eq && isIsEs e r.cs calls && isBls r.due cons && !r.cs.isEmpty && decide (r.cs.length ≤ 100) && decide (r.due.length ≤ 100) &&
    sg.names.lookup fn == some .local && sg.names.lookup e == some .local && sg.names.lookup a == some .local && sg.names.lookup r.hd == some .globalImplicit && sg.names.lookup ("isinstance" : Str) == some .globalImplicit &&
    (r.cs.all fun c => sg.names.lookup c == some .globalImplicit) && okM fn && okM e && okM a && okM r.hd && decide ([a, fn, e].Nodup)
  | _ => false
structure RfB (r : RfD) (sg : Scope) (a fn e : Str) (calls cons : List Expr) : Prop where
  c1 : isIsEs e r.cs calls = true
  c2 : isBls r.due cons = true
  ne : r.cs.isEmpty = false
  l1 : r.cs.length ≤ 100
  l2 : r.due.length ≤ 100
  fnl : sg.names.lookup fn = some .local
  el : sg.names.lookup e = some .local
  al : sg.names.lookup a = some .local
  hl : sg.names.lookup r.hd = some .globalImplicit
  il : sg.names.lookup ("isinstance" : Str) = some .globalImplicit
  cl : ∀ c ∈ r.cs, sg.names.lookup c = some .globalImplicit
  okf : okM fn = true
  oke : okM e = true
  oka : okM a = true
  okh : okM r.hd = true
  nd : [a, fn, e].Nodup
theorem okM_1 {x : Str} (h : okM x = true) : (x == ("__debug__" : Str)) = false ∧ (x == ("__classdict__" : Str)) = false ∧ x ≠ "__name__" := by
  unfold okM at h
  simp only [Bool.and_eq_true, Bool.not_eq_true', bne_iff_ne] at h
  exact ⟨h.1.1, h.1.2, h.2⟩
theorem chkRf_eq {r : RfD} {sg : Scope} {a fn e : Str} {bg : List Stmt} (h : chkRf r sg a fn e bg = true) : ∃ calls cons p1 j p2 p3 p4 p5 p6 p7 p8 p9 p10 p11 p12 p13 p14 p15 p16,
    bg = [.Assign [.Name fn p1] (.Constant .none j p2) p3, .Try [.Expr (.Call (.Name a p4) [] [] p5) p6] [.ExceptHandler (some (.Name r.hd p7)) (some e) [.Assign [.Name fn p8] (.List calls p9) p10] p11] [] [] p12, .Return (some (.Compare (.Name fn p13) [.Eq] [.List cons p14] p15)) p16] ∧ RfB r sg a fn e calls cons := by
  unfold chkRf at h
  split at h
  · simp only [Bool.and_eq_true, beq_iff_eq, decide_eq_true_eq, List.all_eq_true, Bool.not_eq_true'] at h
    obtain ⟨⟨⟨⟨⟨⟨⟨⟨⟨⟨⟨⟨⟨⟨⟨⟨⟨⟨⟨⟨⟨⟨rfl, h1⟩, h2⟩, h3⟩, h4⟩, h5⟩, h6⟩, c1⟩, c2⟩, ne⟩, l1⟩, l2⟩, k1⟩, k2⟩, k3⟩, k4⟩, k5⟩, k6⟩, o1⟩, o2⟩, o3⟩, o4⟩, nd⟩ := h
    subst h1 h2 h3 h5 h6
    rw [h4]
    exact ⟨_, _, _, _, _, _, _, _, _, _, _, _, _, _, _, _, _, _, _, rfl, c1, c2, ne, l1, l2, k1, k2, k3, k4, k5, k6, o1, o2, o3, o4, nd⟩
  · cases h
/-- what such a def makes of the lambda that it is handed -/
def TTrf (K : PySem.W.Frag) (mg : Str → Option Value) (CH : Addr) (r : RfD) : (XK → Hp → VK → Prop) → Hp → VK → Prop := fun tl H Q =>
  tl (fun cls d H' => ∃ (C : Addr) (bs : List Bool), cls = .ref C ∧ d = none ∧ ExcC K C ∧ PySem.W.exmOne K (.ref C) (.ref CH) = some true ∧ KitAll K mg C r.cs bs ∧
    ∀ q1, H' q1 = none → ∀ q2, upd H' q1 (.lst (bs.map V.bl)) q2 = none → rB K mg (cmpM .eq) (.ref q1) (.ref q2) (upd (upd H' q1 (.lst (bs.map V.bl))) q2 (.lst (r.due.map V.bl))) Q) H fun _ _ => False
theorem pa_bls {X : Cx} : ∀ (bs : List Bool) (xs : List Expr), isBls bs xs = true → PA X xs (fun _ H Q => Q (bs.map V.bl) H)
  | [], [], _ => pa_imp pa_nil fun σ H Q q => q
  | b :: bs, .Constant (.bool b') j p :: xs, h => by
    have h' : (b == b' && isBls bs xs) = true := h
    rw [Bool.and_eq_true] at h'
    have : b' = b := (beq_iff_eq.mp h'.1).symm
    subst this
    exact pa_imp (pa_cons pe_bl (pa_bls bs xs h'.2) rfl) fun σ H Q q => q
  | [], _ :: _, h => by cases h
theorem kit_len {K : PySem.W.Frag} {mg : Str → Option Value} {D : Addr} : ∀ {cs : List Str} {bs : List Bool}, KitAll K mg D cs bs → bs.length = cs.length
  | [], [], _ => rfl
  | _ :: _, _ :: _, h => by rw [List.length_cons, List.length_cons, kit_len h.2]
  | [], _ :: _, h => h.elim
  | _ :: _, [], h => h.elim
/-- what comes to no end may be wished anything of -/
theorem pe_false {X : Cx} {e : Expr} {te : TE} (h : PE X e te) : PE X e (fun σ H _ => te σ H fun _ _ => False) :=
  ⟨fun pins s σ H Q I hh => wpAny_mono (h.run pins s σ H _ I hh) (fun v s' ⟨_, _, _, _, z⟩ => z.elim) fun _ _ z => z⟩
theorem ref_gives {X : Cx} {r : RfD} {sg : Scope} {g CH : Addr} {cdg : Value} {bg : List Stmt} {a fn e q x : Str} (hb : chkRf r sg a fn e bg = true) (hme : X.mg r.hd = some (.ref CH)) (hmi : X.mg "isinstance" = none) (hu : X.A.units + 100 < cLine) :
    LamX.GivesTo X [a, fn, e] x sg g cdg bg a q (TTrf X.K X.mg CH r) := by
  intro f c' s H Q tl act hc h
  obtain ⟨calls, cons, p1, j, p2, p3, p4, p5, p6, p7, p8, p9, p10, p11, p12, p13, p14, p15, p16, rfl, B⟩ := chkRf_eq hb
  have nd := B.nd
  have l1 := B.l1
  have l2 := B.l2
  have of1 := okM_1 B.okf
  have oe1 := okM_1 B.oke
  have oh1 := okM_1 B.okh
  have locf : Loc sg fn := .inl B.fnl
  have visf : Vis sg fn := .inl B.fnl
  have vise : Vis sg e := .inl B.el
  have hsz : (1000 : Nat) ≤ sizeLine := by rw [sizeLine_eq]; omega
  refine ⟨_, pss_cons (ps_set (X := (cxOf C8.CX0 X.prog X.w X.K X.mg X.base [a, fn, e] x sg g cdg X.A X.stack s H C8.E0).nox) (i := 1) nd rfl locf pe_non rfl (.inr B.fnl))
    (pss_cons (ps_try_as (X := (cxOf C8.CX0 X.prog X.w X.K X.mg X.base [a, fn, e] x sg g cdg X.A X.stack s H C8.E0).nox) (c := .ref CH) (i := 2)
      (tb := fun W D σ H => ∃ Ech : XK, (∀ cls d σ' H', Ech cls d H' → W cls d σ' H') ∧ σ[0]? = some (some (.ref f)) ∧ H c' = some (LamX.CodeO c' q) ∧ tl Ech H fun _ _ => False)
      (ts := fun b cls d D σ H => (∃ σ' : L2.St, σ = σ'.set 2 (some (.ref b))) ∧ ∃ (C : Addr) (bs : List Bool), cls = .ref C ∧ d = none ∧ ExcC X.K C ∧ KitAll X.K X.mg C r.cs bs ∧ ∀ q1, H q1 = none → D.nx (σ.set 1 (some (.ref q1))) (upd H q1 (.lst (bs.map V.bl))))
      rfl rfl nd rfl ?hln ⟨B.hl, oh1.1, .inl hme⟩ LamX.takes0 (fun W pn xe tk _ => ?hbody) (fun b oe cls d pn hz hf => ?hsuite))
    (pss_one (t := fun D σ H => ∃ (σ' : L2.St) (q1 : Addr), σ = (σ'.set 1 (some (.ref q1))).set 2 none ∧ ∀ q2, H q2 = none → rB X.K X.mg (cmpM .eq) (.ref q1) (.ref q2) (upd H q2 (.lst (r.due.map V.bl))) D.rt) ?hret)), ?hfin⟩
  case hln => exact B.el
  case hbody =>
    refine pss_one ⟨fun pins s' σ H' D I h' => ?_⟩
    obtain ⟨Ech, hW, h1, h2, h3⟩ := h'
    have hp := act W pn xe Ech p4 p5 tk hW
    have hp2 := pe_false hp
    have hq := ps_expr (pos := p6) hp2 (by rfl)
    exact hq.run pins s' σ H' D I ⟨h1, h2, h3⟩
  case hsuite =>
    refine ⟨fun pins s' σ H' D I h' => ?_⟩
    obtain ⟨⟨σ', rfl⟩, C, bs, rfl, rfl, EC, KA, hq⟩ := h'
    have hlen := I.len
    rw [List.length_set] at hlen
    have hlen : σ'.length = 3 := hlen
    have PA1 := pa_isE (X := (cxOf C8.CX0 X.prog X.w X.K X.mg X.base [a, fn, e] x sg g cdg X.A X.stack s H C8.E0).nox) (a := b) (pn := pn) EC hz hf B.il hmi rfl vise oe1.1 oe1.2.1 r.cs calls bs B.c1 B.cl KA
    have P1 := pss_one (ps_set (X := (cxOf C8.CX0 X.prog X.w X.K X.mg X.base [a, fn, e] x sg g cdg X.A X.stack s H C8.E0).nox.suite b ((b, oe) :: pn)) (i := 1) (pos := p10) (pos' := p8) nd rfl locf (pe_lst (pos := p9) PA1) rfl (.inr B.fnl))
    refine P1.run pins s' _ H' D I ⟨?_, ?_, ?_⟩
    · rw [List.getElem?_set_self (by omega)]
    · have := kit_len KA
      rw [List.length_map]
      omega
    · intro p hp
      exact hq p hp
  case hret =>
    refine ⟨fun pins s' σ H' D I h' => ?_⟩
    obtain ⟨σ', q1, rfl, hq⟩ := h'
    have hlen := I.len
    rw [List.length_set, List.length_set] at hlen
    have hlen : σ'.length = 3 := hlen
    have hu2 : (X.A.deeper (envOfC x sg s.heap.objs.size g cdg)).units + 64 < cLine := by show X.A.units + 3 + 64 < cLine; omega
    have PR := ps_ret (pos := p16) (pe_cmpR (X := (cxOf C8.CX0 X.prog X.w X.K X.mg X.base [a, fn, e] x sg g cdg X.A X.stack s H C8.E0).nox) (pos := p15) (opC (X := (cxOf C8.CX0 X.prog X.w X.K X.mg X.base [a, fn, e] x sg g cdg X.A X.stack s H C8.E0).nox) hu2 .eq) (pe_var (i := 1) (pos := p13) rfl visf of1.1 of1.2.1) (pe_lst (pos := p14) (pa_bls r.due cons B.c2)) (by rfl))
    refine PR.run pins s' _ H' D I ⟨.ref q1, ?_, ?_, ?_⟩
    · rw [List.getElem?_set_ne (by omega), List.getElem?_set_self (by omega)]
    · rw [List.length_map]
      omega
    · intro p hp
      exact hq p hp
  case hfin =>
    show tAsg (tC .non) (gName 1) _ _ _
    refine ⟨_, fun cls d σ' H' hE => ?_, rfl, hc, h⟩
    obtain ⟨C, bs, rfl, rfl, EC, hex, KA, hq⟩ := hE
    refine ⟨true, hex, fun _ b hb => ⟨⟨_, rfl⟩, C, bs, rfl, rfl, EC, KA, fun q1 hq1 => ?_⟩, fun z => by cases z⟩
    refine ⟨σ'.set 2 (some (.ref b)), q1, rfl, fun q2 hq2 => ?_⟩
    exact hq q1 hq1 q2 hq2
theorem lam_bind0 {q : Str} {body : Expr} {scope : Scope} {cl : List (Str × Addr)} {pm cv ctv : Value} : bindArgs (PySem.W.kla_fn "<lambda>" q ⟨[], [], none, [], [], none, []⟩ body scope cl pm cv ctv) ⟨[], []⟩ = pure [] := by
  first
    | rfl
    | (simp [bindArgs, seqItems?]; done)
    | (simp [bindArgs, seqItems?]; rfl)
def slotsOK (N : List Str) (sc : Scope) : List Nat → List Expr → Bool
  | [], [] => true
  | i :: is, .Name y _ :: r => N[i]? == some y && sc.names.lookup y == some .free && okM y && slotsOK N sc is r
  | _, _ => false
theorem ra_slots {Y : Cx} {W : WX} : ∀ (is : List Nat) (xs : List Expr), slotsOK Y.N Y.env.scope is xs = true → RA Y W xs (slotsM is)
  | [], [], _ => ra_nil
  | i :: is, .Name y p :: r, h => by
    have h' : (Y.N[i]? == some y && Y.env.scope.names.lookup y == some .free && okM y && slotsOK Y.N Y.env.scope is r) = true := h
    simp only [Bool.and_eq_true, beq_iff_eq] at h'
    obtain ⟨⟨⟨h1, h2⟩, h3⟩, h4⟩ := h'
    have o := okM_1 h3
    exact ra_cons (re_slot h1 (.inr (.inr h2)) o.1 o.2.1) (ra_slots is r h4) rfl
  | [], _ :: _, h => by cases h
  | _ :: _, [], h => by cases h
theorem slots_plain {N : List Str} {sc : Scope} {pos : Pos} {env : Env} : ∀ {is : List Nat} {xs : List Expr}, slotsOK N sc is xs = true → (xs = [] ∨ ∃ e r, xs = e :: r ∧ starEach (e :: r) env = (false, eval e env) :: starEach r env ∧ (backTo pos (starEach r env)).any (·.1) = false) ∧ (xs = [] → slotsM is = fun _ => pure [])
  | [], [], _ => ⟨.inl rfl, fun _ => rfl⟩
  | i :: is, .Name y p :: r, h => by
    have back : ∀ (is : List Nat) (r : List Expr), slotsOK N sc is r = true → (backTo pos (starEach r env)).any (·.1) = false := fun is => by
      induction is with
      | nil => intro r h; cases r with | nil => rfl | cons => cases h
      | cons i is ih =>
        intro r h
        match r, h with
        | .Name z q :: r, h =>
          have h' : (N[i]? == some z && sc.names.lookup z == some .free && okM z && slotsOK N sc is r) = true := h
          simp only [Bool.and_eq_true] at h'
          have := ih r h'.2
          show (false || (backTo pos (starEach r env)).any (·.1)) = false
          rw [this]
          rfl
        | [], h => cases h
    have h' : (N[i]? == some y && sc.names.lookup y == some .free && okM y && slotsOK N sc is r) = true := h
    simp only [Bool.and_eq_true] at h'
    exact ⟨.inr ⟨_, _, rfl, rfl, back is r h'.2⟩, fun z => by cases z⟩
  | [], _ :: _, h => by cases h
  | _ :: _, [], h => by cases h
theorem kits_all {K : PySem.W.Frag} {mg : Str → Option Value} {kit : Str → Str → Option Bool} {cn : Str} {C : Addr} (hk : ∀ x b, kit cn x = some b → ExcC K C ∧ ∃ v u, ClsN mg x v u ∧ PySem.W.kitOne K (.ref C) u = some b) : ∀ {cs : List Str} {bs : List Bool}, kitsG kit cn cs = some bs → KitAll K mg C cs bs ∧ (cs.isEmpty = false → ExcC K C)
  | [], bs, e => by cases e; exact ⟨trivial, fun z => by cases z⟩
  | c :: cs, bs, e => by
    have e : ((kit cn c).bind fun b => (kitsG kit cn cs).map fun bs => b :: bs) = some bs := e
    cases e1 : kit cn c with
    | none => rw [e1] at e; cases e
    | some b =>
      rw [e1] at e
      cases e2 : kitsG kit cn cs with
      | none => rw [e2] at e; cases e
      | some r =>
        rw [e2] at e
        cases e
        obtain ⟨h1, h2⟩ := hk c b e1
        exact ⟨⟨h2, (kits_all hk e2).1⟩, fun _ => h1⟩
theorem rps_bls {K : PySem.W.Frag} {mg : Str → Option Value} {ρ : Nat → Addr} {n : Nat} {H : Hp} : ∀ bs : List Bool, RPs K mg ρ n H (bs.map V.bl) (bs.map PV.bl)
  | [] => .nil
  | b :: bs => .cons (.bl b) (rps_bls bs)
/-- g(lambda: x(..)) -/
theorem re_rfs {X : Cx} {W : WX} {j : Nat} {r : RfD} {x : Str} {is : List Nat} {c P ga CH f : Addr} {a fn e : Str} {st : Stmt} {gd fdat : FuncData} {scope : Scope} {p p2 lpos pos pos2 : Pos} {args : List Expr} {sub kit : Str → Str → Option Bool} {low : Str → List PV → M PV} {ps : List Str}
    (hg : Gl X r.g) (hm : X.mg r.g = some (.ref ga)) (F : Fun X.K r.g r.g st ga gd) (hb : ∀ us : List Value, us.length = 1 → bindArgs gd ⟨us, []⟩ = pure ([a].zip us)) (S : FnScope [a, fn, e] [a] (defScope st)) (hc : chkRf r (defScope st) a fn e (defBody st) = true)
    (hme : X.mg r.hd = some (.ref CH)) (hmi : X.mg "isinstance" = none) (hKin : X.K.In X.base) (TB : LamX.TabB X.base X.mg c P) (hcode : X.env.code = .ref c) (TK : TabK X.K X.mg P (X.env.qual ++ "<lambda>")) (TU : ∀ Pt q q', TabK X.K X.mg Pt q → TabK X.K X.mg Pt q' → q = q')
    (hr : Room (j + 2) X.A) (L : LamX.LamS X.env.scope scope) (hgx : scope.names.lookup x = some .globalImplicit) (F2 : FnOk X.prog X.w X.K X.mg X.base (L2.CX X.prog X.w) j f fdat ps (spP X.K X.mg (low x) ps.length)) (hmx : X.mg x = some (.ref f)) (hkx : PySem.W.keepIn X.K (.ref f) = true) (hbx : L2.Binds X.K fdat ps [])
    (hdb : (x == ("__debug__" : Str)) = false) (hdg : (r.g == ("__debug__" : Str)) = false) (hlen : ∀ vs h, vs.length ≠ ps.length → low x vs h = .stuck) (hargs : slotsOK X.N scope is args = true)
    (hsub : ∀ cn C, X.mg cn = some (.ref C) → sub cn r.hd = some true → PySem.W.exmOne X.K (.ref C) (.ref CH) = some true)
    (hkit : ∀ cn C, X.mg cn = some (.ref C) → ∀ x b, kit cn x = some b → ExcC X.K C ∧ ∃ v u, ClsN X.mg x v u ∧ PySem.W.kitOne X.K (.ref C) u = some b) :
    RE X W (.Call (.Name r.g p) [.Lambda ⟨[], [], none, [], [], none, []⟩ (.Call (.Name x p2) args [] pos2) scope lpos] [] pos) (fun env => rfsM sub kit r (do let vs ← slotsM is env; low x vs)) := by
  obtain ⟨T, hT⟩ := tabs_list (mg := X.mg) hKin
  obtain ⟨oc, od, kV, doc, pm, an, cdv, ct, osl, rfl, lk, hcd⟩ := F.ex
  obtain ⟨calls, cons, _, _, _, _, _, _, _, _, _, _, _, _, _, _, _, _, _, _, B⟩ := chkRf_eq hc
  have oa := okM_1 B.oka
  have hu := hr.un
  refine pe_imp (LamX.pe_lamcall (T := T) (TT := TTrf X.K X.mg CH r) (a := a) (t := fun E => TEf X.K X.mg (fun cls d _ H' => E cls d H') (fun env => do let vs ← slotsM is env; low x vs)) hg hm F.kp lk hcd (.all hb) S rfl (.inl B.al) (ref_gives hc hme hmi (by omega)) TB hcode ((hT _ _).mp TK) (fun q hq e => ?_) hr L rfl (fun _ _ _ _ _ => lam_bind0) (fun A outer s H E f' c' hr2 => ?_) hdg oa.1 oa.2.1) fun σ H Q ⟨env, ρ, h, R, er, p⟩ => ?_
  · have := (hT q.1 q.2).mpr hq
    rw [e] at this
    exact TU _ _ _ this TK
  · have sp := slots_plain (pos := pos2) (env := (LamX.lamCx X A outer s H E scope f' c').env) hargs
    exact re_cl (X := LamX.lamCx X A outer s H E scope f' c') (W := fun cls d _ H' => E cls d H') (takes_of rfl rfl rfl rfl) (FnG.of F2) hr2 (fun z => nomatch z) hgx hmx hkx hbx hdb hlen (ra_slots (Y := LamX.lamCx X A outer s H E scope f' c') is args hargs) sp.1 sp.2
  · refine ⟨fun q hq => R.tab _ _ ((hT _ _).mpr hq), fun H1 eN T1 => ?_⟩
    have R1 : HR X.K X.mg ρ H1 h := R.extN eN fun P q t => T1 _ ((hT P q).mp t)
    have er1 := er.nx (Nx.extN eN (n := h.length) (ρ := ρ))
    have p := p.nxt (Nx.extN eN (n := h.length) (ρ := ρ))
    unfold rfsM at p
    unfold TTrf
    refine ⟨env, ρ, h, R1, er1, ?_⟩
    dsimp only at p ⊢
    generalize (slotsM is env >>= fun vs => low x vs) h = res at p ⊢
    cases res with
    | ok v h' => exact p.elim
    | stuck => exact p.elim
    | exc cn vs h' =>
      intro ρ1 H' nx1 R2 cls d xr
      obtain ⟨C, gC, rfl, rfl, rfl⟩ := xr
      simp only [] at p
      cases e1 : sub cn r.hd with
      | none => rw [e1] at p; exact p.elim
      | some b =>
        cases e2 : kitsG kit cn r.cs with
        | none => rw [e1, e2] at p; cases b <;> exact p.elim
        | some bs =>
          cases b with
          | false => rw [e1, e2] at p; exact p.elim
          | true =>
            rw [e1, e2] at p
            obtain ⟨KA, EC⟩ := kits_all (hkit cn C gC) e2
            refine ⟨C, bs, rfl, rfl, EC B.ne, hsub cn C gC e1, KA, fun q1 hq1 q2 hq2 => ?_⟩
            have p1 := Post.bind (Post.nxt p nx1)
            have ro1 : RO X.K X.mg (rn ρ1 h'.length q1) (h'.length + 1) (upd H' q1 (.lst (bs.map V.bl))) q1 (.lst .own (bs.map PV.bl)) := ⟨_, upd_same, rps_bls bs⟩
            have p2 := Post.bind (p1 _ _ (.new hq1) (R2.new hq1 ro1))
            have R3 := R2.new hq1 ro1
            have ro2 : RO X.K X.mg (rn (rn ρ1 h'.length q1) (h' ++ [PO.lst .own (bs.map PV.bl)]).length q2) ((h' ++ [PO.lst .own (bs.map PV.bl)]).length + 1) (upd (upd H' q1 (.lst (bs.map V.bl))) q2 (.lst (r.due.map V.bl))) q2 (.lst .own (r.due.map PV.bl)) := ⟨_, upd_same, rps_bls r.due⟩
            have p3 := p2 _ _ (.new hq2) (R3.new hq2 ro2)
            have R4 := R3.new hq2 ro2
            have rp1 : RP X.K X.mg (rn ρ1 h'.length q1) (h' ++ [PO.lst .own (bs.map PV.bl)]).length (upd H' q1 (.lst (bs.map V.bl))) (.ref q1) (.obj h'.length) := by
              have := RP.obj (K := X.K) (mg := X.mg) (ρ := rn ρ1 h'.length q1) (n := (h' ++ [PO.lst .own (bs.map PV.bl)]).length) (H := upd H' q1 (.lst (bs.map V.bl))) (i := h'.length) (by simp)
              rw [rn_eq] at this
              exact this
            have rp2 : RP X.K X.mg (rn (rn ρ1 h'.length q1) (h' ++ [PO.lst .own (bs.map PV.bl)]).length q2) (h' ++ [PO.lst .own (bs.map PV.bl)] ++ [PO.lst .own (r.due.map PV.bl)]).length (upd (upd H' q1 (.lst (bs.map V.bl))) q2 (.lst (r.due.map V.bl))) (.ref q2) (.obj (h' ++ [PO.lst .own (bs.map PV.bl)]).length) := by
              have := RP.obj (K := X.K) (mg := X.mg) (ρ := rn (rn ρ1 h'.length q1) (h' ++ [PO.lst .own (bs.map PV.bl)]).length q2) (n := (h' ++ [PO.lst .own (bs.map PV.bl)] ++ [PO.lst .own (r.due.map PV.bl)]).length) (H := upd (upd H' q1 (.lst (bs.map V.bl))) q2 (.lst (r.due.map V.bl))) (i := (h' ++ [PO.lst .own (bs.map PV.bl)]).length) (by simp)
              rw [rn_eq] at this
              exact this
            exact ⟨_, _, _, _, _, R4, rp1.nx (.new hq2 (o := .lst .own (r.due.map PV.bl))), rp2, p3⟩
end MP

set_option Elab.async false
set_option linter.all false
set_option maxRecDepth 100000
set_option maxHeartbeats 4000000
/-! MPh: the checker of expressions, and that it is right. -/
namespace MP
open PySem PySem.Spec PyProof.Rows L2

/-! ### views -/
def plainE : Expr → Bool
  | .Starred .. => false
  | .Slice .. => false
  | .Set .. => false
  | _ => true
def notComp : Expr → Bool
  | .ListComp .. => false
  | .SetComp .. => false
  | .DictComp .. => false
  | _ => true
def defT : Expr → Bool
  | .UnaryOp .Not _ _ => false
  | .BoolOp .. => false
  | .IfExp .. => false
  | .Compare .. => false
  | _ => true
def abOK : Expr → Bool
  | .Call .. => false
  | _ => true
theorem star_plain {e : Expr} (h : plainE e = true) (es : List Expr) (env : Env) : starEach (e :: es) env = (false, eval e env) :: starEach es env := by
  cases e <;> first | rfl | cases h
theorem m2_plain {X : Cx} {o e f : Expr} {m : Str} {apos pos : Pos} (hb : attributeBase o m X.env (eval o X.env) = eval o X.env) (hl : (apos.endLine == pos.line) = true) (he : plainE e = true) (hf : plainE f = true) : L2.M2 X o m apos e f pos := by
  have t : starEach [e, f] X.env = [(false, eval e X.env), (false, eval f X.env)] := by rw [star_plain he, star_plain hf]; rfl
  refine ⟨hb, ?_, hl, ?_⟩
  · rw [t]; rfl
  · rw [t]; rfl
theorem back_plain {pos : Pos} {env : Env} : ∀ {es : List Expr}, es.all plainE = true → (backTo pos (starEach es env)).any (·.1) = false
  | [], _ => rfl
  | e :: es, h => by
    rw [List.all_cons, Bool.and_eq_true] at h
    rw [star_plain h.1]
    show (false || (backTo pos (starEach es env)).any (·.1)) = false
    rw [back_plain h.2]
    rfl
theorem back_all {pos : Pos} {env : Env} : ∀ {es : List Expr}, es.all plainE = true → (backTo pos (starEach es env)).all (fun x => !x.1) = true
  | [], _ => rfl
  | e :: es, h => by
    rw [List.all_cons, Bool.and_eq_true] at h
    rw [star_plain h.1]
    show (true && (backTo pos (starEach es env)).all (fun x => !x.1)) = true
    rw [back_all h.2]
    rfl
theorem isTrue_def {e : Expr} (h : defT e = true) (env : Env) : ∀ whole, isTrue e env whole = (do let v ← whole; standAt e.pos; holding [v] (truthy v)) := by
  intro whole
  cases e with
  | UnaryOp op a p => cases op <;> first | rfl | cases h
  | _ => first | rfl | cases h
theorem ab_ok {o : Expr} {name : Str} {env : Env} {w : Sem Value} (h : abOK o = true) : attributeBase o name env w = w := by
  cases o <;> first | rfl | cases h
theorem plain_ix {b : Expr} (h : plainE b = true) : PlainIx b := by
  intro o i
  cases b <;> first | rfl | cases h
theorem plain_nosl {b : Expr} (h : plainE b = true) : NoSl b := by
  intro ov iv
  cases b <;> first | rfl | cases h
theorem mark_plainD {neg : Bool} {b : Expr} (h : plainE b = true) : behindInMarks (if neg then .NotIn else .In) b = false := by
  cases neg
  · exact co_mark (o := .in_) b fun es k q e => by subst e; cases h
  · exact co_mark (o := .notIn) b fun es k q e => by subst e; cases h
theorem folded_plain {e : Expr} (h : plainE e = true) (env : Env) : ∀ x, foldedSetIterable e env x = pure x := by
  intro x
  cases e <;> first | rfl | cases h
theorem mark_plain {o : COp} {b : Expr} (h : plainE b = true) : behindInMarks (co o) b = false := co_mark b fun es k q e => by subst e; cases h
theorem swaps_plain {e : Expr} (h : notComp e = true) (t : Option Expr) (l : Nat) (env : Env) : swapsWith e t l env = pure false := by
  cases e <;> first | rfl | cases h

def vCall : Expr → Option (Str × Pos × List Expr × Pos)
  | .Call (.Name x p) args [] pos => some (x, p, args, pos)
  | _ => none
theorem vCall_eq {e : Expr} {q : Str × Pos × List Expr × Pos} (h : vCall e = some q) : e = .Call (.Name q.1 q.2.1) q.2.2.1 [] q.2.2.2 := by
  unfold vCall at h
  split at h
  · cases h; rfl
  · cases h
def vMeth : Expr → Option (Expr × Str × Pos × List Expr × Pos)
  | .Call (.Attribute o x p) args [] pos => some (o, x, p, args, pos)
  | _ => none
theorem vMeth_eq {e : Expr} {q : Expr × Str × Pos × List Expr × Pos} (h : vMeth e = some q) : e = .Call (.Attribute q.1 q.2.1 q.2.2.1) q.2.2.2.1 [] q.2.2.2.2 := by
  unfold vMeth at h
  split at h
  · cases h; rfl
  · cases h
def vIsi : List Expr → Option (Expr × Str × Pos)
  | [a, .Name y p] => some (a, y, p)
  | _ => none
theorem vIsi_eq {l : List Expr} {q : Expr × Str × Pos} (h : vIsi l = some q) : l = [q.1, .Name q.2.1 q.2.2] := by
  unfold vIsi at h
  split at h
  · cases h; rfl
  · cases h
def vIsi2 : List Expr → Option (Expr × List Expr × Nat × Pos)
  | [a, .Tuple l k p] => some (a, l, k, p)
  | _ => none
theorem vIsi2_eq {l : List Expr} {q : Expr × List Expr × Nat × Pos} (h : vIsi2 l = some q) : l = [q.1, .Tuple q.2.1 q.2.2.1 q.2.2.2] := by
  unfold vIsi2 at h
  split at h
  · cases h; rfl
  · cases h
def vNames : List Expr → Option (List Str)
  | [] => some []
  | .Name x _ :: r => (vNames r).map (x :: ·)
  | _ => none
def vLc : Expr → Option (Expr × Expr × Expr × List Expr × Scope × Pos)
  | .ListComp e [⟨tg, it, ifs, 0⟩] scope pos => some (e, tg, it, ifs, scope, pos)
  | _ => none
theorem vLc_eq {e : Expr} {q : Expr × Expr × Expr × List Expr × Scope × Pos} (h : vLc e = some q) : e = .ListComp q.1 [⟨q.2.1, q.2.2.1, q.2.2.2.1, 0⟩] q.2.2.2.2.1 q.2.2.2.2.2 := by
  unfold vLc at h
  split at h
  · cases h; rfl
  · cases h

/-! ### names -/
def PTy.py : PTy → Str
  | .non => "NoneType"
  | .bool => "bool"
  | .int => "int"
  | .str => "str"
  | .tuple => "tuple"
  | .list => "list"
  | .dict => "dict"
theorem pty_boot : ∀ t : PTy, t ≠ .non → bootBuiltins t.py = some (.type t.name) := by
  intro t h
  cases t <;> first | exact absurd rfl h | decide +kernel
theorem pty_ok : ∀ t : PTy, t.py ≠ "__name__" ∧ (t.py == ("__debug__" : Str)) = false := by
  intro t
  cases t <;> decide +kernel
def BI.py : BI → Str
  | .len => "len"
  | .abs => "abs"
  | .int => "int"
  | .tuple => "tuple"
  | .list => "list"
  | .all => "all"
  | .any => "any"
  | .sum => "sum"
  | .gcd => "gcd"
  | .min => "min"
  | .max => "max"
  | .sorted => "sorted"
  | .sortedD => "sorted"
  | .repr => "repr"
  | .str => "str"
theorem bi_ok : ∀ t : BI, t.py ≠ "__name__" ∧ (t.py == ("__debug__" : Str)) = false := by
  intro t
  cases t <;> decide +kernel
def MK.py : MK → Str
  | .append => "append"
  | .pop => "pop"
  | .extend => "extend"
  | .index => "index"

/-- what is static where one stands -/
structure SC where
  N : List Str
  sc : Scope
  hot : Bool
  /-- is it a def that makes a lambda? -/
  lam : Bool
def SC.vis (c : SC) (x : Str) : Bool := c.sc.names.lookup x == some .local || c.sc.names.lookup x == some .cell || c.sc.names.lookup x == some .free
def SC.loc (c : SC) (x : Str) : Bool := c.sc.names.lookup x == some .local || c.sc.names.lookup x == some .cell
def SC.glo (c : SC) (x : Str) : Bool := c.sc.names.lookup x == some .globalImplicit
def okN (x : Str) : Bool := !(x == ("__debug__" : Str)) && !(x == ("__classdict__" : Str))
def SC.ownP (c : SC) (own : List Nat) : List (Str × Nat) := own.filterMap fun i => (c.N[i]?).map fun x => (x, i)
def SC.blt (c : SC) (P : Prog) (x : Str) : Bool := c.glo x && P.bl.contains x
def cop : CmpOp → COp
  | .Eq => .eq
  | .NotEq => .ne
  | .Lt => .lt
  | .LtE => .le
  | .Gt => .gt
  | .GtE => .ge
  | .Is => .is
  | .IsNot => .isNot
  | .In => .in_
  | .NotIn => .notIn
theorem co_cop (o : CmpOp) : co (cop o) = o := by cases o <;> rfl

mutual
def chkT (c : SC) : Tg → Expr → Bool
  | .nm i, .Name x _ => c.N[i]? == some x && c.loc x
  | .tp ts, .Tuple es _ _ => chkTs c ts es
  | _, _ => false
def chkTs (c : SC) : List Tg → List Expr → Bool
  | [], [] => true
  | t :: ts, e :: es => plainE e && chkT c t e && chkTs c ts es
  | _, _ => false
end
def chkCon : Con → Const → Bool
  | .non, .none => true
  | .bl b, .bool b' => b == b'
  | .int i, .int i' => i == i'
  | .str x, .str x' => x == x'
  | _, _ => false

def keyE : L2.Key → Expr → Bool
  | .inl i, .Constant (.int j) _ _ => i == j
  | .inr x, .Constant (.str y) _ _ => x == y
  | _, _ => false
def chkKs : List L2.Key → List (Option Expr) → Bool
  | [], [] => true
  | k :: ks, some e :: es => keyE k e && chkKs ks es
  | _, _ => false
def chkBI (P : Prog) (c : SC) (x : Str) : BI → Bool
  | .gcd => P.gcd && c.glo x
  | .repr => P.rep && c.blt P x
  | _ => c.blt P x
theorem isi_ok : bootBuiltins "isinstance" = some (.builtin "isinstance") ∧ ("isinstance" : Str) ≠ "__name__" ∧ (("isinstance" : Str) == ("__debug__" : Str)) = false := by decide +kernel
theorem rng_ok : ("range" : Str) ≠ "__name__" := by decide +kernel
/-- what is walked -/
def isTup' : Expr → Bool
  | .Tuple _ _ _ => true
  | _ => false
theorem isTup_eq {e : Expr} (h : isTup' e = true) : ∃ es k p, e = .Tuple es k p := by
  cases e <;> first | exact ⟨_, _, _, rfl⟩ | cases h
def chkSrc (P : Prog) (c : SC) (tg : Expr) (f : List Expr → Bool) (n : Nat) : IK → Expr → Bool
  | .zip, it => match vCall it with
    | some (x, _, args, _) => x == "zip" && c.blt P x && args.length == 2 && isTup' tg && f args
    | none => false
  | .enum, it => match vCall it with
    | some (x, _, args, _) => x == "enumerate" && c.blt P x && args.length == 1 && isTup' tg && f args
    | none => false
  | .val, it => f [it] && (n == 1)
  | .range, it => match vCall it with
    | some (x, _, args, _) => x == "range" && c.blt P x && (args.length == 1 || args.length == 2) && f args
    | none => false
structure VRfs where
  g : Str
  p : Pos
  x : Str
  p2 : Pos
  args : List Expr
  pos2 : Pos
  scope : Scope
  lpos : Pos
  pos : Pos
def vRfs : Expr → Option VRfs
  | .Call (.Name g p) [.Lambda ⟨[], [], none, [], [], none, []⟩ (.Call (.Name x p2) args [] pos2) scope lpos] [] pos => some ⟨g, p, x, p2, args, pos2, scope, lpos, pos⟩
  | _ => none
theorem vRfs_eq {e : Expr} {v : VRfs} (h : vRfs e = some v) : e = .Call (.Name v.g v.p) [.Lambda ⟨[], [], none, [], [], none, []⟩ (.Call (.Name v.x v.p2) v.args [] v.pos2) v.scope v.lpos] [] v.pos := by
  unfold vRfs at h
  split at h
  · cases h; rfl
  · cases h
mutual
def chkE (P : Prog) (c : SC) : E → Expr → Bool
  | .slot i, .Name x _ => c.N[i]? == some x && c.vis x && okN x
  | .con d, .Constant v _ _ => chkCon d v
  | .gl x, .Name y _ => x == y && c.glo x && okN x
  | .bty t, .Name y _ => t != .non && y == t.py && c.blt P y
  | .tup es, .Tuple l _ _ => chkEs P c es l
  | .lst es, .List l _ => chkEs P c es l
  | .bin o a b, .BinOp x o' y _ => o' == bo o && chkE P c a x && chkE P c b y
  | .neg a, .UnaryOp o x _ => o == .USub && chkE P c a x
  | .cmp o a b, .Compare x [o'] [y] _ => o' == co o && plainE y && chkE P c a x && chkE P c b y
  | .chain o o2 a b d, .Compare x [o', o2'] [y, z] _ => o' == co o && o2' == co o2 && plainE z && chkE P c a x && chkE P c b y && chkE P c d z
  | .and_ es, .BoolOp o l _ => o == .And && !l.isEmpty && chkEs P c es l
  | .or_ es, .BoolOp o l _ => o == .Or && !l.isEmpty && chkEs P c es l
  | .not_ a, .UnaryOp o x _ => o == .Not && chkE P c a x
  | .ife t a b, .IfExp x y z _ => chkE P c t x && chkE P c a y && chkE P c b z
  | .bi f es, e => match vCall e with
    | some (x, _, args, _) => x == f.py && !args.isEmpty && !c.hot && chkBI P c x f && chkEs P c es args
    | none => false
  | .isi a t, e => match vCall e with
    | some (x, _, args, _) => x == "isinstance" && c.blt P x && t != .non && (match vIsi args with
      | some (a', y, _) => y == t.py && c.blt P y && plainE a' && chkE P c a a'
      | none => false)
    | none => false
  | .isi2 a ts, e => match vCall e with
    | some (x, _, args, _) => x == "isinstance" && c.blt P x && ts.all (· != .non) && !ts.isEmpty && decide (ts.length ≤ 8) && (match vIsi2 args with
      | some (a', l, _, _) => vNames l == some (ts.map PTy.py) && (ts.all fun t => c.blt P t.py) && plainE a' && chkE P c a a'
      | none => false)
    | none => false
  | .cl x es, e => match vCall e with
    | some (y, _, args, _) => x == y && c.glo x && okN x && !c.hot && (P.fT x).isSome && chkEs P c es args
    | none => false
  | .fnv x, .Name y _ => x == y && c.glo x && okN x && (P.fT x).isSome
  | .dct ks es, .Dict keys values _ => if ks.isEmpty then keys.isEmpty && values.isEmpty else chkKs ks keys && decide (ks.Nodup) && decide (ks.length ≤ 15) && ks.length == es.length && chkEs P c es values
  | .clv i es, e => match vCall e with
    | some (y, _, args, _) => c.N[i]? == some y && c.vis y && okN y && !c.hot && !args.isEmpty && chkEs P c es args
    | none => false
  | .sub a b, .Subscript x y _ => plainE y && chkE P c a x && chkE P c b y
  | .dget a b, .Subscript x y _ => plainE y && chkE P c a x && chkE P c b y
  | .cmpD neg a b, .Compare x [o'] [y] _ => o' == (if neg then .NotIn else .In) && plainE y && chkE P c a x && chkE P c b y
  | .lrg es, e => match vCall e with
    | some (x, _, [r], _) => x == "list" && c.blt P x && !c.hot && (match vCall r with
      | some (y, _, args, _) => y == "range" && c.blt P y && (args.length == 1 || args.length == 2) && chkEs P c es args
      | none => false)
    | _ => false
  | .sortL a, e => match vSort e with
    | some v => v.x == "sorted" && c.blt P v.x && !c.hot && c.lam && v.kw == "key" && v.y == "len" && P.bl.contains v.y && v.nm == v.nm' && okN v.nm && plainE v.a && lamOK v.params v.scope v.nm && chkE P c a v.a
    | none => false
  | .ltT a b, .Compare x [o'] [y] _ => o' == .Lt && plainE y && chkE P c a x && chkE P c b y
  | .rfs r x is, e => match vRfs e with
    | some v => v.g == r.g && c.glo r.g && okN r.g && !c.hot && c.lam && !P.rep && P.rf.contains r && P.bl.contains "isinstance" && LamX.lamSB c.sc v.scope && v.x == x && v.scope.names.lookup x == some .globalImplicit && okN x && (P.fT x).isSome && slotsOK c.N v.scope is v.args
    | none => false
  | .lset a, e => match vCall e with
    | some (x, _, [r], _) => x == "len" && c.blt P x && !c.hot && (match vCall r with
      | some (y, _, [a'], _) => y == "set" && c.blt P y && plainE a' && chkE P c a a'
      | _ => false)
    | _ => false
  | .slc a lo hi, .Subscript x (.Slice l u none _) _ => chkE P c a x && (match l with
      | none => lo.isN
      | some l => !lo.isN && chkE P c lo l) && (match u with
      | none => hi.isN
      | some u => !hi.isN && chkE P c hi u)
  | .subS a b, .Subscript x y _ => plainE y && chkE P c a x && chkE P c b y
  | .slcS a lo hi, .Subscript x (.Slice l u none _) _ => chkE P c a x && (match l with
      | none => lo.isN
      | some l => !lo.isN && chkE P c lo l) && (match u with
      | none => hi.isN
      | some u => !hi.isN && chkE P c hi u)
  | .smth j a b, e => match vMeth e with
    | some (o', name, apos, [x], pos) => name == (if j then "join" else "split") && abOK o' && (apos.endLine == pos.line) && plainE x && chkE P c a o' && chkE P c b x
    | _ => false
  | .inT a b, .Compare x [o'] [y] _ => o' == .In && plainE y && chkE P c a x && chkE P c b y
  | .dgetD a b d, e => match vMeth e with
    | some (o', name, apos, [x, y], pos) => name == "get" && abOK o' && (apos.endLine == pos.line) && plainE x && plainE y && chkE P c a o' && chkE P c b x && chkE P c d y
    | _ => false
  | .mth m o es, e => match vMeth e with
    | some (o', name, apos, args, pos) => name == m.py && abOK o' && (apos.endLine == pos.line) && decide (args.length < 30) && chkE P c o o' && chkEs P c es args
    | none => false
  | .lc elt tg k src ifs own, e => match vLc e with
    | some (e', tg', it', ifs', scope, _) => !c.hot && blkC c.N c.sc scope (c.ownP own) && ((c.ownP own).map (·.2) == own) && (tg.slots.all fun i => own.contains i) && plainE it' &&
      chkSrc P c tg' (fun l => chkEs P c src l) src.length k it' &&
      chkT ⟨c.N, scope, false, false⟩ tg tg' && decide (ifs'.length ≤ 1) && chkEs P ⟨c.N, scope, false, false⟩ ifs ifs' && chkE P ⟨c.N, scope, false, false⟩ elt e'
    | none => false
  | _, _ => false
def chkEs (P : Prog) (c : SC) : List E → List Expr → Bool
  | [], [] => true
  | a :: as, e :: es => plainE e && chkE P c a e && chkEs P c as es
  | _, _ => false
end
end MP

set_option Elab.async false
set_option linter.all false
set_option maxRecDepth 100000
set_option maxHeartbeats 4000000
/-! MPi: what the checker lets is read by the pure interpreter: expressions. -/
namespace MP
open PySem PySem.Spec PyProof.Rows L2

/-- x is a def with a lambda, cc its code object, Pt the table of the code objects that it makes -/
def LamAt (K : PySem.W.Frag) (mg : Str → Option Value) (x : Str) (cc Pt : Addr) : Prop := x ∈ LN ∧ ∃ (f : Addr) (fd : FuncData) (oc : Value) (od : Option Addr) (osl : Array (Option Value)),
  mg x = some (.ref f) ∧ K.lookup f = some ⟨oc, od, .func fd, osl⟩ ∧ fd.code = .ref cc ∧ ∀ h, K.In h → PySem.W.CodeHd h cc Pt
/-- the defs' promises, so many frames deep -/
def FnAt (P : Prog) (k : Nat) (prog : Program) (w : World) (K : PySem.W.Frag) (mg : Str → Option Value) (base : Heap) : Prop :=
  ∀ x fd, P.fT x = some fd → ∃ f fdat ps, mg x = some (.ref f) ∧ PySem.W.keepIn K (.ref f) = true ∧ Binds K fdat ps [] ∧ ps.length = fd.np ∧ FnG P.rep prog w K mg base (L2.CX prog w) k f fdat ps (spP K mg (callF P k x) ps.length)
/-- a def that is handed a lambda -/
def RfOk (K : PySem.W.Frag) (mg : Str → Option Value) (r : RfD) : Prop := ∃ (ga : Addr) (a fn e : Str) (st : Stmt) (gd : FuncData) (CH : Addr), mg r.g = some (.ref ga) ∧ Fun K r.g r.g st ga gd ∧
  (∀ us : List Value, us.length = 1 → bindArgs gd ⟨us, []⟩ = pure ([a].zip us)) ∧ FnScope [a, fn, e] [a] (defScope st) ∧ chkRf r (defScope st) a fn e (defBody st) = true ∧ mg r.hd = some (.ref CH)
/-- the module's facts -/
structure MG (P : Prog) (k : Nat) (prog : Program) (w : World) (K : PySem.W.Frag) (mg : Str → Option Value) (base : Heap) : Prop where
  const : ∀ x v, P.cT x = some v → KV' K mg x v
  blt : ∀ x, P.bl.contains x = true → mg x = none
  gcd : P.gcd = true → mg "gcd" = some (.builtin "math.gcd")
  exc : ∀ x, P.exc.contains x = true → ∃ C, ExcOk K mg x C
  hdl : ∀ x, P.hdl.contains x = true → ∃ C, mg x = some (.ref C)
  sub : ∀ c x b, P.sub c x = some b → ∀ C D, mg c = some (.ref C) → mg x = some (.ref D) → PySem.W.exmOne K (.ref C) (.ref D) = some b
  lam : ∀ x, P.lam.contains x = true → ∃ cc Pt, LamAt K mg x cc Pt ∧ LamX.TabB base mg cc Pt
  tabU : ∀ Pt q q', TabK K mg Pt q → TabK K mg Pt q' → q = q'
  rf : ∀ r, P.rf.contains r = true → RfOk K mg r
  kit : ∀ c x b, P.kit c x = some b → ∀ C, mg c = some (.ref C) → ExcC K C ∧ ∃ v u, ClsN mg x v u ∧ PySem.W.kitOne K (.ref C) u = some b
  low : ∀ j, k = j + 2 → FnAt P j prog w K mg base
  kin : K.In base
  sys : P.rep = true → ∃ o, base.get? sysModules = some o
  fn : ∀ x fd, P.fT x = some fd → ∃ f fdat ps, mg x = some (.ref f) ∧ PySem.W.keepIn K (.ref f) = true ∧ Binds K fdat ps [] ∧ ps.length = fd.np ∧ FnG P.rep prog w K mg base (L2.CX prog w) k f fdat ps (spP K mg (callF P k x) ps.length)

structure CxE (P : Prog) (k : Nat) (c : SC) (W : WX) (X : Cx) : Prop where
  mg : MG P k X.prog X.w X.K X.mg X.base
  nm : X.N = c.N
  nd : c.N.Nodup
  sc : ∀ x k, c.sc.names.lookup x = some k → X.env.scope.names.lookup x = some k ∨ (k = .free ∧ X.env.scope.names.lookup x = some .cell)
  fn : ∀ x, c.sc.names.lookup x = some .cell → X.fn x = true
  units : X.A.units + 64 < cLine
  calm : c.hot = false → X.calm = true
  room : c.hot = false → Room k X.A
  gu : c.hot = false → P.rep = true → X.A.guards = some []
  tk : Takes X W
  lam : c.lam = true → ∃ cc Pt, X.env.code = .ref cc ∧ TabK X.K X.mg Pt (X.env.qual ++ "<lambda>") ∧ LamX.TabB X.base X.mg cc Pt

section
variable {P : Prog} {k : Nat} {c : SC} {W : WX} {X : Cx}
theorem okN_1 {x : Str} (h : okN x = true) : (x == ("__debug__" : Str)) = false ∧ (x == ("__classdict__" : Str)) = false := by
  unfold okN at h
  simp only [Bool.and_eq_true, Bool.not_eq_true'] at h
  exact h
theorem CxE.vis (C : CxE P k c W X) {x : Str} (h : c.vis x = true) : Vis X.env.scope x := by
  unfold SC.vis at h
  simp only [Bool.or_eq_true, beq_iff_eq] at h
  rcases h with (h | h) | h
  · rcases C.sc x _ h with q | ⟨q, _⟩
    · exact .inl q
    · cases q
  · rcases C.sc x _ h with q | ⟨q, _⟩
    · exact .inr (.inl q)
    · cases q
  · rcases C.sc x _ h with q | ⟨_, q⟩
    · exact .inr (.inr q)
    · exact .inr (.inl q)
theorem CxE.loc (C : CxE P k c W X) {x : Str} (h : c.loc x = true) : Loc X.env.scope x ∧ (X.fn x = true ∨ X.env.scope.names.lookup x = some .local) := by
  unfold SC.loc at h
  simp only [Bool.or_eq_true, beq_iff_eq] at h
  rcases h with h | h
  · rcases C.sc x _ h with q | ⟨q, _⟩
    · exact ⟨.inl q, .inr q⟩
    · cases q
  · rcases C.sc x _ h with q | ⟨q, _⟩
    · exact ⟨.inr q, .inl (C.fn x h)⟩
    · cases q
theorem CxE.glo (C : CxE P k c W X) {x : Str} (h : c.glo x = true) : Gl X x := by
  unfold SC.glo at h
  simp only [beq_iff_eq] at h
  rcases C.sc x _ h with q | ⟨q, _⟩
  · exact q
  · cases q
theorem CxE.blt (C : CxE P k c W X) {x : Str} (h : c.blt P x = true) : Gl X x ∧ X.mg x = none := by
  unfold SC.blt at h
  rw [Bool.and_eq_true] at h
  exact ⟨C.glo h.1, C.mg.blt x h.2⟩
theorem CxE.ix (C : CxE P k c W X) {x : Str} {i : Nat} (h : (c.N[i]? == some x) = true) : X.N[i]? = some x := by
  rw [C.nm]
  exact beq_iff_eq.mp h
theorem CxE.ndX (C : CxE P k c W X) : X.N.Nodup := by rw [C.nm]; exact C.nd

def relF (sc : Scope) (q : Str × NameKind) : Str × NameKind := if (q.2 == NameKind.free && sc.kind == .function && sc.names.lookup q.1 == some .cell) then (q.1, NameKind.cell) else (q.1, q.2)
theorem relF_of {sc : Scope} : ∀ {names : List (Str × NameKind)} {x : Str} {k : NameKind}, names.lookup x = some k → (names.map (relF sc)).lookup x = some k ∨ (k = .free ∧ (names.map (relF sc)).lookup x = some .cell)
  | [], x, k, h => by simp at h
  | (n, k₀) :: r, x, k, h => by
    have ih := @relF_of sc r x k
    rw [List.map_cons]
    by_cases hc : (k₀ == NameKind.free && sc.kind == .function && sc.names.lookup n == some .cell) = true
    · have e : relF sc (n, k₀) = (n, .cell) := by unfold relF; rw [if_pos hc]
      rw [e]
      cases hx : x == n with
      | true =>
        simp only [List.lookup_cons, hx] at h ⊢
        cases h
        simp only [Bool.and_eq_true, beq_iff_eq] at hc
        exact .inr ⟨hc.1.1, trivial⟩
      | false =>
        simp only [List.lookup_cons, hx] at h ⊢
        exact ih h
    · have e : relF sc (n, k₀) = (n, k₀) := by unfold relF; rw [if_neg hc]
      rw [e]
      cases hx : x == n with
      | true =>
        simp only [List.lookup_cons, hx] at h ⊢
        cases h
        exact .inl rfl
      | false =>
        simp only [List.lookup_cons, hx] at h ⊢
        exact ih h
theorem relS_of {sc : Scope} {names : List (Str × NameKind)} {x : Str} {k : NameKind} (h : names.lookup x = some k) :
    (names.map fun (n, k) => if (k == NameKind.free && sc.kind == .function && sc.names.lookup n == some .cell) then (n, NameKind.cell) else (n, k)).lookup x = some k ∨
      (k = .free ∧ (names.map fun (n, k) => if (k == NameKind.free && sc.kind == .function && sc.names.lookup n == some .cell) then (n, NameKind.cell) else (n, k)).lookup x = some .cell) := relF_of (sc := sc) h
/-- in a comprehension's block -/
theorem CxE.blk (C : CxE P k c W X) (hh : c.hot = false) {scope : Scope} (s : Shared) (H : Hp) (A : Addr) (cl : List (Str × Addr)) (fp : List Addr) :
    CxE P k ⟨c.N, scope, false, false⟩ WF (X.blk s H scope (compEnvC scope cl A X.env) fp) where
  mg := C.mg
  nm := C.nm
  nd := C.nd
  sc := fun x k h => relS_of (sc := X.env.scope) h
  fn := fun x h => by
    show (scope.names.lookup x == some NameKind.cell) = true
    rw [h]
    rfl
  units := C.units
  calm := fun _ => C.calm hh
  room := fun _ => C.room hh
  gu := fun _ => C.gu hh
  tk := takes_none5
  lam := fun h => nomatch h
theorem CxE.blkOk (C : CxE P k c W X) {scope : Scope} {own : List (Str × Nat)} (h : blkC c.N c.sc scope own = true) : BlkOk X.N X.env.scope scope own := by
  have b := blkOk_by h
  rw [C.nm]
  refine ⟨b.kind, b.uniq, b.ix, fun y hy e => ?_, b.own⟩
  rcases b.free y hy e with q | q
  · rcases C.sc _ _ q with z | ⟨z, _⟩
    · exact .inl z
    · cases z
  · rcases C.sc _ _ q with z | ⟨_, z⟩
    · exact .inr z
    · exact .inl z

/-! ### targets -/
theorem assignEach_plain {e : Expr} (h : plainE e = true) (es : List Expr) (env : Env) : assignEach (e :: es) env = (false, assign e env) :: assignEach es env := by
  cases e <;> first | rfl | cases h
theorem chkTs_len : ∀ {ts : List Tg} {es : List Expr}, chkTs c ts es = true → (∀ env, (assignEach es env).length = ts.length ∧ (assignEach es env).findIdx? (·.1) = none)
  | [], [], _ => fun env => ⟨rfl, rfl⟩
  | [], _ :: _, h => by cases h
  | _ :: _, [], h => by cases h
  | t :: ts, e :: es, h => by
    intro env
    have h' : (plainE e && chkT c t e && chkTs c ts es) = true := h
    rw [Bool.and_eq_true, Bool.and_eq_true] at h'
    obtain ⟨i1, i2⟩ := chkTs_len (ts := ts) (es := es) h'.2 env
    rw [assignEach_plain h'.1.1]
    refine ⟨by simp [i1], ?_⟩
    rw [List.findIdx?_cons]
    simp [i2]
mutual
theorem sTg (hh : c.hot = false) (C : CxE P k c W X) : ∀ (t : Tg) (e : Expr), chkT c t e = true → PG X e (TGf X.K X.mg t)
  | .nm i, e, h => by
    cases e with
    | Name x pos =>
      have h' : (c.N[i]? == some x && c.loc x) = true := h
      rw [Bool.and_eq_true] at h'
      obtain ⟨l1, l2⟩ := C.loc h'.2
      exact rg_nm C.ndX (C.ix h'.1) l1 l2
    | _ => cases h
  | .tp ts, e, h => by
    cases e with
    | Tuple es k pos =>
      have h' : chkTs c ts es = true := h
      obtain ⟨i1, i2⟩ := chkTs_len h' X.env
      exact rg_tup (C.calm hh) (sTgs hh C ts es h') i1 i2
    | _ => cases h
theorem sTgs (hh : c.hot = false) (C : CxE P k c W X) : ∀ (ts : List Tg) (es : List Expr), chkTs c ts es = true → PGs X es (TGsf X.K X.mg ts)
  | [], [], _ => rgs_nil
  | [], _ :: _, h => by cases h
  | _ :: _, [], h => by cases h
  | t :: ts, e :: es, h => by
    have h' : (plainE e && chkT c t e && chkTs c ts es) = true := h
    rw [Bool.and_eq_true, Bool.and_eq_true] at h'
    exact rgs_cons (sTg hh C t e h'.1.2) (sTgs hh C ts es h'.2) (by rw [assignEach_plain h'.1.1]; rfl)
end

/-! ### expressions -/
theorem chkEs_plain {es : List E} {l : List Expr} (h : chkEs P c es l = true) : l.all plainE = true ∧ es.length = l.length := by
  induction l generalizing es with
  | nil =>
    cases es with
    | nil => exact ⟨rfl, rfl⟩
    | cons _ _ => cases h
  | cons e l ih =>
    cases es with
    | nil => cases h
    | cons a es =>
      have h' : (plainE e && chkE P c a e && chkEs P c es l) = true := h
      rw [Bool.and_eq_true, Bool.and_eq_true] at h'
      obtain ⟨i1, i2⟩ := ih h'.2
      exact ⟨by rw [List.all_cons, h'.1.1, i1]; rfl, by simp [i2]⟩
theorem names_pa (C : CxE P k c W X) : ∀ {ts : List PTy} {l : List Expr}, vNames l = some (ts.map PTy.py) → (ts.all (· != .non)) = true → (ts.all fun t => c.blt P t.py) = true → PA X l (fun _ H Q => Q (ts.map fun t => V.ty t.name) H) ∧ l.all plainE = true ∧ l.length = ts.length
  | [], [], _, _, _ => ⟨pa_imp pa_nil fun σ H Q h => h, rfl, rfl⟩
  | [], e :: l, h, _, _ => by
    cases e with
    | Name x p =>
      have h' : (vNames l).map (x :: ·) = some [] := h
      cases q : vNames l with
      | none => rw [q] at h'; cases h'
      | some r => rw [q] at h'; cases h'
    | _ => cases h
  | _ :: _, [], h, _, _ => by cases h
  | t :: ts, e :: l, h, h1, h2 => by
    cases e with
    | Name x p =>
      have h' : (vNames l).map (x :: ·) = some (t.py :: ts.map PTy.py) := h
      cases q : vNames l with
      | none => rw [q] at h'; cases h'
      | some r =>
        rw [q] at h'
        have h3 : x :: r = t.py :: ts.map PTy.py := Option.some.inj h'
        obtain ⟨rfl, rfl⟩ := List.cons.inj h3
        rw [List.all_cons, Bool.and_eq_true] at h1 h2
        obtain ⟨a, b, d⟩ := names_pa C (ts := ts) (l := l) q h1.2 h2.2
        obtain ⟨g, m⟩ := C.blt h2.1
        have hn : t ≠ .non := by simpa using h1.1
        refine ⟨pa_imp (pa_cons (pe_bltn (v := .ty t.name) g m (pty_boot t hn) rfl (pty_ok t).1 (pty_ok t).2) a rfl) fun σ H Q h => h, by rw [List.all_cons, b]; rfl, by simp [d]⟩
    | _ => cases h
theorem kitAny_pty {K : PySem.W.Frag} (c : PTy) : ∀ ts : List PTy, PySem.W.kitAny K (.type c.name) (ts.map fun t => Value.type t.name) = some (ts.any fun t => c.sub t)
  | [] => kitAny_nil
  | t :: ts => by
    rw [List.map_cons]
    refine kitAny_cons (kit_ty (kit_pty c t)) (fun e => ?_) (fun e => ?_)
    · rw [List.any_cons, e, Bool.false_or]
      exact kitAny_pty c ts
    · rw [List.any_cons, e]
      rfl
theorem clsV_pty : ∀ ts : List PTy, Paired ClsV (ts.map fun t => V.ty t.name) (ts.map fun t => Value.type t.name)
  | [] => .nil
  | t :: ts => .cons (.ty t.name) (clsV_pty ts)
theorem re_isi2 {a : Expr} {fa : Env' → M PV} {x : Str} {l : List Expr} {ts : List PTy} {p pos pt : Pos} {kt : Nat} (ha : RE X W a fa) (hg : Gl X x) (hm : X.mg x = none) (hv : bootBuiltins x = some (.builtin "isinstance")) (hn : x ≠ "__name__") (hdb : (x == ("__debug__" : Str)) = false)
    (hl : PA X l (fun _ H Q => Q (ts.map fun t => V.ty t.name) H)) (h8 : ts.length ≤ 8) (he : starEach (a :: [.Tuple l kt pt]) X.env = (false, eval a X.env) :: starEach [.Tuple l kt pt] X.env) :
    RE X W (.Call (.Name x p) [a, .Tuple l kt pt] [] pos) (fun env => do let x ← fa env; let c ← readM fun h => tyP h x; pure (.bl (ts.any fun t => c.sub t))) :=
  pe_imp (pe_callB call_isiT hg hm hv (pa_cons ha (pa_cons (pe_tup hl) pa_nil) he) hn hdb he rfl) fun σ H Q ⟨env, ρ, h, R, er, p⟩ => TEf.seq R er p fun ρ1 H1 h1 v x nx1 R1 er1 rx p1 => by
    refine ⟨by rw [List.length_map]; exact Nat.le_trans h8 (by rw [sizeLine_eq]; decide), fun l hl => ?_⟩
    have R2 := R1.tup (p := l) (u := .tup (ts.map fun t => V.ty t.name)) hl
    have nx2 : Nx ρ1 H1 h1.length ρ1 (upd H1 l (.tup (ts.map fun t => V.ty t.name))) h1.length := .tup hl
    obtain ⟨c, e, q⟩ := Post.read R1 (Post.bind p1)
    have q2 : QV X.K X.mg Q ρ1 _ h1 (.bl (ts.any fun t => c.sub t)) := q ρ1 _ nx2 R2
    refine ⟨x, l, ts.map fun t => V.ty t.name, _, ts.map fun t => Value.type t.name, _, rfl, upd_same, clsV_pty ts, tyX_rp R2 (rx.nx nx2) e, kitAny_pty c ts, q2 _ (.bl _)⟩
theorem evalEs_len (G : Glob) : ∀ (es : List E) (env : Env') (h : PH) (vs : List PV) (h' : PH), evalEs G es env h = .ok vs h' → vs.length = es.length := by
  intro es
  induction es with
  | nil => intro env h vs h' e; cases e; rfl
  | cons a es ih =>
    intro env h vs h' e
    have e' : M.bind (evalE G a env) (fun v => M.bind (evalEs G es env) fun vs => M.ret (v :: vs)) h = .ok vs h' := e
    unfold M.bind at e'
    cases q : evalE G a env h with
    | ok v h1 =>
      rw [q] at e'
      simp only at e'
      cases q2 : evalEs G es env h1 with
      | ok ws h2 =>
        rw [q2] at e'
        cases e'
        simp [ih env h1 ws _ q2]
      | exc c vs h2 => rw [q2] at e'; cases e'
      | stuck => rw [q2] at e'; cases e'
    | exc c vs h1 => rw [q] at e'; cases e'
    | stuck => rw [q] at e'; cases e'
theorem callF_len {x : Str} {fd : FD} (hf : P.fT x = some fd) (vs : List PV) (h : PH) (hl : vs.length ≠ fd.np) : callF P k x vs h = .stuck := by
  cases k with
  | zero => rfl
  | succ k =>
    unfold callF
    rw [hf]
    show runF _ fd vs h = .stuck
    unfold runF
    rw [if_neg hl]

/-- what is claimed of an expression -/
def SE (P : Prog) (k : Nat) (a : E) : Prop := ∀ (e : Expr) (c : SC) (W : WX) (X : Cx), CxE P k c W X → chkE P c a e = true → RE X W e (evalE (globOf P k) a)
def STs (P : Prog) (k : Nat) (a : E) : Prop := ∀ (e : Expr) (c : SC) (W : WX) (X : Cx), CxE P k c W X → chkE P c a e = true → RT X W e (evalT (globOf P k) a)
theorem size_mem {a : E} {as : List E} (h : a ∈ as) : sizeOf a < sizeOf as := List.sizeOf_lt_of_mem h
theorem sEsL : ∀ (as : List E) (ih : ∀ b ∈ as, SE P k b ∧ STs P k b) (l : List Expr) (c : SC) (W : WX) (X : Cx), CxE P k c W X → chkEs P c as l = true → RA X W l (evalEs (globOf P k) as)
  | [], ih, [], _, _, _, _, _ => ra_nil
  | [], ih, _ :: _, _, _, _, _, h => by cases h
  | _ :: _, ih, [], _, _, _, _, h => by cases h
  | a :: as, ih, e :: es, c, W, X, C, h => by
    have h' : (plainE e && chkE P c a e && chkEs P c as es) = true := h
    simp only [Bool.and_eq_true] at h'
    exact ra_cons ((ih a (by simp)).1 e c W X C h'.1.2) (sEsL as (fun b hb => ih b (List.mem_cons_of_mem _ hb)) es c W X C h'.2) (star_plain h'.1.1 _ _)
theorem sAndL : ∀ (as : List E) (ih : ∀ b ∈ as, SE P k b ∧ STs P k b) (l : List Expr) (c : SC) (W : WX) (X : Cx) (pos : Pos), CxE P k c W X → l ≠ [] → chkEs P c as l = true → RE X W (.BoolOp .And l pos) (evalAnd (globOf P k) as)
  | [], ih, [], _, _, _, _, _, hl, _ => absurd rfl hl
  | [], ih, _ :: _, _, _, _, _, _, _, h => by cases h
  | _ :: _, ih, [], _, _, _, _, _, _, h => by cases h
  | [a], ih, [e], c, W, X, pos, C, _, h => by
    have h' : (plainE e && chkE P c a e && chkEs P c [] []) = true := h
    simp only [Bool.and_eq_true] at h'
    exact pe_imp (re_and1 ((ih a (by simp)).1 e c W X C h'.1.2)) fun σ H Q ⟨env, ρ, h, R, er, p⟩ => ⟨env, ρ, h, R, er, (Post.bind p).imp (fun ρ1 H1 h1 v nx R1 q => Post.pure R1 q) fun _ _ _ z => z⟩
  | [_], ih, _ :: _ :: _, c, _, _, _, _, _, h => by
    have h' : (_ && chkEs P c [] (_ :: _)) = true := h
    rw [Bool.and_eq_true] at h'
    cases h'.2
  | _ :: _ :: _, ih, [_], c, _, _, _, _, _, h => by
    have h' : (_ && chkEs P c (_ :: _) []) = true := h
    rw [Bool.and_eq_true] at h'
    cases h'.2
  | a :: b :: as, ih, e :: e2 :: es, c, W, X, pos, C, _, h => by
    have h' : (plainE e && chkE P c a e && chkEs P c (b :: as) (e2 :: es)) = true := h
    simp only [Bool.and_eq_true] at h'
    exact re_and ((ih a (by simp)).1 e c W X C h'.1.2) (sAndL (b :: as) (fun x hx => ih x (List.mem_cons_of_mem _ hx)) (e2 :: es) c W X pos C (by simp) h'.2)
theorem sOrL : ∀ (as : List E) (ih : ∀ b ∈ as, SE P k b ∧ STs P k b) (l : List Expr) (c : SC) (W : WX) (X : Cx) (pos : Pos), CxE P k c W X → l ≠ [] → chkEs P c as l = true → RE X W (.BoolOp .Or l pos) (evalOr (globOf P k) as)
  | [], ih, [], _, _, _, _, _, hl, _ => absurd rfl hl
  | [], ih, _ :: _, _, _, _, _, _, _, h => by cases h
  | _ :: _, ih, [], _, _, _, _, _, _, h => by cases h
  | [a], ih, [e], c, W, X, pos, C, _, h => by
    have h' : (plainE e && chkE P c a e && chkEs P c [] []) = true := h
    simp only [Bool.and_eq_true] at h'
    exact pe_imp (re_and1 ((ih a (by simp)).1 e c W X C h'.1.2)) fun σ H Q ⟨env, ρ, h, R, er, p⟩ => ⟨env, ρ, h, R, er, (Post.bind p).imp (fun ρ1 H1 h1 v nx R1 q => Post.pure R1 q) fun _ _ _ z => z⟩
  | [_], ih, _ :: _ :: _, c, _, _, _, _, _, h => by
    have h' : (_ && chkEs P c [] (_ :: _)) = true := h
    rw [Bool.and_eq_true] at h'
    cases h'.2
  | _ :: _ :: _, ih, [_], c, _, _, _, _, _, h => by
    have h' : (_ && chkEs P c (_ :: _) []) = true := h
    rw [Bool.and_eq_true] at h'
    cases h'.2
  | a :: b :: as, ih, e :: e2 :: es, c, W, X, pos, C, _, h => by
    have h' : (plainE e && chkE P c a e && chkEs P c (b :: as) (e2 :: es)) = true := h
    simp only [Bool.and_eq_true] at h'
    exact re_or ((ih a (by simp)).1 e c W X C h'.1.2) (sOrL (b :: as) (fun x hx => ih x (List.mem_cons_of_mem _ hx)) (e2 :: es) c W X pos C (by simp) h'.2)
theorem stAndL : ∀ (as : List E) (ih : ∀ b ∈ as, SE P k b ∧ STs P k b) (l : List Expr) (c : SC) (W : WX) (X : Cx) (pos : Pos), CxE P k c W X → chkEs P c as l = true → RW X W (.BoolOp .And l pos) (tAnd (globOf P k) as)
  | [], ih, [], _, _, _, _, _, _ => rw_and0
  | [], ih, _ :: _, _, _, _, _, _, h => by cases h
  | _ :: _, ih, [], _, _, _, _, _, h => by cases h
  | a :: as, ih, e :: es, c, W, X, pos, C, h => by
    have h' : (plainE e && chkE P c a e && chkEs P c as es) = true := h
    simp only [Bool.and_eq_true] at h'
    exact rw_and ((ih a (by simp)).2 e c W X C h'.1.2) (stAndL as (fun b hb => ih b (List.mem_cons_of_mem _ hb)) es c W X pos C h'.2)
theorem stOrL : ∀ (as : List E) (ih : ∀ b ∈ as, SE P k b ∧ STs P k b) (l : List Expr) (c : SC) (W : WX) (X : Cx) (pos : Pos), CxE P k c W X → chkEs P c as l = true → RW X W (.BoolOp .Or l pos) (tOr (globOf P k) as)
  | [], ih, [], _, _, _, _, _, _ => rw_or0
  | [], ih, _ :: _, _, _, _, _, _, h => by cases h
  | _ :: _, ih, [], _, _, _, _, _, h => by cases h
  | a :: as, ih, e :: es, c, W, X, pos, C, h => by
    have h' : (plainE e && chkE P c a e && chkEs P c as es) = true := h
    simp only [Bool.and_eq_true] at h'
    exact rw_or ((ih a (by simp)).2 e c W X C h'.1.2) (stOrL as (fun b hb => ih b (List.mem_cons_of_mem _ hb)) es c W X pos C h'.2)
/-! dict displays -/
def tKey (k : L2.Key) : TE := fun _ H Q => Q (kV k) H
theorem pe_key {q : L2.Key} {e : Expr} (h : keyE q e = true) : PE X e (tKey q) := by
  cases q with
  | inl i =>
    cases e with
    | Constant v j pos =>
      cases v with
      | int i' => have := beq_iff_eq.mp (show (i == i') = true from h); subst this; exact pe_imp pe_int fun σ H Q h => h
      | _ => cases h
    | _ => cases h
  | inr i =>
    cases e with
    | Constant v j pos =>
      cases v with
      | str i' => have := beq_iff_eq.mp (show (i == i') = true from h); subst this; exact pe_imp pe_str fun σ H Q h => h
      | _ => cases h
    | _ => cases h
theorem sDctL {pos : Pos} : ∀ (es : List E) (ih : ∀ b ∈ es, SE P k b ∧ STs P k b) (ks : List L2.Key) (keys : List (Option Expr)) (values : List Expr) (C : CxE P k c W X), chkKs ks keys = true → chkEs P c es values = true → ks.length = es.length →
    keys.all (·.isSome) = true ∧ keys.length = values.length ∧ keys.length = ks.length ∧ ∃ trs, PPs X pos keys values trs ∧ ∀ σ H (Rq : List V → Hp → Prop) (Q : List (V × V) → Hp → Prop), TAf X.K X.mg W (evalEs (globOf P k) es) σ H Rq → (∀ xs H2, xs.length = es.length → Rq xs H2 → Q ((ks.zip xs).map fun kv => (kV kv.1, kv.2)) H2) → tPairs trs σ H Q
  | [], ih, [], [], [], C, _, _, _ => ⟨rfl, rfl, rfl, [], pps_nil, fun σ H Rq Q ⟨env, ρ, h, R, er, p⟩ q => q [] H rfl (Post.pure R p _ .nil)⟩
  | [], ih, [], [], _ :: _, C, _, h2, _ => by cases h2
  | [], ih, [], _ :: _, _, C, h1, _, _ => by cases h1
  | [], ih, _ :: _, _, _, C, _, _, h3 => by cases h3
  | _ :: _, ih, [], _, _, C, _, _, h3 => by cases h3
  | _ :: _, ih, _ :: _, [], _, C, h1, _, _ => by cases h1
  | _ :: _, ih, _ :: _, none :: _, _, C, h1, _, _ => by cases h1
  | _ :: _, ih, _ :: _, some _ :: _, [], C, _, h2, _ => by cases h2
  | a :: es, ih, q :: ks, some e :: keys, v :: values, C, h1, h2, h3 => by
    have h1' : (keyE q e && chkKs ks keys) = true := h1
    have h2' : (plainE v && chkE P c a v && chkEs P c es values) = true := h2
    simp only [Bool.and_eq_true] at h1' h2'
    obtain ⟨i1, i2, i3, trs, i4, i5⟩ := sDctL (pos := pos) es (fun b hb => ih b (List.mem_cons_of_mem _ hb)) ks keys values C h1'.2 h2'.2 (by simpa using h3)
    refine ⟨by simp [i1], by simp [i2], by simp [i3], (tKey q, TEf X.K X.mg W (evalE (globOf P k) a)) :: trs, pps_cons (pe_key h1'.1) ((ih a (by simp)).1 v c W X C h2'.1.2) i4, fun σ H Rq Q ⟨env, ρ, h, R, er, p⟩ qq => ?_⟩
    exact TEf.seq R er p fun ρ1 H1 h1 w x nx1 R1 er1 rx p1 => i5 σ H1 (fun xs H2 => Rq (x :: xs) H2) _ ⟨env, ρ1, h1, R1, er1, p1.bind.imp (fun ρ2 H2 h2 ws nx2 R2 z xs rs => Post.pure R2 z _ (.cons (rx.nx nx2) rs)) fun _ _ _ z => z⟩ fun xs H2 zl z => qq (x :: xs) H2 (by simp [zl]) z
theorem mergeK_app : ∀ (more kvs : List (L2.Key × V)), (more.map (·.1)).Nodup → (∀ x ∈ more, ∀ y ∈ kvs, y.1 ≠ x.1) → mergeK kvs more = kvs ++ more
  | [], kvs, _, _ => by unfold mergeK; simp
  | x :: more, kvs, hn, hd => by
    rw [List.map_cons, List.nodup_cons] at hn
    have e : putK kvs x.1 x.2 = kvs ++ [x] := by
      unfold putK
      rw [if_neg]
      intro z
      obtain ⟨y, h1, h2⟩ := List.any_eq_true.mp z
      exact hd x (by simp) y h1 (of_decide_eq_true h2)
    show mergeK (putK kvs x.1 x.2) more = _
    rw [e, mergeK_app more (kvs ++ [x]) hn.2 (fun z hz y hy => by
      rcases List.mem_append.mp hy with hy | hy
      · exact hd z (List.mem_cons_of_mem _ hz) y hy
      · rw [List.mem_singleton.mp hy]
        exact fun e => hn.1 (e ▸ List.mem_map.mpr ⟨z, hz, rfl⟩))]
    simp
theorem zip_fst {α β : Type} : ∀ {l : List α} {m : List β}, l.length ≤ m.length → (l.zip m).map (·.1) = l
  | [], _, _ => by simp
  | _ :: _, [], h => by simp at h
  | a :: l, b :: m, h => by simp [zip_fst (l := l) (m := m) (by simpa using h)]
theorem zip_snd {α β : Type} : ∀ {l : List α} {m : List β}, m.length ≤ l.length → (l.zip m).map (·.2) = m
  | _, [], _ => by simp
  | [], _ :: _, h => by simp at h
  | a :: l, b :: m, h => by simp [zip_snd (l := l) (m := m) (by simpa using h)]
theorem rf_zip {K : PySem.W.Frag} {mg : Str → Option Value} {ρ : Nat → Addr} {n : Nat} {H : Hp} : ∀ (ks : List L2.Key) {xs : List V} {vs : List PV}, RPs K mg ρ n H xs vs → RF K mg ρ n H (ks.zip xs) (ks.zip vs)
  | [], _, _, _ => ⟨by simp, by simp; exact .nil⟩
  | _ :: _, _, _, .nil => ⟨rfl, .nil⟩
  | k :: ks, _, _, .cons a b => by
    obtain ⟨h1, h2⟩ := rf_zip ks b
    exact ⟨by simp [h1], .cons a h2⟩
theorem sDct (C : CxE P k c W X) {ks : List L2.Key} {es : List E} (ih : ∀ b ∈ es, SE P k b ∧ STs P k b) {keys : List (Option Expr)} {values : List Expr} {pos : Pos} (h : chkE P c (.dct ks es) (.Dict keys values pos) = true) : RE X W (.Dict keys values pos) (evalE (globOf P k) (.dct ks es)) := by
  have h0 : (if ks.isEmpty then keys.isEmpty && values.isEmpty else chkKs ks keys && decide (ks.Nodup) && decide (ks.length ≤ 15) && ks.length == es.length && chkEs P c es values) = true := h
  by_cases hk : ks.isEmpty = true
  · rw [if_pos hk, Bool.and_eq_true] at h0
    have e1 : keys = [] := by simpa using h0.1
    have e2 : values = [] := by simpa using h0.2
    subst e1 e2
    refine pe_imp pe_dnewK fun σ H Q ⟨env, ρ, h, R, er, p⟩ p' hp' => ?_
    have e : evalE (globOf P k) (.dct ks es) env h = newO (.dK []) h := by
      show (if ks.isEmpty then newO (.dK []) else _) h = _
      rw [if_pos hk]
    rw [e] at p
    obtain ⟨ρ', h', r, q⟩ := Post.newO R p hp' (u := .dK []) ⟨[], upd_same, rfl, .nil⟩
    exact q _ r
  · rw [if_neg hk] at h0
    simp only [Bool.and_eq_true] at h0
    obtain ⟨⟨⟨⟨g1, g2⟩, g3⟩, g4⟩, g5⟩ := h0
    have g2 := of_decide_eq_true g2
    have g3 := of_decide_eq_true g3
    have g4 : ks.length = es.length := beq_iff_eq.mp g4
    obtain ⟨i1, i2, i3, trs, i4, i5⟩ := sDctL (pos := pos) es ih ks keys values C g1 g5 g4
    have hne : keys ≠ [] := fun e => by
      subst e
      cases ks with
      | nil => exact hk rfl
      | cons _ _ => cases i3
    refine pe_imp (pe_disp i4 i1 i2 hne (by omega)) fun σ H Q ⟨env, ρ, h, R, er, p⟩ p' hp' => ?_
    have e : evalE (globOf P k) (.dct ks es) env h = M.bind (newO (.dK [])) (fun d => M.bind (evalEs (globOf P k) es env) fun vs => putD d (ks.zip vs)) h := by
      show (if ks.isEmpty then newO (.dK []) else _) h = _
      rw [if_neg hk]
      rfl
    rw [e] at p
    have R1 : HR X.K X.mg (rn ρ h.length p') (upd H p' (.dK [])) (h ++ [.dK []]) := R.new hp' ⟨[], upd_same, rfl, .nil⟩
    have nx1 : Nx ρ H h.length (rn ρ h.length p') (upd H p' (.dK [])) (h ++ [PO.dK []]).length := .new hp'
    have p1 := (Post.bind p) _ _ nx1 R1
    refine i5 σ _ (fun xs H2 => H2 p' = some (.dK []) ∧ Q (.ref p') (upd H2 p' (.dK (ks.zip xs)))) _ ⟨env, _, _, R1, er.nx nx1, p1.bind.imp (fun ρ2 H2 h2 vs nx2 R2 z xs rs => ?_) fun _ _ _ z => z⟩ fun xs H2 z2 ⟨z1, z3⟩ => ?_
    · obtain ⟨u, e1, z⟩ := Post.read R2 (Post.bind z)
      have e2 : h2[h.length]? = some (.dK []) := by
        split at e1
        · assumption
        · cases e1
      have eρ : ρ2 h.length = p' := (nx2.ge h.length (by simp)).trans rn_eq
      obtain ⟨xs0, x1, x2, x3⟩ := R2.objs _ _ e2
      have ex : xs0 = [] := by cases xs0 with | nil => rfl | cons _ _ => cases x2
      subst ex
      rw [eρ] at x1
      have hlt := (List.getElem?_eq_some_iff.mp e2).1
      refine ⟨x1, ?_⟩
      have x1' : H2 (ρ2 h.length) = some (.dK []) := by rw [eρ]; exact x1
      have nxw : Nx ρ2 H2 h2.length ρ2 (upd H2 (ρ2 h.length) (.dK (ks.zip xs))) h2.length := .write hlt x1' trivial (fun _ z => by cases z)
      have R3 : HR X.K X.mg ρ2 (upd H2 (ρ2 h.length) (.dK (ks.zip xs))) (h2.set h.length (.dK (ks.zip vs))) := R2.write e2 x1' trivial ⟨ks.zip xs, upd_same, (rf_zip ks rs).nx nxw⟩
      have nxw' : Nx ρ2 H2 h2.length ρ2 (upd H2 (ρ2 h.length) (.dK (ks.zip xs))) (h2.set h.length (.dK (ks.zip vs))).length := by rw [List.length_set]; exact nxw
      have z4 := Post.pure R3 ((Post.bind z) _ _ nxw' R3) (.ref (ρ2 h.length)) (.obj (by rw [List.length_set]; exact hlt))
      rw [eρ] at z4
      exact z4
    · refine ⟨z1, ks.zip xs, rfl, by rw [List.length_zip]; omega, ?_⟩
      rw [mergeK_app _ _ (by rw [zip_fst (by omega)]; exact g2) (fun _ _ _ hy => by cases hy)]
      exact z3
theorem ev_one (G : Glob) (a : E) (env : Env') : evalEs G [a] env = M.bind (evalE G a env) fun v => M.ret [v] := by
  have e1 : evalEs G [] env = M.ret [] := by unfold evalEs; rfl
  conv => lhs; unfold evalEs
  rw [e1]
  rfl
theorem ev_lrg1 (G : Glob) (a : E) : evalE G (.lrg [a]) = fun env => (do let v ← evalE G a env; lrgM [v]) := by
  funext env
  conv => lhs; unfold evalE
  rw [ev_one]
  show M.bind (M.bind _ _) _ = _
  rw [bind_assoc]
  rfl
theorem ev_lrg2 (G : Glob) (a b : E) : evalE G (.lrg [a, b]) = fun env => (do let v ← evalE G a env; let w ← evalE G b env; lrgM [v, w]) := by
  funext env
  have e2 : evalEs G [a, b] env = M.bind (evalE G a env) fun v => M.bind (evalE G b env) fun w => M.ret [v, w] := by
    conv => lhs; unfold evalEs
    rw [ev_one]
    show (M.bind _ fun v => M.bind (M.bind _ _) _) = _
    simp only [bind_assoc]
    rfl
  conv => lhs; unfold evalE
  rw [e2]
  show M.bind (M.bind _ _) _ = _
  simp only [bind_assoc]
  rfl
theorem sE_step : ∀ (a : E) (ih : ∀ b, sizeOf b < sizeOf a → SE P k b ∧ STs P k b) (e : Expr) (c : SC) (W : WX) (X : Cx), CxE P k c W X → chkE P c a e = true → RE X W e (evalE (globOf P k) a)
  | .slot i, ih, e, c, W, X, C, h => by
    cases e with
    | Name x pos =>
      have h' : (c.N[i]? == some x && c.vis x && okN x) = true := h
      rw [Bool.and_eq_true, Bool.and_eq_true] at h'
      obtain ⟨o1, o2⟩ := okN_1 h'.2
      exact re_slot (C.ix h'.1.1) (C.vis h'.1.2) o1 o2
    | _ => cases h
  | .con d, ih, e, c, W, X, C, h => by
    cases e with
    | Constant v j pos =>
      have h' : chkCon d v = true := h
      cases d with
      | non => cases v <;> first | exact re_con_non | cases h'
      | bl b => cases v <;> first | (have := beq_iff_eq.mp h'; subst this; exact re_con_bl) | cases h'
      | int i => cases v <;> first | (have := beq_iff_eq.mp h'; subst this; exact re_con_int) | cases h'
      | str x => cases v <;> first | (have := beq_iff_eq.mp h'; subst this; exact re_con_str) | cases h'
    | _ => cases h
  | .gl x, ih, e, c, W, X, C, h => by
    cases e with
    | Name y pos =>
      have h' : (x == y && c.glo x && okN x) = true := h
      rw [Bool.and_eq_true, Bool.and_eq_true] at h'
      have e1 : x = y := beq_iff_eq.mp h'.1.1
      subst e1
      exact re_gl (C.glo h'.1.2) (okN_1 h'.2).1 fun v hv => C.mg.const x v hv
    | _ => cases h
  | .bty t, ih, e, c, W, X, C, h => by
    cases e with
    | Name y pos =>
      have h' : (t != .non && y == t.py && c.blt P y) = true := h
      rw [Bool.and_eq_true, Bool.and_eq_true] at h'
      have e1 : y = t.py := beq_iff_eq.mp h'.1.2
      subst e1
      obtain ⟨g, m⟩ := C.blt h'.2
      exact re_bty g m (pty_boot t (by simpa using h'.1.1)) (pty_ok t).1 (pty_ok t).2
    | _ => cases h
  | .tup es, ih, e, c, W, X, C, h => by
    cases e with
    | Tuple l kk pos => exact re_tup (sEsL es (fun b hb => ih b (by have := size_mem hb; simp <;> omega)) l c W X C h)
    | _ => cases h
  | .lst es, ih, e, c, W, X, C, h => by
    cases e with
    | List l pos => exact re_lst (sEsL es (fun b hb => ih b (by have := size_mem hb; simp <;> omega)) l c W X C h)
    | _ => cases h
  | .bin o a b, ih, e, c, W, X, C, h => by
    cases e with
    | BinOp x o' y pos =>
      have h' : (o' == bo o && chkE P c a x && chkE P c b y) = true := h
      rw [Bool.and_eq_true, Bool.and_eq_true] at h'
      have e1 : o' = bo o := beq_iff_eq.mp h'.1.1
      subst e1
      exact re_bin ((ih a (by simp <;> omega)).1 x c W X C h'.1.2) ((ih b (by simp <;> omega)).1 y c W X C h'.2)
    | _ => cases h
  | .neg a, ih, e, c, W, X, C, h => by
    cases e with
    | UnaryOp o x pos =>
      have h' : (o == .USub && chkE P c a x) = true := h
      rw [Bool.and_eq_true] at h'
      have e1 : o = .USub := beq_iff_eq.mp h'.1
      subst e1
      exact re_neg ((ih a (by simp <;> omega)).1 x c W X C h'.2)
    | _ => cases h
  | .cmp o a b, ih, e, c, W, X, C, h => by
    cases e with
    | Compare x os ys pos =>
      match os, ys, h with
      | [o'], [y], h =>
        have h' : (o' == co o && plainE y && chkE P c a x && chkE P c b y) = true := h
        simp only [Bool.and_eq_true] at h'
        have e1 : o' = co o := beq_iff_eq.mp h'.1.1.1
        subst e1
        exact re_cmp C.units ((ih a (by simp <;> omega)).1 x c W X C h'.1.2) ((ih b (by simp <;> omega)).1 y c W X C h'.2) (mark_plain h'.1.1.2)
      | [], _, h => cases h
      | [_], [], h => cases h
      | [_], _ :: _ :: _, h => cases h
      | _ :: _ :: _, _, h => cases h
    | _ => cases h
  | .chain o o2 a b d, ih, e, c, W, X, C, h => by
    cases e with
    | Compare x os ys pos =>
      match os, ys, h with
      | [o', o2'], [y, z], h =>
        have h' : (o' == co o && o2' == co o2 && plainE z && chkE P c a x && chkE P c b y && chkE P c d z) = true := h
        simp only [Bool.and_eq_true] at h'
        have e1 : o' = co o := beq_iff_eq.mp h'.1.1.1.1.1
        have e2 : o2' = co o2 := beq_iff_eq.mp h'.1.1.1.1.2
        subst e1 e2
        exact re_chain C.units ((ih a (by simp <;> omega)).1 x c W X C h'.1.1.2) ((ih b (by simp <;> omega)).1 y c W X C h'.1.2) ((ih d (by simp <;> omega)).1 z c W X C h'.2) (mark_plain h'.1.1.1.2)
      | [], _, h => cases h
      | [_], _, h => cases h
      | [_, _], [], h => cases h
      | [_, _], [_], h => cases h
      | [_, _], _ :: _ :: _ :: _, h => cases h
      | _ :: _ :: _ :: _, _, h => cases h
    | _ => cases h
  | .and_ es, ih, e, c, W, X, C, h => by
    cases e with
    | BoolOp o l pos =>
      have h' : (o == .And && !l.isEmpty && chkEs P c es l) = true := h
      simp only [Bool.and_eq_true] at h'
      have e1 : o = .And := beq_iff_eq.mp h'.1.1
      subst e1
      exact sAndL es (fun b hb => ih b (by have := size_mem hb; simp <;> omega)) l c W X pos C (by simpa using h'.1.2) h'.2
    | _ => cases h
  | .or_ es, ih, e, c, W, X, C, h => by
    cases e with
    | BoolOp o l pos =>
      have h' : (o == .Or && !l.isEmpty && chkEs P c es l) = true := h
      simp only [Bool.and_eq_true] at h'
      have e1 : o = .Or := beq_iff_eq.mp h'.1.1
      subst e1
      exact sOrL es (fun b hb => ih b (by have := size_mem hb; simp <;> omega)) l c W X pos C (by simpa using h'.1.2) h'.2
    | _ => cases h
  | .not_ a, ih, e, c, W, X, C, h => by
    cases e with
    | UnaryOp o x pos =>
      have h' : (o == .Not && chkE P c a x) = true := h
      rw [Bool.and_eq_true] at h'
      have e1 : o = .Not := beq_iff_eq.mp h'.1
      subst e1
      exact re_not ((ih a (by simp <;> omega)).1 x c W X C h'.2)
    | _ => cases h
  | .ife t a b, ih, e, c, W, X, C, h => by
    cases e with
    | IfExp x y z pos =>
      have h' : (chkE P c t x && chkE P c a y && chkE P c b z) = true := h
      simp only [Bool.and_eq_true] at h'
      exact re_ife ((ih t (by simp <;> omega)).2 x c W X C h'.1.1) ((ih a (by simp <;> omega)).1 y c W X C h'.1.2) ((ih b (by simp <;> omega)).1 z c W X C h'.2)
    | _ => cases h
  | .bi f es, ih, e, c, W, X, C, h => by
    have h0 : (match vCall e with | some (x, _, args, _) => x == f.py && !args.isEmpty && !c.hot && chkBI P c x f && chkEs P c es args | none => false) = true := h
    cases q : vCall e with
    | none => rw [q] at h0; cases h0
    | some v =>
      obtain ⟨x, p, args, pos⟩ := v
      have e1 := vCall_eq q
      rw [q] at h0
      simp only [Bool.and_eq_true] at h0
      obtain ⟨⟨⟨⟨h1, h2⟩, h3⟩, h4⟩, h5⟩ := h0
      have e2 : x = f.py := beq_iff_eq.mp h1
      subst e1 e2
      have hot : c.hot = false := by simpa using h3
      have ra := sEsL es (fun b hb => ih b (by have := size_mem hb; simp <;> omega)) args c W X C h5
      have pl := (chkEs_plain h5).1
      cases args with
      | nil => simp at h2
      | cons a0 as =>
        rw [List.all_cons, Bool.and_eq_true] at pl
        have he := star_plain pl.1 as X.env
        have hp : (backTo pos (starEach as X.env)).any (·.1) = false := back_plain pl.2
        obtain ⟨n1, n2⟩ := bi_ok f
        cases f with
        | len => obtain ⟨g, m⟩ := C.blt h4; exact re_callB biB_len g m (show bootBuiltins (BI.len).py = _ by decide +kernel) ra n1 n2 he hp
        | abs => obtain ⟨g, m⟩ := C.blt h4; exact re_callB biB_abs g m (show bootBuiltins (BI.abs).py = _ by decide +kernel) ra n1 n2 he hp
        | int => obtain ⟨g, m⟩ := C.blt h4; exact re_callTy biB_int g m (show bootBuiltins (BI.int).py = _ by decide +kernel) ra n1 n2 he hp
        | tuple => obtain ⟨g, m⟩ := C.blt h4; exact re_callTy biB_tuple g m (show bootBuiltins (BI.tuple).py = _ by decide +kernel) ra n1 n2 he hp
        | list => obtain ⟨g, m⟩ := C.blt h4; exact re_callTy biB_list g m (show bootBuiltins (BI.list).py = _ by decide +kernel) ra n1 n2 he hp
        | all => obtain ⟨g, m⟩ := C.blt h4; exact re_callB (biB_all (C.calm hot)) g m (show bootBuiltins (BI.all).py = _ by decide +kernel) ra n1 n2 he hp
        | any => obtain ⟨g, m⟩ := C.blt h4; exact re_callB (biB_any (C.calm hot)) g m (show bootBuiltins (BI.any).py = _ by decide +kernel) ra n1 n2 he hp
        | sum => obtain ⟨g, m⟩ := C.blt h4; exact re_callB (biB_sum (C.calm hot)) g m (show bootBuiltins (BI.sum).py = _ by decide +kernel) ra n1 n2 he hp
        | min => obtain ⟨g, m⟩ := C.blt h4; exact re_callB (biB_min (C.calm hot) C.units) g m (show bootBuiltins (BI.min).py = _ by decide +kernel) ra n1 n2 he hp
        | max => obtain ⟨g, m⟩ := C.blt h4; exact re_callB (biB_max (C.calm hot) C.units) g m (show bootBuiltins (BI.max).py = _ by decide +kernel) ra n1 n2 he hp
        | sorted => obtain ⟨g, m⟩ := C.blt h4; exact re_callB biB_sorted g m (show bootBuiltins (BI.sorted).py = _ by decide +kernel) ra n1 n2 he hp
        | sortedD => obtain ⟨g, m⟩ := C.blt h4; exact re_callB (biB_sortedD (C.calm hot)) g m (show bootBuiltins (BI.sortedD).py = _ by decide +kernel) ra n1 n2 he hp
        | gcd =>
          have h4 : (P.gcd && c.glo "gcd") = true := h4
          rw [Bool.and_eq_true] at h4
          exact re_callG biB_gcd (C.glo h4.2) (C.mg.gcd h4.1) ra n2 he hp
        | str => obtain ⟨g, m⟩ := C.blt h4; exact re_callTy biB_str g m (show bootBuiltins (BI.str).py = _ by decide +kernel) ra n1 n2 he hp
        | repr =>
          have h4 : (P.rep && c.blt P "repr") = true := h4
          rw [Bool.and_eq_true] at h4
          obtain ⟨g, m⟩ := C.blt h4.2
          exact re_callB (biB_repr (C.gu hot h4.1) C.units (C.mg.sys h4.1)) g m (show bootBuiltins (BI.repr).py = _ by decide +kernel) ra n1 n2 he hp
  | .isi a t, ih, e, c, W, X, C, h => by
    have h0 : (match vCall e with | some (x, _, args, _) => x == "isinstance" && c.blt P x && t != .non && (match vIsi args with | some (a', y, _) => y == t.py && c.blt P y && plainE a' && chkE P c a a' | none => false) | none => false) = true := h
    cases q : vCall e with
    | none => rw [q] at h0; cases h0
    | some v =>
      obtain ⟨x, p, args, pos⟩ := v
      have e1 := vCall_eq q
      rw [q] at h0
      simp only [Bool.and_eq_true] at h0
      obtain ⟨⟨⟨h1, h2⟩, h3⟩, h4⟩ := h0
      have e2 : x = "isinstance" := beq_iff_eq.mp h1
      subst e1 e2
      cases q2 : vIsi args with
      | none => rw [q2] at h4; cases h4
      | some v =>
        obtain ⟨a', y, p2⟩ := v
        have e3 := vIsi_eq q2
        rw [q2] at h4
        simp only [Bool.and_eq_true] at h4
        obtain ⟨⟨⟨h5, h6⟩, h7⟩, h8⟩ := h4
        have e4 : y = t.py := beq_iff_eq.mp h5
        subst e3 e4
        obtain ⟨g, m⟩ := C.blt h2
        obtain ⟨g2, m2⟩ := C.blt h6
        exact re_isi ((ih a (by simp <;> omega)).1 a' c W X C h8) g m isi_ok.1 isi_ok.2.1 isi_ok.2.2 g2 m2 (pty_boot t (by simpa using h3)) (pty_ok t).1 (pty_ok t).2 (star_plain h7 _ _)
  | .isi2 a ts, ih, e, c, W, X, C, h => by
    have h0 : (match vCall e with | some (x, _, args, _) => x == "isinstance" && c.blt P x && ts.all (· != .non) && !ts.isEmpty && decide (ts.length ≤ 8) && (match vIsi2 args with | some (a', l, _, _) => vNames l == some (ts.map PTy.py) && (ts.all fun t => c.blt P t.py) && plainE a' && chkE P c a a' | none => false) | none => false) = true := h
    cases q : vCall e with
    | none => rw [q] at h0; cases h0
    | some v =>
      obtain ⟨x, p, args, pos⟩ := v
      have e1 := vCall_eq q
      rw [q] at h0
      simp only [Bool.and_eq_true] at h0
      obtain ⟨⟨⟨⟨⟨h1, h2⟩, h3⟩, h3b⟩, h3c⟩, h4⟩ := h0
      have e2 : x = "isinstance" := beq_iff_eq.mp h1
      subst e1 e2
      cases q2 : vIsi2 args with
      | none => rw [q2] at h4; cases h4
      | some v =>
        obtain ⟨a', l, kt, p2⟩ := v
        have e3 := vIsi2_eq q2
        rw [q2] at h4
        simp only [Bool.and_eq_true] at h4
        obtain ⟨⟨⟨h5, h6⟩, h7⟩, h8⟩ := h4
        have e4 : vNames l = some (ts.map PTy.py) := beq_iff_eq.mp h5
        subst e3
        obtain ⟨g, m⟩ := C.blt h2
        exact re_isi2 ((ih a (by simp <;> omega)).1 a' c W X C h8) g m isi_ok.1 isi_ok.2.1 isi_ok.2.2 (names_pa C e4 h3 h6).1 (of_decide_eq_true h3c) (star_plain h7 _ _)
  | .cl x es, ih, e, c, W, X, C, h => by
    have h0 : (match vCall e with | some (y, _, args, _) => x == y && c.glo x && okN x && !c.hot && (P.fT x).isSome && chkEs P c es args | none => false) = true := h
    cases q : vCall e with
    | none => rw [q] at h0; cases h0
    | some v =>
      obtain ⟨y, p, args, pos⟩ := v
      have e1 := vCall_eq q
      rw [q] at h0
      simp only [Bool.and_eq_true] at h0
      obtain ⟨⟨⟨⟨⟨h1, h2⟩, h3⟩, h4⟩, h5⟩, h6⟩ := h0
      have e2 : x = y := beq_iff_eq.mp h1
      subst e1 e2
      have hot : c.hot = false := by simpa using h4
      obtain ⟨fd, hfd⟩ := Option.isSome_iff_exists.mp h5
      obtain ⟨f, fdat, ps, hm, hk, hb, hps, F⟩ := C.mg.fn x fd hfd
      have ra := sEsL es (fun b hb => ih b (by have := size_mem hb; simp <;> omega)) args c W X C h6
      obtain ⟨pl, hlen⟩ := chkEs_plain h6
      refine re_cl C.tk F (C.room hot) (C.gu hot) (C.glo h2) hm hk hb (okN_1 h3).1 (fun vs h hl => callF_len hfd vs h (by rw [← hps]; exact hl)) ra ?_ (fun e => ?_)
      · cases args with
        | nil => exact .inl rfl
        | cons a0 as =>
          rw [List.all_cons, Bool.and_eq_true] at pl
          exact .inr ⟨a0, as, rfl, star_plain pl.1 as X.env, back_plain pl.2⟩
      · have e : args = [] := e
        subst e
        cases es with
        | nil => rfl
        | cons _ _ => cases hlen
  | .dct ks es, ih, e, c, W, X, C, h => by
    cases e with
    | Dict keys values pos => exact sDct C (fun b hb => ih b (by have := size_mem hb; simp <;> omega)) h
    | _ => cases h
  | .fnv x, ih, e, c, W, X, C, h => by
    cases e with
    | Name y pos =>
      have h' : (x == y && c.glo x && okN x && (P.fT x).isSome) = true := h
      simp only [Bool.and_eq_true] at h'
      obtain ⟨⟨⟨h1, h2⟩, h3⟩, h4⟩ := h'
      have e1 : x = y := beq_iff_eq.mp h1
      subst e1
      obtain ⟨fd, hfd⟩ := Option.isSome_iff_exists.mp h4
      obtain ⟨f, fdat, ps, hm, hk, hb, hps, F⟩ := C.mg.fn x fd hfd
      exact re_gl (o := some (.fn x)) (C.glo h2) (okN_1 h3).1 fun v hv => by
        cases hv
        exact ⟨.ref f, .ref f, hm, rfl, fun _ _ _ => .fn hm⟩
    | _ => cases h
  | .clv i es, ih, e, c, W, X, C, h => by
    have h0 : (match vCall e with | some (y, _, args, _) => c.N[i]? == some y && c.vis y && okN y && !c.hot && !args.isEmpty && chkEs P c es args | none => false) = true := h
    cases q : vCall e with
    | none => rw [q] at h0; cases h0
    | some v =>
      obtain ⟨y, p, args, pos⟩ := v
      have e1 := vCall_eq q
      rw [q] at h0
      simp only [Bool.and_eq_true] at h0
      obtain ⟨⟨⟨⟨⟨h1, h2⟩, h3⟩, h4⟩, h5⟩, h6⟩ := h0
      subst e1
      have hot : c.hot = false := by simpa using h4
      have ra := sEsL es (fun b hb => ih b (by have := size_mem hb; simp <;> omega)) args c W X C h6
      have pl := (chkEs_plain h6).1
      cases args with
      | nil => simp at h5
      | cons a0 as =>
        rw [List.all_cons, Bool.and_eq_true] at pl
        refine re_clv (known := (globOf P k).known) (call := (globOf P k).call) C.tk (fun y hk => ?_) (C.room hot) (C.gu hot) (C.ix h1) (C.vis h2) (okN_1 h3).1 (okN_1 h3).2 ra (star_plain pl.1 as X.env) (back_plain pl.2)
        obtain ⟨fd, hfd⟩ := Option.isSome_iff_exists.mp hk
        obtain ⟨f, fdat, ps, hm, hk, hb, hps, F⟩ := C.mg.fn y fd hfd
        exact ⟨f, fdat, ps, hm, hk, hb, F, fun vs h hl => callF_len hfd vs h (by rw [← hps]; exact hl)⟩
  | .sub a b, ih, e, c, W, X, C, h => by
    cases e with
    | Subscript x y pos =>
      have h' : (plainE y && chkE P c a x && chkE P c b y) = true := h
      simp only [Bool.and_eq_true] at h'
      exact re_sub ((ih a (by simp <;> omega)).1 x c W X C h'.1.2) ((ih b (by simp <;> omega)).1 y c W X C h'.2) (plain_ix h'.1.1)
    | _ => cases h
  | .dget a b, ih, e, c, W, X, C, h => by
    cases e with
    | Subscript x y pos =>
      have h' : (plainE y && chkE P c a x && chkE P c b y) = true := h
      simp only [Bool.and_eq_true] at h'
      exact re_dget C.units ((ih a (by simp <;> omega)).1 x c W X C h'.1.2) ((ih b (by simp <;> omega)).1 y c W X C h'.2) (plain_nosl h'.1.1)
    | _ => cases h
  | .cmpD neg a b, ih, e, c, W, X, C, h => by
    cases e with
    | Compare x os ys pos =>
      match os, ys, h with
      | [o'], [y], h =>
        have h' : (o' == (if neg then .NotIn else .In) && plainE y && chkE P c a x && chkE P c b y) = true := h
        simp only [Bool.and_eq_true] at h'
        have e1 : o' = (if neg then .NotIn else .In) := beq_iff_eq.mp h'.1.1.1
        subst e1
        exact re_cmpD C.units ((ih a (by simp <;> omega)).1 x c W X C h'.1.2) ((ih b (by simp <;> omega)).1 y c W X C h'.2) (mark_plainD h'.1.1.2)
      | [], _, h => cases h
      | [_], [], h => cases h
      | [_], _ :: _ :: _, h => cases h
      | _ :: _ :: _, _, h => cases h
    | _ => cases h
  | .sortL a, ih, e, c, W, X, C, h => by
    cases q : vSort e with
    | none =>
      have h0 : (match vSort e with | some v => _ | none => false) = true := h
      rw [q] at h0
      cases h0
    | some v =>
      have e1 := vSort_eq q
      have h0 : (match vSort e with
        | some v => v.x == "sorted" && c.blt P v.x && !c.hot && c.lam && v.kw == "key" && v.y == "len" && P.bl.contains v.y && v.nm == v.nm' && okN v.nm && plainE v.a && lamOK v.params v.scope v.nm && chkE P c a v.a
        | none => false) = true := h
      rw [q] at h0
      simp only [Bool.and_eq_true] at h0
      obtain ⟨⟨⟨⟨⟨⟨⟨⟨⟨⟨⟨h1, h2⟩, h3⟩, h4⟩, h5⟩, h6⟩, h7⟩, h8⟩, h9⟩, h10⟩, h11⟩, h12⟩ := h0
      have hot : c.hot = false := by simpa using h3
      obtain ⟨g, m⟩ := C.blt h2
      obtain ⟨cc, Pt, k1, k2, k3⟩ := C.lam h4
      have x1 : v.x = "sorted" := beq_iff_eq.mp h1
      have x5 : v.kw = "key" := beq_iff_eq.mp h5
      have x6 : v.y = "len" := beq_iff_eq.mp h6
      have x8 : v.nm' = v.nm := (beq_iff_eq.mp h8).symm
      have ml := C.mg.blt _ h7
      rw [x1] at g m
      rw [x6] at ml
      rw [x1, x5, x6, x8] at e1
      rw [e1]
      have ev : evalE (globOf P k) (.sortL a) = fun env => (do let v ← evalE (globOf P k) a env; sortLM v) := by
        funext env
        conv => lhs; unfold evalE
      rw [ev]
      exact re_sortL g m ml ((ih a (by simp <;> omega)).1 v.a c W X C h12) (star_plain h10 _ _) (by have := (C.room hot).dp; omega) C.units C.mg.kin k3 k1 k2 C.mg.tabU h11 (okN_1 h9).1
  | .ltT a b, ih, e, c, W, X, C, h => by
    cases e with
    | Compare x os ys pos =>
      match os, ys, h with
      | [o'], [y], h =>
        have h' : (o' == .Lt && plainE y && chkE P c a x && chkE P c b y) = true := h
        simp only [Bool.and_eq_true] at h'
        have e1 : o' = .Lt := beq_iff_eq.mp h'.1.1.1
        subst e1
        exact re_ltT C.units ((ih a (by simp <;> omega)).1 x c W X C h'.1.2) ((ih b (by simp <;> omega)).1 y c W X C h'.2) (mark_plain (o := .lt) h'.1.1.2)
      | [], _, h => cases h
      | [_], [], h => cases h
      | [_], _ :: _ :: _, h => cases h
      | _ :: _ :: _, _, h => cases h
    | _ => cases h
  | .rfs r x is, ih, e, c, W, X, C, h => by
    have ev : evalE (globOf P k) (.rfs r x is) = fun env => rfsM P.sub P.kit r (do let vs ← slotsM is env; lowF P k x vs) := by
      funext env
      conv => lhs; unfold evalE
      rfl
    rw [ev]
    cases q : vRfs e with
    | none =>
      have h0 : (match vRfs e with | some v => _ | none => false) = true := h
      rw [q] at h0
      cases h0
    | some v =>
      have e1 := vRfs_eq q
      have h0 : (match vRfs e with
        | some v => v.g == r.g && c.glo r.g && okN r.g && !c.hot && c.lam && !P.rep && P.rf.contains r && P.bl.contains "isinstance" && LamX.lamSB c.sc v.scope && v.x == x && v.scope.names.lookup x == some .globalImplicit && okN x && (P.fT x).isSome && slotsOK c.N v.scope is v.args
        | none => false) = true := h
      rw [q] at h0
      simp only [Bool.and_eq_true] at h0
      obtain ⟨⟨⟨⟨⟨⟨⟨⟨⟨⟨⟨⟨⟨h1, h2⟩, h3⟩, h4⟩, h5⟩, hrp⟩, h6⟩, h7⟩, h8⟩, h9⟩, h10⟩, h11⟩, h12⟩, h13⟩ := h0
      have hot : c.hot = false := by simpa using h4
      have hrp : P.rep = false := by simpa using hrp
      obtain ⟨cc, Pt, k1, k2, k3⟩ := C.lam h5
      obtain ⟨ga, a, fn, ee, st, gd, CH, m1, m2, m3, m4, m5, m6⟩ := C.mg.rf r h6
      have x1 : v.g = r.g := beq_iff_eq.mp h1
      have x2 : v.x = x := beq_iff_eq.mp h9
      have L0 := LamX.lamS_by h8
      have L : LamX.LamS X.env.scope v.scope := ⟨L0.kind, L0.co, L0.gen, L0.own, fun y hy ey => by
        rcases L0.free y hy ey with z | z
        · rcases C.sc _ _ z with z | ⟨z, _⟩
          · exact .inl z
          · cases z
        · rcases C.sc _ _ z with z | ⟨_, z⟩
          · exact .inr z
          · exact .inl z⟩
      obtain ⟨fd, hfd⟩ := Option.isSome_iff_exists.mp h12
      rw [x1, x2] at e1
      rw [e1]
      have nex : ∀ (is : List Nat) (env : Env') (h : PH), (∃ vs, slotsM is env h = .ok vs h) ∨ slotsM is env h = .stuck := fun is env h => by
        induction is with
        | nil => exact .inl ⟨[], rfl⟩
        | cons i is ih =>
          show (∃ vs, (M.bind (M.opt (env.getD i none)) fun v => M.bind (slotsM is env) fun vs => pure (v :: vs)) h = _) ∨ (M.bind (M.opt (env.getD i none)) fun v => M.bind (slotsM is env) fun vs => pure (v :: vs)) h = _
          cases env.getD i none with
          | none => exact .inr rfl
          | some v =>
            show (∃ vs, (M.bind (slotsM is env) fun vs => pure (v :: vs)) h = _) ∨ (M.bind (slotsM is env) fun vs => pure (v :: vs)) h = _
            unfold M.bind
            rcases ih with ⟨vs, e⟩ | e
            · rw [e]; exact .inl ⟨_, rfl⟩
            · rw [e]; exact .inr rfl
      have shallow : (∀ vs h, lowF P k x vs h = .stuck) → RE X W (.Call (.Name r.g v.p) [.Lambda ⟨[], [], none, [], [], none, []⟩ (.Call (.Name x v.p2) v.args [] v.pos2) v.scope v.lpos] [] v.pos) (fun env => rfsM P.sub P.kit r (do let vs ← slotsM is env; lowF P k x vs)) := fun hs =>
        ⟨fun pins s σ H Q I ⟨env, ρ, h, R, er, p⟩ => by
          have z : (M.bind (slotsM is env) fun vs => lowF P k x vs) h = .stuck := by
            unfold M.bind
            rcases nex is env h with ⟨vs, e⟩ | e
            · rw [e]; exact hs vs h
            · rw [e]
          have p : Post X.K X.mg ρ H h.length (rfsM P.sub P.kit r (M.bind (slotsM is env) fun vs => lowF P k x vs) h) _ _ := p
          unfold rfsM at p
          rw [z] at p
          exact p.elim⟩
      match k, shallow, C.mg.low, C.room hot with
      | 0, sh, _, _ => exact sh fun _ _ => rfl
      | 1, sh, _, _ => exact sh fun _ _ => rfl
      | j + 2, _, low, room =>
        obtain ⟨f, fdat, ps, hm, hk, hb, hps, F⟩ := low j rfl x fd hfd
        rw [hrp] at F
        have F := F.ok
        exact re_rfs (low := callF P j) (C.glo h2) m1 m2 m3 m4 m5 m6 (C.mg.blt _ h7) C.mg.kin k3 k1 k2 C.mg.tabU room L (beq_iff_eq.mp h10) F hm hk hb (okN_1 h11).1 (okN_1 h3).1 (fun vs h hl => callF_len hfd vs h (by rw [← hps]; exact hl)) (by rw [C.nm]; exact h13)
          (fun cn C' g e => C.mg.sub cn r.hd true e C' CH g m6) (fun cn C' g x b e => C.mg.kit cn x b e C' g)
  | .lset a, ih, e, c, W, X, C, h => by
    cases q : vCall e with
    | none =>
      have h0 : (match vCall e with | some (x, _, [r], _) => _ | _ => false) = true := h
      rw [q] at h0
      cases h0
    | some v =>
      obtain ⟨x, p, args0, pos⟩ := v
      have e1 := vCall_eq q
      have h0 : (match vCall e with
        | some (x, _, [r], _) => x == "len" && c.blt P x && !c.hot && (match vCall r with
          | some (y, _, [a'], _) => y == "set" && c.blt P y && plainE a' && chkE P c a a'
          | _ => false)
        | _ => false) = true := h
      rw [q] at h0
      match args0, h0, e1 with
      | [r], h0, e1 =>
        simp only [Bool.and_eq_true] at h0
        obtain ⟨⟨⟨h1, h2⟩, h3⟩, h4⟩ := h0
        have e2 : x = "len" := beq_iff_eq.mp h1
        subst e1 e2
        have hot : c.hot = false := by simpa using h3
        obtain ⟨g, m⟩ := C.blt h2
        cases q2 : vCall r with
        | none => rw [q2] at h4; cases h4
        | some v =>
          obtain ⟨y, p2, args, pos2⟩ := v
          have e3 := vCall_eq q2
          rw [q2] at h4
          match args, h4, e3 with
          | [a'], h4, e3 =>
            simp only [Bool.and_eq_true] at h4
            obtain ⟨⟨⟨h5, h6⟩, h7⟩, h8⟩ := h4
            have e4 : y = "set" := beq_iff_eq.mp h5
            subst e3 e4
            obtain ⟨g2, m2⟩ := C.blt h6
            have ev : evalE (globOf P k) (.lset a) = fun env => (do let v ← evalE (globOf P k) a env; lsetM v) := by
              funext env
              conv => lhs; unfold evalE
            rw [ev]
            exact re_lset (C.calm hot) g m g2 m2 ((ih a (by simp <;> omega)).1 a' c W X C h8) (star_plain h7 _ _)
          | [], h4, _ => cases h4
          | _ :: _ :: _, h4, _ => cases h4
      | [], h0, _ => cases h0
      | _ :: _ :: _, h0, _ => cases h0
  | .lrg es, ih, e, c, W, X, C, h => by
    cases q : vCall e with
    | none =>
      have h0 : (match vCall e with | some (x, _, [r], _) => _ | _ => false) = true := h
      rw [q] at h0
      cases h0
    | some v =>
      obtain ⟨x, p, args0, pos⟩ := v
      have e1 := vCall_eq q
      have h0 : (match vCall e with
        | some (x, _, [r], _) => x == "list" && c.blt P x && !c.hot && (match vCall r with
          | some (y, _, args, _) => y == "range" && c.blt P y && (args.length == 1 || args.length == 2) && chkEs P c es args
          | none => false)
        | _ => false) = true := h
      rw [q] at h0
      match args0, h0, e1 with
      | [r], h0, e1 =>
        simp only [Bool.and_eq_true] at h0
        obtain ⟨⟨⟨h1, h2⟩, h3⟩, h4⟩ := h0
        have e2 : x = "list" := beq_iff_eq.mp h1
        subst e1 e2
        have hot : c.hot = false := by simpa using h3
        obtain ⟨g, m⟩ := C.blt h2
        cases q2 : vCall r with
        | none => rw [q2] at h4; cases h4
        | some v =>
          obtain ⟨y, p2, args, pos2⟩ := v
          have e3 := vCall_eq q2
          rw [q2] at h4
          simp only [Bool.and_eq_true] at h4
          obtain ⟨⟨⟨h5, h6⟩, h7⟩, h8⟩ := h4
          have e4 : y = "range" := beq_iff_eq.mp h5
          subst e3 e4
          obtain ⟨g2, m2⟩ := C.blt h6
          match args, es, h7, h8, ih with
          | [a'], [a], _, h8, ih =>
            have h9 : (plainE a' && chkE P c a a' && chkEs P c [] []) = true := h8
            simp only [Bool.and_eq_true] at h9
            rw [ev_lrg1]
            exact re_lrg1 (C.calm hot) g m g2 m2 ((ih a (by simp <;> omega)).1 a' c W X C h9.1.2) (star_plain h9.1.1 _ _)
          | [a', b'], [a, b], _, h8, ih =>
            have h9 : (plainE a' && chkE P c a a' && (plainE b' && chkE P c b b' && chkEs P c [] [])) = true := h8
            simp only [Bool.and_eq_true] at h9
            rw [ev_lrg2]
            exact re_lrg2 (C.calm hot) g m g2 m2 ((ih a (by simp <;> omega)).1 a' c W X C h9.1.2) ((ih b (by simp <;> omega)).1 b' c W X C h9.2.1.2) (star_plain h9.1.1 _ _) (star_plain h9.2.1.1 _ _) (back_plain (by rw [List.all_cons, h9.2.1.1]; rfl))
          | [], _, h7, _, _ => cases h7
          | [_], [], _, h8, _ => cases h8
          | [_], _ :: _ :: _, _, h8, _ =>
            have h9 : (_ && chkEs P c (_ :: _) []) = true := h8
            rw [Bool.and_eq_true] at h9
            cases h9.2
          | [_, _], [], _, h8, _ => cases h8
          | [_, _], [_], _, h8, _ =>
            have h9 : (_ && chkEs P c [] (_ :: _)) = true := h8
            rw [Bool.and_eq_true] at h9
            cases h9.2
          | [_, _], _ :: _ :: _ :: _, _, h8, _ =>
            have h9 : (_ && (_ && chkEs P c (_ :: _) [])) = true := h8
            simp only [Bool.and_eq_true] at h9
            cases h9.2.2
          | _ :: _ :: _ :: _, _, h7, _, _ => simp at h7
      | [], h0, _ => cases h0
      | _ :: _ :: _, h0, _ => cases h0
  | .slc a lo hi, ih, e, c, W, X, C, h => by
    cases e with
    | Subscript x y pos =>
      cases y with
      | Slice l u st p2 =>
        cases st with
        | some _ => cases h
        | none =>
          obtain ⟨h1, h2, h3⟩ : chkE P c a x = true ∧ (match l with | none => lo.isN = true | some l => lo.isN = false ∧ chkE P c lo l = true) ∧ (match u with | none => hi.isN = true | some u => hi.isN = false ∧ chkE P c hi u = true) := by
            cases l with
            | none =>
              cases u with
              | none =>
                have h' : (chkE P c a x && lo.isN && hi.isN) = true := h
                simp only [Bool.and_eq_true] at h'
                exact ⟨h'.1.1, h'.1.2, h'.2⟩
              | some u =>
                have h' : (chkE P c a x && lo.isN && (!hi.isN && chkE P c hi u)) = true := h
                simp only [Bool.and_eq_true, Bool.not_eq_true'] at h'
                exact ⟨h'.1.1, h'.1.2, h'.2⟩
            | some l =>
              cases u with
              | none =>
                have h' : (chkE P c a x && (!lo.isN && chkE P c lo l) && hi.isN) = true := h
                simp only [Bool.and_eq_true, Bool.not_eq_true'] at h'
                exact ⟨h'.1.1, h'.1.2, h'.2⟩
              | some u =>
                have h' : (chkE P c a x && (!lo.isN && chkE P c lo l) && (!hi.isN && chkE P c hi u)) = true := h
                simp only [Bool.and_eq_true, Bool.not_eq_true'] at h'
                exact ⟨h'.1.1, h'.1.2, h'.2⟩
          have pl : L2.PO X l (TOf X.K X.mg W (fun env => partM lo (evalE (globOf P k) lo env))) := by
            cases l with
            | none =>
              have e : (fun env : Env' => partM lo (evalE (globOf P k) lo env)) = fun _ => pure none := by funext env; unfold partM; rw [if_pos h2]
              rw [e]
              exact ro_none
            | some l =>
              have e : (fun env : Env' => partM lo (evalE (globOf P k) lo env)) = fun env => M.bind (evalE (globOf P k) lo env) fun x => M.bind (M.opt (intP x)) fun i => M.ret (some i) := by funext env; unfold partM; rw [h2.1]; rfl
              rw [e]
              exact ro_some ((ih lo (by simp <;> omega)).1 l c W X C h2.2)
          have pu : L2.PO X u (TOf X.K X.mg W (fun env => partM hi (evalE (globOf P k) hi env))) := by
            cases u with
            | none =>
              have e : (fun env : Env' => partM hi (evalE (globOf P k) hi env)) = fun _ => pure none := by funext env; unfold partM; rw [if_pos h3]
              rw [e]
              exact ro_none
            | some l =>
              have e : (fun env : Env' => partM hi (evalE (globOf P k) hi env)) = fun env => M.bind (evalE (globOf P k) hi env) fun x => M.bind (M.opt (intP x)) fun i => M.ret (some i) := by funext env; unfold partM; rw [h3.1]; rfl
              rw [e]
              exact ro_some ((ih hi (by simp <;> omega)).1 l c W X C h3.2)
          exact re_slc ((ih a (by simp <;> omega)).1 x c W X C h1) pl pu
      | _ => cases h
    | _ => cases h
  | .slcS a lo hi, ih, e, c, W, X, C, h => by
    cases e with
    | Subscript x y pos =>
      cases y with
      | Slice l u st p2 =>
        cases st with
        | some _ => cases h
        | none =>
          obtain ⟨h1, h2, h3⟩ : chkE P c a x = true ∧ (match l with | none => lo.isN = true | some l => lo.isN = false ∧ chkE P c lo l = true) ∧ (match u with | none => hi.isN = true | some u => hi.isN = false ∧ chkE P c hi u = true) := by
            cases l with
            | none =>
              cases u with
              | none =>
                have h' : (chkE P c a x && lo.isN && hi.isN) = true := h
                simp only [Bool.and_eq_true] at h'
                exact ⟨h'.1.1, h'.1.2, h'.2⟩
              | some u =>
                have h' : (chkE P c a x && lo.isN && (!hi.isN && chkE P c hi u)) = true := h
                simp only [Bool.and_eq_true, Bool.not_eq_true'] at h'
                exact ⟨h'.1.1, h'.1.2, h'.2⟩
            | some l =>
              cases u with
              | none =>
                have h' : (chkE P c a x && (!lo.isN && chkE P c lo l) && hi.isN) = true := h
                simp only [Bool.and_eq_true, Bool.not_eq_true'] at h'
                exact ⟨h'.1.1, h'.1.2, h'.2⟩
              | some u =>
                have h' : (chkE P c a x && (!lo.isN && chkE P c lo l) && (!hi.isN && chkE P c hi u)) = true := h
                simp only [Bool.and_eq_true, Bool.not_eq_true'] at h'
                exact ⟨h'.1.1, h'.1.2, h'.2⟩
          have pl : L2.PO X l (TOf X.K X.mg W (fun env => partM lo (evalE (globOf P k) lo env))) := by
            cases l with
            | none =>
              have e : (fun env : Env' => partM lo (evalE (globOf P k) lo env)) = fun _ => pure none := by funext env; unfold partM; rw [if_pos h2]
              rw [e]
              exact ro_none
            | some l =>
              have e : (fun env : Env' => partM lo (evalE (globOf P k) lo env)) = fun env => M.bind (evalE (globOf P k) lo env) fun x => M.bind (M.opt (intP x)) fun i => M.ret (some i) := by funext env; unfold partM; rw [h2.1]; rfl
              rw [e]
              exact ro_some ((ih lo (by simp <;> omega)).1 l c W X C h2.2)
          have pu : L2.PO X u (TOf X.K X.mg W (fun env => partM hi (evalE (globOf P k) hi env))) := by
            cases u with
            | none =>
              have e : (fun env : Env' => partM hi (evalE (globOf P k) hi env)) = fun _ => pure none := by funext env; unfold partM; rw [if_pos h3]
              rw [e]
              exact ro_none
            | some l =>
              have e : (fun env : Env' => partM hi (evalE (globOf P k) hi env)) = fun env => M.bind (evalE (globOf P k) hi env) fun x => M.bind (M.opt (intP x)) fun i => M.ret (some i) := by funext env; unfold partM; rw [h3.1]; rfl
              rw [e]
              exact ro_some ((ih hi (by simp <;> omega)).1 l c W X C h3.2)
          exact re_slcS ((ih a (by simp <;> omega)).1 x c W X C h1) pl pu
      | _ => cases h
    | _ => cases h
  | .subS a b, ih, e, c, W, X, C, h => by
    cases e with
    | Subscript x y pos =>
      have h' : (plainE y && chkE P c a x && chkE P c b y) = true := h
      simp only [Bool.and_eq_true] at h'
      exact re_subS ((ih a (by simp <;> omega)).1 x c W X C h'.1.2) ((ih b (by simp <;> omega)).1 y c W X C h'.2) (plain_ix h'.1.1)
    | _ => cases h
  | .smth j a b, ih, e, c, W, X, C, h => by
    have h0 : (match vMeth e with
      | some (o', name, apos, [x], pos) => name == (if j then "join" else "split") && abOK o' && (apos.endLine == pos.line) && plainE x && chkE P c a o' && chkE P c b x
      | _ => false) = true := h
    cases q : vMeth e with
    | none => rw [q] at h0; cases h0
    | some v =>
      obtain ⟨o', name, apos, args, pos⟩ := v
      have e1 := vMeth_eq q
      rw [q] at h0
      match args, h0, e1 with
      | [x], h0, e1 =>
        simp only [Bool.and_eq_true] at h0
        obtain ⟨⟨⟨⟨⟨h1, h2⟩, h3⟩, h4⟩, h5⟩, h6⟩ := h0
        have e2 : name = (if j then "join" else "split") := beq_iff_eq.mp h1
        subst e1 e2
        have ev : evalE (globOf P k) (.smth j a b) = fun env => (do let x ← evalE (globOf P k) a env; let _ ← M.opt (strP x); let y ← evalE (globOf P k) b env; smthM j x y) := by
          funext env
          conv => lhs; unfold evalE
        rw [ev]
        have r1 := (ih a (by simp <;> omega)).1 o' c W X C h5
        have r2 := (ih b (by simp <;> omega)).1 x c W X C h6
        have st : starEach [x] X.env = [(false, eval x X.env)] := star_plain h4 _ _
        cases j with
        | true => exact re_join r1 r2 st (ab_ok h2) h3
        | false => exact re_split r1 r2 st (ab_ok h2) h3
      | [], h0, _ => cases h0
      | _ :: _ :: _, h0, _ => cases h0
  | .inT a b, ih, e, c, W, X, C, h => by
    cases e with
    | Compare x os ys pos =>
      match os, ys, h with
      | [o'], [y], h =>
        have h' : (o' == .In && plainE y && chkE P c a x && chkE P c b y) = true := h
        simp only [Bool.and_eq_true] at h'
        have e1 : o' = .In := beq_iff_eq.mp h'.1.1.1
        subst e1
        exact re_inT ((ih a (by simp <;> omega)).1 x c W X C h'.1.2) ((ih b (by simp <;> omega)).1 y c W X C h'.2) (mark_plain (o := .in_) h'.1.1.2)
      | [], _, h => cases h
      | [_], [], h => cases h
      | [_], _ :: _ :: _, h => cases h
      | _ :: _ :: _, _, h => cases h
    | _ => cases h
  | .dgetD a b d, ih, e, c, W, X, C, h => by
    have h0 : (match vMeth e with
      | some (o', name, apos, [x, y], pos) => name == "get" && abOK o' && (apos.endLine == pos.line) && plainE x && plainE y && chkE P c a o' && chkE P c b x && chkE P c d y
      | _ => false) = true := h
    cases q : vMeth e with
    | none => rw [q] at h0; cases h0
    | some v =>
      obtain ⟨o', name, apos, args, pos⟩ := v
      have e1 := vMeth_eq q
      rw [q] at h0
      match args, h0, e1 with
      | [x, y], h0, e1 =>
        simp only [Bool.and_eq_true] at h0
        obtain ⟨⟨⟨⟨⟨⟨⟨h1, h2⟩, h3⟩, h4⟩, h4'⟩, h5⟩, h6⟩, h7⟩ := h0
        have e2 : name = "get" := beq_iff_eq.mp h1
        subst e1 e2
        have ev : evalE (globOf P k) (.dgetD a b d) = fun env => (do let x ← evalE (globOf P k) a env; let _ ← readM fun h => dctP h x; let y ← evalE (globOf P k) b env; let z ← evalE (globOf P k) d env; dgetDM x y z) := by
          funext env
          conv => lhs; unfold evalE
        rw [ev]
        exact re_dgetD C.units ((ih a (by simp <;> omega)).1 o' c W X C h5) ((ih b (by simp <;> omega)).1 x c W X C h6) ((ih d (by simp <;> omega)).1 y c W X C h7) (m2_plain (ab_ok h2) h3 h4 h4')
      | [], h0, _ => cases h0
      | [_], h0, _ => cases h0
      | _ :: _ :: _ :: _, h0, _ => cases h0
  | .mth m o es, ih, e, c, W, X, C, h => by
    have h0 : (match vMeth e with | some (o', name, apos, args, pos) => name == m.py && abOK o' && (apos.endLine == pos.line) && decide (args.length < 30) && chkE P c o o' && chkEs P c es args | none => false) = true := h
    cases q : vMeth e with
    | none => rw [q] at h0; cases h0
    | some v =>
      obtain ⟨o', name, apos, args, pos⟩ := v
      have e1 := vMeth_eq q
      rw [q] at h0
      simp only [Bool.and_eq_true] at h0
      obtain ⟨⟨⟨⟨⟨h1, h2⟩, h3⟩, h4⟩, h5⟩, h6⟩ := h0
      have e2 : name = m.py := beq_iff_eq.mp h1
      subst e1 e2
      have ro := (ih o (by simp <;> omega)).1 o' c W X C h5
      have ra := sEsL es (fun b hb => ih b (by have := size_mem hb; simp <;> omega)) args c W X C h6
      obtain ⟨pl, hlen⟩ := chkEs_plain h6
      cases args with
      | nil =>
        have e3 : es = [] := by cases es with | nil => rfl | cons _ _ => cases hlen
        subst e3
        cases m with
        | append => exact re_mth0 PySem.F.slot_list_append PySem.F.type_list_append mtB_append ro (ab_ok h2) h3
        | pop => exact re_mth0 PySem.F.slot_list_pop PySem.F.type_list_pop mtB_pop ro (ab_ok h2) h3
        | extend => exact re_mth0 PySem.F.slot_list_extend PySem.F.type_list_extend mtB_extend ro (ab_ok h2) h3
        | index => exact re_mth0 PySem.F.slot_list_index PySem.F.type_list_index mtB_index ro (ab_ok h2) h3
      | cons a0 as =>
        have pl0 := pl
        rw [List.all_cons, Bool.and_eq_true] at pl
        have he := star_plain pl.1 as X.env
        have hp : (backTo pos (starEach as X.env)).any (·.1) = false := back_plain pl.2
        have few : ((backTo pos (starEach (a0 :: as) X.env)).all (fun x => !x.1) && (backToKw pos (keywordEach [] X.env)).all (fun x => x.1.isSome) && decide ((a0 :: as).length + ([] : List Keyword).length + (if ([] : List Keyword).isEmpty then 0 else 1) < 30)) = true := by
          rw [back_all pl0]
          show (true && true && decide ((a0 :: as).length + 0 + 0 < 30)) = true
          rw [decide_eq_true (by have := of_decide_eq_true h4; omega)]
          rfl
        cases m with
        | append => exact re_mth PySem.F.slot_list_append PySem.F.type_list_append mtB_append ro ra (ab_ok h2) few h3 he hp
        | pop => exact re_mth PySem.F.slot_list_pop PySem.F.type_list_pop mtB_pop ro ra (ab_ok h2) few h3 he hp
        | extend => exact re_mth PySem.F.slot_list_extend PySem.F.type_list_extend mtB_extend ro ra (ab_ok h2) few h3 he hp
        | index => exact re_mth PySem.F.slot_list_index PySem.F.type_list_index mtB_index ro ra (ab_ok h2) few h3 he hp
  | .lc elt tg kk src ifs own, ih, e, c, W, X, C, h => by
    cases q : vLc e with
    | none =>
      have h0 : (match vLc e with | some (e', tg', it', ifs', scope, _) => _ | none => false) = true := h
      rw [q] at h0
      cases h0
    | some v =>
      obtain ⟨e', tg', it', ifs', scope, pos⟩ := v
      have e1 := vLc_eq q
      have h0 : (match vLc e with | some (e', tg', it', ifs', scope, _) => !c.hot && blkC c.N c.sc scope (c.ownP own) && ((c.ownP own).map (·.2) == own) && (tg.slots.all fun i => own.contains i) && plainE it' && chkSrc P c tg' (fun l => chkEs P c src l) src.length kk it' && chkT ⟨c.N, scope, false, false⟩ tg tg' && decide (ifs'.length ≤ 1) && chkEs P ⟨c.N, scope, false, false⟩ ifs ifs' && chkE P ⟨c.N, scope, false, false⟩ elt e' | none => false) = true := h
      rw [q] at h0
      simp only [Bool.and_eq_true] at h0
      obtain ⟨⟨⟨⟨⟨⟨⟨⟨⟨h1, h2⟩, h3⟩, h4⟩, h5⟩, h6⟩, h7⟩, h8⟩, h9⟩, h10⟩ := h0
      subst e1
      have hot : c.hot = false := by simpa using h1
      have eo : (c.ownP own).map (·.2) = own := beq_iff_eq.mp h3
      have hown : ∀ i ∈ tg.slots, i ∈ own := fun i hi => by
        have := List.all_eq_true.mp h4 i hi
        simpa using this
      have B := fun s H A cl fp => C.blk hot (scope := scope) s H A cl fp
      have src' : PI X tg' it' (TIf X.K X.mg W kk (evalEs (globOf P k) src)) := by
        cases kk with
        | val =>
          have h6 : (chkEs P c src [it'] && (src.length == 1)) = true := h6
          rw [Bool.and_eq_true] at h6
          match src, h6.1, h6.2 with
          | [a], h6, _ =>
            have h6' : (plainE it' && chkE P c a it' && chkEs P c [] []) = true := h6
            simp only [Bool.and_eq_true] at h6'
            exact ri_val ((ih a (by simp <;> omega)).1 it' c W X C h6'.1.2)
        | zip =>
          have h6 : (match vCall it' with | some (x, _, args, _) => x == "zip" && c.blt P x && args.length == 2 && isTup' tg' && chkEs P c src args | none => false) = true := h6
          cases q2 : vCall it' with
          | none => rw [q2] at h6; cases h6
          | some v =>
            obtain ⟨x, p, args, pos2⟩ := v
            have e2 := vCall_eq q2
            rw [q2] at h6
            simp only [Bool.and_eq_true] at h6
            obtain ⟨⟨⟨⟨g1, g2⟩, g3⟩, g3b⟩, g4⟩ := h6
            have e3 : x = "zip" := beq_iff_eq.mp g1
            subst e3
            have e2 : it' = .Call (.Name "zip" p) args [] pos2 := e2
            obtain ⟨te, tk, tp, et⟩ := isTup_eq g3b
            subst e2 et
            obtain ⟨gg, gm⟩ := C.blt g2
            have ra := sEsL src (fun b hb => ih b (by have := size_mem hb; simp <;> omega)) args c W X C g4
            obtain ⟨pl, hlen⟩ := chkEs_plain g4
            match args, g3, ra, pl, hlen with
            | [a, b], _, ra, pl, hlen =>
              simp only [List.all_cons, List.all_nil, Bool.and_eq_true] at pl
              exact ri_zip gg gm ra (star_plain pl.1 _ _) (back_plain (by rw [List.all_cons, pl.2.1]; rfl)) fun env h vs h' e => by rw [evalEs_len _ _ _ _ _ _ e, hlen]; rfl
            | [], g3, _, _, _ => cases g3
            | [_], g3, _, _, _ => cases g3
            | _ :: _ :: _ :: _, g3, _, _, _ => simp at g3
        | enum =>
          have h6 : (match vCall it' with | some (x, _, args, _) => x == "enumerate" && c.blt P x && args.length == 1 && isTup' tg' && chkEs P c src args | none => false) = true := h6
          cases q2 : vCall it' with
          | none => rw [q2] at h6; cases h6
          | some v =>
            obtain ⟨x, p, args, pos2⟩ := v
            have e2 := vCall_eq q2
            rw [q2] at h6
            simp only [Bool.and_eq_true] at h6
            obtain ⟨⟨⟨⟨g1, g2⟩, g3⟩, g3b⟩, g4⟩ := h6
            have e3 : x = "enumerate" := beq_iff_eq.mp g1
            subst e3
            have e2 : it' = .Call (.Name "enumerate" p) args [] pos2 := e2
            obtain ⟨te, tk, tp, et⟩ := isTup_eq g3b
            subst e2 et
            obtain ⟨gg, gm⟩ := C.blt g2
            have ra := sEsL src (fun b hb => ih b (by have := size_mem hb; simp <;> omega)) args c W X C g4
            obtain ⟨pl, hlen⟩ := chkEs_plain g4
            match args, g3, ra, pl, hlen with
            | [a], _, ra, pl, hlen =>
              have pl1 : plainE a = true := by simpa using pl
              exact ri_enum gg gm ra (star_plain pl1 _ _) fun env h vs h' e => by rw [evalEs_len _ _ _ _ _ _ e, hlen]; rfl
            | [], g3, _, _, _ => cases g3
            | _ :: _ :: _, g3, _, _, _ => simp at g3
        | range =>
          have h6 : (match vCall it' with | some (x, _, args, _) => x == "range" && c.blt P x && (args.length == 1 || args.length == 2) && chkEs P c src args | none => false) = true := h6
          cases q2 : vCall it' with
          | none => rw [q2] at h6; cases h6
          | some v =>
            obtain ⟨x, p, args, pos2⟩ := v
            have e2 := vCall_eq q2
            rw [q2] at h6
            simp only [Bool.and_eq_true] at h6
            obtain ⟨⟨⟨g1, g2⟩, g3⟩, g4⟩ := h6
            have e3 : x = "range" := beq_iff_eq.mp g1
            subst e3
            have e2 : it' = .Call (.Name "range" p) args [] pos2 := e2
            subst e2
            obtain ⟨gg, gm⟩ := C.blt g2
            have ra := sEsL src (fun b hb => ih b (by have := size_mem hb; simp <;> omega)) args c W X C g4
            obtain ⟨pl, hlen⟩ := chkEs_plain g4
            match args, g3, ra, pl, hlen with
            | [a], _, ra, pl, hlen =>
              have pl1 : plainE a = true := by simpa using pl
              exact ri_range1 gg gm ra (star_plain pl1 _ _) fun env h vs h' e => by rw [evalEs_len _ _ _ _ _ _ e, hlen]; rfl
            | [a, b], _, ra, pl, hlen =>
              simp only [List.all_cons, List.all_nil, Bool.and_eq_true] at pl
              exact ri_range2 gg gm ra (by rw [star_plain pl.1, star_plain pl.2.1]; rfl) (star_plain pl.2.1 _ _) fun env h vs h' e => by rw [evalEs_len _ _ _ _ _ _ e, hlen]; rfl
            | [], g3, _, _, _ => cases g3
            | _ :: _ :: _ :: _, g3, _, _, _ => simp at g3
      have ifs0 : ∀ (s : Shared) (H : Hp) (A : Addr) (cl : List (Str × Addr)) (fp : List Addr), PTs (X.blk s H scope (compEnvC scope cl A X.env) fp) ifs' (TTf X.K X.mg WF (evalIfs (globOf P k) ifs)) := fun s H A cl fp => by
        match ifs, ifs', h8, h9 with
        | [], [], _, _ => exact pts_imp pts_nil fun σ H Q ⟨env, ρ, h, R, er, p⟩ => Post.pure R p
        | [], _ :: _, _, h9 => cases h9
        | _ :: _, [], _, h9 => cases h9
        | [a], [e0], _, h9 =>
          have h9' : (plainE e0 && chkE P ⟨c.N, scope, false, false⟩ a e0 && chkEs P ⟨c.N, scope, false, false⟩ [] []) = true := h9
          simp only [Bool.and_eq_true] at h9'
          exact pts_imp (pts_one ((ih a (by simp <;> omega)).2 e0 _ _ _ (B s H A cl fp) h9'.1.2)) fun σ H Q ⟨env, ρ, h, R, er, p⟩ => TTf.seq R er p fun ρ1 H1 h1 t nx1 R1 er1 p1 => by
            cases t with
            | true => exact Post.pure R1 p1
            | false => exact Post.pure R1 p1
        | _ :: _ :: _, [_], _, h9 =>
          have h9' : (_ && chkEs P ⟨c.N, scope, false, false⟩ (_ :: _) []) = true := h9
          rw [Bool.and_eq_true] at h9'
          cases h9'.2
        | _, _ :: _ :: _, h8, _ => simp at h8
      have ok := C.blkOk h2
      have lc := pe_lc (wi := TIf X.K X.mg W kk (evalEs (globOf P k) src)) (g := TGf X.K X.mg tg) (tt := TTf X.K X.mg WF (evalIfs (globOf P k) ifs)) (te := TEf X.K X.mg WF (evalE (globOf P k) elt)) (own := c.ownP own) (C.calm hot) C.ndX src' ok (fun s H A cl fp => sTg rfl (B s H A cl fp) tg tg' h7) ifs0 (fun s H A cl fp => (ih elt (by simp <;> omega)).1 e' _ _ _ (B s H A cl fp) h10) (folded_plain h5 _) (pos := pos)
      rw [eo] at lc
      exact pe_imp lc fun σ H Q hh => lc_sound hown hh
theorem sT_step : ∀ (a : E) (ih : ∀ b, sizeOf b < sizeOf a → SE P k b ∧ STs P k b) (self : SE P k a) (e : Expr) (c : SC) (W : WX) (X : Cx), CxE P k c W X → chkE P c a e = true → RT X W e (evalT (globOf P k) a)
  | .not_ a, ih, self, e, c, W, X, C, h => by
    cases e with
    | UnaryOp o x pos =>
      have h' : (o == .Not && chkE P c a x) = true := h
      rw [Bool.and_eq_true] at h'
      have e1 : o = .Not := beq_iff_eq.mp h'.1
      subst e1
      exact rt_not ((ih a (by simp <;> omega)).2 x c W X C h'.2)
    | _ => cases h
  | .and_ es, ih, self, e, c, W, X, C, h => by
    cases e with
    | BoolOp o l pos =>
      have h' : (o == .And && !l.isEmpty && chkEs P c es l) = true := h
      simp only [Bool.and_eq_true] at h'
      have e1 : o = .And := beq_iff_eq.mp h'.1.1
      subst e1
      exact PW.pt (stAndL es (fun b hb => ih b (by have := size_mem hb; simp <;> omega)) l c W X pos C h'.2)
    | _ => cases h
  | .or_ es, ih, self, e, c, W, X, C, h => by
    cases e with
    | BoolOp o l pos =>
      have h' : (o == .Or && !l.isEmpty && chkEs P c es l) = true := h
      simp only [Bool.and_eq_true] at h'
      have e1 : o = .Or := beq_iff_eq.mp h'.1.1
      subst e1
      exact PW.pt (stOrL es (fun b hb => ih b (by have := size_mem hb; simp <;> omega)) l c W X pos C h'.2)
    | _ => cases h
  | .ife t a b, ih, self, e, c, W, X, C, h => by
    cases e with
    | IfExp x y z pos =>
      have h' : (chkE P c t x && chkE P c a y && chkE P c b z) = true := h
      simp only [Bool.and_eq_true] at h'
      exact rt_ife ((ih t (by simp <;> omega)).2 x c W X C h'.1.1) ((ih a (by simp <;> omega)).2 y c W X C h'.1.2) ((ih b (by simp <;> omega)).2 z c W X C h'.2)
    | _ => cases h
  | .cmp o a b, ih, self, e, c, W, X, C, h => by
    cases e with
    | Compare x os ys pos =>
      match os, ys, h with
      | [o'], [y], h =>
        have h' : (o' == co o && plainE y && chkE P c a x && chkE P c b y) = true := h
        simp only [Bool.and_eq_true] at h'
        have e1 : o' = co o := beq_iff_eq.mp h'.1.1.1
        subst e1
        exact rt_cmp C.units ((ih a (by simp <;> omega)).1 x c W X C h'.1.2) ((ih b (by simp <;> omega)).1 y c W X C h'.2) (mark_plain h'.1.1.2)
      | [], _, h => cases h
      | [_], [], h => cases h
      | [_], _ :: _ :: _, h => cases h
      | _ :: _ :: _, _, h => cases h
    | _ => cases h
  | .chain o o2 a b d, ih, self, e, c, W, X, C, h => by
    cases e with
    | Compare x os ys pos =>
      match os, ys, h with
      | [o', o2'], [y, z], h =>
        have h' : (o' == co o && o2' == co o2 && plainE z && chkE P c a x && chkE P c b y && chkE P c d z) = true := h
        simp only [Bool.and_eq_true] at h'
        have e1 : o' = co o := beq_iff_eq.mp h'.1.1.1.1.1
        have e2 : o2' = co o2 := beq_iff_eq.mp h'.1.1.1.1.2
        subst e1 e2
        exact rt_chain C.units ((ih a (by simp <;> omega)).1 x c W X C h'.1.1.2) ((ih b (by simp <;> omega)).1 y c W X C h'.1.2) ((ih d (by simp <;> omega)).1 z c W X C h'.2) (mark_plain h'.1.1.1.2)
      | [], _, h => cases h
      | [_], _, h => cases h
      | [_, _], [], h => cases h
      | [_, _], [_], h => cases h
      | [_, _], _ :: _ :: _ :: _, h => cases h
      | _ :: _ :: _ :: _, _, h => cases h
    | _ => cases h
  | .slot i, ih, self, e, c, W, X, C, h => by
    refine rt_def (self e c W X C h) (isTrue_def ?_ _)
    cases e <;> first | rfl | cases h
  | .con d, ih, self, e, c, W, X, C, h => by
    refine rt_def (self e c W X C h) (isTrue_def ?_ _)
    cases e <;> first | rfl | cases h
  | .gl x, ih, self, e, c, W, X, C, h => by
    refine rt_def (self e c W X C h) (isTrue_def ?_ _)
    cases e <;> first | rfl | cases h
  | .bi f es, ih, self, e, c, W, X, C, h => by
    have r := rt_def (self e c W X C h) (isTrue_def (by
      have h0 : (match vCall e with | some (x, _, args, _) => _ | none => false) = true := h
      cases q : vCall e with
      | none => rw [q] at h0; cases h0
      | some v => rw [vCall_eq q]; rfl) _)
    exact pt_imp r fun σ H Q ⟨env, ρ, h, R, er, p⟩ => ⟨env, ρ, h, R, er, by
      show Post _ _ _ _ _ (M.bind (M.bind (evalEs (globOf P k) es env) (biM f)) truthM h) _ _
      rw [bind_assoc]
      exact p⟩
  | .isi a t, ih, self, e, c, W, X, C, h => by
    have r := rt_def (self e c W X C h) (isTrue_def (by
      have h0 : (match vCall e with | some (x, _, args, _) => _ | none => false) = true := h
      cases q : vCall e with
      | none => rw [q] at h0; cases h0
      | some v => rw [vCall_eq q]; rfl) _)
    exact pt_imp r fun σ H Q ⟨env, ρ, h, R, er, p⟩ => ⟨env, ρ, h, R, er, by
      show Post _ _ _ _ _ (M.bind (M.bind (evalE (globOf P k) a env) fun x => M.bind (readM fun h => tyP h x) fun c => M.ret (.bl (c.sub t))) truthM h) _ _
      rw [bind_assoc]
      simp only [bind_assoc, ret_bind]
      exact p⟩
  | .isi2 a ts, ih, self, e, c, W, X, C, h => by
    have r := rt_def (self e c W X C h) (isTrue_def (by
      have h0 : (match vCall e with | some (x, _, args, _) => _ | none => false) = true := h
      cases q : vCall e with
      | none => rw [q] at h0; cases h0
      | some v => rw [vCall_eq q]; rfl) _)
    exact pt_imp r fun σ H Q ⟨env, ρ, h, R, er, p⟩ => ⟨env, ρ, h, R, er, by
      show Post _ _ _ _ _ (M.bind (M.bind (evalE (globOf P k) a env) fun x => M.bind (readM fun h => tyP h x) fun c => M.ret (.bl (ts.any fun t => c.sub t))) truthM h) _ _
      rw [bind_assoc]
      simp only [bind_assoc, ret_bind]
      exact p⟩
  | .cl x es, ih, self, e, c, W, X, C, h => by
    have r := rt_def (self e c W X C h) (isTrue_def (by
      have h0 : (match vCall e with | some (x, _, args, _) => _ | none => false) = true := h
      cases q : vCall e with
      | none => rw [q] at h0; cases h0
      | some v => rw [vCall_eq q]; rfl) _)
    exact pt_imp r fun σ H Q ⟨env, ρ, h, R, er, p⟩ => ⟨env, ρ, h, R, er, by
      show Post _ _ _ _ _ (M.bind (M.bind (evalEs (globOf P k) es env) ((globOf P k).call x)) truthM h) _ _
      rw [bind_assoc]
      exact p⟩
  | .sub a b, ih, self, e, c, W, X, C, h => by
    have r := rt_def (self e c W X C h) (isTrue_def (by cases e <;> first | rfl | cases h) _)
    exact pt_imp r fun σ H Q ⟨env, ρ, h, R, er, p⟩ => ⟨env, ρ, h, R, er, by
      show Post _ _ _ _ _ (M.bind (M.bind (evalE (globOf P k) a env) fun x => M.bind (evalE (globOf P k) b env) fun y => ixM x y) truthM h) _ _
      rw [bind_assoc]
      simp only [bind_assoc]
      exact p⟩
  | .clv i es, ih, self, e, c, W, X, C, h => by
    have r := rt_def (self e c W X C h) (isTrue_def (by
      have h0 : (match vCall e with | some (x, _, args, _) => _ | none => false) = true := h
      cases q : vCall e with
      | none => rw [q] at h0; cases h0
      | some v => rw [vCall_eq q]; rfl) _)
    exact pt_imp r fun σ H Q ⟨env, ρ, h, R, er, p⟩ => ⟨env, ρ, h, R, er, by
      show Post _ _ _ _ _ (M.bind (M.bind (M.opt (env.getD i none)) fun f => M.bind (M.opt (fnP (globOf P k).known f)) fun y => M.bind (evalEs (globOf P k) es env) ((globOf P k).call y)) truthM h) _ _
      simp only [bind_assoc]
      exact p⟩
  | .cmpD neg a b, ih, self, e, c, W, X, C, h => by
    cases e with
    | Compare x os ys pos =>
      match os, ys, h with
      | [o'], [y], h =>
        have h' : (o' == (if neg then .NotIn else .In) && plainE y && chkE P c a x && chkE P c b y) = true := h
        simp only [Bool.and_eq_true] at h'
        have e1 : o' = (if neg then .NotIn else .In) := beq_iff_eq.mp h'.1.1.1
        subst e1
        exact rt_cmpD C.units ((ih a (by simp <;> omega)).1 x c W X C h'.1.2) ((ih b (by simp <;> omega)).1 y c W X C h'.2) (mark_plainD h'.1.1.2)
      | [], _, h => cases h
      | [_], [], h => cases h
      | [_], _ :: _ :: _, h => cases h
      | _ :: _ :: _, _, h => cases h
    | _ => cases h
  | .dget a b, ih, self, e, c, W, X, C, h => ⟨fun pins s σ H Q I ⟨env, ρ, h, R, er, p⟩ => (Post.stuck p).elim⟩
  | .ltT a b, ih, self, e, c, W, X, C, h => by
    cases e with
    | Compare x os ys pos =>
      match os, ys, h with
      | [o'], [y], h =>
        have h' : (o' == .Lt && plainE y && chkE P c a x && chkE P c b y) = true := h
        simp only [Bool.and_eq_true] at h'
        have e1 : o' = .Lt := beq_iff_eq.mp h'.1.1.1
        subst e1
        exact rt_ltT C.units ((ih a (by simp <;> omega)).1 x c W X C h'.1.2) ((ih b (by simp <;> omega)).1 y c W X C h'.2) (mark_plain (o := .lt) h'.1.1.2)
      | [], _, h => cases h
      | [_], [], h => cases h
      | [_], _ :: _ :: _, h => cases h
      | _ :: _ :: _, _, h => cases h
    | _ => cases h
  | .sortL a, ih, self, e, c, W, X, C, h => ⟨fun pins s σ H Q I ⟨env, ρ, h, R, er, p⟩ => (Post.stuck p).elim⟩
  | .rfs r x is, ih, self, e, c, W, X, C, h => ⟨fun pins s σ H Q I ⟨env, ρ, h, R, er, p⟩ => (Post.stuck p).elim⟩
  | .lset a, ih, self, e, c, W, X, C, h => ⟨fun pins s σ H Q I ⟨env, ρ, h, R, er, p⟩ => (Post.stuck p).elim⟩
  | .lrg es, ih, self, e, c, W, X, C, h => ⟨fun pins s σ H Q I ⟨env, ρ, h, R, er, p⟩ => (Post.stuck p).elim⟩
  | .dct ks es, ih, self, e, c, W, X, C, h => ⟨fun pins s σ H Q I ⟨env, ρ, h, R, er, p⟩ => (Post.stuck p).elim⟩
  | .fnv x, ih, self, e, c, W, X, C, h => ⟨fun pins s σ H Q I ⟨env, ρ, h, R, er, p⟩ => (Post.stuck p).elim⟩
  | .bty t, ih, self, e, c, W, X, C, h => ⟨fun pins s σ H Q I ⟨env, ρ, h, R, er, p⟩ => (Post.stuck p).elim⟩
  | .tup es, ih, self, e, c, W, X, C, h => ⟨fun pins s σ H Q I ⟨env, ρ, h, R, er, p⟩ => (Post.stuck p).elim⟩
  | .lst es, ih, self, e, c, W, X, C, h => ⟨fun pins s σ H Q I ⟨env, ρ, h, R, er, p⟩ => (Post.stuck p).elim⟩
  | .bin o a b, ih, self, e, c, W, X, C, h => ⟨fun pins s σ H Q I ⟨env, ρ, h, R, er, p⟩ => (Post.stuck p).elim⟩
  | .neg a, ih, self, e, c, W, X, C, h => ⟨fun pins s σ H Q I ⟨env, ρ, h, R, er, p⟩ => (Post.stuck p).elim⟩
  | .slc a lo hi, ih, self, e, c, W, X, C, h => ⟨fun pins s σ H Q I ⟨env, ρ, h, R, er, p⟩ => (Post.stuck p).elim⟩
  | .subS a b, ih, self, e, c, W, X, C, h => ⟨fun pins s σ H Q I ⟨env, ρ, h, R, er, p⟩ => (Post.stuck p).elim⟩
  | .slcS a lo hi, ih, self, e, c, W, X, C, h => ⟨fun pins s σ H Q I ⟨env, ρ, h, R, er, p⟩ => (Post.stuck p).elim⟩
  | .smth j a b, ih, self, e, c, W, X, C, h => ⟨fun pins s σ H Q I ⟨env, ρ, h, R, er, p⟩ => (Post.stuck p).elim⟩
  | .inT a b, ih, self, e, c, W, X, C, h => ⟨fun pins s σ H Q I ⟨env, ρ, h, R, er, p⟩ => (Post.stuck p).elim⟩
  | .dgetD a b d, ih, self, e, c, W, X, C, h => ⟨fun pins s σ H Q I ⟨env, ρ, h, R, er, p⟩ => (Post.stuck p).elim⟩
  | .mth m o es, ih, self, e, c, W, X, C, h => ⟨fun pins s σ H Q I ⟨env, ρ, h, R, er, p⟩ => (Post.stuck p).elim⟩
  | .lc elt tg kk src ifs own, ih, self, e, c, W, X, C, h => ⟨fun pins s σ H Q I ⟨env, ρ, h, R, er, p⟩ => (Post.stuck p).elim⟩
theorem sET : ∀ (n : Nat) (a : E), sizeOf a < n → SE P k a ∧ STs P k a := by
  intro n
  induction n with
  | zero => intro a h; exact absurd h (Nat.not_lt_zero _)
  | succ n ih =>
    intro a h
    have ih' : ∀ b, sizeOf b < sizeOf a → SE P k b ∧ STs P k b := fun b hb => ih b (by omega)
    have e : SE P k a := sE_step a ih'
    exact ⟨e, sT_step a ih' e⟩
theorem sE (a : E) : SE P k a := (sET (sizeOf a + 1) a (Nat.lt_succ_self _)).1
theorem sT (a : E) : STs P k a := (sET (sizeOf a + 1) a (Nat.lt_succ_self _)).2
theorem sEs (as : List E) (l : List Expr) (c : SC) (W : WX) (X : Cx) (C : CxE P k c W X) (h : chkEs P c as l = true) : RA X W l (evalEs (globOf P k) as) := sEsL as (fun b _ => ⟨sE b, sT b⟩) l c W X C h
end
end MP

set_option Elab.async false
set_option linter.all false
set_option maxRecDepth 100000
set_option maxHeartbeats 4000000
/-! MPj: the checker of statements, and that it is right; the defs of a program. -/
namespace MP
open PySem PySem.Spec PyProof.Rows L2

/-- a, b = .. is no exchange of stores -/
def swCell (sc : Scope) : List Expr → Bool
  | [.Name x _, .Name y _] => sc.names.lookup x != some .local || sc.names.lookup y != some .local
  | [.Name x _, .Name y _, .Name w _] => sc.names.lookup x != some .local || sc.names.lookup y != some .local || sc.names.lookup w != some .local
  | _ => false
theorem swCell_ok {sc : Scope} {es : List Expr} {kt k2 : Nat} {p p2 : Pos} {vs : List Expr} {env : Env} (hs : env.scope = sc) (h : swCell sc es = true) : swappedStores [.Tuple es kt p] (.Tuple vs k2 p2) env = pure none := by
  match es, h with
  | [.Name x px, .Name y py], h =>
    have h' : (sc.names.lookup x != some .local || sc.names.lookup y != some .local) = true := h
    have kd : ∀ z, env.kindOf z = sc.names.lookup z := fun z => by unfold Env.kindOf; rw [hs]
    unfold swappedStores
    dsimp only
    split
    · rfl
    split
    · rfl
    split
    · rfl
    rename_i z
    refine absurd ?_ z
    simp only [Bool.or_eq_true, bne_iff_ne] at h'
    rcases h' with h' | h' <;> by_cases e : sc.names.lookup x = some .local <;> by_cases e2 : sc.names.lookup y = some .local <;> by_cases e3 : py.line = px.line <;> simp_all [Expr.pos]
  | [.Name x px, .Name y py, .Name w pw], h =>
    have h' : (sc.names.lookup x != some .local || sc.names.lookup y != some .local || sc.names.lookup w != some .local) = true := h
    have kd : ∀ z, env.kindOf z = sc.names.lookup z := fun z => by unfold Env.kindOf; rw [hs]
    unfold swappedStores
    dsimp only
    split
    · rfl
    split
    · rfl
    split
    · rfl
    rename_i z
    refine absurd ?_ z
    simp only [Bool.or_eq_true, bne_iff_ne] at h'
    by_cases e : sc.names.lookup x = some .local <;> by_cases e2 : sc.names.lookup y = some .local <;> by_cases e4 : sc.names.lookup w = some .local <;> by_cases e3 : py.line = px.line <;> by_cases e5 : pw.line = px.line <;> simp_all [Expr.pos]
def swNone (sc : Scope) (es : List Expr) : Expr → Bool
  | .Tuple vs _ _ => (!(es.length == 2 || es.length == 3) || vs.length != es.length || vs.all (foldedForSure 8)) || swCell sc es
  | .Name .. => true
  | .Call .. => true
  | .Subscript .. => true
  | _ => false
theorem swNone_ok {es : List Expr} {kt : Nat} {p : Pos} {v : Expr} {env : Env} {sc : Scope} (hs : env.scope = sc) (h : swNone sc es v = true) : swappedStores [.Tuple es kt p] v env = pure none := by
  cases v with
  | Tuple vs k2 p2 =>
    have h' : ((!(es.length == 2 || es.length == 3) || vs.length != es.length || vs.all (foldedForSure 8)) || swCell sc es) = true := h
    rw [Bool.or_eq_true] at h'
    rcases h' with h' | h'
    case inr => exact swCell_ok hs h'
    rw [Bool.or_eq_true] at h'
    unfold swappedStores
    dsimp only
    rcases h' with h' | h'
    · rw [if_pos (by rw [h']; rfl)]
    · split
      · rfl
      split
      · rfl
      split
      · rfl
      rfl
  | Name _ _ => rfl
  | Call _ _ _ _ => rfl
  | Subscript _ _ _ => rfl
  | _ => cases h
def swTwo (sc : Scope) (x y : Str) (px py : Pos) (a b : Expr) : Bool :=
  sc.names.lookup x == some .local && sc.names.lookup y == some .local && px.line == py.line && x != y && plainE a && plainE b && !([a, b].all (foldedForSure 8)) && !([a, b].all (constantsAlone 8))
theorem swTwo_ok {sc : Scope} {x y : Str} {px py pt pt2 : Pos} {kt k2 : Nat} {a b : Expr} {env : Env} (hs : env.scope = sc) (hk : sc.kind = .function) (h : swTwo sc x y px py a b = true) :
    swappedStores [.Tuple [.Name x px, .Name y py] kt pt] (.Tuple [a, b] k2 pt2) env = pure (some [x, y]) := by
  unfold swTwo at h
  simp only [Bool.and_eq_true, Bool.not_eq_true', beq_iff_eq, bne_iff_ne, ne_eq] at h
  obtain ⟨⟨⟨⟨⟨⟨⟨h1, h2⟩, h3⟩, h4⟩, h5⟩, h6⟩, h7⟩, h8⟩ := h
  have kx : env.kindOf x = some .local := by unfold Env.kindOf; rw [hs]; exact h1
  have ky : env.kindOf y = some .local := by unfold Env.kindOf; rw [hs]; exact h2
  have bk : env.blockKind = .function := by unfold Env.blockKind; rw [hs, hk]; rfl
  have na : ([a, b].any fun | .Starred .. => true | _ => false) = false := by
    have q : ∀ e : Expr, plainE e = true → (match e with | .Starred .. => true | _ => false) = false := fun e he => by cases e <;> first | rfl | cases he
    rw [List.any_cons, List.any_cons, List.any_nil, q a h5, q b h6]
    rfl
  have yx : ¬ y = x := fun z => h4 z.symm
  unfold swappedStores
  dsimp only
  rw [if_neg (by rw [bk]; intro z; cases z)]
  split
  · rename_i z
    exact absurd (na.symm.trans z) Bool.false_ne_true
  have e : (List.filterMap (fun (t : Expr) => match t with
    | .Name id pos => if env.kindOf id == some .local && pos.line == (Option.map (fun (x : Expr) => x.pos.line) [Expr.Name x px, Expr.Name y py].head?).getD 0 then some id else none
    | _ => none) [Expr.Name x px, Expr.Name y py]) = [x, y] := by
    simp [kx, ky, h3, Expr.pos]
  split
  · rename_i z
    have z' : ((List.filterMap (fun (t : Expr) => match t with
    | .Name id pos => if env.kindOf id == some .local && pos.line == (Option.map (fun (x : Expr) => x.pos.line) [Expr.Name x px, Expr.Name y py].head?).getD 0 then some id else none
    | _ => none) [Expr.Name x px, Expr.Name y py]).length != 2 || (List.filterMap (fun (t : Expr) => match t with
    | .Name id pos => if env.kindOf id == some .local && pos.line == (Option.map (fun (x : Expr) => x.pos.line) [Expr.Name x px, Expr.Name y py].head?).getD 0 then some id else none
    | _ => none) [Expr.Name x px, Expr.Name y py]).eraseDups.length != (List.filterMap (fun (t : Expr) => match t with
    | .Name id pos => if env.kindOf id == some .local && pos.line == (Option.map (fun (x : Expr) => x.pos.line) [Expr.Name x px, Expr.Name y py].head?).getD 0 then some id else none
    | _ => none) [Expr.Name x px, Expr.Name y py]).length) = true := z
    rw [e] at z'
    simp [List.eraseDups_cons, yx] at z'
  · rw [if_neg (by rw [h7]; decide)]
    rw [if_neg (by rw [h8]; decide)]
    exact congrArg (fun l => (pure (some l) : Sem (Option (List Str)))) e

/-- name = [..]: the list is stored by the comprehension itself -/
def lcTrue (sc : Scope) (x : Str) (p : Pos) : Expr → Bool
  | .ListComp _ _ scope pos => sc.names.lookup x == some .local && (p.line == pos.line) && !(scope.names.any fun (n, k) => n == x && (k == .local || k == .cell))
  | _ => false
/-- .. a name that is captured: by a plain store -/
def lcFalse (sc : Scope) (x : Str) : Expr → Bool
  | .ListComp _ _ _ _ => sc.names.lookup x == some .cell
  | _ => false
theorem lcFalse_ok {sc : Scope} {x : Str} {p : Pos} {l : Nat} {v : Expr} {env : Env} (hs : env.scope = sc) (h : lcFalse sc x v = true) : swapsWith v (some (.Name x p)) l env = pure false := by
  cases v with
  | ListComp e gs scope pos =>
    have h' : (sc.names.lookup x == some NameKind.cell) = true := h
    have kx : env.kindOf x = some .cell := by unfold Env.kindOf; rw [hs]; exact beq_iff_eq.mp h'
    unfold swapsWith
    simp only [kx]
    have e1 : (some NameKind.cell == some NameKind.local) = false := rfl
    rw [e1, Bool.and_false, Bool.false_and, Bool.false_and]
  | _ => cases h

mutual
def chkS (P : Prog) (c : SC) : S → Stmt → Bool
  | .expr e, .Expr v _ => notComp v && chkE P c e v
  | .ret e, .Return (some v) _ => chkE P c e v
  | .retN, .Return none _ => true
  | .pass, .Pass _ => true
  | .brk, .Break _ => true
  | .cont, .Continue _ => true
  | .asg i e, .Assign [.Name x p] v _ => c.N[i]? == some x && c.loc x && chkE P c e v && (notComp v || lcTrue c.sc x p v || lcFalse c.sc x v)
  | .asgT ts e, .Assign [.Tuple es _ _] v _ => !c.hot && chkTs c ts es && chkE P c e v && notComp v && swNone c.sc es v
  | .par i j a b, .Assign [.Tuple [.Name x px, .Name y py] _ _] (.Tuple [a', b'] _ _) _ => !c.hot && c.N[i]? == some x && c.N[j]? == some y && swTwo c.sc x y px py a' b' && chkE P c a a' && chkE P c b b'
  | .setIx o i e, .Assign [.Subscript o' i' _] v _ => plainE i' && notComp v && chkE P c o o' && chkE P c i i' && chkE P c e v
  | .dput o i e, .Assign [.Subscript o' i' _] v _ => plainE i' && notComp v && chkE P c o o' && chkE P c i i' && chkE P c e v
  | .aug i o e, .AugAssign (.Name x _) o' v _ => c.N[i]? == some x && c.loc x && o' == bo o && chkE P c e v
  | .ifS t a b, .If t' a' b' _ => chkE P c t t' && chkSs P c a a' && chkSs P c b b'
  | .whl t b, .While t' b' [] _ => chkE P c t t' && chkSs P c b b'
  | .for_ tg k src b, .For tg' it' b' [] _ => !c.hot && plainE it' && chkSrc P c tg' (fun l => chkEs P c src l) src.length k it' && chkT c tg tg' && chkSs P c b b'
  | .raise x, .Raise (some e) none _ => !c.hot && c.glo x && okN x && P.exc.contains x && (match vCall e with | some (y, _, [], _) => x == y | _ => false)
  | .tryS b hs, .Try b' hds [] [] _ => !c.hot && !hds.isEmpty && chkSs P c b b' && chkHs P c hs hds
  | _, _ => false
def chkSs (P : Prog) (c : SC) : List S → List Stmt → Bool
  | [], [] => true
  | s :: ss, t :: ts => chkS P c s t && chkSs P c ss ts
  | _, _ => false
def chkHs (P : Prog) (c : SC) : List (Str × List S) → List ExceptHandler → Bool
  | [], [] => true
  | (x, ss) :: hs, .ExceptHandler (some (.Name y _)) none (b :: bs) _ :: hds => x == y && c.glo x && okN x && P.hdl.contains x && chkSs P ⟨c.N, c.sc, true, false⟩ ss (b :: bs) && chkHs P c hs hds
  | _, _ => false
end

structure CxS (P : Prog) (k : Nat) (c : SC) (W : WX) (X : Cx) : Prop extends CxE P k c W X where
  se : X.env.scope = c.sc
  kind : c.sc.kind = .function
  pas : PassesOwn (model X.prog X.w) X.A X.env X.xe
  stk : X.stack = X.env :: X.outer
  frm : X.env.frame = some X.env.locals
section
variable {P : Prog} {k : Nat} {c : SC} {W : WX} {X : Cx}
theorem CxS.tr (C : CxS P k c W X) {W' : WX} {pn : List (Addr × Obj)} {xe : Value → Shared → Prop} (tk : Takes (X.tr pn xe) W') (hp : PassesOwn (model X.prog X.w) X.A X.env xe) : CxS P k c W' (X.tr pn xe) where
  mg := C.mg
  nm := C.nm
  nd := C.nd
  sc := C.sc
  fn := C.fn
  units := C.units
  calm := C.calm
  room := C.room
  gu := C.gu
  tk := tk
  lam := C.lam
  se := C.se
  kind := C.kind
  pas := hp
  stk := C.stk
  frm := C.frm
theorem CxS.suite (C : CxS P k c W X) {a : Addr} {pn : List (Addr × Obj)} : CxS P k ⟨c.N, c.sc, true, false⟩ WF (X.suite a pn) where
  mg := C.mg
  nm := C.nm
  nd := C.nd
  sc := C.sc
  fn := C.fn
  units := C.units
  calm := fun h => nomatch h
  room := fun h => nomatch h
  gu := fun h => nomatch h
  tk := takes_none5
  lam := fun h => nomatch h
  se := C.se
  kind := C.kind
  pas := PassesOwn.never
  stk := C.stk
  frm := C.frm
def SSt (P : Prog) (k : Nat) (s : S) : Prop := ∀ (t : Stmt) (c : SC) (W : WX) (X : Cx), CxS P k c W X → chkS P c s t = true → RS X W t (execS (globOf P k) s)
theorem sSsL : ∀ (ss : List S) (ih : ∀ b ∈ ss, SSt P k b) (ts : List Stmt) (c : SC) (W : WX) (X : Cx), CxS P k c W X → chkSs P c ss ts = true → RSs X W ts (execSs (globOf P k) ss)
  | [], _, [], _, _, _, _, _ => rss_nil
  | [], _, _ :: _, _, _, _, _, h => by cases h
  | _ :: _, _, [], _, _, _, _, h => by cases h
  | s :: ss, ih, t :: ts, c, W, X, C, h => by
    have h' : (chkS P c s t && chkSs P c ss ts) = true := h
    rw [Bool.and_eq_true] at h'
    exact rss_cons (ih s (by simp) t c W X C h'.1) (sSsL ss (fun b hb => ih b (List.mem_cons_of_mem _ hb)) ts c W X C h'.2)
theorem execHs_eq (G : Glob) (c : Str) (vs : List PV) : ∀ (hs : List (Str × List S)) (env : Env') (h : PH), execHs G c vs hs env h = hdsGo G.sub c vs (hs.map fun q => (q.1, execSs G q.2)) env h
  | [], _, _ => rfl
  | (x, ss) :: hs, env, h => by
    show (match G.sub c x with | some true => noexcS (execSs G ss env h) | some false => execHs G c vs hs env h | none => .stuck) = hdsGo G.sub c vs ((x, execSs G ss) :: _) env h
    unfold hdsGo
    cases G.sub c x with
    | none => rfl
    | some b =>
      cases b with
      | true => rfl
      | false => exact execHs_eq G c vs hs env h
theorem sHs (C : CxS P k c W X) : ∀ (hs : List (Str × List S)) (ih : ∀ x ss, (x, ss) ∈ hs → ∀ b ∈ ss, SSt P k b) (hds : List ExceptHandler), chkHs P c hs hds = true → ∃ as : List Addr, as.length = hs.length ∧ HdsOk X hds (clauses X.K X.mg (as.zip ((hs.map fun q => (q.1, execSs (globOf P k) q.2)).map (·.2)))) ∧
    ∀ (i : Nat) x g a, (hs.map fun q => (q.1, execSs (globOf P k) q.2))[i]? = some (x, g) → as[i]? = some a → X.mg x = some (.ref a)
  | [], _, [], _ => ⟨[], rfl, .nil, fun i x g a e => by simp at e⟩
  | [], _, _ :: _, h => by cases h
  | _ :: _, _, [], h => by cases h
  | (x, ss) :: hs, ih, hd :: hds, h => by
    cases hd with
    | ExceptHandler ty nm body pos =>
      cases ty with
      | none => cases h
      | some ty =>
        cases ty with
        | Name y py =>
          cases nm with
          | some _ => cases h
          | none =>
            cases body with
            | nil => cases h
            | cons b bs =>
              have h' : (x == y && c.glo x && okN x && P.hdl.contains x && chkSs P ⟨c.N, c.sc, true, false⟩ ss (b :: bs) && chkHs P c hs hds) = true := h
              simp only [Bool.and_eq_true] at h'
              obtain ⟨⟨⟨⟨⟨h1, h2⟩, h3⟩, h4⟩, h5⟩, h6⟩ := h'
              have e1 : x = y := beq_iff_eq.mp h1
              subst e1
              obtain ⟨as, l1, l2, l3⟩ := sHs C hs (fun x' ss' hm => ih x' ss' (List.mem_cons_of_mem _ hm)) hds h6
              obtain ⟨D, hD⟩ := C.mg.hdl x h4
              refine ⟨D :: as, by simp [l1], .cons ⟨C.toCxE.glo h2, (okN_1 h3).1, .inl hD⟩ (fun a oe cls d pn _ _ => ?_) l2, fun i z g a e1 e2 => ?_⟩
              · exact sSsL ss (ih x ss (by simp)) (b :: bs) _ WF _ (C.suite (a := a) (pn := (a, oe) :: pn)) h5
              · cases i with
                | zero =>
                  have q1 : (x, execSs (globOf P k) ss) = (z, g) := by simpa using e1
                  have q2 : D = a := by simpa using e2
                  cases q1
                  rw [← q2]
                  exact hD
                | succ i => exact l3 i z g a (by simpa using e1) (by simpa using e2)
        | _ => cases h
end
end MP

set_option Elab.async false
set_option linter.all false
set_option maxRecDepth 100000
set_option maxHeartbeats 4000000
/-! MPk: statements that the checker lets are read by the pure interpreter. -/
namespace MP
open PySem PySem.Spec PyProof.Rows L2
section
variable {P : Prog} {k : Nat} {c : SC} {W : WX} {X : Cx}

/-- what is walked -/
theorem sSrc (C : CxE P k c W X) {tg it : Expr} {kk : IK} {src : List E} (h5 : plainE it = true) (h6 : chkSrc P c tg (fun l => chkEs P c src l) src.length kk it = true) : PI X tg it (TIf X.K X.mg W kk (evalEs (globOf P k) src)) := by
  cases kk with
  | val =>
    have h6 : (chkEs P c src [it] && (src.length == 1)) = true := h6
    rw [Bool.and_eq_true] at h6
    match src, h6.1, h6.2 with
    | [a], h6, _ =>
      have h6' : (plainE it && chkE P c a it && chkEs P c [] []) = true := h6
      simp only [Bool.and_eq_true] at h6'
      exact ri_val (sE a it c W X C h6'.1.2)
  | zip =>
    have h6 : (match vCall it with | some (x, _, args, _) => x == "zip" && c.blt P x && args.length == 2 && isTup' tg && chkEs P c src args | none => false) = true := h6
    cases q2 : vCall it with
    | none => rw [q2] at h6; cases h6
    | some v =>
      obtain ⟨x, p, args, pos2⟩ := v
      have e2 := vCall_eq q2
      rw [q2] at h6
      simp only [Bool.and_eq_true] at h6
      obtain ⟨⟨⟨⟨g1, g2⟩, g3⟩, g3b⟩, g4⟩ := h6
      have e3 : x = "zip" := beq_iff_eq.mp g1
      subst e3
      have e2 : it = .Call (.Name "zip" p) args [] pos2 := e2
      obtain ⟨te, tk, tp, et⟩ := isTup_eq g3b
      subst e2 et
      obtain ⟨gg, gm⟩ := C.blt g2
      have ra := sEs src args c W X C g4
      obtain ⟨pl, hlen⟩ := chkEs_plain g4
      match args, g3, ra, pl, hlen with
      | [a, b], _, ra, pl, hlen =>
        simp only [List.all_cons, List.all_nil, Bool.and_eq_true] at pl
        exact ri_zip gg gm ra (star_plain pl.1 _ _) (back_plain (by rw [List.all_cons, pl.2.1]; rfl)) fun env h vs h' e => by rw [evalEs_len _ _ _ _ _ _ e, hlen]; rfl
      | [], g3, _, _, _ => cases g3
      | [_], g3, _, _, _ => cases g3
      | _ :: _ :: _ :: _, g3, _, _, _ => simp at g3
  | enum =>
    have h6 : (match vCall it with | some (x, _, args, _) => x == "enumerate" && c.blt P x && args.length == 1 && isTup' tg && chkEs P c src args | none => false) = true := h6
    cases q2 : vCall it with
    | none => rw [q2] at h6; cases h6
    | some v =>
      obtain ⟨x, p, args, pos2⟩ := v
      have e2 := vCall_eq q2
      rw [q2] at h6
      simp only [Bool.and_eq_true] at h6
      obtain ⟨⟨⟨⟨g1, g2⟩, g3⟩, g3b⟩, g4⟩ := h6
      have e3 : x = "enumerate" := beq_iff_eq.mp g1
      subst e3
      have e2 : it = .Call (.Name "enumerate" p) args [] pos2 := e2
      obtain ⟨te, tk, tp, et⟩ := isTup_eq g3b
      subst e2 et
      obtain ⟨gg, gm⟩ := C.blt g2
      have ra := sEs src args c W X C g4
      obtain ⟨pl, hlen⟩ := chkEs_plain g4
      match args, g3, ra, pl, hlen with
      | [a], _, ra, pl, hlen =>
        have pl1 : plainE a = true := by simpa using pl
        exact ri_enum gg gm ra (star_plain pl1 _ _) fun env h vs h' e => by rw [evalEs_len _ _ _ _ _ _ e, hlen]; rfl
      | [], g3, _, _, _ => cases g3
      | _ :: _ :: _, g3, _, _, _ => simp at g3
  | range =>
    have h6 : (match vCall it with | some (x, _, args, _) => x == "range" && c.blt P x && (args.length == 1 || args.length == 2) && chkEs P c src args | none => false) = true := h6
    cases q2 : vCall it with
    | none => rw [q2] at h6; cases h6
    | some v =>
      obtain ⟨x, p, args, pos2⟩ := v
      have e2 := vCall_eq q2
      rw [q2] at h6
      simp only [Bool.and_eq_true] at h6
      obtain ⟨⟨⟨g1, g2⟩, g3⟩, g4⟩ := h6
      have e3 : x = "range" := beq_iff_eq.mp g1
      subst e3
      have e2 : it = .Call (.Name "range" p) args [] pos2 := e2
      subst e2
      obtain ⟨gg, gm⟩ := C.blt g2
      have ra := sEs src args c W X C g4
      obtain ⟨pl, hlen⟩ := chkEs_plain g4
      match args, g3, ra, pl, hlen with
      | [a], _, ra, pl, hlen =>
        have pl1 : plainE a = true := by simpa using pl
        exact ri_range1 gg gm ra (star_plain pl1 _ _) fun env h vs h' e => by rw [evalEs_len _ _ _ _ _ _ e, hlen]; rfl
      | [a, b], _, ra, pl, hlen =>
        simp only [List.all_cons, List.all_nil, Bool.and_eq_true] at pl
        exact ri_range2 gg gm ra (by rw [star_plain pl.1, star_plain pl.2.1]; rfl) (star_plain pl.2.1 _ _) fun env h vs h' e => by rw [evalEs_len _ _ _ _ _ _ e, hlen]; rfl
      | [], g3, _, _, _ => cases g3
      | _ :: _ :: _ :: _, g3, _, _, _ => simp at g3
/-- name = [..] -/
theorem sLcSet (C : CxS P k c W X) {i : Nat} {x : Str} {p pos : Pos} {v : Expr} {elt : E} {tg : Tg} {kk : IK} {src ifs : List E} {own : List Nat} (hi : (c.N[i]? == some x) = true) (h : chkE P c (.lc elt tg kk src ifs own) v = true) (hl : lcTrue c.sc x p v = true) :
    RS X W (.Assign [.Name x p] v pos) (execS (globOf P k) (.asg i (.lc elt tg kk src ifs own))) := by
  cases q : vLc v with
  | none =>
    have h0 : (match vLc v with | some (e', tg', it', ifs', scope, _) => _ | none => false) = true := h
    rw [q] at h0
    cases h0
  | some w =>
    obtain ⟨e', tg', it', ifs', scope, pos1⟩ := w
    have e1 := vLc_eq q
    have h0 : (match vLc v with | some (e', tg', it', ifs', scope, _) => !c.hot && blkC c.N c.sc scope (c.ownP own) && ((c.ownP own).map (·.2) == own) && (tg.slots.all fun i => own.contains i) && plainE it' && chkSrc P c tg' (fun l => chkEs P c src l) src.length kk it' && chkT ⟨c.N, scope, false, false⟩ tg tg' && decide (ifs'.length ≤ 1) && chkEs P ⟨c.N, scope, false, false⟩ ifs ifs' && chkE P ⟨c.N, scope, false, false⟩ elt e' | none => false) = true := h
    rw [q] at h0
    simp only [Bool.and_eq_true] at h0
    obtain ⟨⟨⟨⟨⟨⟨⟨⟨⟨h1, h2⟩, h3⟩, h4⟩, h5⟩, h6⟩, h7⟩, h8⟩, h9⟩, h10⟩ := h0
    subst e1
    have hl : (c.sc.names.lookup x == some .local && (p.line == pos1.line) && !(scope.names.any fun (n, k) => n == x && (k == .local || k == .cell))) = true := hl
    simp only [Bool.and_eq_true] at hl
    obtain ⟨⟨l1, l2⟩, l3⟩ := hl
    have hot : c.hot = false := by simpa using h1
    have eo : (c.ownP own).map (·.2) = own := beq_iff_eq.mp h3
    have hown : ∀ i ∈ tg.slots, i ∈ own := fun i hi => by
      have := List.all_eq_true.mp h4 i hi
      simpa using this
    have B := fun s H A cl fp => C.toCxE.blk hot (scope := scope) s H A cl fp
    have src' : PI X tg' it' (TIf X.K X.mg W kk (evalEs (globOf P k) src)) := sSrc C.toCxE h5 h6
    have ifs0 : ∀ (s : Shared) (H : Hp) (A : Addr) (cl : List (Str × Addr)) (fp : List Addr), PTs (X.blk s H scope (compEnvC scope cl A X.env) fp) ifs' (TTf X.K X.mg WF (evalIfs (globOf P k) ifs)) := fun s H A cl fp => by
      match ifs, ifs', h8, h9 with
      | [], [], _, _ => exact pts_imp pts_nil fun σ H Q ⟨env, ρ, h, R, er, p⟩ => Post.pure R p
      | [], _ :: _, _, h9 => cases h9
      | _ :: _, [], _, h9 => cases h9
      | [a], [e0], _, h9 =>
        have h9' : (plainE e0 && chkE P ⟨c.N, scope, false, false⟩ a e0 && chkEs P ⟨c.N, scope, false, false⟩ [] []) = true := h9
        simp only [Bool.and_eq_true] at h9'
        exact pts_imp (pts_one (sT a e0 _ _ _ (B s H A cl fp) h9'.1.2)) fun σ H Q ⟨env, ρ, h, R, er, p⟩ => TTf.seq R er p fun ρ1 H1 h1 t nx1 R1 er1 p1 => by
          cases t with
          | true => exact Post.pure R1 p1
          | false => exact Post.pure R1 p1
      | _ :: _ :: _, [_], _, h9 =>
        have h9' : (_ && chkEs P ⟨c.N, scope, false, false⟩ (_ :: _) []) = true := h9
        rw [Bool.and_eq_true] at h9'
        cases h9'.2
      | _, _ :: _ :: _, h8, _ => simp at h8
    have ok := C.toCxE.blkOk h2
    have hyl : X.env.scope.names.lookup x = some .local := by rw [C.se]; exact beq_iff_eq.mp l1
    have sw : swapsWith (.ListComp e' [⟨tg', it', ifs', 0⟩] scope pos1) (some (.Name x p)) pos.line X.env = pure true :=
      sw_true (by rw [C.se]; exact C.kind) hyl l2 (by simpa using l3)
    have lc := ps_setLc (wi := TIf X.K X.mg W kk (evalEs (globOf P k) src)) (g := TGf X.K X.mg tg) (tt := TTf X.K X.mg WF (evalIfs (globOf P k) ifs)) (te := TEf X.K X.mg WF (evalE (globOf P k) elt)) (own := c.ownP own) (C.calm hot) C.toCxE.ndX (C.toCxE.ix hi) hyl sw src' ok (fun s H A cl fp => sTg rfl (B s H A cl fp) tg tg' h7) ifs0 (fun s H A cl fp => sE elt e' _ _ _ (B s H A cl fp) h10) (folded_plain h5 _)
    rw [eo] at lc
    exact ps_imp lc fun D σ H ⟨env, ρ, h, R, er, p⟩ => lc_sound hown (TEf.of (f := fun env => evalE (globOf P k) (.lc elt tg kk src ifs own) env) R er p fun ρ1 H1 h1 v x nx1 R1 er1 rx p1 => p1 ρ1 H1 _ .refl R1 (er1.set rx _))
theorem sS_step : ∀ (s : S) (ih : ∀ b, sizeOf b < sizeOf s → SSt P k b) (t : Stmt) (c : SC) (W : WX) (X : Cx), CxS P k c W X → chkS P c s t = true → RS X W t (execS (globOf P k) s)
  | .expr e, ih, t, c, W, X, C, h => by
    cases t with
    | Expr v pos =>
      have h' : (notComp v && chkE P c e v) = true := h
      rw [Bool.and_eq_true] at h'
      exact rs_expr (sE e v c W X C.toCxE h'.2) (swaps_plain h'.1 _ _ _)
    | _ => cases h
  | .ret e, ih, t, c, W, X, C, h => by
    cases t with
    | Return v pos =>
      cases v with
      | none => cases h
      | some v => exact rs_ret (sE e v c W X C.toCxE h)
    | _ => cases h
  | .retN, ih, t, c, W, X, C, h => by
    cases t with
    | Return v pos =>
      cases v with
      | none => exact rs_retN
      | some v => cases h
    | _ => cases h
  | .pass, ih, t, c, W, X, C, h => by
    cases t <;> first | exact rs_pass | cases h
  | .brk, ih, t, c, W, X, C, h => by
    cases t <;> first | exact rs_brk | cases h
  | .cont, ih, t, c, W, X, C, h => by
    cases t <;> first | exact rs_cont | cases h
  | .asg i e, ih, t, c, W, X, C, h => by
    cases t with
    | Assign ts v pos =>
      match ts, h with
      | [.Name x p], h =>
        have h' : (c.N[i]? == some x && c.loc x && chkE P c e v && (notComp v || lcTrue c.sc x p v || lcFalse c.sc x v)) = true := h
        simp only [Bool.and_eq_true, Bool.or_eq_true] at h'
        obtain ⟨⟨⟨h1, h2⟩, h3⟩, h4⟩ := h'
        obtain ⟨l1, l2⟩ := C.toCxE.loc h2
        have he := sE (k := k) e v c W X C.toCxE h3
        rcases h4 with (h4 | h4) | h4
        · exact rs_asg C.toCxE.ndX (C.toCxE.ix h1) l1 he (swaps_plain h4 _ _ _) l2
        · cases e with
          | lc elt tg kk src ifs own => exact sLcSet C h1 h3 h4
          | _ => cases v <;> first | cases h4 | cases h3
        · exact rs_asg C.toCxE.ndX (C.toCxE.ix h1) l1 he (lcFalse_ok C.se h4) l2
    | _ => cases h
  | .asgT ts e, ih, t, c, W, X, C, h => by
    cases t with
    | Assign tl v pos =>
      match tl, h with
      | [.Tuple es kt p], h =>
        have h' : (!c.hot && chkTs c ts es && chkE P c e v && notComp v && swNone c.sc es v) = true := h
        simp only [Bool.and_eq_true] at h'
        obtain ⟨⟨⟨⟨h1, h2⟩, h3⟩, h4⟩, h5⟩ := h'
        have hot : c.hot = false := by simpa using h1
        refine rs_asgT (sE e v c W X C.toCxE h3) (sTg hot C.toCxE (.tp ts) (.Tuple es kt p) h2) ?_ (swNone_ok C.se h5) rfl
        have := swaps_plain h4 (some (.Tuple es kt p)) pos.line X.env
        exact this
    | _ => cases h
  | .par i j a b, ih, t, c, W, X, C, h => by
    cases t with
    | Assign tl v pos =>
      match tl, v, h with
      | [.Tuple [.Name x px, .Name y py] kt pt], .Tuple [a', b'] k2 pt2, h =>
        have h' : (!c.hot && c.N[i]? == some x && c.N[j]? == some y && swTwo c.sc x y px py a' b' && chkE P c a a' && chkE P c b b') = true := h
        simp only [Bool.and_eq_true] at h'
        obtain ⟨⟨⟨⟨⟨h1, h2⟩, h3⟩, h4⟩, h5⟩, h6⟩ := h'
        have hot : c.hot = false := by simpa using h1
        have h4' := h4
        unfold swTwo at h4'
        simp only [Bool.and_eq_true, Bool.not_eq_true', beq_iff_eq, bne_iff_ne, ne_eq] at h4'
        obtain ⟨⟨⟨⟨⟨⟨⟨k1, k2'⟩, k3⟩, k4⟩, k5⟩, k6⟩, k7⟩, k8⟩ := h4'
        have hij : i ≠ j := fun e => by
          subst e
          have q1 := beq_iff_eq.mp h2
          have q2 := beq_iff_eq.mp h3
          rw [q1] at q2
          exact k4 (Option.some.inj q2)
        exact rs_par (fs := fun _ => pure []) (C.calm hot) C.toCxE.ndX (C.toCxE.ix h2) (C.toCxE.ix h3) hij (by rw [C.se]; exact k1) (by rw [C.se]; exact k2') (sE a a' c W X C.toCxE h5) (sE b b' c W X C.toCxE h6) (star_plain k5 _ _) (star_plain k6 _ _) (swTwo_ok C.se C.kind h4) rfl
    | _ => cases h
  | .setIx o i e, ih, t, c, W, X, C, h => by
    cases t with
    | Assign tl v pos =>
      match tl, h with
      | [.Subscript o' i' p], h =>
        have h' : (plainE i' && notComp v && chkE P c o o' && chkE P c i i' && chkE P c e v) = true := h
        simp only [Bool.and_eq_true] at h'
        obtain ⟨⟨⟨⟨h1, h2⟩, h3⟩, h4⟩, h5⟩ := h'
        refine rs_setIx (sE e v c W X C.toCxE h5) (sE o o' c W X C.toCxE h3) (sE i i' c W X C.toCxE h4) (fun v => ?_) ?_
        · cases i' <;> first | rfl | cases h1
        · have := swaps_plain h2 (some (.Subscript o' i' p)) pos.line X.env
          exact this
    | _ => cases h
  | .dput o i e, ih, t, c, W, X, C, h => by
    cases t with
    | Assign tl v pos =>
      match tl, h with
      | [.Subscript o' i' p], h =>
        have h' : (plainE i' && notComp v && chkE P c o o' && chkE P c i i' && chkE P c e v) = true := h
        simp only [Bool.and_eq_true] at h'
        obtain ⟨⟨⟨⟨h1, h2⟩, h3⟩, h4⟩, h5⟩ := h'
        exact rs_dput C.toCxE.units (sE e v c W X C.toCxE h5) (sE o o' c W X C.toCxE h3) (sE i i' c W X C.toCxE h4) (swaps_plain h2 _ _ _)
    | _ => cases h
  | .aug i o e, ih, t, c, W, X, C, h => by
    cases t with
    | AugAssign tg o' v pos =>
      cases tg with
      | Name x p =>
        have h' : (c.N[i]? == some x && c.loc x && o' == bo o && chkE P c e v) = true := h
        simp only [Bool.and_eq_true] at h'
        obtain ⟨⟨⟨h1, h2⟩, h3⟩, h4⟩ := h'
        have e1 : o' = bo o := beq_iff_eq.mp h3
        subst e1
        obtain ⟨l1, l2⟩ := C.toCxE.loc h2
        exact rs_aug C.toCxE.ndX (C.toCxE.ix h1) l1 (sE e v c W X C.toCxE h4) l2
      | _ => cases h
    | _ => cases h
  | .ifS a x y, ih, t, c, W, X, C, h => by
    cases t with
    | If t' a' b' pos =>
      have h' : (chkE P c a t' && chkSs P c x a' && chkSs P c y b') = true := h
      simp only [Bool.and_eq_true] at h'
      exact rs_if (sT a t' c W X C.toCxE h'.1.1) (sSsL x (fun b hb => ih b (by have := List.sizeOf_lt_of_mem hb; simp <;> omega)) a' c W X C h'.1.2) (sSsL y (fun b hb => ih b (by have := List.sizeOf_lt_of_mem hb; simp <;> omega)) b' c W X C h'.2)
    | _ => cases h
  | .whl a x, ih, t, c, W, X, C, h => by
    cases t with
    | While t' b' orelse pos =>
      cases orelse with
      | nil =>
        have h' : (chkE P c a t' && chkSs P c x b') = true := h
        simp only [Bool.and_eq_true] at h'
        exact rs_whl C.pas (sT a t' c W X C.toCxE h'.1) (sSsL x (fun b hb => ih b (by have := List.sizeOf_lt_of_mem hb; simp <;> omega)) b' c W X C h'.2)
      | cons _ _ => cases h
    | _ => cases h
  | .for_ tg kk src x, ih, t, c, W, X, C, h => by
    cases t with
    | For tg' it' b' orelse pos =>
      match orelse, h with
      | [], h =>
        have h' : (!c.hot && plainE it' && chkSrc P c tg' (fun l => chkEs P c src l) src.length kk it' && chkT c tg tg' && chkSs P c x b') = true := h
        simp only [Bool.and_eq_true] at h'
        obtain ⟨⟨⟨⟨h1, h2⟩, h3⟩, h4⟩, h5⟩ := h'
        have hot : c.hot = false := by simpa using h1
        exact rs_for C.pas (C.calm hot) (sSrc C.toCxE h2 h3) (sTg hot C.toCxE tg tg' h4) (sSsL x (fun b hb => ih b (by have := List.sizeOf_lt_of_mem hb; simp <;> omega)) b' c W X C h5) (folded_plain h2 _)
    | _ => cases h
  | .raise x, ih, t, c, W, X, C, h => by
    cases t with
    | Raise e cause pos =>
      match e, cause, h with
      | some e, none, h =>
        have h' : (!c.hot && c.glo x && okN x && P.exc.contains x && (match vCall e with | some (y, _, [], _) => x == y | _ => false)) = true := h
        simp only [Bool.and_eq_true] at h'
        obtain ⟨⟨⟨⟨h1, h2⟩, h3⟩, h4⟩, h5⟩ := h'
        have hot : c.hot = false := by simpa using h1
        cases q : vCall e with
        | none => rw [q] at h5; cases h5
        | some v =>
          obtain ⟨y, p, args, p2⟩ := v
          rw [q] at h5
          cases args with
          | cons _ _ => cases h5
          | nil =>
            have e1 : x = y := beq_iff_eq.mp h5
            subst e1
            have e2 : e = .Call (.Name x p) [] [] p2 := vCall_eq q
            subst e2
            obtain ⟨D, ok⟩ := C.mg.exc x h4
            exact rs_raise (C.calm hot) C.tk ok (C.toCxE.glo h2) (okN_1 h3).1
    | _ => cases h
  | .tryS b hs, ih, t, c, W, X, C, h => by
    cases t with
    | Try b' hds o f pos =>
      match hds, o, f, h with
      | hds, [], [], h =>
        have h' : (!c.hot && !hds.isEmpty && chkSs P c b b' && chkHs P c hs hds) = true := h
        simp only [Bool.and_eq_true] at h'
        obtain ⟨⟨⟨h1, h2⟩, h3⟩, h4⟩ := h'
        have hot : c.hot = false := by simpa using h1
        obtain ⟨as, l1, l2, l3⟩ := sHs C hs (fun x ss hm y hy => ih y (by
          have z1 := List.sizeOf_lt_of_mem hy
          have z2 := List.sizeOf_lt_of_mem hm
          simp at z2 ⊢
          omega)) hds h4
        cases hds with
        | nil => simp at h2
        | cons h0 hds =>
          have := rs_try (pos := pos) (sub := (globOf P k).sub) (l := hs.map fun q => (q.1, execSs (globOf P k) q.2)) (as := as) (body := b') (g := execSs (globOf P k) b) C.stk C.frm C.tk
            (fun W' pn xe tk hp => sSsL b (fun s hs => ih s (by have := List.sizeOf_lt_of_mem hs; simp <;> omega)) b' c W' (X.tr pn xe) (C.tr tk hp) h3) l2 (by simp [l1])
            (fun cn D hD i x g a bb e1 e2 e3 => C.mg.sub cn x bb e3 D a hD (l3 i x g a e1 e2))
          refine ps_imp this fun D σ H ⟨env, ρ, h, R, er, p⟩ => ⟨env, ρ, h, R, er, ?_⟩
          have e : execS (globOf P k) (.tryS b hs) env h = (match execSs (globOf P k) b env h with
            | .exc cn vs env' h' => execHs (globOf P k) cn vs hs env' h'
            | r => r) := by rw [execS]; try (cases execSs (globOf P k) b env h <;> rfl)
          have e2 : (match execSs (globOf P k) b env h with
            | .exc cn vs env' h' => hdsGo (globOf P k).sub cn vs (hs.map fun q => (q.1, execSs (globOf P k) q.2)) env' h'
            | r => r) = (match execSs (globOf P k) b env h with
            | .exc cn vs env' h' => execHs (globOf P k) cn vs hs env' h'
            | r => r) := by
            cases execSs (globOf P k) b env h with
            | exc cn vs env' h' => exact (execHs_eq _ _ _ _ _ _).symm
            | _ => rfl
          rw [e, ← e2] at p
          exact p
    | _ => cases h
theorem sSt : ∀ (n : Nat) (s : S), sizeOf s < n → SSt P k s := by
  intro n
  induction n with
  | zero => intro a h; exact absurd h (Nat.not_lt_zero _)
  | succ n ih =>
    intro a h
    exact sS_step a fun b hb => ih b (by omega)
theorem sSs (ss : List S) (ts : List Stmt) (c : SC) (W : WX) (X : Cx) (C : CxS P k c W X) (h : chkSs P c ss ts = true) : RSs X W ts (execSs (globOf P k) ss) := sSsL ss (fun b _ => sSt (sizeOf b + 1) b (Nat.lt_succ_self _)) ts c W X C h
end
end MP

set_option Elab.async false
set_option linter.all false
set_option maxRecDepth 100000
set_option maxHeartbeats 4000000
/-! MPl: the defs of a program keep the pure interpreter's word. -/
namespace MP
open PySem PySem.Spec PyProof.Rows L2
/-- a def of the text, checked -/
def FunOk (P : Prog) (K : PySem.W.Frag) (mg : Str → Option Value) (x : Str) (fd : FD) : Prop :=
  ∃ (st : Stmt) (qual : Str) (f : Addr) (fdat : FuncData) (N : List Str), mg x = some (.ref f) ∧ Fun K x qual st f fdat ∧ (∀ us : List Value, us.length = fd.ps.length → bindArgs fdat ⟨us, []⟩ = pure (fd.ps.zip us)) ∧ FnScope N fd.ps (defScope st) ∧ N.length = fd.ns ∧ chkSs P ⟨N, defScope st, false, P.lam.contains x⟩ fd.body (defBody st) = true
structure Stat (P : Prog) (K : PySem.W.Frag) (mg : Str → Option Value) : Prop where
  const : ∀ x v, P.cT x = some v → KV' K mg x v
  blt : ∀ x, P.bl.contains x = true → mg x = none
  gcd : P.gcd = true → mg "gcd" = some (.builtin "math.gcd")
  exc : ∀ x, P.exc.contains x = true → ∃ C, ExcOk K mg x C
  hdl : ∀ x, P.hdl.contains x = true → ∃ C, mg x = some (.ref C)
  sub : ∀ c x b, P.sub c x = some b → ∀ C D, mg c = some (.ref C) → mg x = some (.ref D) → PySem.W.exmOne K (.ref C) (.ref D) = some b
  lam : ∀ x, P.lam.contains x = true → ∃ cc Pt, LamAt K mg x cc Pt
  tabU : ∀ Pt q q', TabK K mg Pt q → TabK K mg Pt q' → q = q'
  rf : ∀ r, P.rf.contains r = true → RfOk K mg r
  kit : ∀ c x b, P.kit c x = some b → ∀ C, mg c = some (.ref C) → ExcC K C ∧ ∃ v u, ClsN mg x v u ∧ PySem.W.kitOne K (.ref C) u = some b
  fn : ∀ x fd, P.fT x = some fd → FunOk P K mg x fd
theorem er_start {K : PySem.W.Frag} {mg : Str → Option Value} {ρ : Nat → Addr} {n m : Nat} {H : Hp} {xs : List V} {vs : List PV} (r : RPs K mg ρ n H xs vs) : ER K mg ρ n H (xs.map some ++ List.replicate m none) (vs.map some ++ List.replicate m none) := by
  refine ⟨by simp [r.length], fun i v q => ?_⟩
  rw [List.getElem?_append] at q
  split at q
  · rename_i hl
    rw [List.getElem?_map] at q
    cases e : vs[i]? with
    | none => rw [e] at q; cases q
    | some w =>
      rw [e] at q
      cases q
      obtain ⟨x, h1, h2⟩ := r.get e
      refine ⟨x, ?_, h2⟩
      rw [List.getElem?_append_left (by rw [List.length_map, r.length]; rw [List.length_map] at hl; exact hl), List.getElem?_map, h1]
      rfl
  · rw [List.getElem?_replicate] at q
    split at q <;> cases q
theorem fn_zero {P : Prog} {prog : Program} {w : World} {K : PySem.W.Frag} {mg : Str → Option Value} {base : Heap} {x : Str} {fd : FD} {f : Addr} {fdat : FuncData} : FnG P.rep prog w K mg base (L2.CX prog w) 0 f fdat fd.ps (spP K mg (callF P 0 x) fd.ps.length) :=
  ⟨fun vs H Q E h => h.1, fun A outer s H args us vs Q E hr _ e0 hb r hs => by
    obtain ⟨_, ws, ρ, h, R, rs, p⟩ := hs
    exact p.elim⟩
theorem fn_succ {P : Prog} {prog : Program} {w : World} {K : PySem.W.Frag} {mg : Str → Option Value} {base : Heap} {x : Str} {fd : FD} {k : Nat} {st : Stmt} {qual : Str} {f : Addr} {fdat : FuncData} {N : List Str} (ih : MG P k prog w K mg base) (hx : P.fT x = some fd) (h1 : mg x = some (.ref f)) (h2 : Fun K x qual st f fdat) (h4 : FnScope N fd.ps (defScope st)) (h6 : N.length = fd.ns)
    (h7 : chkSs P ⟨N, defScope st, false, P.lam.contains x⟩ fd.body (defBody st) = true) : FnG P.rep prog w K mg base (L2.CX prog w) (k + 1) f fdat fd.ps (spP K mg (callF P (k + 1) x) fd.ps.length) := by
  obtain ⟨oc, od, kV, doc, pm, an, cdv, ct, osl, rfl, lk, hcd⟩ := h2.ex
  refine fn_ofG lk hcd h4 (fun vs H Q E h => h.1) fun A outer s H vs Q E hr hgu hs => ?_
  obtain ⟨hl, ws, ρ, h, R, rs, p⟩ := hs
  let X : Cx := cxOf (L2.CX prog w) prog w K mg base N qual (defScope st) f cdv A outer s H E
  have C : CxS P k ⟨N, defScope st, false, P.lam.contains x⟩ (fun cls d _ H => E cls d H) X := {
    mg := ih
    nm := rfl
    nd := h4.nd
    sc := fun x k h => .inl h
    fn := fun _ _ => rfl
    units := by have := hr.un; show (A.deeper (envOfC qual (defScope st) s.heap.objs.size f cdv)).units + 64 < cLine; omega
    calm := fun _ => rfl
    room := fun _ => hr
    gu := fun _ => hgu
    tk := takes_of rfl rfl rfl rfl
    lam := fun hl => by
      obtain ⟨cc, Pt, ⟨hx', f', fd', oc', od', osl', e1, e2, e3, e4⟩, TB⟩ := ih.lam x hl
      rw [h1] at e1
      cases e1
      have e5 := lk.symm.trans e2
      cases e5
      exact ⟨cc, Pt, e3, ⟨x, hx', f, cc, _, _, _, _, h1, lk, e3, rfl, e4⟩, TB⟩
    se := rfl
    kind := h4.kind
    pas := passes_of rfl
    stk := rfl
    frm := rfl }
  refine ⟨_, sSs fd.body (defBody st) _ _ X C h7, ws.map some ++ List.replicate (fd.ns - fd.np) none, ρ, h, R, ?_, ?_⟩
  · unfold L2.start
    rw [hl, h6]
    exact er_start rs
  · have p' : Post K mg ρ H h.length (runF (globOf P k) fd ws h) (QV K mg Q) (fun c ws H' => ∀ cls d, XR mg c ws cls d → E cls d H') := by
      have e : callF P (k + 1) x ws h = runF (globOf P k) fd ws h := by unfold callF; rw [hx]; rfl
      rw [← e]
      exact p
    unfold runF at p'
    rw [if_pos (by rw [← rs.length, hl])] at p'
    revert p'
    cases execSs (globOf P k) fd.body (ws.map some ++ List.replicate (fd.ns - fd.np) none) h with
    | nx e h' => exact fun p ρ1 H1 σ1 nx R1 er1 => p ρ1 H1 nx R1 _ .non
    | rt v h' => exact fun p ρ1 H1 v1 nx R1 er1 => p ρ1 H1 nx R1 _ er1
    | exc c vs e h' => exact fun p ρ1 H1 σ1 nx R1 er1 => p ρ1 H1 nx R1
    | bk e h' => exact fun p => p.elim
    | ct e h' => exact fun p => p.elim
    | stuck => exact fun p => p.elim
theorem MG_all {P : Prog} {prog : Program} {w : World} {K : PySem.W.Frag} {mg : Str → Option Value} {base : Heap} (S : Stat P K mg) (B : ∀ x cc Pt, P.lam.contains x = true → LamAt K mg x cc Pt → LamX.TabB base mg cc Pt) (kin : K.In base) (sys : P.rep = true → ∃ o, base.get? sysModules = some o) : ∀ k, MG P k prog w K mg base := by
  have L : ∀ x, P.lam.contains x = true → ∃ cc Pt, LamAt K mg x cc Pt ∧ LamX.TabB base mg cc Pt := fun x hx => by
    obtain ⟨cc, Pt, e⟩ := S.lam x hx
    exact ⟨cc, Pt, e, B x cc Pt hx e⟩
  suffices key : ∀ k, MG P k prog w K mg base ∧ ∀ j, k = j + 1 → MG P j prog w K mg base from fun k => (key k).1
  intro k
  induction k with
  | zero =>
    refine ⟨⟨S.const, S.blt, S.gcd, S.exc, S.hdl, S.sub, L, S.tabU, S.rf, S.kit, fun j e => (by cases e), kin, sys, fun x fd hx => ?_⟩, fun j e => (by cases e)⟩
    obtain ⟨st, qual, f, fdat, N, h1, h2, h3, h4, h6, h7⟩ := S.fn x fd hx
    exact ⟨f, fdat, fd.ps, h1, h2.kp, .all h3, rfl, fn_zero⟩
  | succ k ih =>
    refine ⟨⟨S.const, S.blt, S.gcd, S.exc, S.hdl, S.sub, L, S.tabU, S.rf, S.kit, fun j e => (ih.2 j (by omega)).fn, kin, sys, fun x fd hx => ?_⟩, fun j e => by
      have : k = j := by omega
      subst this
      exact ih.1⟩
    obtain ⟨st, qual, f, fdat, N, h1, h2, h3, h4, h6, h7⟩ := S.fn x fd hx
    exact ⟨f, fdat, fd.ps, h1, h2.kp, .all h3, rfl, fn_succ ih.1 hx h1 h2 h4 h6 h7⟩
end MP

set_option Elab.async false
set_option linter.all false
set_option maxRecDepth 100000
set_option maxHeartbeats 4000000
/-! MPm: the end of a law, and the facts of its text. -/
namespace MP
open PySem PySem.Spec PyProof.Rows L2
theorem funOk_mk {P : Prog} {K : PySem.W.Frag} {h : Heap} {mg : Str → Option Value} {x : Str} {fd : FD} {st : Stmt} {N : List Str} (X : K.In h) (G : h.Ns mainGlobals mg) {f : Addr} {oc : Value} {od an : Option Addr} {osl : Array (Option Value)} {kV doc pm cdv ct : Value}
    (a : PySem.W.nsIn K mainGlobals x = some (some (.ref f))) (l : K.lookup f = some ⟨oc, od, .func (PySem.W.fnOf x x (defArgs st) (defBody st) (defScope st) .none kV doc pm an cdv ct), osl⟩) (c : PySem.W.codeIn K cdv x = true) (k : PySem.W.keepIn K (.ref f) = true)
    (b : ∀ (kV doc pm : Value) (an : Option Addr) (cdv ct : Value) (us : List Value), us.length = fd.ps.length → bindArgs (PySem.W.fnOf x x (defArgs st) (defBody st) (defScope st) .none kV doc pm an cdv ct) ⟨us, []⟩ = pure (fd.ps.zip us))
    (S : FnScope N fd.ps (defScope st)) (h2 : N.length = fd.ns) (h3 : chkSs P ⟨N, defScope st, false, P.lam.contains x⟩ fd.body (defBody st) = true) : FunOk P K mg x fd :=
  ⟨st, x, f, _, N, PySem.W.mg_of X G a, fun_mk l c k, b _ _ _ _ _ _, S, h2, h3⟩
/-- all defs of a table -/
def FunsOk (P : Prog) (K : PySem.W.Frag) (mg : Str → Option Value) : List (Str × FD) → Prop
  | [] => True
  | (x, fd) :: r => FunOk P K mg x fd ∧ FunsOk P K mg r
theorem FunsOk.get {P : Prog} {K : PySem.W.Frag} {mg : Str → Option Value} : ∀ {l : List (Str × FD)}, FunsOk P K mg l → ∀ x fd, l.lookup x = some fd → FunOk P K mg x fd
  | [], _, x, fd, e => by simp at e
  | (y, gd) :: r, h, x, fd, e => by
    rw [List.lookup_cons] at e
    split at e
    · rename_i hb
      have : x = y := beq_iff_eq.mp hb
      subst this
      cases e
      exact h.1
    · exact FunsOk.get h.2 x fd e
def ConsOk (K : PySem.W.Frag) (mg : Str → Option Value) : List (Str × PV) → Prop
  | [] => True
  | (x, v) :: r => KV' K mg x v ∧ ConsOk K mg r
theorem ConsOk.get {K : PySem.W.Frag} {mg : Str → Option Value} : ∀ {l : List (Str × PV)}, ConsOk K mg l → ∀ x v, l.lookup x = some v → KV' K mg x v
  | [], _, x, v, e => by simp at e
  | (y, w) :: r, h, x, v, e => by
    rw [List.lookup_cons] at e
    split at e
    · rename_i hb
      have : x = y := beq_iff_eq.mp hb
      subst this
      cases e
      exact h.1
    · exact ConsOk.get h.2 x v e
theorem kv_int {K : PySem.W.Frag} {h : Heap} {mg : Str → Option Value} {x : Str} {i : Int} {t : Tok} (X : K.In h) (G : h.Ns mainGlobals mg) (a : PySem.W.nsIn K mainGlobals x = some (some (.int i t))) : KV' K mg x (.int i) :=
  ⟨.int i t, .int i, PySem.W.mg_of X G a, ⟨t, rfl⟩, fun _ _ _ => .int _⟩
/-- a tuple of integers of the text -/
theorem kv_tupI {K : PySem.W.Frag} {h : Heap} {mg : Str → Option Value} {x : Str} {p : Addr} {is : List Int} {ts : List Tok} {od : Option Addr} {n : Nat} {sl : Array (Option Value)} (X : K.In h) (G : h.Ns mainGlobals mg) (hl : ts.length = is.length) (hz : is.length ≤ 1000)
    (a : PySem.W.nsIn K mainGlobals x = some (some (.ref p))) (l : K.lookup p = some ⟨.type "tuple", od, .seq ((is.zip ts).map fun q => Value.int q.1 q.2).toArray n, sl⟩) : KV' K mg x (.tup (is.map .int)) := by
  have v1 : ∀ (is : List Int) (ts : List Tok), ts.length = is.length → Vals (is.map V.int) ((is.zip ts).map fun q => Value.int q.1 q.2) := by
    intro is
    induction is with
    | nil => intro ts e; exact .nil
    | cons i is ih =>
      intro ts e
      cases ts with
      | nil => cases e
      | cons t ts => exact .cons ⟨t, rfl⟩ (ih ts (by simpa using e))
  have v2 : ∀ (is : List Int) (ρ : Nat → Addr) (n : Nat) (H : Hp), RPs K mg ρ n H (is.map V.int) (is.map PV.int) := by
    intro is
    induction is with
    | nil => intro ρ n H; exact .nil
    | cons i is ih => intro ρ n H; exact .cons (.int _) (ih ρ n H)
  refine ⟨.ref p, .ref p, PySem.W.mg_of X G a, rfl, fun ρ m H => .tup (.inr ⟨_, _, n, l, rfl, rfl, ?_, ?_⟩) (v2 is ρ m H)⟩
  · have : is.length ≤ sizeLine := Nat.le_trans hz (by rw [sizeLine_eq]; decide)
    simp [hl]
    omega
  · exact v1 is ts hl
theorem exc_mk {K : PySem.W.Frag} {h : Heap} {mg : Str → Option Value} {x : Str} {C : Addr} (X : K.In h) (G : h.Ns mainGlobals mg) (a : PySem.W.nsIn K mainGlobals x = some (some (.ref C))) (k : PySem.W.keepIn K (.ref C) = true) (e : PySem.W.excIn K C [.type "ValueError", .type "Exception", .type "BaseException", .type "object"] "ValueError.__new__" = true)
    (s : PySem.W.subIn K (.ref C) (.type "BaseException") = some true) (t : PySem.W.typeIn K (.ref C) = some (.type "type")) : ∃ C, ExcOk K mg x C := ⟨C, PySem.W.mg_of X G a, k, e, s, t⟩
/-- «except D» of an error of the class C -/
theorem exm_mk {K : PySem.W.Frag} {C D : Addr} {b : Bool} (h1' : PySem.W.subIn K (.ref D) (.type "BaseException") = some true) (h2 : PySem.W.isClsIn K D = true) (h3 : PySem.W.typeIn K (.ref D) = some (.type "type")) (h4 : PySem.W.subIn K (.ref C) (.ref D) = some b) :
    PySem.W.exmOne K (.ref C) (.ref D) = some b := by
  have e1 : (PySem.W.subIn K (.ref D) (.type "BaseException") == some true) = true := by rw [h1'] <;> rfl
  have e2 : ((PySem.W.clsIn K D).isSome && PySem.W.typeIn K (.ref D) == some (.type "type")) = true := by
    have h2' : (PySem.W.clsIn K D).isSome = true := h2
    rw [h2', h3] <;> rfl
  show (if (PySem.W.subIn K (.ref D) (.type "BaseException") == some true) = true then (if ((PySem.W.clsIn K D).isSome && PySem.W.typeIn K (.ref D) == some (.type "type")) = true then PySem.W.subIn K (.ref C) (.ref D) else none) else none) = some b
  rw [if_pos e1, if_pos e2]
  exact h4
/-- the script, as the pure interpreter has it -/
def Script (h : PH) (v : PV) (ns : List Int) : Prop := (h = [] ∧ v = .kls (ns.map .int)) ∨ (∃ k, h = [.lst k (ns.map .int)] ∧ v = .obj 0)
theorem Script.lst {h : PH} {v : PV} {ns : List Int} (s : Script h v ns) : lstP h v = some (ns.map .int) := by
  rcases s with ⟨rfl, rfl⟩ | ⟨k, rfl, rfl⟩ <;> rfl
theorem rps_ints {K : PySem.W.Frag} {mg : Str → Option Value} {ρ : Nat → Addr} {n : Nat} {H : Hp} : ∀ is : List Int, RPs K mg ρ n H (is.map V.int) (is.map PV.int)
  | [] => .nil
  | i :: is => .cons (.int _) (rps_ints is)
theorem start_script {K : PySem.W.Frag} {mg : Str → Option Value} {H : Hp} {a : Addr} {ns : List Int} (ht : ∀ P q, TabK K mg P q → LamX.TabS H P q) (hS : SqL K H a (ns.map V.int)) : ∃ v ρ h, Script h v ns ∧ HR K mg ρ H h ∧ RP K mg ρ h.length H (.ref a) v := by
  rcases hS with (hS | ⟨o, hS⟩) | hS
  · refine ⟨.obj 0, fun _ => a, [.lst .own (ns.map .int)], .inr ⟨_, rfl, rfl⟩, ⟨ht, fun i o e => ?_, fun i j o o' e e' hij => ?_⟩, .obj (ρ := fun _ => a) (by simp)⟩
    · cases i with
      | zero => cases e; exact ⟨_, hS, rps_ints ns⟩
      | succ i => simp at e
    · cases i <;> cases j <;> simp_all
  · refine ⟨.obj 0, fun _ => a, [.lst .frz (ns.map .int)], .inr ⟨_, rfl, rfl⟩, ⟨ht, fun i o e => ?_, fun i j o o' e e' hij => ?_⟩, .obj (ρ := fun _ => a) (by simp)⟩
    · cases i with
      | zero => cases e; exact ⟨_, _, hS, rps_ints ns⟩
      | succ i => simp at e
    · cases i <;> cases j <;> simp_all
  · exact ⟨.kls (ns.map .int), fun _ => 0, [], .inl ⟨rfl, rfl⟩, ⟨ht, fun i o e => by simp at e, fun i j o o' e => by simp at e⟩, .kls hS (rps_ints ns)⟩
def spLaw (K : PySem.W.Frag) (n : Nat) : Sp := fun xs H Q E => ∃ (a : Addr) (ns : List Int), xs = [V.ref a] ∧ ns.length ≤ n ∧ SqL K H a (ns.map V.int) ∧ ∀ H', Q (.bl true) H'
theorem cx_none {prog : Program} {w : World} {H : Hp} {s : Shared} {e : Value} {s' : Shared} (h : L2.CX prog w [] H s (fun _ _ _ => False) e s') : False := by
  obtain ⟨_, _, _, _, _, _, _, _, _, _, _, _, z⟩ := h
  exact z.elim
theorem law_walk {l : PySem.W.OpenLaw} {q : Program} {loose : List Str} {XP : (Str → Option Value) → Heap → Prop} {YP : World → Heap → Prop} {d : DefRec} {K : Params → PySem.W.Frag} {P : Prog} {k : Nat} {x : Str} {law : Str} {fd : FD} (hn : l.most = some 63) (hdf : d.params.defaults = []) (hr : Room k callerA)
    (hY : ∀ (w : World) (h : Heap), YP w h → (K w.params).In h)
    (hname : d.name = law) (hfd : P.fT law = some fd) (hx : fd.ps = [x])
    (S : ∀ (w : World) (mg : Str → Option Value) (h : Heap), (K w.params).In h → h.Ns mainGlobals mg → Stat P (K w.params) mg)
    (hlam : P.lam = []) (hi : P.rep = true → PyProof.Rows.importsNone q = true)
    (no : ∀ (w : World) (mg : Str → Option Value) (h : Heap), (K w.params).In h → h.Ns mainGlobals mg → ∀ x ∈ LN, mg x = none)
    (hp : ∀ (ns : List Int) (h : PH) (v : PV), ns.length ≤ 63 → Script h v ns → ∃ h', callF P k law [v] h = .ok (.bl true) h') :
    PySem.W.WalkO q loose XP YP l.row.toRowW d [] (fun f vs => PySem.call f vs) := by
  have core : ∀ (w : World) (mg : Str → Option Value) (fa : Addr) (h : Heap), (K w.params).In h → h.Ns mainGlobals mg → mg d.name = some (.ref fa) →
      ∃ fdat : FuncData, (∀ (s : Shared) (u : Value), BindsTo s fdat ⟨[u], []⟩ [(x, u)]) ∧
        ∀ base : Heap, (K w.params).In base → base.Ns mainGlobals mg → (P.rep = true → ∃ o, base.get? sysModules = some o) → FnG P.rep l.prog w (K w.params) mg base (L2.CX l.prog w) k fa fdat [x] (spLaw (K w.params) 63) := fun w mg fa h KX G hmg => by
    rw [hname] at hmg
    have St := S w mg h KX G
    obtain ⟨st, qual, f, fdat, N, h1, h2, h3, h4, h6, h7⟩ := St.fn law fd hfd
    have h1' := h1
    rw [hmg] at h1
    cases h1
    rw [hx] at h3
    refine ⟨fdat, fun s u => .of_eq (h3 [u] rfl), fun base hKb _ hsy => ?_⟩
    cases k with
    | zero =>
      obtain ⟨h', e⟩ := hp [] [] (.kls []) (by simp) (.inl ⟨rfl, rfl⟩)
      cases e
    | succ k =>
      have F : FnG P.rep l.prog w (K w.params) mg base (L2.CX l.prog w) (k + 1) fa fdat fd.ps (spP (K w.params) mg (callF P (k + 1) law) fd.ps.length) := fn_succ (MG_all St (fun x _ _ hx => by rw [hlam] at hx; cases hx) hKb hsy k) hfd h1' h2 h4 h6 h7
      rw [hx] at F
      refine F.imp fun vs H Q E hs => ?_
      obtain ⟨a, ns, rfl, hl, hS, q⟩ := hs
      obtain ⟨v, ρ, h0, sc, R, r⟩ := start_script (mg := mg) (fun P' q t => by
        obtain ⟨x', hx', f', c', fd', oc, od, osl, e1, _⟩ := t
        rw [no w mg h KX G x' hx'] at e1
        cases e1) hS
      obtain ⟨h', e⟩ := hp ns h0 v hl sc
      refine ⟨rfl, [v], ρ, h0, R, .cons r .nil, ?_⟩
      rw [e]
      exact fun ρ1 H1 nx R1 x rx => by cases rx; exact q H1
  cases hrep : P.rep with
  | true =>
    refine walk_ofG (R := true) (n := 63) (k := k) (x := x) (K := K) (CX := fun w => L2.CX l.prog w) (sp := fun w => spLaw (K w.params) 63) hn (by rw [sizeLine_eq]; decide) hdf hr (hi hrep) hY (fun w mg fa h KX G hmg => ?_) (fun _ _ a ns hl _ hS => ⟨a, ns, rfl, hl, hS, fun _ => rfl⟩) fun _ _ _ _ _ z => cx_none z
    obtain ⟨fdat, hb, F⟩ := core w mg fa h KX G hmg
    exact ⟨fdat, hb, fun base hk hn hs => hrep ▸ F base hk hn fun _ => hs⟩
  | false =>
    refine L2.walk_of (n := 63) (k := k) (x := x) (K := K) (CX := fun w => L2.CX l.prog w) (sp := fun w => spLaw (K w.params) 63) hn (by rw [sizeLine_eq]; decide) hdf hr hY (fun w mg fa h KX G hmg => ?_) (fun _ _ a ns hl _ hS => ⟨a, ns, rfl, hl, hS, fun _ => rfl⟩) fun _ _ _ _ _ z => cx_none z
    obtain ⟨fdat, hb, F⟩ := core w mg fa h KX G hmg
    exact ⟨fdat, hb, fun base hk hn => (hrep ▸ F base hk hn (fun z => by rw [hrep] at z; cases z) : FnG false _ _ _ _ _ _ _ _ _ _ _).ok⟩
end MP

set_option Elab.async false
set_option linter.all false
set_option maxRecDepth 100000
set_option maxHeartbeats 4000000
/-! MPn: a program's tables. -/
namespace MP
open PySem PySem.Spec PyProof.Rows L2
structure Tabs where
  fs : List (Str × FD)
  cs : List (Str × PV)
  subs : List ((Str × Str) × Bool)
  wf : Nat
  bl : List Str
  gcd : Bool
  exc : List Str
  hdl : List Str
  lam : List Str := []
  kits : List ((Str × Str) × Bool) := []
  rf : List RfD := []
  rep : Bool := false
def Tabs.prog (T : Tabs) : Prog := { fT := fun x => T.fs.lookup x, cT := fun x => T.cs.lookup x, sub := fun c x => T.subs.lookup (c, x), wf := T.wf, bl := T.bl, gcd := T.gcd, exc := T.exc, hdl := T.hdl, lam := T.lam, kit := fun c x => T.kits.lookup (c, x), rf := T.rf, rep := T.rep }
def AllOk (p : Str → Prop) : List Str → Prop
  | [] => True
  | x :: r => p x ∧ AllOk p r
theorem AllOk.nil {p : Str → Prop} : AllOk p [] := trivial
theorem AllOk.cons {p : Str → Prop} {x : Str} {r : List Str} (h : p x) (t : AllOk p r) : AllOk p (x :: r) := ⟨h, t⟩
theorem AllOk.get {p : Str → Prop} : ∀ {l : List Str}, AllOk p l → ∀ x, l.contains x = true → p x
  | [], _, x, e => by simp at e
  | y :: r, h, x, e => by
    rw [List.contains_cons, Bool.or_eq_true] at e
    rcases e with e | e
    · have : x = y := beq_iff_eq.mp e
      subst this
      exact h.1
    · exact AllOk.get h.2 x e
theorem FunsOk.nil {P : Prog} {K : PySem.W.Frag} {mg : Str → Option Value} : FunsOk P K mg [] := trivial
theorem FunsOk.cons {P : Prog} {K : PySem.W.Frag} {mg : Str → Option Value} {x : Str} {fd : FD} {r : List (Str × FD)} (h : FunOk P K mg x fd) (t : FunsOk P K mg r) : FunsOk P K mg ((x, fd) :: r) := ⟨h, t⟩
theorem ConsOk.nil {K : PySem.W.Frag} {mg : Str → Option Value} : ConsOk K mg [] := trivial
theorem ConsOk.cons {K : PySem.W.Frag} {mg : Str → Option Value} {x : Str} {v : PV} {r : List (Str × PV)} (h : KV' K mg x v) (t : ConsOk K mg r) : ConsOk K mg ((x, v) :: r) := ⟨h, t⟩
def SubsOk (K : PySem.W.Frag) (mg : Str → Option Value) : List ((Str × Str) × Bool) → Prop
  | [] => True
  | ((c, x), b) :: r => (∀ C D, mg c = some (.ref C) → mg x = some (.ref D) → PySem.W.exmOne K (.ref C) (.ref D) = some b) ∧ SubsOk K mg r
theorem SubsOk.nil {K : PySem.W.Frag} {mg : Str → Option Value} : SubsOk K mg [] := trivial
theorem SubsOk.cons {K : PySem.W.Frag} {mg : Str → Option Value} {c x : Str} {b : Bool} {r : List ((Str × Str) × Bool)} (h : ∀ C D, mg c = some (.ref C) → mg x = some (.ref D) → PySem.W.exmOne K (.ref C) (.ref D) = some b) (t : SubsOk K mg r) : SubsOk K mg (((c, x), b) :: r) := ⟨h, t⟩
theorem SubsOk.get {K : PySem.W.Frag} {mg : Str → Option Value} : ∀ {l : List ((Str × Str) × Bool)}, SubsOk K mg l → ∀ c x b, l.lookup (c, x) = some b → ∀ C D, mg c = some (.ref C) → mg x = some (.ref D) → PySem.W.exmOne K (.ref C) (.ref D) = some b
  | [], _, c, x, b, e => by simp at e
  | ((y, z), w) :: r, h, c, x, b, e => by
    rw [List.lookup_cons] at e
    split at e
    · rename_i hb
      have : (c, x) = (y, z) := beq_iff_eq.mp hb
      cases this
      cases e
      exact h.1
    · exact SubsOk.get h.2 c x b e
theorem sub_mk {K : PySem.W.Frag} {h : Heap} {mg : Str → Option Value} {c x : Str} {C D : Addr} {b : Bool} (X : K.In h) (G : h.Ns mainGlobals mg) (a : PySem.W.nsIn K mainGlobals c = some (some (.ref C))) (a' : PySem.W.nsIn K mainGlobals x = some (some (.ref D))) (h1 : PySem.W.subIn K (.ref D) (.type "BaseException") = some true)
    (h2 : PySem.W.isClsIn K D = true) (h3 : PySem.W.typeIn K (.ref D) = some (.type "type")) (h4 : PySem.W.subIn K (.ref C) (.ref D) = some b) : ∀ C D, mg c = some (.ref C) → mg x = some (.ref D) → PySem.W.exmOne K (.ref C) (.ref D) = some b := fun C' D' e e' => by
  rw [PySem.W.mg_of X G a] at e
  rw [PySem.W.mg_of X G a'] at e'
  cases e
  cases e'
  exact exm_mk h1 h2 h3 h4
theorem hdl_mk {K : PySem.W.Frag} {h : Heap} {mg : Str → Option Value} {x : Str} {C : Addr} (X : K.In h) (G : h.Ns mainGlobals mg) (a : PySem.W.nsIn K mainGlobals x = some (some (.ref C))) : ∃ C, mg x = some (.ref C) := ⟨C, PySem.W.mg_of X G a⟩
theorem stat_mk {T : Tabs} {K : PySem.W.Frag} {mg : Str → Option Value} (hc : ConsOk K mg T.cs) (hb : AllOk (fun x => mg x = none) T.bl) (hg : T.gcd = true → mg "gcd" = some (.builtin "math.gcd")) (he : AllOk (fun x => ∃ C, ExcOk K mg x C) T.exc) (hh : AllOk (fun x => ∃ C, mg x = some (.ref C)) T.hdl)
    (hs : SubsOk K mg T.subs) (hf : FunsOk T.prog K mg T.fs) (hl : T.lam = []) (no : ∀ x ∈ LN, mg x = none) (hr0 : T.rf = [] := by rfl) (hk0 : T.kits = [] := by rfl) : Stat T.prog K mg where
  const := hc.get
  blt := hb.get
  gcd := hg
  exc := he.get
  hdl := hh.get
  sub := hs.get
  lam := fun x hx => by
    have hx : T.lam.contains x = true := hx
    rw [hl] at hx
    simp at hx
  tabU := fun Pt q q' t _ => by
    obtain ⟨x, hx, f, c, fd, oc, od, osl, e1, _⟩ := t
    rw [no x hx] at e1
    cases e1
  rf := fun r hr => by
    have hr : T.rf.contains r = true := hr
    rw [hr0] at hr
    simp at hr
  kit := fun c x b hk => by
    have hk : T.kits.lookup (c, x) = some b := hk
    rw [hk0] at hk
    cases hk
  fn := hf.get
end MP

set_option Elab.async false
set_option linter.all false
set_option maxRecDepth 100000
set_option maxHeartbeats 4000000
/-! A law's end where some defs make lambdas: the tables of their code objects are no part of K. -/
namespace MP
open PySem PySem.Spec PyProof.Rows L2
theorem law_walkT {l : PySem.W.OpenLaw} {q : Program} {loose : List Str} {XP : (Str → Option Value) → Heap → Prop} {YP : World → Heap → Prop} {d : DefRec} {P : Prog} {k : Nat} {x : Str} {law : Str} {fd : FD} (hn : l.most = some 63) (hdf : d.params.defaults = []) (hr : Room k callerA)
    (hname : d.name = law) (hfd : P.fT law = some fd) (hx : fd.ps = [x])
    (S : ∀ (w : World) (mg : Str → Option Value) (h : Heap), YP w h → h.Ns mainGlobals mg → ∃ (K : PySem.W.Frag) (cs : List (Addr × Addr)), K.In h ∧ (∀ p ∈ cs, h.get? p.2 = some { cls := .none, data := .fields #[] }) ∧ (∀ p ∈ cs, K.lookup p.2 = none) ∧ (∀ p ∈ cs, PySem.W.CodeHd h p.1 p.2) ∧ Stat P K mg ∧ (∀ x cc Pt, P.lam.contains x = true → LamAt K mg x cc Pt → (cc, Pt) ∈ cs) ∧ ∀ Pt q, TabK K mg Pt q → ∃ c, (c, Pt) ∈ cs)
    (hp : ∀ (ns : List Int) (h : PH) (v : PV), ns.length ≤ 63 → Script h v ns → ∃ h', callF P k law [v] h = .ok (.bl true) h') (hrep : P.rep = false := by rfl) :
    PySem.W.WalkO q loose XP YP l.row.toRowW d [] (fun f vs => PySem.call f vs) := by
  refine LamX.walk_ofTsE (n := 63) (k := k) (x := x) (CX := fun w => L2.CX l.prog w) hn (by rw [sizeLine_eq]; decide) hdf hr (fun w mg fa h Y G hmg => ?_) fun _ _ _ _ _ z => cx_none z
  rw [hname] at hmg
  obtain ⟨K, cs, KX, t1, t2, t3, St, tl, tk⟩ := S w mg h Y G
  obtain ⟨st, qual, f, fdat, N, h1, h2, h3, h4, h6, h7⟩ := St.fn law fd hfd
  have h1' := h1
  rw [hmg] at h1
  cases h1
  rw [hx] at h3
  cases k with
  | zero =>
    obtain ⟨h', e⟩ := hp [] [] (.kls []) (by simp) (.inl ⟨rfl, rfl⟩)
    cases e
  | succ k =>
    refine ⟨K, KX, fdat, cs, spP K mg (callF P (k + 1) law) 1, t1, t2, t3, fun s u => .of_eq (h3 [u] rfl), fun H a ns hl _ ht hS => ?_, fun base hKb _ B => ?_⟩
    · obtain ⟨v, ρ, h0, sc, R, r⟩ := start_script (mg := mg) (fun P' q t => by
        obtain ⟨c, hc⟩ := tk P' q t
        exact LamX.TabS.nil (ht _ hc)) hS
      obtain ⟨h', e⟩ := hp ns h0 v hl sc
      refine ⟨rfl, [v], ρ, h0, R, .cons r .nil, ?_⟩
      rw [e]
      exact fun ρ1 H1 nx R1 x rx => by cases rx; rfl
    · have F : FnG P.rep l.prog w K mg base (L2.CX l.prog w) (k + 1) fa fdat fd.ps (spP K mg (callF P (k + 1) law) fd.ps.length) := fn_succ (MG_all St (fun x cc Pt hx hl => B _ (tl x cc Pt hx hl)) hKb (fun z => by rw [hrep] at z; cases z) k) hfd h1' h2 h4 h6 h7
      rw [hx, hrep] at F
      exact F.ok
/-- K less what stands at t -/
def dropK (K : PySem.W.Frag) (t : Addr) : PySem.W.Frag := K.filter fun p => p.1 != t
theorem dropK_self {t : Addr} : ∀ (K : PySem.W.Frag), (dropK K t).lookup t = none
  | [] => rfl
  | (a, o) :: r => by
    unfold dropK
    rw [List.filter_cons]
    split
    · rename_i q
      have q : a ≠ t := by simpa using q
      rw [List.lookup_cons, show (t == a) = false by simpa using fun z => q z.symm]
      exact dropK_self r
    · exact dropK_self r
theorem dropK_ne {t a : Addr} (n : a ≠ t) : ∀ (K : PySem.W.Frag), (dropK K t).lookup a = K.lookup a
  | [] => rfl
  | (b, o) :: r => by
    unfold dropK
    rw [List.filter_cons]
    split
    · rw [List.lookup_cons, List.lookup_cons]
      split
      · rfl
      · exact dropK_ne n r
    · rename_i q
      have q : b = t := by simpa using q
      rw [List.lookup_cons, show (a == b) = false by rw [q]; simpa using n]
      exact dropK_ne n r
theorem dropK_in {K : PySem.W.Frag} {h : Heap} {t : Addr} (X : K.In h) : (dropK K t).In h := fun a o e => by
  by_cases n : a = t
  · rw [n, dropK_self] at e
    cases e
  · exact X a o (by rw [← dropK_ne n]; exact e)
def RfsOk (K : PySem.W.Frag) (mg : Str → Option Value) : List RfD → Prop
  | [] => True
  | r :: l => RfOk K mg r ∧ RfsOk K mg l
theorem RfsOk.nil {K : PySem.W.Frag} {mg : Str → Option Value} : RfsOk K mg [] := trivial
theorem RfsOk.cons {K : PySem.W.Frag} {mg : Str → Option Value} {r : RfD} {l : List RfD} (h : RfOk K mg r) (t : RfsOk K mg l) : RfsOk K mg (r :: l) := ⟨h, t⟩
theorem RfsOk.get {K : PySem.W.Frag} {mg : Str → Option Value} : ∀ {l : List RfD}, RfsOk K mg l → ∀ r, l.contains r = true → RfOk K mg r
  | [], _, x, e => by simp at e
  | y :: r, h, x, e => by
    rw [List.contains_cons, Bool.or_eq_true] at e
    rcases e with e | e
    · have : x = y := beq_iff_eq.mp e
      subst this
      exact h.1
    · exact RfsOk.get h.2 x e
def KitOk (K : PySem.W.Frag) (mg : Str → Option Value) (c x : Str) (b : Bool) : Prop := ∀ C, mg c = some (.ref C) → ExcC K C ∧ ∃ v u, ClsN mg x v u ∧ PySem.W.kitOne K (.ref C) u = some b
def KitsOk (K : PySem.W.Frag) (mg : Str → Option Value) : List ((Str × Str) × Bool) → Prop
  | [] => True
  | ((c, x), b) :: r => KitOk K mg c x b ∧ KitsOk K mg r
theorem KitsOk.nil {K : PySem.W.Frag} {mg : Str → Option Value} : KitsOk K mg [] := trivial
theorem KitsOk.cons {K : PySem.W.Frag} {mg : Str → Option Value} {c x : Str} {b : Bool} {r : List ((Str × Str) × Bool)} (h : KitOk K mg c x b) (t : KitsOk K mg r) : KitsOk K mg (((c, x), b) :: r) := ⟨h, t⟩
theorem KitsOk.get {K : PySem.W.Frag} {mg : Str → Option Value} : ∀ {l : List ((Str × Str) × Bool)}, KitsOk K mg l → ∀ c x b, l.lookup (c, x) = some b → KitOk K mg c x b
  | [], _, c, x, b, e => by simp at e
  | ((y, z), w) :: r, h, c, x, b, e => by
    rw [List.lookup_cons] at e
    split at e
    · rename_i hb
      have : (c, x) = (y, z) := beq_iff_eq.mp hb
      cases this
      cases e
      exact h.1
    · exact KitsOk.get h.2 c x b e
theorem rf_mk {K : PySem.W.Frag} {h : Heap} {mg : Str → Option Value} {r : RfD} {a fn e : Str} {st : Stmt} (X : K.In h) (G : h.Ns mainGlobals mg) {f CH : Addr} {oc : Value} {od an : Option Addr} {osl : Array (Option Value)} {kV doc pm cdv ct : Value}
    (n : PySem.W.nsIn K mainGlobals r.g = some (some (.ref f))) (l : K.lookup f = some ⟨oc, od, .func (PySem.W.fnOf r.g r.g (defArgs st) (defBody st) (defScope st) .none kV doc pm an cdv ct), osl⟩) (c : PySem.W.codeIn K cdv r.g = true) (k : PySem.W.keepIn K (.ref f) = true)
    (b : ∀ (kV doc pm : Value) (an : Option Addr) (cdv ct : Value) (us : List Value), us.length = 1 → bindArgs (PySem.W.fnOf r.g r.g (defArgs st) (defBody st) (defScope st) .none kV doc pm an cdv ct) ⟨us, []⟩ = pure ([a].zip us))
    (S : FnScope [a, fn, e] [a] (defScope st)) (hc : chkRf r (defScope st) a fn e (defBody st) = true) (hh : PySem.W.nsIn K mainGlobals r.hd = some (some (.ref CH))) : RfOk K mg r :=
  ⟨f, a, fn, e, st, _, CH, PySem.W.mg_of X G n, fun_mk l c k, b _ _ _ _ _ _, S, hc, PySem.W.mg_of X G hh⟩
theorem kit_own {K : PySem.W.Frag} {h : Heap} {mg : Str → Option Value} {c x : Str} {C D : Addr} {b : Bool} (X : K.In h) (G : h.Ns mainGlobals mg) (a : PySem.W.nsIn K mainGlobals c = some (some (.ref C))) (E : ExcC K C) (d : PySem.W.nsIn K mainGlobals x = some (some (.ref D))) (n : x ≠ "__name__") (nd : (x == ("__debug__" : Str)) = false) (k : PySem.W.kitOne K (.ref C) (.ref D) = some b) : KitOk K mg c x b := fun C' e => by
  rw [PySem.W.mg_of X G a] at e
  cases e
  exact ⟨E, .ref D, .ref D, ⟨rfl, fun w hw => hw, .inl (PySem.W.mg_of X G d), n, nd⟩, k⟩
theorem kit_blt {K : PySem.W.Frag} {h : Heap} {mg : Str → Option Value} {c x : Str} {C : Addr} {t : String} {b : Bool} (X : K.In h) (G : h.Ns mainGlobals mg) (a : PySem.W.nsIn K mainGlobals c = some (some (.ref C))) (E : ExcC K C) (d : PySem.W.nsIn K mainGlobals x = some none) (v : bootBuiltins x = some (.type t)) (n : x ≠ "__name__") (nd : (x == ("__debug__" : Str)) = false) (k : PySem.W.kitOne K (.ref C) (.type t) = some b) : KitOk K mg c x b := fun C' e => by
  rw [PySem.W.mg_of X G a] at e
  cases e
  exact ⟨E, .ty t, .type t, ⟨rfl, fun w hw => hw, .inr ⟨PySem.W.mg_none_of X G d, v⟩, n, nd⟩, k⟩
theorem stat_mkT {T : Tabs} {K : PySem.W.Frag} {mg : Str → Option Value} (hc : ConsOk K mg T.cs) (hb : AllOk (fun x => mg x = none) T.bl) (hg : T.gcd = true → mg "gcd" = some (.builtin "math.gcd")) (he : AllOk (fun x => ∃ C, ExcOk K mg x C) T.exc) (hh : AllOk (fun x => ∃ C, mg x = some (.ref C)) T.hdl)
    (hs : SubsOk K mg T.subs) (hf : FunsOk T.prog K mg T.fs) (hr : RfsOk K mg T.rf) (hk : KitsOk K mg T.kits) (hl : ∀ x, T.prog.lam.contains x = true → ∃ cc Pt, LamAt K mg x cc Pt) (hu : ∀ Pt q q', TabK K mg Pt q → TabK K mg Pt q' → q = q') : Stat T.prog K mg where
  const := hc.get
  blt := hb.get
  gcd := hg
  exc := he.get
  hdl := hh.get
  sub := hs.get
  lam := hl
  tabU := hu
  rf := hr.get
  kit := hk.get
  fn := hf.get
/-- a def with lambdas: its code object c, the table t -/
structure LamF (K : PySem.W.Frag) (mg : Str → Option Value) (h : Heap) (x : Str) (c t : Addr) : Prop where
  tb : h.get? t = some { cls := .none, data := .fields #[] }
  kt : K.lookup t = none
  cd : PySem.W.codeHdIn K c t = true
  ex : ∃ (f : Addr) (fd : FuncData) (oc : Value) (od : Option Addr) (osl : Array (Option Value)), mg x = some (.ref f) ∧ K.lookup f = some ⟨oc, od, .func fd, osl⟩ ∧ fd.code = .ref c
theorem lamF_mk {K : PySem.W.Frag} {mg : Str → Option Value} {h : Heap} {x : Str} {f c t : Addr} {fd : FuncData} {oc : Value} {od : Option Addr} {osl : Array (Option Value)} (KX : K.In h) (tb : h.get? t = some { cls := .none, data := .fields #[] }) (kt : K.lookup t = none) (cd : PySem.W.codeHdIn K c t = true) (m : mg x = some (.ref f)) (kl : K.lookup f = some ⟨oc, od, .func fd, osl⟩) (ec : fd.code = .ref c) : LamF K mg h x c t := ⟨tb, kt, cd, f, fd, oc, od, osl, m, kl, ec⟩
/-- two defs with lambdas -/
theorem lam_two {P : Prog} {K : PySem.W.Frag} {mg : Str → Option Value} {h : Heap} {x0 x1 : Str} {c0 t0 c1 t1 : Addr} (KX : K.In h) (A : LamF K mg h x0 c0 t0) (B : LamF K mg h x1 c1 t1) (ht : t0 ≠ t1) (hLN : LN = [x0, x1]) (hl : ∀ x, P.lam.contains x = true → x = x0 ∨ x = x1)
    (St : (∀ x, P.lam.contains x = true → ∃ cc Pt, LamAt K mg x cc Pt) → (∀ Pt q q', TabK K mg Pt q → TabK K mg Pt q' → q = q') → Stat P K mg) :
    ∃ (K : PySem.W.Frag) (cs : List (Addr × Addr)), K.In h ∧ (∀ p ∈ cs, h.get? p.2 = some { cls := .none, data := .fields #[] }) ∧ (∀ p ∈ cs, K.lookup p.2 = none) ∧ (∀ p ∈ cs, PySem.W.CodeHd h p.1 p.2) ∧ Stat P K mg ∧ (∀ x cc Pt, P.lam.contains x = true → LamAt K mg x cc Pt → (cc, Pt) ∈ cs) ∧ ∀ Pt q, TabK K mg Pt q → ∃ c, (c, Pt) ∈ cs := by
  have CH : ∀ {x : Str} {c t : Addr}, LamF K mg h x c t → ∀ h', K.In h' → PySem.W.CodeHd h' c t := fun F h' X => PySem.W.codeHd_of_K X F.cd
  -- what a table's def says
  have tk : ∀ {x : Str} {c t : Addr}, LamF K mg h x c t → ∃ q0 : Str, ∀ Pt q, TabX K mg x Pt q → Pt = t ∧ q = q0 := fun {x c t} F => by
    obtain ⟨f, fd, oc, od, osl, m, kl, ec⟩ := F.ex
    refine ⟨fd.qualname ++ ".<locals>." ++ "<lambda>", ?_⟩
    rintro Pt q ⟨f', c', fd', oc', od', osl', e1, e2, e3, e4, e5⟩
    rw [m] at e1
    cases e1
    rw [kl] at e2
    cases e2
    rw [ec] at e3
    cases e3
    exact ⟨codeHd_one (e5 h KX) (CH F h KX), e4⟩
  have la : ∀ {x : Str} {c t cc Pt : Addr}, LamF K mg h x c t → LamAt K mg x cc Pt → cc = c ∧ Pt = t := fun {x c t cc Pt} F l => by
    obtain ⟨_, f', fd', oc', od', osl', e1, e2, e3, e5⟩ := l
    obtain ⟨f, fd, oc, od, osl, m, kl, ec⟩ := F.ex
    rw [m] at e1
    cases e1
    rw [kl] at e2
    cases e2
    rw [ec] at e3
    cases e3
    exact ⟨rfl, codeHd_one (e5 h KX) (CH F h KX)⟩
  have mk : ∀ {x : Str} {c t : Addr}, LamF K mg h x c t → x ∈ LN → LamAt K mg x c t := fun F hx => by
    obtain ⟨f, fd, oc, od, osl, m, kl, ec⟩ := F.ex
    exact ⟨hx, f, fd, oc, od, osl, m, kl, ec, CH F⟩
  obtain ⟨q0, k0⟩ := tk A
  obtain ⟨q1, k1⟩ := tk B
  have m0 : x0 ∈ LN := by rw [hLN]; simp
  have m1 : x1 ∈ LN := by rw [hLN]; simp
  have two : ∀ Pt q, TabK K mg Pt q → (Pt = t0 ∧ q = q0) ∨ (Pt = t1 ∧ q = q1) := by
    rintro Pt q ⟨x, hx, tx⟩
    rw [hLN] at hx
    rcases List.mem_cons.mp hx with rfl | hx
    · exact .inl (k0 Pt q tx)
    · rcases List.mem_cons.mp hx with rfl | hx
      · exact .inr (k1 Pt q tx)
      · cases hx
  refine ⟨K, [(c0, t0), (c1, t1)], KX, ?_, ?_, ?_, St (fun x hx => ?_) (fun Pt q q' a b => ?_), ?_, ?_⟩
  · intro p hp
    simp at hp
    rcases hp with rfl | rfl
    · exact A.tb
    · exact B.tb
  · intro p hp
    simp at hp
    rcases hp with rfl | rfl
    · exact A.kt
    · exact B.kt
  · intro p hp
    simp at hp
    rcases hp with rfl | rfl
    · exact CH A h KX
    · exact CH B h KX
  · rcases hl x hx with rfl | rfl
    · exact ⟨_, _, mk A m0⟩
    · exact ⟨_, _, mk B m1⟩
  · rcases two Pt q a with ⟨e1, e2⟩ | ⟨e1, e2⟩ <;> rcases two Pt q' b with ⟨e3, e4⟩ | ⟨e3, e4⟩
    · rw [e2, e4]
    · exact absurd (e1.symm.trans e3) ht
    · exact absurd (e3.symm.trans e1) ht
    · rw [e2, e4]
  · intro x cc Pt hx l
    rcases hl x hx with rfl | rfl
    · obtain ⟨rfl, rfl⟩ := la A l
      simp
    · obtain ⟨rfl, rfl⟩ := la B l
      simp
  · intro Pt q a
    rcases two Pt q a with ⟨e1, _⟩ | ⟨e1, _⟩
    · exact ⟨c0, by rw [e1]; simp⟩
    · exact ⟨c1, by rw [e1]; simp⟩
/-- the one def with a lambda: its code object c, the table t -/
theorem lam_one {P : Prog} {K : PySem.W.Frag} {mg : Str → Option Value} {h : Heap} {x0 : Str} {f c t : Addr} {fd : FuncData} {oc : Value} {od : Option Addr} {osl : Array (Option Value)} (KX : K.In h) (tb : h.get? t = some { cls := .none, data := .fields #[] }) (kt : K.lookup t = none) (cd : PySem.W.codeHdIn K c t = true)
    (hin : x0 ∈ LN) (no : ∀ x ∈ LN, x ≠ x0 → mg x = none) (m : mg x0 = some (.ref f)) (kl : K.lookup f = some ⟨oc, od, .func fd, osl⟩) (ec : fd.code = .ref c) (hl : ∀ x, P.lam.contains x = true → x = x0)
    (St : (∀ x, P.lam.contains x = true → ∃ cc Pt, LamAt K mg x cc Pt) → (∀ Pt q q', TabK K mg Pt q → TabK K mg Pt q' → q = q') → Stat P K mg) :
    ∃ (K : PySem.W.Frag) (cs : List (Addr × Addr)), K.In h ∧ (∀ p ∈ cs, h.get? p.2 = some { cls := .none, data := .fields #[] }) ∧ (∀ p ∈ cs, K.lookup p.2 = none) ∧ (∀ p ∈ cs, PySem.W.CodeHd h p.1 p.2) ∧ Stat P K mg ∧ (∀ x cc Pt, P.lam.contains x = true → LamAt K mg x cc Pt → (cc, Pt) ∈ cs) ∧ ∀ Pt q, TabK K mg Pt q → ∃ c, (c, Pt) ∈ cs := by
  have CH : ∀ h, K.In h → PySem.W.CodeHd h c t := fun h X => PySem.W.codeHd_of_K X cd
  have tx : ∀ x, x ∈ LN → ∀ {a : Addr}, mg x = some (.ref a) → x = x0 := fun x hx a e => by
    by_cases n : x = x0
    · exact n
    · rw [no x hx n] at e; cases e
  have tk : ∀ Pt q, TabK K mg Pt q → Pt = t ∧ q = fd.qualname ++ ".<locals>." ++ "<lambda>" := by
    rintro Pt q ⟨x, hx, f', c', fd', oc', od', osl', e1, e2, e3, e4, e5⟩
    have := tx x hx e1
    subst this
    rw [m] at e1
    cases e1
    rw [kl] at e2
    cases e2
    rw [ec] at e3
    cases e3
    exact ⟨codeHd_one (e5 h KX) (CH h KX), e4⟩
  refine ⟨K, [(c, t)], KX, ?_, ?_, ?_, St (fun x hx => ?_) (fun Pt q q' a b => ?_), ?_, ?_⟩
  · intro p hp; rw [List.mem_singleton.mp hp]; exact tb
  · intro p hp; rw [List.mem_singleton.mp hp]; exact kt
  · intro p hp; rw [List.mem_singleton.mp hp]; exact CH h KX
  · have := hl x hx
    subst this
    exact ⟨c, t, hin, f, fd, oc, od, osl, m, kl, ec, CH⟩
  · rw [(tk Pt q a).2, (tk Pt q' b).2]
  · rintro x cc Pt hx ⟨_, f', fd', oc', od', osl', e1, e2, e3, e5⟩
    have := hl x hx
    subst this
    rw [m] at e1
    cases e1
    rw [kl] at e2
    cases e2
    rw [ec] at e3
    cases e3
    rw [codeHd_one (e5 h KX) (CH h KX)]
    simp
  · intro Pt q a
    exact ⟨c, by rw [(tk Pt q a).1]; simp⟩
end MP

set_option Elab.async false
set_option linter.all false
set_option maxRecDepth 100000
set_option maxHeartbeats 4000000
/-! MPw: what a pure run comes to. -/
namespace MP
open PySem L2
section
variable {α β : Type}
def wp (m : M α) (h : PH) (Q : α → PH → Prop) (E : Str → PH → Prop) : Prop := match m h with
  | .ok a h' => Q a h'
  | .exc c _ h' => E c h'
  | .stuck => False
theorem wp_bind {m : M α} {f : α → M β} {h : PH} {Q : β → PH → Prop} {E : Str → PH → Prop} : wp (M.bind m f) h Q E ↔ wp m h (fun a h' => wp (f a) h' Q E) E := by
  unfold wp M.bind
  cases m h <;> exact Iff.rfl
theorem wp_bind' {m : M α} {f : α → M β} {h : PH} {Q : β → PH → Prop} {E : Str → PH → Prop} : wp (m >>= f) h Q E ↔ wp m h (fun a h' => wp (f a) h' Q E) E := wp_bind
theorem wp_pure {a : α} {h : PH} {Q : α → PH → Prop} {E : Str → PH → Prop} : wp (pure a : M α) h Q E ↔ Q a h := Iff.rfl
theorem wp_ret {a : α} {h : PH} {Q : α → PH → Prop} {E : Str → PH → Prop} : wp (M.ret a : M α) h Q E ↔ Q a h := Iff.rfl
theorem wp_stop {h : PH} {Q : α → PH → Prop} {E : Str → PH → Prop} : wp (M.stop : M α) h Q E ↔ False := Iff.rfl
theorem wp_opt_some {a : α} {h : PH} {Q : α → PH → Prop} {E : Str → PH → Prop} : wp (M.opt (some a)) h Q E ↔ Q a h := Iff.rfl
theorem wp_opt {o : Option α} {h : PH} {Q : α → PH → Prop} {E : Str → PH → Prop} : wp (M.opt o) h Q E ↔ ∃ a, o = some a ∧ Q a h := by
  cases o with
  | none => exact ⟨fun z => z.elim, fun ⟨_, e, _⟩ => by cases e⟩
  | some a => exact ⟨fun z => ⟨a, rfl, z⟩, fun ⟨_, e, z⟩ => by cases e; exact z⟩
theorem wp_read {f : PH → Option α} {h : PH} {Q : α → PH → Prop} {E : Str → PH → Prop} : wp (readM f) h Q E ↔ ∃ a, f h = some a ∧ Q a h := by
  unfold wp readM
  cases f h with
  | none => exact ⟨fun z => z.elim, fun ⟨_, e, _⟩ => by cases e⟩
  | some a => exact ⟨fun z => ⟨a, rfl, z⟩, fun ⟨_, e, z⟩ => by cases e; exact z⟩
theorem wp_get {h : PH} {Q : PH → PH → Prop} {E : Str → PH → Prop} : wp M.get h Q E ↔ Q h h := Iff.rfl
theorem wp_newO {o : PO} {h : PH} {Q : PV → PH → Prop} {E : Str → PH → Prop} : wp (newO o) h Q E ↔ Q (.obj h.length) (h ++ [o]) := Iff.rfl
theorem wp_setO {i : Nat} {o : PO} {h : PH} {Q : Unit → PH → Prop} {E : Str → PH → Prop} : wp (setO i o) h Q E ↔ Q () (h.set i o) := Iff.rfl
theorem wp_ite {c : Prop} [Decidable c] {a b : M α} {h : PH} {Q : α → PH → Prop} {E : Str → PH → Prop} : wp (if c then a else b) h Q E ↔ (c → wp a h Q E) ∧ (¬ c → wp b h Q E) := by
  by_cases hc : c <;> simp [hc]
theorem wp_iteM {c : Prop} [Decidable c] {a : M α} {h : PH} {Q : α → PH → Prop} {E : Str → PH → Prop} : wp (if c then a else M.stop) h Q E ↔ c ∧ wp a h Q E := by
  by_cases hc : c <;> simp [hc, wp_stop]
theorem wp_noexc {m : M α} {h : PH} {Q : α → PH → Prop} {E : Str → PH → Prop} : wp (noexc m) h Q E ↔ wp m h Q fun _ _ => False := by
  unfold wp noexc
  cases m h <;> exact Iff.rfl
theorem wp_mono {m : M α} {h : PH} {Q Q' : α → PH → Prop} {E E' : Str → PH → Prop} (w : wp m h Q E) (q : ∀ a h', Q a h' → Q' a h') (e : ∀ c h', E c h' → E' c h') : wp m h Q' E' := by
  unfold wp at w ⊢
  revert w
  cases m h with
  | ok a h' => exact q a h'
  | exc c vs h' => exact e c h'
  | stuck => exact fun z => z
theorem wp_of {m : M α} {h h' : PH} {a : α} {Q : α → PH → Prop} {E : Str → PH → Prop} (e : m h = .ok a h') (q : Q a h') : wp m h Q E := by
  unfold wp
  rw [e]
  exact q
theorem wp_ok {m : M α} {h : PH} {Q : α → PH → Prop} (w : wp m h Q fun _ _ => False) : ∃ a h', m h = .ok a h' ∧ Q a h' := by
  unfold wp at w
  revert w
  cases m h with
  | ok a h' => exact fun q => ⟨a, h', rfl, q⟩
  | exc c vs h' => exact fun z => z.elim
  | stuck => exact fun z => z.elim

/-! ### statements -/
structure PD where
  nx : Env' → PH → Prop
  rt : PV → PH → Prop
  bk : Env' → PH → Prop
  ct : Env' → PH → Prop
  ex : Str → Env' → PH → Prop
def wpS (r : SR) (D : PD) : Prop := match r with
  | .nx e h => D.nx e h
  | .rt v h => D.rt v h
  | .bk e h => D.bk e h
  | .ct e h => D.ct e h
  | .exc c _ e h => D.ex c e h
  | .stuck => False
theorem wpS_of {env : Env'} {m : M α} {h : PH} {f : α → PH → SR} {D : PD} : wpS (SR.of env (m h) f) D ↔ wp m h (fun a h' => wpS (f a h') D) (fun c h' => D.ex c env h') := by
  unfold wp SR.of
  cases m h <;> exact Iff.rfl
theorem wpS_nil {G : Glob} {env : Env'} {h : PH} {D : PD} : wpS (execSs G [] env h) D ↔ D.nx env h := Iff.rfl
theorem wpS_cons {G : Glob} {s : S} {ss : List S} {env : Env'} {h : PH} {D : PD} : wpS (execSs G (s :: ss) env h) D ↔ wpS (execS G s env h) { D with nx := fun e h' => wpS (execSs G ss e h') D } := by
  have e : execSs G (s :: ss) env h = match execS G s env h with
    | .nx env' h' => execSs G ss env' h'
    | r => r := by
    rw [execSs]
    try (cases execS G s env h <;> rfl)
  rw [e]
  cases execS G s env h <;> exact Iff.rfl
theorem wpS_nx {env : Env'} {h : PH} {D : PD} : wpS (.nx env h) D ↔ D.nx env h := Iff.rfl
theorem wpS_rt {v : PV} {h : PH} {D : PD} : wpS (.rt v h) D ↔ D.rt v h := Iff.rfl
theorem wpS_bk {env : Env'} {h : PH} {D : PD} : wpS (.bk env h) D ↔ D.bk env h := Iff.rfl
theorem wpS_ct {env : Env'} {h : PH} {D : PD} : wpS (.ct env h) D ↔ D.ct env h := Iff.rfl
theorem wpS_exc {c : Str} {vs : List PV} {env : Env'} {h : PH} {D : PD} : wpS (.exc c vs env h) D ↔ D.ex c env h := Iff.rfl
theorem wpS_stuck {D : PD} : wpS .stuck D ↔ False := Iff.rfl
theorem wpS_ite {c : Prop} [Decidable c] {a b : SR} {D : PD} : wpS (if c then a else b) D ↔ (c → wpS a D) ∧ (¬ c → wpS b D) := by
  by_cases hc : c <;> simp [hc]
theorem wpS_mono {r : SR} {D D' : PD} (w : wpS r D) (h1 : ∀ e h, D.nx e h → D'.nx e h) (h2 : ∀ v h, D.rt v h → D'.rt v h) (h3 : ∀ e h, D.bk e h → D'.bk e h) (h4 : ∀ e h, D.ct e h → D'.ct e h) (h5 : ∀ c e h, D.ex c e h → D'.ex c e h) : wpS r D' := by
  cases r with
  | nx e h => exact h1 e h w
  | rt v h => exact h2 v h w
  | bk e h => exact h3 e h w
  | ct e h => exact h4 e h w
  | exc c vs e h => exact h5 c e h w
  | stuck => exact w
/-- a def in the table -/
def Has (P : Prog) (x : Str) (np ns : Nat) (b : List S) : Prop := ∃ fd, P.fT x = some fd ∧ fd.ps.length = np ∧ fd.ns = ns ∧ fd.body = b
def PD.fn (Q : PV → PH → Prop) (E : Str → PH → Prop) : PD := { nx := fun _ h => Q .non h, rt := Q, bk := fun _ _ => False, ct := fun _ _ => False, ex := fun c _ h => E c h }
theorem wp_call {P : Prog} {k : Nat} {x : Str} {np ns : Nat} {b : List S} {vs : List PV} {h : PH} {Q : PV → PH → Prop} {E : Str → PH → Prop} (hf : Has P x np ns b) (hl : vs.length = np) :
    wp (callF P (k + 1) x vs) h Q E ↔ wpS (execSs (globOf P k) b (vs.map some ++ List.replicate (ns - np) none) h) (.fn Q E) := by
  obtain ⟨fd, h1, rfl, rfl, rfl⟩ := hf
  have e : callF P (k + 1) x vs h = runF (globOf P k) fd vs h := by unfold callF; rw [h1]; rfl
  unfold wp
  rw [e]
  unfold runF
  rw [if_pos hl]
  cases execSs (globOf P k) fd.body (vs.map some ++ List.replicate (fd.ns - fd.np) none) h <;> exact Iff.rfl

/-! ### loops -/
theorem wp_for_vals {xs : List PV} {put : PH → PV → Env' → Option Env'} {body : Env' → PH → SR} {D : PD} (I : Nat → Env' → PH → Prop)
    (step : ∀ i v e h, xs[i]? = some v → I i e h → ∃ e1, put h v e = some e1 ∧ wpS (body e1 h) { nx := I (i + 1), ct := I (i + 1), bk := D.nx, rt := D.rt, ex := D.ex }) (last : ∀ e h, I xs.length e h → D.nx e h) :
    ∀ (n i : Nat) (e : Env') (h : PH), i + n = xs.length → I i e h → wpS (forGo (.vals xs) put body n i e h) D := by
  intro n
  induction n with
  | zero =>
    intro i e h hl hI
    have hx : (Itr.vals xs).at i h = some none := by show some xs[i]? = some none; rw [List.getElem?_eq_none (by omega)]
    unfold forGo
    rw [hx]
    have : i = xs.length := by omega
    subst this
    exact last e h hI
  | succ n ih =>
    intro i e h hl hI
    have hi : i < xs.length := by omega
    have hx : (Itr.vals xs).at i h = some (some xs[i]) := by show some xs[i]? = _; rw [List.getElem?_eq_getElem hi]
    obtain ⟨e1, h1, h2⟩ := step i xs[i] e h (List.getElem?_eq_getElem hi) hI
    unfold forGo
    simp only [hx, h1]
    revert h2
    cases body e1 h with
    | nx e2 h2 => exact fun z => ih (i + 1) e2 h2 (by omega) z
    | ct e2 h2 => exact fun z => ih (i + 1) e2 h2 (by omega) z
    | bk e2 h2 => exact fun z => z
    | rt v h2 => exact fun z => z
    | exc c vs e2 h2 => exact fun z => z
    | stuck => exact fun z => z
theorem wp_for_rng {lo : Int} {m : Nat} {put : PH → PV → Env' → Option Env'} {body : Env' → PH → SR} {D : PD} (I : Nat → Env' → PH → Prop)
    (step : ∀ i e h, i < m → I i e h → ∃ e1, put h (.int (lo + i)) e = some e1 ∧ wpS (body e1 h) { nx := I (i + 1), ct := I (i + 1), bk := D.nx, rt := D.rt, ex := D.ex }) (last : ∀ e h, I m e h → D.nx e h) :
    ∀ (n i : Nat) (e : Env') (h : PH), i + n = m → I i e h → wpS (forGo (.rng lo m) put body n i e h) D := by
  intro n
  induction n with
  | zero =>
    intro i e h hl hI
    have hx : (Itr.rng lo m).at i h = some none := by show some (if i < m then _ else none) = some none; rw [if_neg (by omega)]
    unfold forGo
    rw [hx]
    have : i = m := by omega
    subst this
    exact last e h hI
  | succ n ih =>
    intro i e h hl hI
    have hi : i < m := by omega
    have hx : (Itr.rng lo m).at i h = some (some (.int (lo + i))) := by show some (if i < m then _ else none) = _; rw [if_pos hi]
    obtain ⟨e1, h1, h2⟩ := step i e h hi hI
    unfold forGo
    simp only [hx, h1]
    revert h2
    cases body e1 h with
    | nx e2 h2 => exact fun z => ih (i + 1) e2 h2 (by omega) z
    | ct e2 h2 => exact fun z => ih (i + 1) e2 h2 (by omega) z
    | bk e2 h2 => exact fun z => z
    | rt v h2 => exact fun z => z
    | exc c vs e2 h2 => exact fun z => z
    | stuck => exact fun z => z
/-- over a list that stays as it is -/
theorem wp_for_lst {o : Nat} {xs : List PV} {put : PH → PV → Env' → Option Env'} {body : Env' → PH → SR} {D : PD} (I : Nat → Env' → PH → Prop) (hI : ∀ i e h, I i e h → lstP h (.obj o) = some xs)
    (step : ∀ i v e h, xs[i]? = some v → I i e h → ∃ e1, put h v e = some e1 ∧ wpS (body e1 h) { nx := I (i + 1), ct := I (i + 1), bk := D.nx, rt := D.rt, ex := D.ex }) (last : ∀ e h, I xs.length e h → D.nx e h) :
    ∀ (n i : Nat) (e : Env') (h : PH), i + n = xs.length → I i e h → wpS (forGo (.lst o) put body n i e h) D := by
  intro n
  induction n with
  | zero =>
    intro i e h hl hi
    have hx : (Itr.lst o).at i h = some none := by show (lstP h (.obj o)).map (fun xs => xs[i]?) = some none; rw [hI i e h hi]; show some xs[i]? = _; rw [List.getElem?_eq_none (by omega)]
    unfold forGo
    rw [hx]
    have : i = xs.length := by omega
    subst this
    exact last e h hi
  | succ n ih =>
    intro i e h hl hi
    have hil : i < xs.length := by omega
    have hx : (Itr.lst o).at i h = some (some xs[i]) := by show (lstP h (.obj o)).map (fun xs => xs[i]?) = _; rw [hI i e h hi]; show some xs[i]? = _; rw [List.getElem?_eq_getElem hil]
    obtain ⟨e1, h1, h2⟩ := step i xs[i] e h (List.getElem?_eq_getElem hil) hi
    unfold forGo
    simp only [hx, h1]
    revert h2
    cases body e1 h with
    | nx e2 h2 => exact fun z => ih (i + 1) e2 h2 (by omega) z
    | ct e2 h2 => exact fun z => ih (i + 1) e2 h2 (by omega) z
    | bk e2 h2 => exact fun z => z
    | rt v h2 => exact fun z => z
    | exc c vs e2 h2 => exact fun z => z
    | stuck => exact fun z => z
theorem wp_whl {c : Env' → M Bool} {body : Env' → PH → SR} {D : PD} (I : Nat → Env' → PH → Prop)
    (step : ∀ m e h, I m e h → wp (c e) h (fun b h1 => if b then wpS (body e h1) { nx := fun e2 h2 => ∃ m', m' < m ∧ I m' e2 h2, ct := fun e2 h2 => ∃ m', m' < m ∧ I m' e2 h2, bk := D.nx, rt := D.rt, ex := D.ex } else D.nx e h1) (fun x h1 => D.ex x e h1)) :
    ∀ (f m : Nat) (e : Env') (h : PH), m < f → I m e h → wpS (whlGo c body f e h) D := by
  intro f
  induction f with
  | zero => intro m e h hm; exact absurd hm (Nat.not_lt_zero _)
  | succ f ih =>
    intro m e h hm hI
    unfold whlGo
    rw [wpS_of]
    refine wp_mono (step m e h hI) (fun b h1 z => ?_) fun _ _ z => z
    cases b with
    | false => exact z
    | true =>
      simp only [if_true] at z ⊢
      revert z
      cases body e h1 with
      | nx e2 h2 => exact fun ⟨m', hm', z⟩ => ih m' e2 h2 (by omega) z
      | ct e2 h2 => exact fun ⟨m', hm', z⟩ => ih m' e2 h2 (by omega) z
      | bk e2 h2 => exact fun z => z
      | rt v h2 => exact fun z => z
      | exc c vs e2 h2 => exact fun z => z
      | stuck => exact fun z => z
/-- a comprehension's loop; at: what is walked stays -/
theorem wp_lc {it : Itr} {xs : List PV} {body : PV → M (Option PV)} {Q : List PV → PH → Prop} {E : Str → PH → Prop} (I : Nat → List PV → PH → Prop) (hat : ∀ i acc h, I i acc h → it.at i h = some xs[i]?)
    (step : ∀ i v acc h, xs[i]? = some v → I i acc h → wp (body v) h (fun r h' => match r with | some y => acc.length < sizeLine ∧ I (i + 1) (acc ++ [y]) h' | none => I (i + 1) acc h') E) (last : ∀ acc h, I xs.length acc h → Q acc h) :
    ∀ (n i : Nat) (acc : List PV) (h : PH), i + n = xs.length → I i acc h → wp (lcGo it body n i acc) h Q E := by
  intro n
  induction n with
  | zero =>
    intro i acc h hl hi
    have hx : it.at i h = some none := by rw [hat i acc h hi, List.getElem?_eq_none (by omega)]
    unfold wp lcGo
    rw [hx]
    have : i = xs.length := by omega
    subst this
    exact last acc h hi
  | succ n ih =>
    intro i acc h hl hi
    have hil : i < xs.length := by omega
    have hx : it.at i h = some (some xs[i]) := by rw [hat i acc h hi, List.getElem?_eq_getElem hil]
    have s := step i xs[i] acc h (List.getElem?_eq_getElem hil) hi
    have e : lcGo it body (n + 1) i acc h = (M.bind (body xs[i]) fun r => match r with
      | some y => if acc.length < sizeLine then lcGo it body n (i + 1) (acc ++ [y]) else M.stop
      | none => lcGo it body n (i + 1) acc) h := by
      conv => lhs; unfold lcGo
      simp only [hx]
      try rfl
    have e2 : wp (M.bind (body xs[i]) fun r => match r with
      | some y => if acc.length < sizeLine then lcGo it body n (i + 1) (acc ++ [y]) else M.stop
      | none => lcGo it body n (i + 1) acc) h Q E := by
      rw [wp_bind]
      refine wp_mono s (fun r h1 z => ?_) fun _ _ z => z
      cases r with
      | none => exact ih (i + 1) acc h1 (by omega) z
      | some y =>
        obtain ⟨z1, z2⟩ := z
        show wp (if acc.length < sizeLine then lcGo it body n (i + 1) (acc ++ [y]) else M.stop) h1 Q E
        rw [if_pos z1]
        exact ih (i + 1) (acc ++ [y]) h1 (by omega) z2
    unfold wp at e2 ⊢
    rw [e]
    exact e2
theorem wp_lc_rng {lo : Int} {m : Nat} {body : PV → M (Option PV)} {Q : List PV → PH → Prop} {E : Str → PH → Prop} (I : Nat → List PV → PH → Prop)
    (step : ∀ i acc h, i < m → I i acc h → wp (body (.int (lo + i))) h (fun r h' => match r with | some y => acc.length < sizeLine ∧ I (i + 1) (acc ++ [y]) h' | none => I (i + 1) acc h') E) (last : ∀ acc h, I m acc h → Q acc h) {h : PH} (h0 : I 0 [] h) : wp (lcGo (.rng lo m) body m 0 []) h Q E := by
  have hl : ((List.range m).map fun i => PV.int (lo + (i : Nat))).length = m := by simp
  refine wp_lc (xs := (List.range m).map fun i => PV.int (lo + (i : Nat))) I (fun i acc h _ => ?_) (fun i v acc h hv hi => ?_) (fun acc h hi => last acc h (hl ▸ hi)) m 0 [] h (by rw [hl, Nat.zero_add]) h0
  · show some (if i < m then some (PV.int (lo + i)) else none) = _
    by_cases hi : i < m
    · rw [if_pos hi]; simp [hi]
    · rw [if_neg hi]; simp [hi]
  · have hi2 : i < m := by have := (List.getElem?_eq_some_iff.mp hv).1; rwa [hl] at this
    have e : v = .int (lo + (i : Nat)) := by
      simp [hi2] at hv
      exact hv.symm
    rw [e]
    exact step i acc h hi2 hi
end
end MP

set_option Elab.async false
set_option linter.all false
set_option maxRecDepth 100000
set_option maxHeartbeats 4000000
/-! MPx: the same, construct by construct. -/
namespace MP
open PySem L2
section
variable {α β : Type} {G : Glob} {env : Env'} {h : PH} {Q : PV → PH → Prop} {Qb : Bool → PH → Prop} {Ql : List PV → PH → Prop} {E : Str → PH → Prop} {D : PD}
/-- what a name's slot holds -/
def slot (env : Env') (i : Nat) : Option PV := env.getD i none
@[simp] theorem x_slot {i : Nat} : wp (evalE G (.slot i) env) h Q E ↔ ∃ v, slot env i = some v ∧ Q v h := by unfold evalE; exact wp_opt
@[simp] theorem x_con {c : Con} : wp (evalE G (.con c) env) h Q E ↔ Q c.pv h := by unfold evalE; exact Iff.rfl
@[simp] theorem x_gl {x : Str} : wp (evalE G (.gl x) env) h Q E ↔ ∃ v, G.const x = some v ∧ Q v h := by unfold evalE; exact wp_opt
@[simp] theorem x_tup {es : List MP.E} : wp (evalE G (.tup es) env) h Q E ↔ wp (evalEs G es env) h (fun vs h' => vs.length ≤ sizeLine ∧ Q (.tup vs) h') E := by
  unfold evalE; rw [wp_bind']; simp only [wp_iteM, wp_pure]
@[simp] theorem x_lst {es : List MP.E} : wp (evalE G (.lst es) env) h Q E ↔ wp (evalEs G es env) h (fun vs h' => vs.length ≤ sizeLine ∧ Q (.obj h'.length) (h' ++ [.lst .own vs])) E := by
  unfold evalE; rw [wp_bind']; simp only [wp_iteM, wp_newO]
@[simp] theorem x_bin {o : BOp} {a b : MP.E} : wp (evalE G (.bin o a b) env) h Q E ↔ wp (evalE G a env) h (fun x h1 => wp (evalE G b env) h1 (fun y h2 => wp (binM o x y) h2 Q E) E) E := by
  conv => lhs; unfold evalE
  simp only [wp_bind']
@[simp] theorem x_cmp {o : COp} {a b : MP.E} : wp (evalE G (.cmp o a b) env) h Q E ↔ wp (evalE G a env) h (fun x h1 => wp (evalE G b env) h1 (fun y h2 => wp (cmpM o x y) h2 Q E) E) E := by
  conv => lhs; unfold evalE
  simp only [wp_bind']
@[simp] theorem x_neg {a : MP.E} : wp (evalE G (.neg a) env) h Q E ↔ wp (evalE G a env) h (fun x h1 => ∃ i, x = .int i ∧ Q (.int (-i)) h1) E := by
  conv => lhs; unfold evalE
  rw [wp_bind']
  refine ⟨fun w => wp_mono w (fun x h1 z => ?_) fun _ _ z => z, fun w => wp_mono w (fun x h1 z => ?_) fun _ _ z => z⟩
  · cases x <;> first | exact ⟨_, rfl, z⟩ | exact z.elim
  · obtain ⟨i, rfl, z⟩ := z
    exact z
@[simp] theorem x_chain {o o' : COp} {a b c : MP.E} : wp (evalE G (.chain o o' a b c) env) h Q E ↔ wp (evalE G a env) h (fun x h1 => wp (evalE G b env) h1 (fun y h2 => wp (cmpM o x y) h2 (fun z h3 => ∃ t, z = .bl t ∧ if t = true then wp (evalE G c env) h3 (fun w h4 => wp (cmpM o' y w) h4 Q E) E else Q (.bl false) h3) E) E) E := by
  conv => lhs; unfold evalE
  simp only [wp_bind']
  refine iff_of_eq (congrArg (fun f => wp _ h f E) (funext fun x => funext fun h1 => congrArg (fun f => wp _ h1 f E) (funext fun y => funext fun h2 => congrArg (fun f => wp _ h2 f E) (funext fun z => funext fun h3 => propext ⟨fun w => ?_, fun w => ?_⟩))))
  · cases z with
    | bl t =>
      cases t with
      | true => exact ⟨_, rfl, by simpa [wp_bind'] using w⟩
      | false => exact ⟨_, rfl, by rw [if_neg (by decide)]; exact w⟩
    | _ => exact w.elim
  · obtain ⟨t, rfl, w⟩ := w
    cases t with
    | true => simpa [wp_bind'] using w
    | false => rw [if_neg (by decide)] at w; exact w
@[simp] theorem x_not {a : MP.E} : wp (evalE G (.not_ a) env) h Q E ↔ wp (evalE G a env) h (fun x h1 => ∃ b, truthP h1 x = some b ∧ Q (.bl (!b)) h1) E := by
  conv => lhs; unfold evalE
  simp only [wp_bind', truthM, wp_read, wp_pure]
@[simp] theorem x_ife {c a b : MP.E} : wp (evalE G (.ife c a b) env) h Q E ↔ wp (evalT G c env) h (fun t h1 => if t = true then wp (evalE G a env) h1 Q E else wp (evalE G b env) h1 Q E) E := by
  conv => lhs; unfold evalE
  rw [wp_bind']
  refine iff_of_eq (congrArg (fun f => wp _ h f E) (funext fun t => funext fun h1 => ?_))
  cases t <;> rfl
@[simp] theorem x_bi {f : BI} {es : List MP.E} : wp (evalE G (.bi f es) env) h Q E ↔ wp (evalEs G es env) h (fun vs h1 => wp (biM f vs) h1 Q E) E := by
  conv => lhs; unfold evalE
  simp only [wp_bind']
@[simp] theorem x_isi {a : MP.E} {t : PTy} : wp (evalE G (.isi a t) env) h Q E ↔ wp (evalE G a env) h (fun x h1 => ∃ c, tyP h1 x = some c ∧ Q (.bl (c.sub t)) h1) E := by
  conv => lhs; unfold evalE
  simp only [wp_bind', wp_read, wp_pure]
@[simp] theorem x_isi2 {a : MP.E} {ts : List PTy} : wp (evalE G (.isi2 a ts) env) h Q E ↔ wp (evalE G a env) h (fun x h1 => ∃ c, tyP h1 x = some c ∧ Q (.bl (ts.any fun t => c.sub t)) h1) E := by
  conv => lhs; unfold evalE
  simp only [wp_bind', wp_read, wp_pure]
@[simp] theorem x_cl {x : Str} {es : List MP.E} : wp (evalE G (.cl x es) env) h Q E ↔ wp (evalEs G es env) h (fun vs h1 => wp (G.call x vs) h1 Q E) E := by
  conv => lhs; unfold evalE
  simp only [wp_bind']
@[simp] theorem x_fnv {x : Str} : wp (evalE G (.fnv x) env) h Q E ↔ Q (.fn x) h := by unfold evalE; exact Iff.rfl
@[simp] theorem x_clv {i : Nat} {es : List MP.E} : wp (evalE G (.clv i es) env) h Q E ↔ ∃ f, slot env i = some f ∧ ∃ y, fnP G.known f = some y ∧ wp (evalEs G es env) h (fun vs h1 => wp (G.call y vs) h1 Q E) E := by
  conv => lhs; unfold evalE
  simp only [wp_bind', wp_opt, slot]
@[simp] theorem x_dct0 {es : List MP.E} : wp (evalE G (.dct [] es) env) h Q E ↔ Q (.obj h.length) (h ++ [.dK []]) := by unfold evalE; exact Iff.rfl
theorem x_dct {q : L2.Key} {ks : List L2.Key} {es : List MP.E} : wp (evalE G (.dct (q :: ks) es) env) h Q E ↔ wp (evalEs G es env) (h ++ [.dK []]) (fun vs h1 => h1[h.length]? = some (.dK []) ∧ Q (.obj h.length) (h1.set h.length (.dK ((q :: ks).zip vs)))) E := by
  have e : evalE G (.dct (q :: ks) es) env = M.bind (newO (.dK [])) fun d => M.bind (evalEs G es env) fun vs => putD d ((q :: ks).zip vs) := by
    conv => lhs; unfold evalE
    rfl
  rw [e, wp_bind, wp_newO, wp_bind]
  refine iff_of_eq (congrArg (fun f => wp _ _ f E) (funext fun vs => funext fun h1 => ?_))
  show wp (M.bind (readM _) _) h1 Q E = _
  rw [wp_bind, wp_read]
  refine propext ⟨fun ⟨u, e1, w⟩ => ⟨?_, w⟩, fun ⟨e1, w⟩ => ⟨(), ?_, w⟩⟩
  · split at e1
    · assumption
    · cases e1
  · rw [e1]
@[simp] theorem x_sub {a b : MP.E} : wp (evalE G (.sub a b) env) h Q E ↔ wp (evalE G a env) h (fun x h1 => wp (evalE G b env) h1 (fun y h2 => wp (ixM x y) h2 Q E) E) E := by
  conv => lhs; unfold evalE
  simp only [wp_bind']
@[simp] theorem x_slc {a lo hi : MP.E} : wp (evalE G (.slc a lo hi) env) h Q E ↔ wp (evalE G a env) h (fun x h1 => wp (partM lo (evalE G lo env)) h1 (fun l h2 => wp (partM hi (evalE G hi env)) h2 (fun u h3 => wp (slcM x l u) h3 Q E) E) E) E := by
  conv => lhs; unfold evalE
  simp only [wp_bind']
@[simp] theorem x_mth {m : MK} {o : MP.E} {es : List MP.E} : wp (evalE G (.mth m o es) env) h Q E ↔ wp (evalE G o env) h (fun x h1 => (∃ xs, lstP h1 x = some xs) ∧ wp (evalEs G es env) h1 (fun vs h2 => wp (mthM m x vs) h2 Q E) E) E := by
  conv => lhs; unfold evalE
  simp only [wp_bind', wp_read]
  refine iff_of_eq (congrArg (fun f => wp _ h f E) (funext fun x => funext fun h1 => propext ⟨fun ⟨u, e, w⟩ => ⟨?_, w⟩, fun ⟨⟨xs, e⟩, w⟩ => ⟨(), ?_, w⟩⟩))
  · unfold rcv at e
    cases q : lstP h1 x with
    | none => rw [q] at e; cases e
    | some xs => exact ⟨xs, rfl⟩
  · unfold rcv
    rw [e]
    rfl
def lcB (G : Glob) (tg : Tg) (own : List Nat) (ifs : List MP.E) (elt : MP.E) (env : Env') (v : PV) : M (Option PV) := do
      let h ← M.get
      let env' ← M.opt (putT h tg v (wipeE env own))
      let b ← evalIfs G ifs env'
      if b then (do
        let y ← evalE G elt env'
        pure (some y)) else pure none
theorem x_lc {elt : MP.E} {tg : Tg} {k : IK} {src ifs : List MP.E} {own : List Nat} : wp (evalE G (.lc elt tg k src ifs own) env) h Q E ↔
    wp (evalEs G src env) h (fun vs h1 => wp (itrM k vs) h1 (fun it h2 => wp (lcGo it (lcB G tg own ifs elt env) (it.size h2) 0 []) h2 (fun ys h3 => Q (.obj h3.length) (h3 ++ [.lst .own ys])) fun _ _ => False) E) E := by
  conv => lhs; unfold evalE
  simp only [wp_bind', wp_bind, wp_get, wp_noexc, wp_newO]
  exact Iff.rfl
@[simp] theorem x_lcB0 {tg : Tg} {own : List Nat} {elt : MP.E} {v : PV} {Q : Option PV → PH → Prop} : wp (lcB G tg own [] elt env v) h Q E ↔ ∃ e1, putT h tg v (wipeE env own) = some e1 ∧ wp (evalE G elt e1) h (fun y h1 => Q (some y) h1) E := by
  unfold lcB
  simp only [wp_bind', wp_get, wp_opt]
  refine ⟨fun ⟨e1, h1, w⟩ => ⟨e1, h1, ?_⟩, fun ⟨e1, h1, w⟩ => ⟨e1, h1, ?_⟩⟩
  · unfold evalIfs at w
    simpa [wp_pure, wp_bind'] using w
  · unfold evalIfs
    simpa [wp_pure, wp_bind'] using w
@[simp] theorem x_lcB1 {tg : Tg} {own : List Nat} {c elt : MP.E} {v : PV} {Q : Option PV → PH → Prop} : wp (lcB G tg own [c] elt env v) h Q E ↔ ∃ e1, putT h tg v (wipeE env own) = some e1 ∧ wp (evalT G c e1) h (fun b h1 => if b = true then wp (evalE G elt e1) h1 (fun y h2 => Q (some y) h2) E else Q none h1) E := by
  unfold lcB
  simp only [wp_bind', wp_get, wp_opt]
  refine exists_congr fun e1 => and_congr Iff.rfl ?_
  have e2 : evalIfs G [c] e1 = M.bind (evalT G c e1) fun b => if b then evalIfs G [] e1 else pure false := by
    conv => lhs; unfold evalIfs
    rfl
  rw [e2, wp_bind]
  refine iff_of_eq (congrArg (fun f => wp _ h f E) (funext fun b => funext fun h1 => ?_))
  cases b with
  | false => rfl
  | true =>
    have e3 : evalIfs G [] e1 = M.ret true := by unfold evalIfs; rfl
    simp only [e3, if_true, wp_ret, wp_bind', wp_pure]
@[simp] theorem x_nil : wp (evalEs G [] env) h Ql E ↔ Ql [] h := by unfold evalEs; exact Iff.rfl
@[simp] theorem x_cons {e : MP.E} {es : List MP.E} : wp (evalEs G (e :: es) env) h Ql E ↔ wp (evalE G e env) h (fun v h1 => wp (evalEs G es env) h1 (fun vs h2 => Ql (v :: vs) h2) E) E := by
  conv => lhs; unfold evalEs
  simp only [wp_bind', wp_pure]
@[simp] theorem x_and {es : List MP.E} : wp (evalE G (.and_ es) env) h Q E ↔ wp (evalAnd G es env) h Q E := by conv => lhs; unfold evalE
@[simp] theorem x_or {es : List MP.E} : wp (evalE G (.or_ es) env) h Q E ↔ wp (evalOr G es env) h Q E := by conv => lhs; unfold evalE
@[simp] theorem x_and1 {e : MP.E} : wp (evalAnd G [e] env) h Q E ↔ wp (evalE G e env) h Q E := by
  conv => lhs; unfold evalAnd
  simp only [wp_bind', wp_pure]
@[simp] theorem x_and2 {e e2 : MP.E} {es : List MP.E} : wp (evalAnd G (e :: e2 :: es) env) h Q E ↔ wp (evalE G e env) h (fun v h1 => ∃ b, truthP h1 v = some b ∧ if b = true then wp (evalAnd G (e2 :: es) env) h1 Q E else Q v h1) E := by
  conv => lhs; unfold evalAnd
  simp only [wp_bind', truthM, wp_read]
  refine iff_of_eq (congrArg (fun f => wp _ h f E) (funext fun x => funext fun h1 => propext (exists_congr fun b => and_congr Iff.rfl ?_)))
  cases b <;> exact Iff.rfl
@[simp] theorem x_or1 {e : MP.E} : wp (evalOr G [e] env) h Q E ↔ wp (evalE G e env) h Q E := by
  conv => lhs; unfold evalOr
  simp only [wp_bind', wp_pure]
@[simp] theorem x_or2 {e e2 : MP.E} {es : List MP.E} : wp (evalOr G (e :: e2 :: es) env) h Q E ↔ wp (evalE G e env) h (fun v h1 => ∃ b, truthP h1 v = some b ∧ if b = true then Q v h1 else wp (evalOr G (e2 :: es) env) h1 Q E) E := by
  conv => lhs; unfold evalOr
  simp only [wp_bind', truthM, wp_read]
  refine iff_of_eq (congrArg (fun f => wp _ h f E) (funext fun x => funext fun h1 => propext (exists_congr fun b => and_congr Iff.rfl ?_)))
  cases b <;> exact Iff.rfl
/-! ### tests -/
@[simp] theorem t_not {a : MP.E} : wp (evalT G (.not_ a) env) h Qb E ↔ wp (evalT G a env) h (fun b h1 => Qb (!b) h1) E := by
  conv => lhs; unfold evalT
  simp only [wp_bind', wp_pure]
@[simp] theorem t_and {es : List MP.E} : wp (evalT G (.and_ es) env) h Qb E ↔ wp (tAnd G es env) h Qb E := by conv => lhs; unfold evalT
@[simp] theorem t_or {es : List MP.E} : wp (evalT G (.or_ es) env) h Qb E ↔ wp (tOr G es env) h Qb E := by conv => lhs; unfold evalT
@[simp] theorem t_and0 : wp (tAnd G [] env) h Qb E ↔ Qb true h := by unfold tAnd; exact Iff.rfl
@[simp] theorem t_or0 : wp (tOr G [] env) h Qb E ↔ Qb false h := by unfold tOr; exact Iff.rfl
@[simp] theorem t_andC {e : MP.E} {es : List MP.E} : wp (tAnd G (e :: es) env) h Qb E ↔ wp (evalT G e env) h (fun b h1 => if b = true then wp (tAnd G es env) h1 Qb E else Qb false h1) E := by
  conv => lhs; unfold tAnd
  rw [wp_bind']
  refine iff_of_eq (congrArg (fun f => wp _ h f E) (funext fun x => funext fun h1 => ?_))
  cases x <;> rfl
@[simp] theorem t_orC {e : MP.E} {es : List MP.E} : wp (tOr G (e :: es) env) h Qb E ↔ wp (evalT G e env) h (fun b h1 => if b = true then Qb true h1 else wp (tOr G es env) h1 Qb E) E := by
  conv => lhs; unfold tOr
  rw [wp_bind']
  refine iff_of_eq (congrArg (fun f => wp _ h f E) (funext fun x => funext fun h1 => ?_))
  cases x <;> rfl
@[simp] theorem t_slot {i : Nat} : wp (evalT G (.slot i) env) h Qb E ↔ ∃ v, slot env i = some v ∧ ∃ b, truthP h v = some b ∧ Qb b h := by
  conv => lhs; unfold evalT
  simp only [wp_bind', truthM, wp_read, wp_opt, slot]
@[simp] theorem t_cmp {o : COp} {a b : MP.E} : wp (evalT G (.cmp o a b) env) h Qb E ↔ wp (evalE G a env) h (fun x h1 => wp (evalE G b env) h1 (fun y h2 => wp (cmpM o x y) h2 (fun z h3 => ∃ t, z = .bl t ∧ Qb t h3) E) E) E := by
  conv => lhs; unfold evalT
  simp only [wp_bind', wp_opt]
  refine iff_of_eq (congrArg (fun f => wp _ h f E) (funext fun x => funext fun h1 => congrArg (fun f => wp _ h1 f E) (funext fun y => funext fun h2 => congrArg (fun f => wp _ h2 f E) (funext fun z => funext fun h3 => propext ⟨fun ⟨t, e, w⟩ => ?_, fun ⟨t, e, w⟩ => ?_⟩))))
  · cases z <;> first | (cases e; exact ⟨_, rfl, w⟩) | cases e
  · subst e; exact ⟨t, rfl, w⟩
@[simp] theorem t_chain {o o' : COp} {a b c : MP.E} : wp (evalT G (.chain o o' a b c) env) h Qb E ↔ wp (evalE G a env) h (fun x h1 => wp (evalE G b env) h1 (fun y h2 => wp (cmpM o x y) h2 (fun z h3 => ∃ t, z = .bl t ∧ if t = true then wp (evalE G c env) h3 (fun w h4 => wp (cmpM o' y w) h4 (fun z h5 => ∃ t, z = .bl t ∧ Qb t h5) E) E else Qb false h3) E) E) E := by
  conv => lhs; unfold evalT
  simp only [wp_bind']
  refine iff_of_eq (congrArg (fun f => wp _ h f E) (funext fun x => funext fun h1 => congrArg (fun f => wp _ h1 f E) (funext fun y => funext fun h2 => congrArg (fun f => wp _ h2 f E) (funext fun z => funext fun h3 => propext ⟨fun w => ?_, fun w => ?_⟩))))
  · cases z with
    | bl t =>
      cases t with
      | false => exact ⟨_, rfl, by simpa [wp_pure] using w⟩
      | true =>
        refine ⟨_, rfl, ?_⟩
        simp only [wp_bind', wp_opt] at w
        rw [if_pos rfl]
        refine wp_mono w (fun x1 h4 z => wp_mono z (fun y1 h5 ⟨t, e, q⟩ => ?_) fun _ _ z => z) fun _ _ z => z
        cases y1 <;> first | (cases e; exact ⟨_, rfl, q⟩) | cases e
    | _ => exact w.elim
  · obtain ⟨t, rfl, w⟩ := w
    cases t with
    | false => simpa [wp_pure] using w
    | true =>
      simp only [wp_bind', wp_opt]
      rw [if_pos rfl] at w
      refine wp_mono w (fun x1 h4 z => wp_mono z (fun y1 h5 ⟨t, e, q⟩ => ?_) fun _ _ z => z) fun _ _ z => z
      subst e
      exact ⟨t, rfl, q⟩
@[simp] theorem t_bi {f : BI} {es : List MP.E} : wp (evalT G (.bi f es) env) h Qb E ↔ wp (evalEs G es env) h (fun vs h1 => wp (biM f vs) h1 (fun v h2 => ∃ b, truthP h2 v = some b ∧ Qb b h2) E) E := by
  conv => lhs; unfold evalT
  simp only [wp_bind', truthM, wp_read]
@[simp] theorem t_isi {a : MP.E} {t : PTy} : wp (evalT G (.isi a t) env) h Qb E ↔ wp (evalE G a env) h (fun x h1 => ∃ c, tyP h1 x = some c ∧ Qb (c.sub t) h1) E := by
  conv => lhs; unfold evalT
  simp only [wp_bind', wp_read, truthM]
  simp [truthP]
@[simp] theorem t_isi2 {a : MP.E} {ts : List PTy} : wp (evalT G (.isi2 a ts) env) h Qb E ↔ wp (evalE G a env) h (fun x h1 => ∃ c, tyP h1 x = some c ∧ Qb (ts.any fun t => c.sub t) h1) E := by
  conv => lhs; unfold evalT
  simp only [wp_bind', wp_read, truthM]
  simp [truthP]
@[simp] theorem t_cl {x : Str} {es : List MP.E} : wp (evalT G (.cl x es) env) h Qb E ↔ wp (evalEs G es env) h (fun vs h1 => wp (G.call x vs) h1 (fun v h2 => ∃ b, truthP h2 v = some b ∧ Qb b h2) E) E := by
  conv => lhs; unfold evalT
  simp only [wp_bind', truthM, wp_read]
@[simp] theorem t_clv {i : Nat} {es : List MP.E} : wp (evalT G (.clv i es) env) h Qb E ↔ ∃ f, slot env i = some f ∧ ∃ y, fnP G.known f = some y ∧ wp (evalEs G es env) h (fun vs h1 => wp (G.call y vs) h1 (fun v h2 => ∃ b, truthP h2 v = some b ∧ Qb b h2) E) E := by
  conv => lhs; unfold evalT
  simp only [wp_bind', truthM, wp_read, wp_opt, slot]
@[simp] theorem t_sub {a b : MP.E} : wp (evalT G (.sub a b) env) h Qb E ↔ wp (evalE G a env) h (fun x h1 => wp (evalE G b env) h1 (fun y h2 => wp (ixM x y) h2 (fun v h3 => ∃ b, truthP h3 v = some b ∧ Qb b h3) E) E) E := by
  conv => lhs; unfold evalT
  simp only [wp_bind', truthM, wp_read]
/-! ### statements -/
@[simp] theorem s_nil : wpS (execSs G [] env h) D ↔ D.nx env h := wpS_nil
@[simp] theorem s_cons {s : S} {ss : List S} : wpS (execSs G (s :: ss) env h) D ↔ wpS (execS G s env h) { nx := fun e h' => wpS (execSs G ss e h') D, rt := D.rt, bk := D.bk, ct := D.ct, ex := D.ex } := wpS_cons
@[simp] theorem s_expr {e : MP.E} : wpS (execS G (.expr e) env h) D ↔ wp (evalE G e env) h (fun _ h' => D.nx env h') (fun c h' => D.ex c env h') := by
  conv => lhs; unfold execS
  rw [wpS_of]
  exact Iff.rfl
@[simp] theorem s_ret {e : MP.E} : wpS (execS G (.ret e) env h) D ↔ wp (evalE G e env) h D.rt (fun c h' => D.ex c env h') := by
  conv => lhs; unfold execS
  rw [wpS_of]
  exact Iff.rfl
@[simp] theorem s_retN : wpS (execS G .retN env h) D ↔ D.rt .non h := by unfold execS; exact Iff.rfl
@[simp] theorem s_pass : wpS (execS G .pass env h) D ↔ D.nx env h := by unfold execS; exact Iff.rfl
@[simp] theorem s_brk : wpS (execS G .brk env h) D ↔ D.bk env h := by unfold execS; exact Iff.rfl
@[simp] theorem s_cont : wpS (execS G .cont env h) D ↔ D.ct env h := by unfold execS; exact Iff.rfl
@[simp] theorem s_asg {i : Nat} {e : MP.E} : wpS (execS G (.asg i e) env h) D ↔ wp (evalE G e env) h (fun v h' => D.nx (env.set i (some v)) h') (fun c h' => D.ex c env h') := by
  conv => lhs; unfold execS
  rw [wpS_of]
  exact Iff.rfl
@[simp] theorem s_asgT {ts : List Tg} {e : MP.E} : wpS (execS G (.asgT ts e) env h) D ↔ wp (evalE G e env) h (fun v h' => ∃ e1, putT h' (.tp ts) v env = some e1 ∧ D.nx e1 h') (fun c h' => D.ex c env h') := by
  conv => lhs; unfold execS
  rw [wpS_of]
  refine iff_of_eq (congrArg (fun f => wp _ h f _) (funext fun v => funext fun h1 => ?_))
  cases putT h1 (.tp ts) v env with
  | none => exact propext ⟨fun z => z.elim, fun ⟨_, e, _⟩ => by cases e⟩
  | some e1 => exact propext ⟨fun z => ⟨e1, rfl, z⟩, fun ⟨_, e, z⟩ => by cases e; exact z⟩
@[simp] theorem s_par {i j : Nat} {a b : MP.E} : wpS (execS G (.par i j a b) env h) D ↔ wp (evalE G a env) h (fun v h1 => wp (evalE G b env) h1 (fun w h2 => D.nx ((env.set i (some v)).set j (some w)) h2) (fun c h' => D.ex c env h')) (fun c h' => D.ex c env h') := by
  conv => lhs; unfold execS
  simp only [wpS_of]
  exact Iff.rfl
@[simp] theorem s_setIx {o i e : MP.E} : wpS (execS G (.setIx o i e) env h) D ↔ wp (evalE G e env) h (fun v h1 => wp (evalE G o env) h1 (fun x h2 => wp (evalE G i env) h2 (fun y h3 => wp (setIxM x y v) h3 (fun _ h4 => D.nx env h4) (fun c h' => D.ex c env h')) (fun c h' => D.ex c env h')) (fun c h' => D.ex c env h')) (fun c h' => D.ex c env h') := by
  conv => lhs; unfold execS
  simp only [wpS_of]
  exact Iff.rfl
@[simp] theorem s_aug {i : Nat} {o : BOp} {e : MP.E} : wpS (execS G (.aug i o e) env h) D ↔ ∃ x, slot env i = some x ∧ wp (evalE G e env) h (fun y h1 => wp (augM o x y) h1 (fun z h2 => D.nx (env.set i (some z)) h2) (fun c h' => D.ex c env h')) (fun c h' => D.ex c env h') := by
  conv => lhs; unfold execS
  unfold slot
  cases env.getD i none with
  | none => exact ⟨fun z => z.elim, fun ⟨_, e, _⟩ => by cases e⟩
  | some x =>
    simp only [wpS_of]
    exact ⟨fun z => ⟨x, rfl, z⟩, fun ⟨_, e, z⟩ => by cases e; exact z⟩
@[simp] theorem s_if {c : MP.E} {a b : List S} : wpS (execS G (.ifS c a b) env h) D ↔ wp (evalT G c env) h (fun t h1 => if t = true then wpS (execSs G a env h1) D else wpS (execSs G b env h1) D) (fun c h' => D.ex c env h') := by
  conv => lhs; unfold execS
  rw [wpS_of]
  refine iff_of_eq (congrArg (fun f => wp _ h f _) (funext fun t => funext fun h1 => ?_))
  cases t <;> rfl
theorem s_whl {c : MP.E} {b : List S} : wpS (execS G (.whl c b) env h) D ↔ wpS (whlGo (evalT G c) (execSs G b) G.wf env h) D := by conv => lhs; unfold execS
theorem s_for {tg : Tg} {k : IK} {src : List MP.E} {b : List S} : wpS (execS G (.for_ tg k src b) env h) D ↔ wp (evalEs G src env) h (fun vs h1 => wp (itrM k vs) h1 (fun it h2 => wpS (forGo it (fun h => putT h tg) (execSs G b) (it.size h2) 0 env h2) D) (fun c h' => D.ex c env h')) (fun c h' => D.ex c env h') := by
  conv => lhs; unfold execS
  rw [wpS_of, wp_bind]
@[simp] theorem s_raise {x : Str} : wpS (execS G (.raise x) env h) D ↔ D.ex x env h := by unfold execS; exact Iff.rfl

/-! ### primitives -/
@[simp] theorem p_ixT {xs : List PV} {i : Int} : wp (ixM (.tup xs) (.int i)) h Q E ↔ ∃ v, atI xs i = some v ∧ Q v h := by
  unfold ixM; simp only [wp_bind', wp_read, wp_opt, itemsP]; simp
@[simp] theorem p_ixO {j : Nat} {i : Int} : wp (ixM (.obj j) (.int i)) h Q E ↔ ∃ xs, lstP h (.obj j) = some xs ∧ ∃ v, atI xs i = some v ∧ Q v h := by
  unfold ixM; simp only [wp_bind', wp_read, wp_opt]; exact Iff.rfl
@[simp] theorem p_addI {i j : Int} : wp (binM .add (.int i) (.int j)) h Q E ↔ Q (.int (i + j)) h := Iff.rfl
@[simp] theorem p_subI {i j : Int} : wp (binM .sub (.int i) (.int j)) h Q E ↔ Q (.int (i - j)) h := Iff.rfl
@[simp] theorem p_mulI {i j : Int} : wp (binM .mul (.int i) (.int j)) h Q E ↔ mulOk i j = true ∧ Q (.int (i * j)) h := by
  show wp (if mulOk i j = true then _ else M.stop) h Q E ↔ _
  rw [wp_iteM]; exact Iff.rfl
@[simp] theorem p_modI {i j : Int} : wp (binM .mod (.int i) (.int j)) h Q E ↔ 0 < j ∧ Q (.int (i % j)) h := by
  show wp (if 0 < j then _ else M.stop) h Q E ↔ _
  rw [wp_iteM]; exact Iff.rfl
theorem p_fdivI {i j : Int} (h1 : 0 < j ∧ j.natAbs.log2 < 9000) : wp (binM .fdiv (.int i) (.int j)) h Q E ↔ Q (.int (i / j)) h := by
  show wp (if 0 < j ∧ j.natAbs.log2 < 9000 then _ else _) h Q E ↔ _
  rw [if_pos h1]; exact Iff.rfl
theorem log_small {j : Int} (h1 : 0 < j) (h2 : j < 4611686018427387904) : j.natAbs.log2 < 9000 := by
  have h3 : j.natAbs < 2 ^ 62 := by omega
  have h4 : j.natAbs ≠ 0 := by omega
  exact Nat.lt_trans ((Nat.log2_lt h4).mpr h3) (by decide)
@[simp] theorem p_fdivS {i j : Int} (h1 : 0 < j) (h2 : j < 4611686018427387904) : wp (binM .fdiv (.int i) (.int j)) h Q E ↔ Q (.int (i / j)) h := p_fdivI ⟨h1, log_small h1 h2⟩
@[simp] theorem p_powI {i j : Int} : wp (binM .pow (.int i) (.int j)) h Q E ↔ (0 ≤ j ∧ j ≤ 1000000 ∧ i.natAbs < 2 ^ 64) ∧ Q (.int (i ^ j.toNat)) h := by
  show wp (if 0 ≤ j ∧ j ≤ 1000000 ∧ i.natAbs < 2 ^ 64 then _ else M.stop) h Q E ↔ _
  rw [wp_iteM]; exact Iff.rfl
@[simp] theorem p_addT {xs ys : List PV} : wp (binM .add (.tup xs) (.tup ys)) h Q E ↔ xs.length + ys.length ≤ sizeLine ∧ Q (.tup (xs ++ ys)) h := by
  show wp (if xs.length + ys.length ≤ sizeLine then _ else M.stop) h Q E ↔ _
  rw [wp_iteM]; exact Iff.rfl
@[simp] theorem p_addO {i j : Nat} : wp (binM .add (.obj i) (.obj j)) h Q E ↔ ∃ xs, ownL h i = some xs ∧ ∃ ys, ownL h j = some ys ∧ xs.length + ys.length ≤ sizeLine ∧ Q (.obj h.length) (h ++ [.lst .own (xs ++ ys)]) := by
  unfold binM; simp only [wp_bind', wp_read, wp_iteM, wp_newO]
@[simp] theorem p_mulO {i : Nat} {k : Int} : wp (binM .mul (.obj i) (.int k)) h Q E ↔ ∃ xs, ownL h i = some xs ∧ (-(2 ^ 63) ≤ k ∧ k < 2 ^ 63 ∧ xs.length * k.toNat ≤ sizeLine) ∧ Q (.obj h.length) (h ++ [.lst .own (List.replicate k.toNat xs).flatten]) := by
  unfold binM; simp only [wp_bind', wp_read, wp_iteM, wp_newO]
@[simp] theorem p_mulT {xs : List PV} {k : Int} : wp (binM .mul (.tup xs) (.int k)) h Q E ↔ (-1000000 ≤ k ∧ k ≤ 1000 ∧ xs.length ≤ 1000) ∧ Q (.tup (List.replicate k.toNat xs).flatten) h := by
  show wp (if -1000000 ≤ k ∧ k ≤ 1000 ∧ xs.length ≤ 1000 then _ else M.stop) h Q E ↔ _
  rw [wp_iteM]; exact Iff.rfl
@[simp] theorem p_lt {i j : Int} : wp (cmpM .lt (.int i) (.int j)) h Q E ↔ Q (.bl (decide (i < j))) h := Iff.rfl
@[simp] theorem p_le {i j : Int} : wp (cmpM .le (.int i) (.int j)) h Q E ↔ Q (.bl (decide (i ≤ j))) h := Iff.rfl
@[simp] theorem p_gt {i j : Int} : wp (cmpM .gt (.int i) (.int j)) h Q E ↔ Q (.bl (decide (j < i))) h := Iff.rfl
@[simp] theorem p_ge {i j : Int} : wp (cmpM .ge (.int i) (.int j)) h Q E ↔ Q (.bl (decide (j ≤ i))) h := Iff.rfl
@[simp] theorem p_eq {x y : PV} : wp (cmpM .eq x y) h Q E ↔ ∃ b, eqP h x y = some b ∧ Q (.bl b) h := by
  show wp (readM _) h Q E ↔ _
  rw [wp_read]
  refine ⟨fun ⟨v, e, q⟩ => ?_, fun ⟨b, e, q⟩ => ⟨_, by rw [e]; rfl, q⟩⟩
  cases z : eqP h x y with
  | none => rw [z] at e; cases e
  | some b => rw [z] at e; cases e; exact ⟨b, rfl, q⟩
@[simp] theorem p_ne {x y : PV} : wp (cmpM .ne x y) h Q E ↔ ∃ b, eqP h x y = some b ∧ Q (.bl (!b)) h := by
  show wp (readM _) h Q E ↔ _
  rw [wp_read]
  refine ⟨fun ⟨v, e, q⟩ => ?_, fun ⟨b, e, q⟩ => ⟨_, by rw [e]; rfl, q⟩⟩
  cases z : eqP h x y with
  | none => rw [z] at e; cases e
  | some b => rw [z] at e; cases e; exact ⟨b, rfl, q⟩
@[simp] theorem p_in {x y : PV} : wp (cmpM .in_ x y) h Q E ↔ ∃ b, inP h x y = some b ∧ Q (.bl b) h := by
  show wp (readM _) h Q E ↔ _
  rw [wp_read]
  refine ⟨fun ⟨v, e, q⟩ => ?_, fun ⟨b, e, q⟩ => ⟨_, by rw [e]; rfl, q⟩⟩
  cases z : inP h x y with
  | none => rw [z] at e; cases e
  | some b => rw [z] at e; cases e; exact ⟨b, rfl, q⟩
@[simp] theorem p_isN {x : PV} : wp (cmpM .is x .non) h Q E ↔ Q (.bl (match x with | .non => true | _ => false)) h := Iff.rfl
@[simp] theorem p_intI {i : Int} : wp (biM .int [.int i]) h Q E ↔ Q (.int i) h := Iff.rfl
@[simp] theorem p_intB {b : Bool} : wp (biM .int [.bl b]) h Q E ↔ Q (.int (if b then 1 else 0)) h := Iff.rfl
@[simp] theorem p_abs {i : Int} : wp (biM .abs [.int i]) h Q E ↔ Q (.int (if i < 0 then -i else i)) h := Iff.rfl
@[simp] theorem p_min {a b : Int} : wp (biM .min [.int a, .int b]) h Q E ↔ Q (.int (if b < a then b else a)) h := Iff.rfl
@[simp] theorem p_max {a b : Int} : wp (biM .max [.int a, .int b]) h Q E ↔ Q (.int (if b > a then b else a)) h := Iff.rfl
@[simp] theorem p_sorted {v : PV} : wp (biM .sorted [v]) h Q E ↔ ∃ ns, (lstP h v).bind intsP = some ns ∧ Q (.obj h.length) (h ++ [.lst .own ((sortI ns).map .int)]) := by
  show wp (readM _ >>= _) h Q E ↔ _
  rw [wp_bind', wp_read]; exact Iff.rfl
@[simp] theorem p_gcd {a b : Int} : wp (biM .gcd [.int a, .int b]) h Q E ↔ Q (.int ((Nat.gcd a.natAbs b.natAbs : Nat) : Int)) h := Iff.rfl
theorem p_len {v : PV} : wp (biM .len [v]) h Q E ↔ ∃ n, lenP h v = some n ∧ Q (.int (n : Nat)) h := by
  show wp (readM _) h Q E ↔ _
  rw [wp_read]
  cases lenP h v with
  | none => exact ⟨fun ⟨_, e, _⟩ => by (cases e), fun ⟨_, e, _⟩ => by cases e⟩
  | some n => exact ⟨fun ⟨_, e, q⟩ => by cases e; exact ⟨n, rfl, q⟩, fun ⟨_, e, q⟩ => by cases e; exact ⟨_, rfl, q⟩⟩
@[simp] theorem p_lenT {xs : List PV} : wp (biM .len [.tup xs]) h Q E ↔ Q (.int xs.length) h := by
  rw [p_len]
  exact ⟨fun ⟨n, e, q⟩ => by cases e; exact q, fun q => ⟨_, rfl, q⟩⟩
@[simp] theorem p_lenO {j : Nat} : wp (biM .len [.obj j]) h Q E ↔ ∃ xs, lstP h (.obj j) = some xs ∧ Q (.int xs.length) h := by
  rw [p_len]
  have e : lenP h (.obj j) = (lstP h (.obj j)).map List.length := rfl
  rw [e]
  cases lstP h (.obj j) with
  | none => exact ⟨fun ⟨_, e, _⟩ => by (cases e), fun ⟨_, e, _⟩ => by cases e⟩
  | some xs => exact ⟨fun ⟨_, e, q⟩ => by cases e; exact ⟨xs, rfl, q⟩, fun ⟨_, e, q⟩ => by cases e; exact ⟨_, rfl, q⟩⟩
@[simp] theorem p_tupleO {j : Nat} : wp (biM .tuple [.obj j]) h Q E ↔ ∃ xs, lstP h (.obj j) = some xs ∧ Q (.tup xs) h := by
  show wp (readM _ >>= _) h Q E ↔ _
  rw [wp_bind', wp_read]; exact Iff.rfl
@[simp] theorem p_tupleT {xs : List PV} : wp (biM .tuple [.tup xs]) h Q E ↔ Q (.tup xs) h := by
  show wp (readM _ >>= _) h Q E ↔ _
  rw [wp_bind', wp_read]
  exact ⟨fun ⟨ys, e, q⟩ => by cases e; exact q, fun q => ⟨xs, rfl, q⟩⟩
@[simp] theorem p_listT {xs : List PV} : wp (biM .list [.tup xs]) h Q E ↔ Q (.obj h.length) (h ++ [.lst .own xs]) := by
  show wp (readM _ >>= _) h Q E ↔ _
  rw [wp_bind', wp_read]
  exact ⟨fun ⟨ys, e, q⟩ => by cases e; exact q, fun q => ⟨xs, rfl, q⟩⟩
@[simp] theorem p_listO {j : Nat} : wp (biM .list [.obj j]) h Q E ↔ ∃ xs, lstP h (.obj j) = some xs ∧ Q (.obj h.length) (h ++ [.lst .own xs]) := by
  show wp (readM _ >>= _) h Q E ↔ _
  rw [wp_bind', wp_read]; exact Iff.rfl
@[simp] theorem p_all {v : PV} : wp (biM .all [v]) h Q E ↔ ∃ bs, (lstP h v).bind boolsP = some bs ∧ Q (.bl (bs.all id)) h := by
  show wp (readM _) h Q E ↔ _
  rw [wp_read]
  cases (lstP h v).bind boolsP with
  | none => exact ⟨fun ⟨_, e, _⟩ => by (cases e), fun ⟨_, e, _⟩ => by cases e⟩
  | some bs => exact ⟨fun ⟨_, e, q⟩ => by cases e; exact ⟨bs, rfl, q⟩, fun ⟨_, e, q⟩ => by cases e; exact ⟨_, rfl, q⟩⟩
@[simp] theorem p_sum {v : PV} : wp (biM .sum [v]) h Q E ↔ ∃ bs, (lstP h v).bind intsP = some bs ∧ Q (.int bs.sum) h := by
  show wp (readM _) h Q E ↔ _
  rw [wp_read]
  cases (lstP h v).bind intsP with
  | none => exact ⟨fun ⟨_, e, _⟩ => by (cases e), fun ⟨_, e, _⟩ => by cases e⟩
  | some bs => exact ⟨fun ⟨_, e, q⟩ => by cases e; exact ⟨bs, rfl, q⟩, fun ⟨_, e, q⟩ => by cases e; exact ⟨_, rfl, q⟩⟩
@[simp] theorem p_setIx {j : Nat} {k : Int} {v : PV} {Q : Unit → PH → Prop} : wp (setIxM (.obj j) (.int k) v) h Q E ↔ ∃ xs, ownL h j = some xs ∧ ∃ m, ixN xs.length k = some m ∧ Q () (h.set j (.lst .own (xs.set m v))) := by
  unfold setIxM; simp only [wp_bind', wp_read, wp_opt, wp_setO]
@[simp] theorem p_append {j : Nat} {v : PV} : wp (mthM .append (.obj j) [v]) h Q E ↔ ∃ xs, ownL h j = some xs ∧ xs.length < sizeLine ∧ Q .non (h.set j (.lst .own (xs ++ [v]))) := by
  unfold mthM; simp only [wp_bind', wp_bind, wp_read, wp_iteM, wp_setO, wp_pure]
@[simp] theorem p_index {j : Nat} {v : PV} : wp (mthM .index (.obj j) [v]) h Q E ↔ ∃ xs, lstP h (.obj j) = some xs ∧ ∃ m, idxP v xs = some m ∧ Q (.int (m : Nat)) h := by
  unfold mthM; simp only [wp_bind', wp_read, wp_opt, wp_pure]
@[simp] theorem p_slcT {xs : List PV} {lo hi : Option Int} : wp (slcM (.tup xs) lo hi) h Q E ↔ Q (.tup (cutP xs lo hi)) h := Iff.rfl
@[simp] theorem p_slcO {j : Nat} {lo hi : Option Int} : wp (slcM (.obj j) lo hi) h Q E ↔ ∃ xs, lstP h (.obj j) = some xs ∧ Q (.obj h.length) (h ++ [.lst .own (cutP xs lo hi)]) := by
  unfold slcM; simp only [wp_bind', wp_read, wp_newO]
@[simp] theorem p_part {e : MP.E} {m : M PV} {Q : Option Int → PH → Prop} : wp (partM e m) h Q E ↔ if e.isN = true then Q none h else wp m h (fun x h1 => ∃ i, intP x = some i ∧ Q (some i) h1) E := by
  unfold partM
  cases e.isN with
  | true => exact Iff.rfl
  | false => simp [wp_bind', wp_opt, wp_pure]
@[simp] theorem p_itT {xs : List PV} {Q : Itr → PH → Prop} : wp (itrM .val [.tup xs]) h Q E ↔ Q (.vals xs) h := Iff.rfl
@[simp] theorem p_itO {j : Nat} {Q : Itr → PH → Prop} : wp (itrM .val [.obj j]) h Q E ↔ (∃ xs, lstP h (.obj j) = some xs) ∧ Q (.lst j) h := by
  unfold itrM; simp only [wp_bind', wp_read, wp_pure]; exact ⟨fun ⟨a, b, c⟩ => ⟨⟨a, b⟩, c⟩, fun ⟨⟨a, b⟩, c⟩ => ⟨a, b, c⟩⟩
@[simp] theorem p_rng1 {i : Int} {Q : Itr → PH → Prop} : wp (itrM .range [.int i]) h Q E ↔ smallI i = true ∧ Q (.rng 0 i.toNat) h := by
  show wp (if smallI i = true then _ else M.stop) h Q E ↔ _
  rw [wp_iteM]; exact Iff.rfl
@[simp] theorem p_rng2 {i j : Int} {Q : Itr → PH → Prop} : wp (itrM .range [.int i, .int j]) h Q E ↔ (smallI i && smallI j) = true ∧ Q (.rng i (j - i).toNat) h := by
  show wp (if (smallI i && smallI j) = true then _ else M.stop) h Q E ↔ _
  rw [wp_iteM]; exact Iff.rfl
@[simp] theorem fn_nx {Q : PV → PH → Prop} {E : Str → PH → Prop} {e : Env'} {h : PH} : (PD.fn Q E).nx e h ↔ Q .non h := Iff.rfl
@[simp] theorem fn_rt {Q : PV → PH → Prop} {E : Str → PH → Prop} : (PD.fn Q E).rt = Q := rfl
@[simp] theorem fn_ex {Q : PV → PH → Prop} {E : Str → PH → Prop} {e : Env'} {h : PH} {c : Str} : (PD.fn Q E).ex c e h ↔ E c h := Iff.rfl
/-! ### the heap -/
@[simp] theorem lstP_own {h : PH} {i : Nat} {xs : List PV} (e : ownL h i = some xs) : lstP h (.obj i) = some xs := by
  unfold ownL at e
  unfold lstP
  split at e
  · rename_i ys hy
    cases e
    simp [hy]
  · cases e
theorem ownL_of {h : PH} {i : Nat} {xs : List PV} (e : h[i]? = some (.lst .own xs)) : ownL h i = some xs := by
  unfold ownL
  rw [e]
@[simp] theorem ownL_set {h : PH} {i : Nat} {xs : List PV} (hl : i < h.length) : ownL (h.set i (.lst .own xs)) i = some xs := ownL_of (by rw [List.getElem?_set_self hl])
@[simp] theorem ownL_setN {h : PH} {i j : Nat} {o : PO} (hl : ¬ i = j) : ownL (h.set i o) j = ownL h j := by
  unfold ownL
  rw [List.getElem?_set_ne hl]
@[simp] theorem lstP_setN {h : PH} {i j : Nat} {o : PO} (hl : ¬ i = j) : lstP (h.set i o) (.obj j) = lstP h (.obj j) := by
  unfold lstP
  simp only []
  rw [List.getElem?_set_ne hl]
@[simp] theorem lstP_set {h : PH} {i : Nat} {xs : List PV} {k : LK} (hl : i < h.length) : lstP (h.set i (.lst k xs)) (.obj i) = some xs := by
  unfold lstP
  simp only []
  rw [List.getElem?_set_self hl]
@[simp] theorem ownL_app {h : PH} {xs : List PV} : ownL (h ++ [.lst .own xs]) h.length = some xs := ownL_of (by simp)
@[simp] theorem ownL_appN {h : PH} {o : PO} {j : Nat} (hl : j < h.length) : ownL (h ++ [o]) j = ownL h j := by
  unfold ownL
  rw [List.getElem?_append_left hl]
@[simp] theorem lstP_app {h : PH} {xs : List PV} {k : LK} : lstP (h ++ [.lst k xs]) (.obj h.length) = some xs := by
  unfold lstP
  simp
@[simp] theorem lstP_appN {h : PH} {o : PO} {j : Nat} (hl : j < h.length) : lstP (h ++ [o]) (.obj j) = lstP h (.obj j) := by
  unfold lstP
  simp only []
  rw [List.getElem?_append_left hl]
@[simp] theorem glob_call {P : Prog} {k : Nat} : (globOf P k).call = callF P k := rfl
@[simp] theorem glob_const {P : Prog} {k : Nat} : (globOf P k).const = P.cT := rfl
@[simp] theorem glob_wf {P : Prog} {k : Nat} : (globOf P k).wf = P.wf := rfl
@[simp] theorem eqP_int {h : PH} {i j : Int} : eqP h (.int i) (.int j) = some (i == j) := rfl
@[simp] theorem eqP_fr {h : PH} {a b c d : Int} : eqP h (.tup [.int a, .int b]) (.tup [.int c, .int d]) = some (a == c && (b == d && true)) := rfl
@[simp] theorem truth_bl {h : PH} {b : Bool} : truthP h (.bl b) = some b := rfl
@[simp] theorem ty_tup {h : PH} {xs : List PV} : tyP h (.tup xs) = some .tuple := rfl
@[simp] theorem ty_int {h : PH} {i : Int} : tyP h (.int i) = some .int := rfl
@[simp] theorem ty_bl {h : PH} {b : Bool} : tyP h (.bl b) = some .bool := rfl
@[simp] theorem ty_non {h : PH} : tyP h .non = some .non := rfl
@[simp] theorem ty_str {h : PH} {x : Str} : tyP h (.str x) = some .str := rfl
@[simp] theorem sz_le {n : Nat} (h : n ≤ 1000000) : n ≤ sizeLine := by rw [sizeLine_eq]; omega
@[simp] theorem isN_non : (MP.E.con .non).isN = true := rfl
@[simp] theorem isN_int {i : Int} : (MP.E.con (.int i)).isN = false := rfl
@[simp] theorem isN_slot {i : Nat} : (MP.E.slot i).isN = false := rfl
@[simp] theorem isN_bin {o : BOp} {a b : MP.E} : (MP.E.bin o a b).isN = false := rfl
@[simp] theorem isN_neg {a : MP.E} : (MP.E.neg a).isN = false := rfl
@[simp] theorem isN_bi {f : BI} {es : List MP.E} : (MP.E.bi f es).isN = false := rfl
@[simp] theorem isN_sub {a b : MP.E} : (MP.E.sub a b).isN = false := rfl
@[simp] theorem isN_cl {x : Str} {es : List MP.E} : (MP.E.cl x es).isN = false := rfl
@[simp] theorem intP_int {i : Int} : intP (.int i) = some i := rfl
/-! ### try -/
theorem wpS_noexc {r : SR} : wpS (noexcS r) D ↔ wpS r { nx := D.nx, rt := D.rt, bk := D.bk, ct := D.ct, ex := fun _ _ _ => False } := by
  cases r <;> exact Iff.rfl
theorem s_try {b : List S} {hs : List (Str × List S)} (w : wpS (execSs G b env h) { nx := D.nx, rt := D.rt, bk := D.bk, ct := D.ct, ex := fun c e h' => ∀ vs, wpS (execHs G c vs hs e h') D }) : wpS (execS G (.tryS b hs) env h) D := by
  have e : execS G (.tryS b hs) env h = (match execSs G b env h with
    | .exc cn vs env' h' => execHs G cn vs hs env' h'
    | r => r) := by rw [execS]; try (cases execSs G b env h <;> rfl)
  rw [e]
  revert w
  cases execSs G b env h with
  | exc c vs e h' => exact fun z => z vs
  | nx e h => exact fun z => z
  | rt e h => exact fun z => z
  | bk e h => exact fun z => z
  | ct e h => exact fun z => z
  | stuck => exact fun z => z
theorem hs_nil {c : Str} {vs : List PV} : wpS (execHs G c vs [] env h) D ↔ D.ex c env h := by unfold execHs; exact Iff.rfl
theorem hs_yes {c x : Str} {vs : List PV} {ss : List S} {hs : List (Str × List S)} (e : G.sub c x = some true) : wpS (execHs G c vs ((x, ss) :: hs) env h) D ↔ wpS (execSs G ss env h) { nx := D.nx, rt := D.rt, bk := D.bk, ct := D.ct, ex := fun _ _ _ => False } := by
  have e1 : execHs G c vs ((x, ss) :: hs) env h = noexcS (execSs G ss env h) := by rw [execHs, e]
  rw [e1, wpS_noexc]
theorem hs_no {c x : Str} {vs : List PV} {ss : List S} {hs : List (Str × List S)} (e : G.sub c x = some false) : wpS (execHs G c vs ((x, ss) :: hs) env h) D ↔ wpS (execHs G c vs hs env h) D := by
  have e1 : execHs G c vs ((x, ss) :: hs) env h = execHs G c vs hs env h := by rw [execHs, e]
  rw [e1]
@[simp] theorem glob_sub {P : Prog} {k : Nat} : (globOf P k).sub = P.sub := rfl
end
end MP

set_option Elab.async false
set_option linter.all false
set_option maxRecDepth 100000
set_option maxHeartbeats 4000000
/-! MPy: more constructs: dicts, zip, enumerate, list(range), the greatest and the least of some. -/
namespace MP
open PySem L2
section
variable {α β : Type} {G : Glob} {env : Env'} {h : PH} {Q : PV → PH → Prop} {Qb : Bool → PH → Prop} {Ql : List PV → PH → Prop} {E : Str → PH → Prop} {D : PD}
@[simp] theorem x_dget {a b : MP.E} : wp (evalE G (.dget a b) env) h Q E ↔ wp (evalE G a env) h (fun x h1 => wp (evalE G b env) h1 (fun y h2 => wp (dgetM x y) h2 Q E) E) E := by
  conv => lhs; unfold evalE
  simp only [wp_bind']
@[simp] theorem x_cmpD {neg : Bool} {a b : MP.E} : wp (evalE G (.cmpD neg a b) env) h Q E ↔ wp (evalE G a env) h (fun x h1 => wp (evalE G b env) h1 (fun y h2 => wp (dinM neg x y) h2 Q E) E) E := by
  conv => lhs; unfold evalE
  simp only [wp_bind']
@[simp] theorem x_lrg {es : List MP.E} : wp (evalE G (.lrg es) env) h Q E ↔ wp (evalEs G es env) h (fun vs h1 => wp (lrgM vs) h1 Q E) E := by
  conv => lhs; unfold evalE
  simp only [wp_bind']
@[simp] theorem x_sortL {a : MP.E} : wp (evalE G (.sortL a) env) h Q E ↔ wp (evalE G a env) h (fun v h1 => wp (sortLM v) h1 Q E) E := by
  conv => lhs; unfold evalE
  simp only [wp_bind']
@[simp] theorem p_sortL {j : Nat} : wp (sortLM (.obj j)) h Q E ↔ ∃ ls, (lstP h (.obj j)).bind lotsP = some ls ∧ (ls.length ≤ 1000 ∧ ∀ l ∈ ls, l.length ≤ 1000) ∧ Q (.obj h.length) (h ++ [.lst .own ((sortLot ls).map lotV)]) := by
  unfold sortLM
  simp only [wp_bind', wp_read, wp_iteM, wp_newO]
@[simp] theorem x_lset {a : MP.E} : wp (evalE G (.lset a) env) h Q E ↔ wp (evalE G a env) h (fun v h1 => wp (lsetM v) h1 Q E) E := by
  conv => lhs; unfold evalE
  simp only [wp_bind']
@[simp] theorem p_lset {j : Nat} : wp (lsetM (.obj j)) h Q E ↔ ∃ xs, lstP h (.obj j) = some xs ∧ ∃ ns, intsP xs = some ns ∧ ns.length ≤ 4000 ∧ Q (.int (distI ns : Nat)) h := by
  unfold lsetM
  simp only [wp_bind', wp_read, wp_iteM, wp_pure]
  constructor
  · rintro ⟨ns, e, h1, q⟩
    cases e1 : lstP h (.obj j) with
    | none => rw [e1] at e; cases e
    | some xs => rw [e1] at e; exact ⟨xs, rfl, ns, e, h1, q⟩
  · rintro ⟨xs, e1, ns, e2, h1, q⟩
    exact ⟨ns, by rw [e1]; exact e2, h1, q⟩
@[simp] theorem t_cmpD {neg : Bool} {a b : MP.E} : wp (evalT G (.cmpD neg a b) env) h Qb E ↔ wp (evalE G a env) h (fun x h1 => wp (evalE G b env) h1 (fun y h2 => wp (dinM neg x y) h2 (fun z h3 => ∃ t, z = .bl t ∧ Qb t h3) E) E) E := by
  conv => lhs; unfold evalT
  simp only [wp_bind', wp_opt]
  refine iff_of_eq (congrArg (fun f => wp _ h f E) (funext fun x => funext fun h1 => congrArg (fun f => wp _ h1 f E) (funext fun y => funext fun h2 => congrArg (fun f => wp _ h2 f E) (funext fun z => funext fun h3 => propext ⟨fun ⟨t, e, w⟩ => ?_, fun ⟨t, e, w⟩ => ?_⟩))))
  · cases z <;> first | (cases e; exact ⟨_, rfl, w⟩) | cases e
  · subst e; exact ⟨t, rfl, w⟩
@[simp] theorem s_dput {o i e : MP.E} : wpS (execS G (.dput o i e) env h) D ↔ wp (evalE G e env) h (fun v h1 => wp (evalE G o env) h1 (fun x h2 => wp (evalE G i env) h2 (fun y h3 => wp (dputM x y v) h3 (fun _ h4 => D.nx env h4) (fun c h' => D.ex c env h')) (fun c h' => D.ex c env h')) (fun c h' => D.ex c env h')) (fun c h' => D.ex c env h') := by
  conv => lhs; unfold execS
  simp only [wpS_of]
  exact Iff.rfl
@[simp] theorem p_dget {j : Nat} {y : PV} : wp (dgetM (.obj j) y) h Q E ↔ ∃ kvs, dctP h (.obj j) = some kvs ∧ ∃ k, keyP y = some k ∧ ∃ v, valP kvs k = some v ∧ Q v h := by
  unfold dgetM; simp only [wp_bind', wp_read, wp_opt]
@[simp] theorem p_din {neg : Bool} {j : Nat} {y : PV} : wp (dinM neg y (.obj j)) h Q E ↔ ∃ kvs, dctP h (.obj j) = some kvs ∧ ∃ k, keyP y = some k ∧ Q (.bl (if neg then !(valP kvs k).isSome else (valP kvs k).isSome)) h := by
  unfold dinM; simp only [wp_bind', wp_read, wp_opt, wp_pure]
@[simp] theorem p_dput {j : Nat} {y v : PV} {Q : Unit → PH → Prop} : wp (dputM (.obj j) y v) h Q E ↔ ∃ kvs, dctP h (.obj j) = some kvs ∧ ∃ k, keyP y = some k ∧ kvs.length < sizeLine ∧ Q () (h.set j (.dK (putP kvs k v))) := by
  unfold dputM; simp only [wp_bind', wp_read, wp_opt, wp_iteM, wp_setO]
@[simp] theorem key_int {i : Int} : keyP (.int i) = some (.inl i) := rfl
@[simp] theorem key_str {x : Str} : keyP (.str x) = some (.inr x) := rfl
@[simp] theorem p_lrg1 {j : Int} : wp (lrgM [.int j]) h Q E ↔ (smallI j = true ∧ j.toNat ≤ 16777216) ∧ Q (.obj h.length) (h ++ [.lst .own ((List.range j.toNat).map fun i => .int (0 + (i : Nat)))]) := by
  unfold lrgM
  rw [wp_bind', p_rng1]
  simp only [wp_iteM, wp_newO, and_assoc]
@[simp] theorem p_lrg2 {i j : Int} : wp (lrgM [.int i, .int j]) h Q E ↔ ((smallI i && smallI j) = true ∧ (j - i).toNat ≤ 16777216) ∧ Q (.obj h.length) (h ++ [.lst .own ((List.range (j - i).toNat).map fun k => .int (i + (k : Nat)))]) := by
  unfold lrgM
  rw [wp_bind', p_rng2]
  simp only [wp_iteM, wp_newO, and_assoc]
@[simp] theorem p_sortedD {v : PV} : wp (biM .sortedD [v]) h Q E ↔ ∃ kvs, dctP h v = some kvs ∧ ∃ ns, keyIs kvs = some ns ∧ kvs.length < 64 ∧ Q (.obj h.length) (h ++ [.lst .own ((sortI ns).map .int)]) := by
  show wp (readM _ >>= _) h Q E ↔ _
  simp only [wp_bind', wp_read, wp_opt, wp_iteM, wp_newO]
theorem p_max1 {v : PV} : wp (biM .max [v]) h Q E ↔ ∃ ns, (itemsP h v).bind intsP = some ns ∧ ∃ m, maxI ns = some m ∧ Q (.int m) h := by
  have e : biM .max [v] = readM fun h => ((itemsP h v).bind intsP).bind fun ns => (maxI ns).map PV.int := by cases v <;> rfl
  rw [e, wp_read]
  cases (itemsP h v).bind intsP with
  | none => exact ⟨fun ⟨_, e, _⟩ => by (cases e), fun ⟨_, e, _⟩ => by cases e⟩
  | some ns =>
    constructor
    · rintro ⟨a, e, q⟩
      cases e2 : maxI ns with
      | none => simp only [Option.bind_some, e2] at e; cases e
      | some m => simp only [Option.bind_some, e2] at e; cases e; exact ⟨ns, rfl, m, e2, q⟩
    · rintro ⟨ns', e, m, e2, q⟩
      cases e
      exact ⟨.int m, by simp only [Option.bind_some, e2]; rfl, q⟩
theorem p_min1 {v : PV} : wp (biM .min [v]) h Q E ↔ ∃ ns, (itemsP h v).bind intsP = some ns ∧ ∃ m, minI ns = some m ∧ Q (.int m) h := by
  have e : biM .min [v] = readM fun h => ((itemsP h v).bind intsP).bind fun ns => (minI ns).map PV.int := by cases v <;> rfl
  rw [e, wp_read]
  cases (itemsP h v).bind intsP with
  | none => exact ⟨fun ⟨_, e, _⟩ => by (cases e), fun ⟨_, e, _⟩ => by cases e⟩
  | some ns =>
    constructor
    · rintro ⟨a, e, q⟩
      cases e2 : minI ns with
      | none => simp only [Option.bind_some, e2] at e; cases e
      | some m => simp only [Option.bind_some, e2] at e; cases e; exact ⟨ns, rfl, m, e2, q⟩
    · rintro ⟨ns', e, m, e2, q⟩
      cases e
      exact ⟨.int m, by simp only [Option.bind_some, e2]; rfl, q⟩
@[simp] theorem p_any {v : PV} : wp (biM .any [v]) h Q E ↔ ∃ bs, (lstP h v).bind boolsP = some bs ∧ Q (.bl (bs.any id)) h := by
  show wp (readM _) h Q E ↔ _
  rw [wp_read]
  cases (lstP h v).bind boolsP with
  | none => exact ⟨fun ⟨_, e, _⟩ => by (cases e), fun ⟨_, e, _⟩ => by cases e⟩
  | some bs => exact ⟨fun ⟨_, e, q⟩ => by cases e; exact ⟨bs, rfl, q⟩, fun ⟨_, e, q⟩ => by cases e; exact ⟨_, rfl, q⟩⟩
@[simp] theorem p_notIn {x y : PV} : wp (cmpM .notIn x y) h Q E ↔ ∃ b, inP h x y = some b ∧ Q (.bl (!b)) h := by
  show wp (readM _) h Q E ↔ _
  rw [wp_read]
  refine ⟨fun ⟨v, e, q⟩ => ?_, fun ⟨b, e, q⟩ => ⟨_, by rw [e]; rfl, q⟩⟩
  cases z : inP h x y with
  | none => rw [z] at e; cases e
  | some b => rw [z] at e; cases e; exact ⟨b, rfl, q⟩
@[simp] theorem p_zipT {xs ys : List PV} {Q : Itr → PH → Prop} : wp (itrM .zip [.tup xs, .tup ys]) h Q E ↔ Q (.zipT xs ys) h := Iff.rfl
@[simp] theorem p_zipL {i j : Nat} {Q : Itr → PH → Prop} : wp (itrM .zip [.obj i, .obj j]) h Q E ↔ (∃ xs, lstP h (.obj i) = some xs) ∧ (∃ ys, lstP h (.obj j) = some ys) ∧ Q (.zipL i j) h := by
  unfold itrM
  simp only [wp_bind', wp_read, wp_pure]
  exact ⟨fun ⟨a, b, c, d, e⟩ => ⟨⟨a, b⟩, ⟨c, d⟩, e⟩, fun ⟨⟨a, b⟩, ⟨c, d⟩, e⟩ => ⟨a, b, c, d, e⟩⟩
@[simp] theorem p_enum {i : Nat} {Q : Itr → PH → Prop} : wp (itrM .enum [.obj i]) h Q E ↔ (∃ xs, lstP h (.obj i) = some xs) ∧ Q (.enum i) h := by
  unfold itrM
  simp only [wp_bind', wp_read, wp_pure]
  exact ⟨fun ⟨a, b, c⟩ => ⟨⟨a, b⟩, c⟩, fun ⟨⟨a, b⟩, c⟩ => ⟨a, b, c⟩⟩
/-- two lists item by item -/
def zipW (xs ys : List PV) : List PV := List.zipWith (fun x y => .tup [x, y]) xs ys
theorem zipAt_eq {xs ys : List PV} {k : Nat} : zipAt xs ys k = (zipW xs ys)[k]? := by
  unfold zipAt zipW
  rw [List.getElem?_zipWith]
  cases xs[k]? <;> cases ys[k]? <;> rfl
theorem zipW_len {xs ys : List PV} : (zipW xs ys).length = min xs.length ys.length := by simp [zipW]
/-- a walk over what is there by place -/
theorem wp_for_at {it : Itr} {xs : List PV} {put : PH → PV → Env' → Option Env'} {body : Env' → PH → SR} {D : PD} (I : Nat → Env' → PH → Prop) (hat : ∀ i e h, I i e h → it.at i h = some xs[i]?)
    (step : ∀ i v e h, xs[i]? = some v → I i e h → ∃ e1, put h v e = some e1 ∧ wpS (body e1 h) { nx := I (i + 1), ct := I (i + 1), bk := D.nx, rt := D.rt, ex := D.ex }) (last : ∀ e h, I xs.length e h → D.nx e h) :
    ∀ (n i : Nat) (e : Env') (h : PH), i + n = xs.length → I i e h → wpS (forGo it put body n i e h) D := by
  intro n
  induction n with
  | zero =>
    intro i e h hl hi
    have hx : it.at i h = some none := by rw [hat i e h hi, List.getElem?_eq_none (by omega)]
    unfold forGo
    rw [hx]
    have : i = xs.length := by omega
    subst this
    exact last e h hi
  | succ n ih =>
    intro i e h hl hi
    have hil : i < xs.length := by omega
    have hx : it.at i h = some (some xs[i]) := by rw [hat i e h hi, List.getElem?_eq_getElem hil]
    obtain ⟨e1, h1, h2⟩ := step i xs[i] e h (List.getElem?_eq_getElem hil) hi
    unfold forGo
    simp only [hx, h1]
    revert h2
    cases body e1 h with
    | nx e2 h2 => exact fun z => ih (i + 1) e2 h2 (by omega) z
    | ct e2 h2 => exact fun z => ih (i + 1) e2 h2 (by omega) z
    | bk e2 h2 => exact fun z => z
    | rt v h2 => exact fun z => z
    | exc c vs e2 h2 => exact fun z => z
    | stuck => exact fun z => z
/-! targets, for simp under binders (simp with putT itself makes terms that the kernel does not take) -/
theorem pt_nm {h : PH} {i : Nat} {v : PV} {env : Env'} : putT h (.nm i) v env = some (env.set i (some v)) := rfl
theorem pt_tp {h : PH} {ts : List Tg} {xs : List PV} {env : Env'} : putT h (.tp ts) (.tup xs) env = putTs h ts xs env := rfl
theorem pt_nil {h : PH} {env : Env'} : putTs h [] [] env = some env := rfl
theorem pt_cons {h : PH} {t : Tg} {ts : List Tg} {v : PV} {vs : List PV} {env : Env'} : putTs h (t :: ts) (v :: vs) env = (putT h t v env).bind fun env' => putTs h ts vs env' := rfl
end
end MP

set_option Elab.async false
set_option linter.all false
set_option maxRecDepth 100000
set_option maxHeartbeats 4000000
/-! MPz: lots compared by number; defs that are handed a lambda. -/
namespace MP
open PySem L2
section
variable {G : Glob} {env : Env'} {h : PH} {Q : PV → PH → Prop} {Qb : Bool → PH → Prop} {E : Str → PH → Prop}
@[simp] theorem x_ltT {a b : MP.E} : wp (evalE G (.ltT a b) env) h Q E ↔ wp (evalE G a env) h (fun x h1 => wp (evalE G b env) h1 (fun y h2 => wp (ltTM x y) h2 Q E) E) E := by
  conv => lhs; unfold evalE
  simp only [wp_bind']
@[simp] theorem t_ltT {a b : MP.E} : wp (evalT G (.ltT a b) env) h Qb E ↔ wp (evalE G a env) h (fun x h1 => wp (evalE G b env) h1 (fun y h2 => wp (ltTM x y) h2 (fun z h3 => ∃ t, z = .bl t ∧ Qb t h3) E) E) E := by
  conv => lhs; unfold evalT
  simp only [wp_bind', wp_opt]
  refine iff_of_eq (congrArg (fun f => wp _ h f E) (funext fun x => funext fun h1 => congrArg (fun f => wp _ h1 f E) (funext fun y => funext fun h2 => congrArg (fun f => wp _ h2 f E) (funext fun z => funext fun h3 => propext ⟨fun ⟨t, e, w⟩ => ?_, fun ⟨t, e, w⟩ => ?_⟩))))
  · cases z <;> first | (cases e; exact ⟨_, rfl, w⟩) | cases e
  · subst e; exact ⟨t, rfl, w⟩
@[simp] theorem p_ltT {x y : PV} : wp (ltTM x y) h Q E ↔ ∃ p, lotK x = some p ∧ ∃ q, lotK y = some q ∧ Q (.bl (PySem.W.dataLt (kD p) (kD q))) h := by
  unfold ltTM; simp only [wp_bind', wp_opt, wp_pure]
theorem x_rfs {r : RfD} {x : Str} {is : List Nat} : wp (evalE G (.rfs r x is) env) h Q E ↔ wp (rfsM G.sub G.kit r (do let vs ← slotsM is env; G.low x vs)) h Q E := by
  conv => lhs; unfold evalE
theorem rfs_wp {sub kit : Str → Str → Option Bool} {r : RfD} {m : M PV} (w : wp m h (fun _ _ => False) (fun c h1 => sub c r.hd = some true ∧ ∃ bs, kitsG kit c r.cs = some bs ∧ ∃ b, eqP (h1 ++ [.lst .own (bs.map .bl)] ++ [.lst .own (r.due.map .bl)]) (.obj h1.length) (.obj (h1 ++ [PO.lst .own (bs.map PV.bl)]).length) = some b ∧ Q (.bl b) (h1 ++ [.lst .own (bs.map .bl)] ++ [.lst .own (r.due.map .bl)]))) : wp (rfsM sub kit r m) h Q E := by
  unfold wp at w
  unfold wp rfsM
  revert w
  cases m h with
  | ok a h' => exact fun z => z.elim
  | stuck => exact fun z => z
  | exc c vs h1 =>
    rintro ⟨e1, bs, e2, b, e3, q⟩
    dsimp only
    rw [e1, e2]
    show wp (M.bind (newO (.lst .own (bs.map .bl))) fun x => M.bind (newO (.lst .own (r.due.map .bl))) fun y => cmpM .eq x y) h1 Q E
    rw [wp_bind, wp_newO, wp_bind, wp_newO, p_eq]
    exact ⟨b, e3, q⟩
theorem mapM_bls {h : PH} {n : Nat} : ∀ bs : List Bool, (bs.map PV.bl).mapM (toData h (n + 1)) = some (bs.map PyData.bool)
  | [] => rfl
  | b :: bs => by
    rw [List.map_cons, List.mapM_cons, mapM_bls bs]
    rfl
theorem toData_bls {h : PH} {i : Nat} {bs : List Bool} {k : LK} (e : h[i]? = some (.lst k (bs.map .bl))) : toData h 70 (.obj i) = some (.list (bs.map .bool)) := by
  show (match h[i]? with | some (.lst _ xs) => (xs.mapM (toData h 69)).map PyData.list | _ => none) = _
  rw [e]
  show ((bs.map PV.bl).mapM (toData h 69)).map PyData.list = _
  rw [mapM_bls]
  rfl
theorem eqP_bls {h : PH} {i j : Nat} {bs cs : List Bool} {k k' : LK} (e1 : h[i]? = some (.lst k (bs.map .bl))) (e2 : h[j]? = some (.lst k' (cs.map .bl))) (s1 : SeqAt.shaped (.list (bs.map PyData.bool)) = true) (s2 : SeqAt.shaped (.list (cs.map PyData.bool)) = true) : eqP h (.obj i) (.obj j) = some (PyData.eqv (.list (bs.map .bool)) (.list (cs.map .bool))) := by
  unfold eqP
  rw [toData_bls e1, toData_bls e2]
  simp only [s1, s2, Bool.and_self, if_true]
/-! texts -/
@[simp] theorem x_subS {a b : MP.E} : wp (evalE G (.subS a b) env) h Q E ↔ wp (evalE G a env) h (fun x h1 => wp (evalE G b env) h1 (fun y h2 => wp (ixSM x y) h2 Q E) E) E := by
  conv => lhs; unfold evalE
  simp only [wp_bind']
@[simp] theorem x_slcS {a lo hi : MP.E} : wp (evalE G (.slcS a lo hi) env) h Q E ↔ wp (evalE G a env) h (fun x h1 => wp (partM lo (evalE G lo env)) h1 (fun l h2 => wp (partM hi (evalE G hi env)) h2 (fun u h3 => wp (slcSM x l u) h3 Q E) E) E) E := by
  conv => lhs; unfold evalE
  simp only [wp_bind']
@[simp] theorem x_smth {j : Bool} {a b : MP.E} : wp (evalE G (.smth j a b) env) h Q E ↔ wp (evalE G a env) h (fun x h1 => (∃ z, strP x = some z) ∧ wp (evalE G b env) h1 (fun y h2 => wp (smthM j x y) h2 Q E) E) E := by
  conv => lhs; unfold evalE
  simp only [wp_bind', wp_opt, exists_and_right]
@[simp] theorem x_inT {a b : MP.E} : wp (evalE G (.inT a b) env) h Q E ↔ wp (evalE G a env) h (fun x h1 => wp (evalE G b env) h1 (fun y h2 => wp (inTM x y) h2 Q E) E) E := by
  conv => lhs; unfold evalE
  simp only [wp_bind']
@[simp] theorem x_dgetD {a b c : MP.E} : wp (evalE G (.dgetD a b c) env) h Q E ↔ wp (evalE G a env) h (fun x h1 => (∃ kvs, dctP h1 x = some kvs) ∧ wp (evalE G b env) h1 (fun y h2 => wp (evalE G c env) h2 (fun z h3 => wp (dgetDM x y z) h3 Q E) E) E) E := by
  conv => lhs; unfold evalE
  simp only [wp_bind', wp_read, exists_and_right]
@[simp] theorem strP_str {x : Str} : strP (.str x) = some x := rfl
@[simp] theorem p_ixS {z : Str} {i : Int} : wp (ixSM (.str z) (.int i)) h Q E ↔ z.length ≤ sizeLine ∧ ∃ c, atI z.cps.toList i = some c ∧ Q (signV c) h := by
  show wp (if z.length ≤ sizeLine then M.opt ((atI z.cps.toList i).map signV) else M.stop) h Q E ↔ _
  simp only [wp_iteM, wp_opt]
  cases atI z.cps.toList i with
  | none => simp
  | some c => simp
@[simp] theorem p_slcS {z : Str} {lo hi : Option Int} : wp (slcSM (.str z) lo hi) h Q E ↔ z.length ≤ sizeLine ∧ Q (.str (cutS z lo hi)) h := by
  show wp (if z.length ≤ sizeLine then pure (.str (cutS z lo hi)) else M.stop) h Q E ↔ _
  simp only [wp_iteM, wp_pure]
@[simp] theorem p_split {a b : Str} : wp (smthM false (.str a) (.str b)) h Q E ↔ ((b.length == 0) = false ∧ a.length + 2 ≤ sizeLine) ∧ Q (.obj h.length) (h ++ [.lst .own ((Txt.split a b).map .str)]) := by
  show wp (if (b.length == 0) = false ∧ a.length + 2 ≤ sizeLine then newO (.lst .own ((Txt.split a b).map .str)) else M.stop) h Q E ↔ _
  simp only [wp_iteM, wp_newO]
@[simp] theorem p_join {a : Str} {y : PV} : wp (smthM true (.str a) y) h Q E ↔ ∃ xs, lstP h y = some xs ∧ ∃ ys, strsP xs = some ys ∧ (ys.map (·.length)).sum + ys.length * a.length ≤ 16777216 ∧ Q (.str (Txt.join a ys)) h := by
  show wp (M.bind (readM fun h => lstP h y) fun xs => M.bind (M.opt (strsP xs)) fun ys => if (ys.map (·.length)).sum + ys.length * a.length ≤ 16777216 then pure (.str (Txt.join a ys)) else M.stop) h Q E ↔ _
  simp only [wp_bind, wp_read, wp_opt, wp_iteM, wp_pure]
theorem strsP_map : ∀ ys : List Str, strsP (ys.map PV.str) = some ys
  | [] => rfl
  | y :: ys => by
    show (strsP (ys.map PV.str)).map (y :: ·) = _
    rw [strsP_map ys]
    rfl
@[simp] theorem p_inT {c : Nat} {z : Str} : wp (inTM (signV c) (.str z)) h Q E ↔ Q (.bl (decide (c ∈ z.cps.toList))) h := Iff.rfl
@[simp] theorem p_dgetD {x y z : PV} : wp (dgetDM x y z) h Q E ↔ ∃ kvs, dctP h x = some kvs ∧ ∃ k, keyP y = some k ∧ Q ((valP kvs k).getD z) h := by
  unfold dgetDM
  simp only [wp_bind', wp_read, wp_opt, wp_pure]
@[simp] theorem p_itS {x : Str} {Qi : Itr → PH → Prop} : wp (itrM .val [.str x]) h Qi E ↔ Qi (.vals (x.cps.toList.map signV)) h := Iff.rfl
@[simp] theorem p_intS {a : Str} : wp (biM .int [.str a]) h Q E ↔ a.length ≤ 640 ∧ ∃ n, PySem.intText? a = some n ∧ Q (.int n) h := by
  show wp (if a.length ≤ 640 then M.opt ((PySem.intText? a).map .int) else M.stop) h Q E ↔ _
  simp only [wp_iteM, wp_opt]
  cases PySem.intText? a with
  | none => simp
  | some c => simp
@[simp] theorem p_strI {i : Int} : wp (biM .str [.int i]) h Q E ↔ i.natAbs.log2 < 1920 ∧ Q (.str (Str.ofString (toString i))) h := by
  show wp (if i.natAbs.log2 < 1920 then pure (.str (Str.ofString (toString i))) else M.stop) h Q E ↔ _
  simp only [wp_iteM, wp_pure]
theorem p_repr {v : PV} : wp (biM .repr [v]) h Q E ↔ ∃ t, repP h v = some t ∧ Q (.str t) h := by
  show wp (readM fun h => (repP h v).map PV.str) h Q E ↔ _
  unfold readM wp
  cases e : repP h v with
  | none => simp [e]
  | some t => simp [e]
theorem eqStr {t u : Str} : eqP h (.str t) (.str u) = some (decide (t = u)) := by
  unfold eqP
  have e : ∀ t : Str, toData h 70 (.str t) = some (.str t) := fun _ => rfl
  rw [e, e]
  by_cases hs : (SeqAt.shaped (.str t) && SeqAt.shaped (.str u)) = true
  · show (if _ then _ else _) = _
    rw [if_pos hs]
    show some (t == u) = _
    congr 1
  · show (if _ then _ else _) = _
    rw [if_neg hs]
@[simp] theorem glob_kit {P : Prog} {k : Nat} : (globOf P k).kit = P.kit := rfl
theorem glob_low {P : Prog} {k : Nat} : (globOf P (k + 2)).low = callF P k := rfl
end
end MP

set_option Elab.async false
set_option linter.all false
set_option maxRecDepth 100000
set_option maxHeartbeats 4000000
/-! PKlib: bodies of defs, printed by lib.py -/
namespace PK
open PySem MP L2
def b_law_well : List S := [.ret (.lst [.lc (.bi .int [.slot 1]) (.nm 1) .val [.slc (.slot 0) (.con .non) (.con (.int 63))] [] [1], .con (.int 0), .con (.int 0), .con (.int 1)])]
def b_law_machine : List S := [.asg 1 (.bin .add (.con (.int 2)) (.cl (Str.ofString "_law_draw") [.slot 0, .con (.int 3)])), .asg 2 (.lst [.bin .add (.con (.int 1)) (.cl (Str.ofString "_law_draw") [.slot 0, .con (.int 3)]), .bin .add (.con (.int 1)) (.cl (Str.ofString "_law_draw") [.slot 0, .con (.int 6)]), .bin .sub (.con (.int 12)) (.cl (Str.ofString "_law_draw") [.slot 0, .con (.int 2)])]), .asg 3 (.sub (.slot 2) (.sub (.lst [.con (.int 0), .con (.int 0), .con (.int 1), .con (.int 1), .con (.int 2)]) (.cl (Str.ofString "_law_draw") [.slot 0, .con (.int 5)]))), .asg 4 (.lst []), .for_ (.nm 5) .range [.slot 3] [.asg 6 (.bin .add (.con (.int 1)) (.cl (Str.ofString "_law_draw") [.slot 0, .slot 3])), .expr (.mth .append (.slot 4) [.bi .tuple [.lc (.tup [.cl (Str.ofString "_law_allowance") [.slot 0], .cl (Str.ofString "_law_draw") [.slot 0, .slot 6]]) (.nm 7) .range [.slot 1] [] [7]]])], .ret (.tup [.slot 1, .bi .tuple [.slot 4]])]
def b_law_draw : List S := [.ifS (.cmp .eq (.sub (.slot 0) (.con (.int 2))) (.con (.int 0))) [.setIx (.slot 0) (.con (.int 2)) (.cl (Str.ofString "_law_filled") [.slot 0])] [], .asg 2 (.bin .mod (.bi .int [.sub (.slot 0) (.con (.int 2))]) (.slot 1)), .setIx (.slot 0) (.con (.int 2)) (.bin .fdiv (.bi .int [.sub (.slot 0) (.con (.int 2))]) (.slot 1)), .ret (.slot 2)]
def b_law_ring : List S := [.for_ (.nm 1) .range [.con (.int 1), .bi .len [.slot 0]] [.ifS (.cmp .in_ (.sub (.slot 0) (.slot 1)) (.slc (.slot 0) (.con .non) (.slot 1))) [.ret (.tup [.mth .index (.slot 0) [.sub (.slot 0) (.slot 1)], .slot 1])] []], .ret (.con .non)]
def b_law_states : List S := [.asg 3 (.lst [.slot 1]), .for_ (.nm 4) .val [.slot 2] [.expr (.mth .append (.slot 3) [.sub (.sub (.sub (.sub (.slot 0) (.con (.int 1))) (.sub (.slot 3) (.neg (.con (.int 1))))) (.slot 4)) (.con (.int 1))])], .ret (.slot 3)]
def b_law_runs_right : List S := [.asg 4 (.slc (.slot 1) (.slot 2) (.slot 3)), .asg 5 (.sub (.cl (Str.ofString "_law_states") [.slot 0, .con (.int 0), .slc (.slot 1) (.con .non) (.slot 2)]) (.neg (.con (.int 1)))), .asg 6 (.cl (Str.ofString "_law_sum") [.slot 0, .slot 5, .slot 4]), .asg 7 (.cl (Str.ofString "allowed") [.slot 0, .bin .add (.slc (.slot 1) (.con .non) (.slot 2)) (.slc (.slot 1) (.slot 3) (.con .non))]), .asg 8 (.cl (Str.ofString "state_after") [.slot 0, .slot 1]), .for_ (.nm 9) .val [.lst [.con (.int 0), .con (.int 1), .con (.int 2), .con (.int 3), .con (.int 4), .bin .fdiv (.con (.int 360)) (.bi .len [.slot 1])]] [.asg 10 (.bin .add (.bin .add (.slc (.slot 1) (.con .non) (.slot 2)) (.bin .mul (.slot 4) (.slot 9))) (.slc (.slot 1) (.slot 3) (.con .non))), .ifS (.cmp .ne (.cl (Str.ofString "allowed") [.slot 0, .slot 10]) (.cl (Str.ofString "_law_plus") [.slot 7, .cl (Str.ofString "_law_part") [.bin .mul (.sub (.slot 6) (.con (.int 0))) (.slot 9), .sub (.slot 6) (.con (.int 1))]])) [.ret (.con (.bl false))] [], .ifS (.cmp .ne (.cl (Str.ofString "state_after") [.slot 0, .slot 10]) (.slot 8)) [.ret (.con (.bl false))] []], .ret (.con (.bl true))]
def b_law_turned_right : List S := [.asg 4 (.slc (.slot 1) (.slot 2) (.slot 3)), .asg 5 (.slc (.slot 1) (.con .non) (.slot 2)), .asg 6 (.cl (Str.ofString "_law_less") [.cl (Str.ofString "allowed") [.slot 0, .slc (.slot 1) (.con .non) (.slot 3)], .cl (Str.ofString "allowed") [.slot 0, .slot 5]]), .for_ (.nm 7) .range [.bi .len [.slot 4]] [.asg 8 (.bin .add (.slot 5) (.slc (.slot 4) (.con .non) (.slot 7))), .asg 9 (.cl (Str.ofString "allowed") [.slot 0, .bin .add (.bin .add (.slot 8) (.slc (.slot 4) (.slot 7) (.con .non))) (.slc (.slot 4) (.con .non) (.slot 7))]), .ifS (.cmp .ne (.cl (Str.ofString "_law_less") [.slot 9, .cl (Str.ofString "allowed") [.slot 0, .slot 8]]) (.slot 6)) [.ret (.con (.bl false))] [], .ifS (.cmp .ne (.cl (Str.ofString "state_after") [.slot 0, .bin .add (.bin .add (.slot 8) (.slc (.slot 4) (.slot 7) (.con .non))) (.slc (.slot 4) (.con .non) (.slot 7))]) (.cl (Str.ofString "state_after") [.slot 0, .slot 8])) [.ret (.con (.bl false))] []], .ret (.con (.bl true))]
def b_law_allowance : List S := [.asg 1 (.cl (Str.ofString "_law_draw") [.slot 0, .con (.int 8)]), .ifS (.cmp .eq (.slot 1) (.con (.int 0))) [.ret (.cl (Str.ofString "_law_part") [.bin .sub (.cl (Str.ofString "_law_draw") [.slot 0, .con (.int 2000001)]) (.con (.int 1000000)), .bin .add (.con (.int 1)) (.cl (Str.ofString "_law_draw") [.slot 0, .con (.int 1000)])])] [], .ifS (.cmp .eq (.slot 1) (.con (.int 1))) [.ret (.sub (.lst [.tup [.con (.int 1000000), .con (.int 1)], .tup [.neg (.con (.int 1000000)), .con (.int 1)], .tup [.con (.int 1), .con (.int 1000)], .tup [.con (.int 999999), .con (.int 1000)], .tup [.con (.int 0), .con (.int 1)]]) (.cl (Str.ofString "_law_draw") [.slot 0, .con (.int 5)]))] [], .ret (.cl (Str.ofString "_law_part") [.bin .sub (.cl (Str.ofString "_law_draw") [.slot 0, .con (.int 9)]) (.con (.int 2)), .bin .add (.con (.int 1)) (.cl (Str.ofString "_law_draw") [.slot 0, .con (.int 6)])])]
def b_law_filled : List S := [.setIx (.slot 0) (.con (.int 1)) (.bin .add (.sub (.slot 0) (.con (.int 1))) (.con (.int 1))), .ifS (.cmp .le (.sub (.slot 0) (.con (.int 1))) (.bi .len [.sub (.slot 0) (.con (.int 0))])) [.asg 1 (.sub (.sub (.slot 0) (.con (.int 0))) (.bin .sub (.sub (.slot 0) (.con (.int 1))) (.con (.int 1)))), .setIx (.slot 0) (.con (.int 3)) (.bin .mod (.bi .int [.bin .add (.bin .add (.bin .mul (.sub (.slot 0) (.con (.int 3))) (.con (.int 69069))) (.slot 1)) (.con (.int 1))]) (.con (.int 2147483629))), .ifS (.cmp .ge (.slot 1) (.bin .pow (.con (.int 10)) (.con (.int 18)))) [.ret (.slot 1)] [], .ret (.cl (Str.ofString "_law_mixed") [.bin .add (.slot 1) (.bin .mul (.con (.int 7919)) (.sub (.slot 0) (.con (.int 1))))])] [], .ret (.cl (Str.ofString "_law_mixed") [.bin .add (.sub (.slot 0) (.con (.int 3))) (.bin .mul (.con (.int 7919)) (.sub (.slot 0) (.con (.int 1))))])]
def b_law_sum : List S := [.asg 3 (.tup [.con (.int 0), .con (.int 1)]), .asg 4 (.slot 1), .for_ (.nm 5) .val [.slot 2] [.asg 3 (.cl (Str.ofString "_law_plus") [.slot 3, .sub (.sub (.sub (.sub (.slot 0) (.con (.int 1))) (.slot 4)) (.slot 5)) (.con (.int 0))]), .asg 4 (.sub (.sub (.sub (.sub (.slot 0) (.con (.int 1))) (.slot 4)) (.slot 5)) (.con (.int 1)))], .ret (.slot 3)]
def b_allowed : List S := [.expr (.cl (Str.ofString "check_machine") [.slot 0]), .expr (.cl (Str.ofString "check_row") [.sub (.slot 0) (.gl (Str.ofString "SIZE")), .slot 1]), .ret (.cl (Str.ofString "raw_allowed") [.slot 0, .slot 1])]
def b_state_after : List S := [.expr (.cl (Str.ofString "check_machine") [.slot 0]), .expr (.cl (Str.ofString "check_row") [.sub (.slot 0) (.gl (Str.ofString "SIZE")), .slot 1]), .asg 2 (.con (.int 0)), .for_ (.nm 3) .val [.slot 1] [.asg 2 (.sub (.sub (.sub (.sub (.slot 0) (.gl (Str.ofString "RULES"))) (.slot 2)) (.slot 3)) (.con (.int 1)))], .ret (.slot 2)]
def b_law_plus : List S := [.ret (.cl (Str.ofString "_law_part") [.bin .add (.bin .mul (.sub (.slot 0) (.con (.int 0))) (.sub (.slot 1) (.con (.int 1)))) (.bin .mul (.sub (.slot 1) (.con (.int 0))) (.sub (.slot 0) (.con (.int 1)))), .bin .mul (.sub (.slot 0) (.con (.int 1))) (.sub (.slot 1) (.con (.int 1)))])]
def b_law_part : List S := [.asg 2 (.cl (Str.ofString "_law_shared") [.slot 0, .slot 1]), .ret (.tup [.bin .fdiv (.slot 0) (.slot 2), .bin .fdiv (.slot 1) (.slot 2)])]
def b_law_less : List S := [.ret (.cl (Str.ofString "_law_part") [.bin .sub (.bin .mul (.sub (.slot 0) (.con (.int 0))) (.sub (.slot 1) (.con (.int 1)))) (.bin .mul (.sub (.slot 1) (.con (.int 0))) (.sub (.slot 0) (.con (.int 1)))), .bin .mul (.sub (.slot 0) (.con (.int 1))) (.sub (.slot 1) (.con (.int 1)))])]
def b_law_mixed : List S := [.asg 0 (.bin .mod (.bi .int [.bin .add (.bin .mul (.slot 0) (.con (.int 48271))) (.con (.int 11))]) (.con (.int 2147483647))), .asg 0 (.bin .mod (.bi .int [.bin .add (.bin .mul (.slot 0) (.bin .add (.bin .fdiv (.slot 0) (.con (.int 1009))) (.con (.int 69621)))) (.con (.int 7919))]) (.con (.int 2147483647))), .ret (.bin .add (.bin .mul (.slot 0) (.con (.int 2147483399))) (.bin .mod (.bi .int [.bin .add (.bin .mul (.slot 0) (.bin .add (.bin .fdiv (.slot 0) (.con (.int 2003))) (.con (.int 40692)))) (.con (.int 104729))]) (.con (.int 2147483399))))]
def b_check_machine : List S := [.ifS (.not_ (.cl (Str.ofString "is_machine") [.slot 0])) [.raise (Str.ofString "NoMachine")] []]
def b_check_row : List S := [.ifS (.not_ (.cl (Str.ofString "raw_is_row") [.slot 0, .slot 1])) [.raise (Str.ofString "NoRow")] []]
def b_raw_allowed : List S := [.par 3 4 (.con (.int 0)) (.gl (Str.ofString "NOUGHT")), .for_ (.nm 2) .val [.slot 1] [.asgT [.nm 5, .nm 3] (.sub (.sub (.sub (.slot 0) (.gl (Str.ofString "RULES"))) (.slot 3)) (.slot 2)), .asg 4 (.cl (Str.ofString "plus") [.slot 4, .slot 5])], .ret (.slot 4)]
def b_law_shared : List S := [.asg 0 (.bi .abs [.slot 0]), .for_ (.nm 2) .range [.con (.int 4000)] [.ifS (.cmp .eq (.slot 1) (.con (.int 0))) [.ret (.slot 0)] [], .asg 3 (.bin .mod (.bi .int [.slot 0]) (.slot 1)), .asg 0 (.slot 1), .asg 1 (.slot 3)], .ret (.slot 0)]
def b_is_machine : List S := [.ifS (.or_ [.not_ (.cl (Str.ofString "is_tuple_of") [.slot 0, .con (.int 2)]), .not_ (.cl (Str.ofString "is_size") [.sub (.slot 0) (.gl (Str.ofString "SIZE"))]), .not_ (.isi (.sub (.slot 0) (.gl (Str.ofString "RULES"))) .tuple)]) [.ret (.con (.bl false))] [], .asg 1 (.bi .len [.sub (.slot 0) (.gl (Str.ofString "RULES"))]), .ret (.and_ [.chain .le .le (.con (.int 1)) (.slot 1) (.gl (Str.ofString "MOST_STATES")), .bi .all [.lc (.cl (Str.ofString "is_rule") [.slot 2, .sub (.slot 0) (.gl (Str.ofString "SIZE")), .slot 1]) (.nm 2) .val [.sub (.slot 0) (.gl (Str.ofString "RULES"))] [] [2]]])]
def b_raw_is_row : List S := [.ifS (.or_ [.not_ (.isi (.slot 1) .tuple), .cmp .gt (.bi .len [.slot 1]) (.gl (Str.ofString "MOST_LETTERS"))]) [.ret (.con (.bl false))] [], .ret (.bi .all [.lc (.cl (Str.ofString "is_index") [.slot 2, .slot 0]) (.nm 2) .val [.slot 1] [] [2]])]
def b_plus : List S := [.ret (.cl (Str.ofString "fraction") [.bin .add (.bin .mul (.sub (.slot 0) (.con (.int 0))) (.sub (.slot 1) (.con (.int 1)))) (.bin .mul (.sub (.slot 1) (.con (.int 0))) (.sub (.slot 0) (.con (.int 1)))), .bin .mul (.sub (.slot 0) (.con (.int 1))) (.sub (.slot 1) (.con (.int 1)))])]
def b_is_tuple_of : List S := [.ret (.and_ [.isi (.slot 0) .tuple, .cmp .eq (.bi .len [.slot 0]) (.slot 1)])]
def b_is_size : List S := [.ret (.cl (Str.ofString "is_between") [.slot 0, .con (.int 2), .gl (Str.ofString "MOST_SIZE")])]
def b_is_rule : List S := [.ret (.and_ [.cl (Str.ofString "is_tuple_of") [.slot 0, .slot 1], .bi .all [.lc (.cl (Str.ofString "is_step") [.slot 3, .slot 2]) (.nm 3) .val [.slot 0] [] [3]]])]
def b_is_index : List S := [.ret (.cl (Str.ofString "is_between") [.slot 0, .con (.int 0), .bin .sub (.slot 1) (.con (.int 1))])]
def b_fraction : List S := [.asg 2 (.bi .gcd [.slot 0, .slot 1]), .ifS (.cmp .lt (.slot 1) (.con (.int 0))) [.asg 2 (.neg (.slot 2))] [], .ret (.tup [.bin .fdiv (.slot 0) (.slot 2), .bin .fdiv (.slot 1) (.slot 2)])]
def b_is_between : List S := [.ret (.and_ [.cl (Str.ofString "is_integer") [.slot 0], .chain .le .le (.slot 1) (.slot 0) (.slot 2)])]
def b_is_step : List S := [.ret (.and_ [.cl (Str.ofString "is_tuple_of") [.slot 0, .con (.int 2)], .cl (Str.ofString "is_allowance") [.sub (.slot 0) (.con (.int 0))], .cl (Str.ofString "is_index") [.sub (.slot 0) (.con (.int 1)), .slot 1]])]
def b_is_integer : List S := [.ret (.and_ [.isi (.slot 0) .int, .not_ (.isi (.slot 0) .bool)])]
def b_is_allowance : List S := [.ret (.and_ [.cl (Str.ofString "is_fraction") [.slot 0], .cl (Str.ofString "is_between") [.sub (.slot 0) (.con (.int 0)), .neg (.gl (Str.ofString "MOST_TOP")), .gl (Str.ofString "MOST_TOP")], .cmp .le (.sub (.slot 0) (.con (.int 1))) (.gl (Str.ofString "MOST_BOTTOM"))])]
def b_is_fraction : List S := [.ifS (.or_ [.not_ (.cl (Str.ofString "is_tuple_of") [.slot 0, .con (.int 2)]), .not_ (.cl (Str.ofString "is_integer") [.sub (.slot 0) (.con (.int 0))]), .not_ (.cl (Str.ofString "is_integer") [.sub (.slot 0) (.con (.int 1))]), .cmp .lt (.sub (.slot 0) (.con (.int 1))) (.con (.int 1))]) [.ret (.con (.bl false))] [], .ret (.cmp .eq (.bi .gcd [.sub (.slot 0) (.con (.int 0)), .sub (.slot 0) (.con (.int 1))]) (.con (.int 1)))]
end PK

set_option Elab.async false
set_option linter.all false
set_option maxRecDepth 100000
set_option maxHeartbeats 4000000
/-! bodies of defs, printed by lib.py -/
namespace PK
open PySem MP L2
def b_law_row : List S := [.asg 2 (.sub (.lst [.cl (Str.ofString "_law_draw") [.slot 0, .con (.int 13)], .bin .add (.con (.int 390)) (.cl (Str.ofString "_law_draw") [.slot 0, .con (.int 11)])]) (.bi .int [.cmp .eq (.cl (Str.ofString "_law_draw") [.slot 0, .con (.int 25)]) (.con (.int 0))])), .ret (.bi .tuple [.lc (.cl (Str.ofString "_law_draw") [.slot 0, .slot 1]) (.nm 3) .range [.slot 2] [] [3]])]
def b_law_read : List S := [.asg 3 (.slot 1), .asg 4 (.tup [.con (.int 0), .con (.int 1)]), .for_ (.nm 5) .val [.slot 2] [.asg 4 (.cl (Str.ofString "_law_plus") [.slot 4, .sub (.sub (.sub (.sub (.slot 0) (.con (.int 1))) (.slot 3)) (.slot 5)) (.con (.int 0))]), .asg 3 (.sub (.sub (.sub (.sub (.slot 0) (.con (.int 1))) (.slot 3)) (.slot 5)) (.con (.int 1)))], .ret (.tup [.slot 4, .slot 3])]
def b_law_parted_right : List S := [.asg 3 (.cl (Str.ofString "_law_draw") [.slot 0, .bin .add (.bi .len [.slot 2]) (.con (.int 1))]), .asgT [.nm 4, .nm 5] (.cl (Str.ofString "_law_read") [.slot 1, .con (.int 0), .slc (.slot 2) (.con .non) (.slot 3)]), .asgT [.nm 6, .nm 7] (.cl (Str.ofString "_law_begun_at") [.slot 1, .slot 5]), .ifS (.cmp .ne (.cl (Str.ofString "_law_plus") [.slot 4, .cl (Str.ofString "allowed") [.slot 6, .slc (.slot 2) (.slot 3) (.con .non)]]) (.cl (Str.ofString "allowed") [.slot 1, .slot 2])) [.ret (.con (.bl false))] [], .ret (.and_ [.cmp .eq (.sub (.slot 7) (.cl (Str.ofString "state_after") [.slot 6, .slc (.slot 2) (.slot 3) (.con .non)])) (.cl (Str.ofString "state_after") [.slot 1, .slot 2]), .cmp .eq (.cl (Str.ofString "allowed") [.slot 1, .slc (.slot 2) (.con .non) (.slot 3)]) (.slot 4)])]
def b_law_odd_right : List S := [.asg 3 (.sub (.lst [.slot 1, .cl (Str.ofString "_law_spoilt") [.slot 1, .cl (Str.ofString "_law_draw") [.slot 0, .cl (Str.ofString "_law_nodes") [.slot 1]], .slot 0]]) (.cl (Str.ofString "_law_draw") [.slot 0, .con (.int 2)])), .asg 4 (.cl (Str.ofString "_law_spoilt") [.slot 2, .cl (Str.ofString "_law_draw") [.slot 0, .cl (Str.ofString "_law_nodes") [.slot 2]], .slot 0]), .asg 5 (.con (.str (Str.ofString "told"))), .asg 6 (.tup [.con .non, .con .non]), .ifS (.not_ (.cl (Str.ofString "_law_machine_fits") [.slot 3])) [.asg 5 (.con (.str (Str.ofString "machine")))] [.ifS (.not_ (.cl (Str.ofString "_law_row_fits") [.sub (.slot 3) (.con (.int 0)), .slot 4])) [.asg 5 (.con (.str (Str.ofString "row")))] [.asg 6 (.cl (Str.ofString "_law_read") [.slot 3, .con (.int 0), .slot 4])]], .ret (.and_ [.cmp .eq (.cl (Str.ofString "_law_word") [.fnv (Str.ofString "allowed"), .slot 3, .slot 4]) (.tup [.slot 5, .sub (.slot 6) (.con (.int 0))]), .cmp .eq (.cl (Str.ofString "_law_word") [.fnv (Str.ofString "state_after"), .slot 3, .slot 4]) (.tup [.slot 5, .sub (.slot 6) (.con (.int 1))])])]
def b_law_begun_at : List S := [.asg 2 (.bin .add (.lst [.slot 1]) (.lc (.slot 4) (.nm 4) .range [.bi .len [.sub (.slot 0) (.con (.int 1))]] [.cmp .ne (.slot 4) (.slot 1)] [4])), .asg 3 (.lst []), .for_ (.nm 4) .val [.slot 2] [.expr (.mth .append (.slot 3) [.bi .tuple [.lc (.tup [.sub (.slot 5) (.con (.int 0)), .mth .index (.slot 2) [.sub (.slot 5) (.con (.int 1))]]) (.nm 5) .val [.sub (.sub (.slot 0) (.con (.int 1))) (.slot 4)] [] [5]]])], .ret (.tup [.tup [.sub (.slot 0) (.con (.int 0)), .bi .tuple [.slot 3]], .slot 2])]
def b_law_spoilt : List S := [.ifS (.cmp .eq (.slot 1) (.con (.int 0))) [.ret (.cl (Str.ofString "_law_changed") [.slot 0, .slot 2])] [], .asg 1 (.bin .sub (.slot 1) (.con (.int 1))), .for_ (.nm 3) .range [.bi .len [.slot 0]] [.asg 4 (.cl (Str.ofString "_law_nodes") [.sub (.slot 0) (.slot 3)]), .ifS (.cmp .lt (.slot 1) (.slot 4)) [.ret (.bin .add (.bin .add (.slc (.slot 0) (.con .non) (.slot 3)) (.tup [.cl (Str.ofString "_law_spoilt") [.sub (.slot 0) (.slot 3), .slot 1, .slot 2]])) (.slc (.slot 0) (.bin .add (.slot 3) (.con (.int 1))) (.con .non)))] [], .asg 1 (.bin .sub (.slot 1) (.slot 4))], .ret (.slot 0)]
def b_law_nodes : List S := [.ifS (.isi (.slot 0) .tuple) [.ret (.bin .add (.con (.int 1)) (.bi .sum [.lc (.cl (Str.ofString "_law_nodes") [.slot 1]) (.nm 1) .val [.slot 0] [] [1]]))] [], .ret (.con (.int 1))]
def b_law_machine_fits : List S := [.ifS (.or_ [.not_ (.cl (Str.ofString "_law_long") [.slot 0, .con (.int 2)]), .not_ (.cl (Str.ofString "_law_is_int") [.sub (.slot 0) (.con (.int 0)), .con (.int 2), .con (.int 4)]), .not_ (.isi (.sub (.slot 0) (.con (.int 1))) .tuple)]) [.ret (.con (.bl false))] [], .asg 1 (.bi .len [.sub (.slot 0) (.con (.int 1))]), .ifS (.or_ [.cmp .lt (.slot 1) (.con (.int 1)), .cmp .gt (.slot 1) (.con (.int 12)), .not_ (.bi .all [.lc (.cl (Str.ofString "_law_long") [.slot 2, .sub (.slot 0) (.con (.int 0))]) (.nm 2) .val [.sub (.slot 0) (.con (.int 1))] [] [2]])]) [.ret (.con (.bl false))] [], .ret (.bi .all [.lc (.bi .all [.lc (.cl (Str.ofString "_law_step_fits") [.slot 3, .slot 1]) (.nm 3) .val [.slot 2] [] [3]]) (.nm 2) .val [.sub (.slot 0) (.con (.int 1))] [] [2]])]
def b_law_row_fits : List S := [.ifS (.or_ [.not_ (.isi (.slot 1) .tuple), .cmp .gt (.bi .len [.slot 1]) (.con (.int 400))]) [.ret (.con (.bl false))] [], .ret (.bi .all [.lc (.cl (Str.ofString "_law_is_int") [.slot 2, .con (.int 0), .bin .sub (.slot 0) (.con (.int 1))]) (.nm 2) .val [.slot 1] [] [2]])]
def b_law_word : List S := [.asg 3 (.tup [.con (.str (Str.ofString "other")), .con .non]), .tryS [.asg 3 (.tup [.con (.str (Str.ofString "told")), .clv 0 [.slot 1, .slot 2]])] [((Str.ofString "NoMachine"), [.asg 3 (.tup [.con (.str (Str.ofString "machine")), .con .non])]), ((Str.ofString "NoRow"), [.asg 3 (.tup [.con (.str (Str.ofString "row")), .con .non])]), ((Str.ofString "MissError"), [.asg 3 (.tup [.con (.str (Str.ofString "other")), .con .non])])], .ret (.slot 3)]
def b_law_changed : List S := [.asg 2 (.cl (Str.ofString "_law_draw") [.slot 1, .con (.int 9)]), .ifS (.or_ [.cmp .eq (.slot 2) (.con (.int 0)), .not_ (.isi2 (.slot 0) [.tuple, .int]), .isi (.slot 0) .bool]) [.ret (.cl (Str.ofString "_law_any") [.slot 1, .con (.int 1)])] [], .ifS (.isi (.slot 0) .int) [.ret (.sub (.lst [.bin .add (.slot 0) (.con (.int 1)), .bin .sub (.slot 0) (.con (.int 1)), .neg (.slot 0), .cmp .ge (.slot 0) (.con (.int 1)), .con (.int 0), .con (.int 1000001), .con .non, .tup [.slot 0]]) (.bin .sub (.slot 2) (.con (.int 1))))] [], .asg 3 (.lst [.slc (.slot 0) (.con (.int 1)) (.con .non), .slc (.slot 0) (.con .non) (.neg (.con (.int 1))), .bin .add (.slc (.slot 0) (.con (.int 1)) (.con .non)) (.slc (.slot 0) (.con .non) (.con (.int 1))), .bin .add (.slc (.slot 0) (.con .non) (.con (.int 1))) (.slot 0), .bin .add (.slot 0) (.tup [.con (.int 0)]), .bi .list [.slot 0]]), .ret (.sub (.bin .add (.slot 3) (.lst [.con .non, .bin .mul (.slot 0) (.con (.int 2))])) (.bin .sub (.slot 2) (.con (.int 1))))]
def b_law_long : List S := [.ret (.and_ [.isi (.slot 0) .tuple, .cmp .eq (.bi .len [.slot 0]) (.slot 1)])]
def b_law_is_int : List S := [.ret (.and_ [.isi (.slot 0) .int, .not_ (.isi (.slot 0) .bool), .cmp .le (.slot 1) (.slot 0), .cmp .le (.slot 0) (.slot 2)])]
def b_law_step_fits : List S := [.ifS (.or_ [.not_ (.cl (Str.ofString "_law_long") [.slot 0, .con (.int 2)]), .not_ (.cl (Str.ofString "_law_fraction_fits") [.sub (.slot 0) (.con (.int 0))]), .not_ (.cl (Str.ofString "_law_is_int") [.sub (.slot 0) (.con (.int 1)), .con (.int 0), .bin .sub (.slot 1) (.con (.int 1))])]) [.ret (.con (.bl false))] [], .ret (.and_ [.cmp .le (.neg (.con (.int 1000000))) (.sub (.sub (.slot 0) (.con (.int 0))) (.con (.int 0))), .cmp .le (.sub (.sub (.slot 0) (.con (.int 0))) (.con (.int 0))) (.con (.int 1000000)), .cmp .le (.sub (.sub (.slot 0) (.con (.int 0))) (.con (.int 1))) (.con (.int 1000))])]
def b_law_any : List S := [.asg 2 (.cl (Str.ofString "_law_draw") [.slot 0, .con (.int 11)]), .ifS (.cmp .eq (.slot 1) (.con (.int 0))) [.asg 2 (.bin .mod (.bi .int [.slot 2]) (.con (.int 6)))] [], .ifS (.cmp .eq (.slot 2) (.con (.int 0))) [.ret (.bin .sub (.cl (Str.ofString "_law_draw") [.slot 0, .con (.int 30)]) (.con (.int 6)))] [], .ifS (.cmp .eq (.slot 2) (.con (.int 1))) [.ret (.sub (.lst [.neg (.bin .pow (.con (.int 10)) (.con (.int 29))), .bin .pow (.con (.int 10)) (.con (.int 29)), .con (.int 1000001), .con (.int 1001), .con (.int 13), .con (.int 401)]) (.cl (Str.ofString "_law_draw") [.slot 0, .con (.int 6)]))] [], .ifS (.cmp .eq (.slot 2) (.con (.int 2))) [.ret (.cmp .eq (.cl (Str.ofString "_law_draw") [.slot 0, .con (.int 2)]) (.con (.int 1)))] [], .ifS (.cmp .eq (.slot 2) (.con (.int 3))) [.ret (.con .non)] [], .ifS (.cmp .le (.slot 2) (.con (.int 5))) [.ret (.sub (.lst [.con (.str (Str.ofString "")), .con (.str (Str.ofString "0")), .con (.str (Str.ofString "1/2:0")), .con (.str (Str.ofString "size 2\n")), .con (.str (Str.ofString "-")), .con (.str (Str.ofString " \n"))]) (.cl (Str.ofString "_law_draw") [.slot 0, .con (.int 6)]))] [], .asg 3 (.lc (.cl (Str.ofString "_law_any") [.slot 0, .bin .sub (.slot 1) (.con (.int 1))]) (.nm 4) .range [.cl (Str.ofString "_law_draw") [.slot 0, .con (.int 4)]] [] [4]), .ifS (.cmp .le (.slot 2) (.con (.int 8))) [.ret (.bi .tuple [.slot 3])] [], .ifS (.cmp .eq (.slot 2) (.con (.int 9))) [.ret (.slot 3)] [], .ret (.dct [.inr (Str.ofString "a"), .inl 1] [.slot 3, .con .non])]
def b_law_fraction_fits : List S := [.ifS (.or_ [.not_ (.cl (Str.ofString "_law_long") [.slot 0, .con (.int 2)]), .not_ (.cl (Str.ofString "_law_is_int") [.sub (.slot 0) (.con (.int 0)), .neg (.bin .pow (.con (.int 10)) (.con (.int 40))), .bin .pow (.con (.int 10)) (.con (.int 40))])]) [.ret (.con (.bl false))] [], .ret (.and_ [.cl (Str.ofString "_law_is_int") [.sub (.slot 0) (.con (.int 1)), .con (.int 1), .bin .pow (.con (.int 10)) (.con (.int 40))], .cmp .eq (.cl (Str.ofString "_law_shared") [.sub (.slot 0) (.con (.int 0)), .sub (.slot 0) (.con (.int 1))]) (.con (.int 1))])]
def b_law_some : List S := [.asgT [.nm 4, .nm 5] (.cl (Str.ofString "_law_machine") [.slot 0]), .asg 1 (.bi .min [.con (.int 6), .bi .len [.slot 5]]), .asg 2 (.lst []), .for_ (.nm 3) .range [.slot 1] [.expr (.mth .append (.slot 2) [.bi .tuple [.lc (.tup [.sub (.slot 6) (.con (.int 0)), .bi .min [.sub (.slot 6) (.con (.int 1)), .bin .sub (.slot 1) (.con (.int 1))]]) (.nm 6) .val [.sub (.slot 5) (.slot 3)] [] [6]]])], .ret (.tup [.slot 4, .bi .tuple [.slot 2]])]
def b_law_with_more : List S := [.asgT [.nm 7, .nm 8] (.slot 1), .asg 2 (.bin .add (.con (.int 1)) (.cl (Str.ofString "_law_draw") [.slot 0, .con (.int 6)])), .asg 3 (.bi .sorted [.lc (.bin .add (.con (.int 1)) (.cl (Str.ofString "_law_draw") [.slot 0, .bi .len [.slot 8]])) (.nm 9) .range [.slot 2] [] [9]]), .asg 4 (.lc (.bin .add (.slot 6) (.bi .len [.lc (.slot 11) (.nm 11) .val [.slot 3] [.cmp .le (.slot 11) (.slot 6)] [11]])) (.nm 6) .range [.bi .len [.slot 8]] [] [6]), .asg 5 (.bin .mul (.lst [.con .non]) (.bin .add (.bi .len [.slot 8]) (.slot 2))), .for_ (.nm 6) .range [.bi .len [.slot 8]] [.setIx (.slot 5) (.sub (.slot 4) (.slot 6)) (.bi .tuple [.lc (.tup [.sub (.slot 10) (.con (.int 0)), .sub (.slot 4) (.sub (.slot 10) (.con (.int 1)))]) (.nm 10) .val [.sub (.slot 8) (.slot 6)] [] [10]])], .for_ (.nm 6) .range [.bi .len [.slot 5]] [.ifS (.cmp .is (.sub (.slot 5) (.slot 6)) (.con .non)) [.setIx (.slot 5) (.slot 6) (.bi .tuple [.lc (.tup [.cl (Str.ofString "_law_allowance") [.slot 0], .cl (Str.ofString "_law_draw") [.slot 0, .bi .len [.slot 5]]]) (.nm 12) .range [.slot 7] [] [12]])] []], .ret (.tup [.tup [.slot 7, .bi .tuple [.slot 5]], .slot 4])]
def b_law_twin : List S := [.asgT [.nm 6, .nm 7] (.slot 1), .asg 2 (.cl (Str.ofString "_law_draw") [.slot 0, .bi .len [.slot 7]]), .asg 3 (.bi .len [.slot 7]), .asg 4 (.lst []), .for_ (.nm 5) .val [.bin .add (.bi .list [.slot 7]) (.lst [.sub (.slot 7) (.slot 2)])] [.asg 8 (.lst []), .for_ (.nm 9) .val [.slot 5] [.asg 10 (.sub (.lst [.sub (.slot 9) (.con (.int 1)), .slot 3]) (.bi .int [.and_ [.cmp .eq (.sub (.slot 9) (.con (.int 1))) (.slot 2), .cmp .eq (.cl (Str.ofString "_law_draw") [.slot 0, .con (.int 2)]) (.con (.int 0))]])), .expr (.mth .append (.slot 8) [.tup [.sub (.slot 9) (.con (.int 0)), .slot 10]])], .expr (.mth .append (.slot 4) [.bi .tuple [.slot 8]])], .ret (.tup [.tup [.slot 6, .bi .tuple [.slot 4]], .slot 2])]
def b_reached : List S := [.expr (.cl (Str.ofString "check_machine") [.slot 0]), .ret (.cl (Str.ofString "raw_reached") [.slot 0])]
def b_law_rows : List S := [.asg 2 (.lst [.tup [], .tup [.con (.int 0)], .tup [.bin .sub (.slot 1) (.con (.int 1))], .tup [.con (.int 0), .con (.int 1)], .tup [.con (.int 1), .con (.int 0), .con (.int 1)]]), .for_ (.nm 3) .range [.con (.int 8)] [.expr (.mth .append (.slot 2) [.bi .tuple [.lc (.cl (Str.ofString "_law_draw") [.slot 0, .slot 1]) (.nm 4) .range [.cl (Str.ofString "_law_draw") [.slot 0, .con (.int 40)]] [] [4]]])], .ret (.slot 2)]
def b_raw_reached : List S := [.asg 1 (.lst [.con (.int 0)]), .asg 2 (.lst [.con (.int 0)]), .whl (.cmp .gt (.bi .len [.slot 2]) (.con (.int 0))) [.for_ (.tp [.nm 3, .nm 4]) .val [.sub (.sub (.slot 0) (.gl (Str.ofString "RULES"))) (.mth .pop (.slot 2) [])] [.ifS (.cmp .notIn (.slot 4) (.slot 1)) [.expr (.mth .append (.slot 1) [.slot 4]), .expr (.mth .append (.slot 2) [.slot 4])] []]], .ret (.bi .tuple [.bi .sorted [.slot 1]])]
end PK

set_option Elab.async false
set_option linter.all false
set_option maxRecDepth 100000
set_option maxHeartbeats 4000000
/-! bodies of defs, printed by lib.py -/
namespace PK
open PySem MP L2
def b_law_chances : List S := [.asg 2 (.lc (.sub (.lst [.con (.int 0), .con (.int 1), .bin .add (.con (.int 1)) (.cl (Str.ofString "_law_draw") [.slot 0, .con (.int 9)]), .cl (Str.ofString "_law_draw") [.slot 0, .con (.int 100)]]) (.cl (Str.ofString "_law_draw") [.slot 0, .con (.int 4)])) (.nm 4) .range [.slot 1] [] [4]), .asg 3 (.cl (Str.ofString "_law_draw") [.slot 0, .slot 1]), .setIx (.slot 2) (.slot 3) (.bin .add (.sub (.slot 2) (.slot 3)) (.bi .int [.cmp .eq (.bi .sum [.slot 2]) (.con (.int 0))])), .ret (.bi .tuple [.lc (.cl (Str.ofString "_law_part") [.slot 5, .bi .sum [.slot 2]]) (.nm 5) .val [.slot 2] [] [5]])]
def b_misses : List S := [.expr (.cl (Str.ofString "check_row") [.gl (Str.ofString "MOST_SIZE"), .slot 0]), .ifS (.not_ (.cl (Str.ofString "are_chances") [.slot 0, .slot 1])) [.raise (Str.ofString "NoChances")] [], .asg 2 (.gl (Str.ofString "NOUGHT")), .for_ (.tp [.nm 3, .nm 4]) .zip [.slot 0, .slot 1] [.asg 2 (.cl (Str.ofString "plus") [.slot 2, .cl (Str.ofString "minus") [.gl (Str.ofString "ONE"), .sub (.slot 4) (.slot 3)]])], .ret (.slot 2)]
def b_law_due : List S := [.asg 2 (.tup [.con (.int 0), .con (.int 1)]), .for_ (.nm 3) .range [.bi .len [.slot 0]] [.asg 2 (.cl (Str.ofString "_law_plus") [.slot 2, .cl (Str.ofString "_law_less") [.tup [.con (.int 1), .con (.int 1)], .sub (.sub (.slot 1) (.slot 3)) (.sub (.slot 0) (.slot 3))]])], .ret (.slot 2)]
def b_law_plain_right : List S := [.asg 2 (.bi .len [.slot 0]), .ifS (.cmp .ne (.cl (Str.ofString "misses") [.slot 0, .bin .mul (.tup [.bin .mul (.tup [.tup [.con (.int 1), .slot 1]]) (.slot 1)]) (.slot 2)]) (.cl (Str.ofString "_law_part") [.bin .mul (.slot 2) (.bin .sub (.slot 1) (.con (.int 1))), .slot 1])) [.ret (.con (.bl false))] [], .ifS (.cmp .ne (.cl (Str.ofString "misses") [.slot 0, .bi .tuple [.lc (.cl (Str.ofString "_law_sure") [.slot 1, .slot 3]) (.nm 3) .val [.slot 0] [] [3]]]) (.tup [.con (.int 0), .con (.int 1)])) [.ret (.con (.bl false))] [], .ret (.cmp .eq (.cl (Str.ofString "misses") [.slot 0, .bi .tuple [.lc (.cl (Str.ofString "_law_sure") [.slot 1, .bin .mod (.bi .int [.bin .add (.slot 3) (.con (.int 1))]) (.slot 1)]) (.nm 3) .val [.slot 0] [] [3]]]) (.tup [.slot 2, .con (.int 1)]))]
def b_are_chances : List S := [.ifS (.or_ [.not_ (.cl (Str.ofString "is_tuple_of") [.slot 1, .bi .len [.slot 0]]), .not_ (.bi .all [.lc (.isi (.slot 3) .tuple) (.nm 3) .val [.slot 1] [] [3]])]) [.ret (.con (.bl false))] [], .ifS (.cmp .eq (.bi .len [.slot 0]) (.con (.int 0))) [.ret (.con (.bl true))] [], .asg 2 (.bi .len [.sub (.slot 1) (.con (.int 0))]), .ret (.and_ [.cl (Str.ofString "is_size") [.slot 2], .cmp .lt (.bi .max [.slot 0]) (.slot 2), .bi .all [.lc (.cl (Str.ofString "raw_is_chances") [.slot 2, .slot 3]) (.nm 3) .val [.slot 1] [] [3]]])]
def b_minus : List S := [.ret (.cl (Str.ofString "fraction") [.bin .sub (.bin .mul (.sub (.slot 0) (.con (.int 0))) (.sub (.slot 1) (.con (.int 1)))) (.bin .mul (.sub (.slot 1) (.con (.int 0))) (.sub (.slot 0) (.con (.int 1)))), .bin .mul (.sub (.slot 0) (.con (.int 1))) (.sub (.slot 1) (.con (.int 1)))])]
def b_law_sure : List S := [.ret (.bi .tuple [.lc (.tup [.bi .int [.cmp .eq (.slot 2) (.slot 1)], .con (.int 1)]) (.nm 2) .range [.slot 0] [] [2]])]
def b_law_are_chances : List S := [.ifS (.not_ (.cl (Str.ofString "_law_long") [.slot 1, .bi .len [.slot 0]])) [.ret (.con (.bl false))] [], .ifS (.cmp .eq (.bi .len [.slot 0]) (.con (.int 0))) [.ret (.con (.bl true))] [], .ifS (.or_ [.not_ (.isi (.sub (.slot 1) (.con (.int 0))) .tuple), .cmp .notIn (.bi .len [.sub (.slot 1) (.con (.int 0))]) (.lst [.con (.int 2), .con (.int 3), .con (.int 4)]), .cmp .ge (.bi .max [.slot 0]) (.bi .len [.sub (.slot 1) (.con (.int 0))])]) [.ret (.con (.bl false))] [], .ret (.bi .all [.lc (.cl (Str.ofString "_law_chances_fit") [.bi .len [.sub (.slot 1) (.con (.int 0))], .slot 2]) (.nm 2) .val [.slot 1] [] [2]])]
def b_raw_is_chances : List S := [.ifS (.or_ [.not_ (.cl (Str.ofString "is_tuple_of") [.slot 1, .slot 0]), .not_ (.bi .all [.lc (.and_ [.cl (Str.ofString "is_fraction") [.slot 3], .cmp .ge (.sub (.slot 3) (.con (.int 0))) (.con (.int 0))]) (.nm 3) .val [.slot 1] [] [3]])]) [.ret (.con (.bl false))] [], .asg 2 (.gl (Str.ofString "NOUGHT")), .for_ (.nm 3) .val [.slot 1] [.asg 2 (.cl (Str.ofString "plus") [.slot 2, .slot 3])], .ret (.cmp .eq (.slot 2) (.gl (Str.ofString "ONE")))]
def b_law_chances_fit : List S := [.ifS (.or_ [.not_ (.cl (Str.ofString "_law_long") [.slot 1, .slot 0]), .not_ (.bi .all [.lc (.and_ [.cl (Str.ofString "_law_fraction_fits") [.slot 3], .cmp .ge (.sub (.slot 3) (.con (.int 0))) (.con (.int 0))]) (.nm 3) .val [.slot 1] [] [3]])]) [.ret (.con (.bl false))] [], .asg 2 (.tup [.con (.int 0), .con (.int 1)]), .for_ (.nm 3) .val [.slot 1] [.asg 2 (.cl (Str.ofString "_law_plus") [.slot 2, .slot 3])], .ret (.cmp .eq (.slot 2) (.tup [.con (.int 1), .con (.int 1)]))]
def b_law_ways : List S := [.asg 1 (.dct [.inl 0] [.tup []]), .asg 2 (.lst [.con (.int 0)]), .for_ (.nm 3) .range [.bi .len [.sub (.slot 0) (.con (.int 1))]] [.ifS (.cmp .lt (.slot 3) (.bi .len [.slot 2])) [.for_ (.nm 4) .range [.sub (.slot 0) (.con (.int 0))] [.asg 5 (.sub (.sub (.sub (.sub (.slot 0) (.con (.int 1))) (.sub (.slot 2) (.slot 3))) (.slot 4)) (.con (.int 1))), .ifS (.cmpD true (.slot 5) (.slot 1)) [.dput (.slot 1) (.slot 5) (.bin .add (.dget (.slot 1) (.sub (.slot 2) (.slot 3))) (.tup [.slot 4])), .expr (.mth .append (.slot 2) [.slot 5])] []]] []], .ret (.slot 1)]
def b_law_named : List S := [.asg 2 (.bin .mul (.lst [.tup []]) (.bi .len [.slot 1])), .for_ (.nm 3) .range [.bi .len [.slot 1]] [.setIx (.slot 2) (.sub (.slot 1) (.slot 3)) (.bi .tuple [.lc (.tup [.sub (.slot 4) (.con (.int 0)), .sub (.slot 1) (.sub (.slot 4) (.con (.int 1)))]) (.nm 4) .val [.sub (.sub (.slot 0) (.con (.int 1))) (.slot 3)] [] [4]])], .ret (.tup [.sub (.slot 0) (.con (.int 0)), .bi .tuple [.slot 2]])]
def b_law_short_rows : List S := [.asg 1 (.lst [.tup []]), .asg 2 (.lst [.tup []]), .for_ (.nm 3) .range [.con (.int 3)] [.asg 4 (.lst []), .for_ (.nm 5) .val [.slot 1] [.asg 4 (.bin .add (.slot 4) (.lc (.bin .add (.slot 5) (.tup [.slot 6])) (.nm 6) .range [.slot 0] [] [6]))], .asg 1 (.slot 4), .asg 2 (.bin .add (.slot 2) (.slot 1))], .ret (.slot 2)]
def b_law_told : List S := [.asg 1 (.tup [.con (.str (Str.ofString "other")), .con .non]), .tryS [.asg 1 (.tup [.con (.str (Str.ofString "told")), .cl (Str.ofString "reached") [.slot 0]])] [((Str.ofString "NoMachine"), [.asg 1 (.tup [.con (.str (Str.ofString "machine")), .con .non])]), ((Str.ofString "MissError"), [.asg 1 (.tup [.con (.str (Str.ofString "other")), .con .non])])], .ret (.slot 1)]
end PK

set_option Elab.async false
set_option linter.all false
set_option maxRecDepth 100000
set_option maxHeartbeats 4000000
/-! PKa: what is drawn. -/
namespace PK
open PySem MP L2
class Dr (P : Prog) : Prop where
  mixed : Has P "_law_mixed" 1 1 b_law_mixed
  filled : Has P "_law_filled" 1 2 b_law_filled
  draw : Has P "_law_draw" 2 3 b_law_draw
variable {P : Prog} [Dr P] {k : Nat} {h : PH} {E : Str → PH → Prop}
theorem mul_small {i j : Int} (h : -(2 ^ 64) < j ∧ j < 2 ^ 64) : mulOk i j = true := by
  unfold mulOk
  rw [decide_eq_true h, Bool.or_true, Bool.true_or]
theorem mul_small' {i j : Int} (h : -(2 ^ 64) < i ∧ i < 2 ^ 64) : mulOk i j = true := by
  unfold mulOk
  rw [decide_eq_true h, Bool.true_or, Bool.true_or]
theorem mixed_wp {n : Int} {Q : PV → PH → Prop} (q : ∀ r : Int, 0 ≤ r → Q (.int r) h) : wp (callF P (k + 1) "_law_mixed" [.int n]) h Q E := by
  rw [wp_call Dr.mixed rfl]
  unfold b_law_mixed
  simp [slot, Con.pv]
  refine ⟨mul_small (by omega), mul_small' (by omega), mul_small (by omega), mul_small' (by omega), q _ (by omega)⟩
/-- a well: its cells, how many are used, what is left of one, the state -/
def Well (h : PH) (w c : Nat) : Prop := ∃ (cells : List Int) (a b d : Int), h[w]? = some (.lst .own [.obj c, .int a, .int b, .int d]) ∧ h[c]? = some (.lst .own (cells.map .int)) ∧ c ≠ w ∧ 0 ≤ a ∧ cells.length ≤ 63
/-- all stays but the well -/
structure Hx (w c : Nat) (h h' : PH) : Prop where
  len : h.length ≤ h'.length
  keep : ∀ j, j < h.length → j ≠ w → h'[j]? = h[j]?
  well : Well h' w c
theorem Hx.refl {w c : Nat} (hw : Well h w c) : Hx w c h h := ⟨Nat.le_refl _, fun _ _ _ => rfl, hw⟩
theorem Hx.trans {w c : Nat} {h1 h2 : PH} (a : Hx w c h h1) (b : Hx w c h1 h2) : Hx w c h h2 := ⟨Nat.le_trans a.len b.len, fun j hj hw => (b.keep j (Nat.lt_of_lt_of_le hj a.len) hw).trans (a.keep j hj hw), b.well⟩
theorem filled_wp {w c : Nat} (hw : Well h w c) {Q : PV → PH → Prop} (q : ∀ (r : Int) h', Hx w c h h' → Q (.int r) h') : wp (callF P (k + 2) "_law_filled" [.obj w]) h Q E := by
  obtain ⟨cells, a, b, d, h1, h2, h3, h4, h5⟩ := hw
  rw [wp_call Dr.filled rfl]
  unfold b_law_filled
  have hwl : w < h.length := (List.getElem?_eq_some_iff.mp h1).1
  have hcl : c < h.length := (List.getElem?_eq_some_iff.mp h2).1
  have l1 : ownL h w = some [.obj c, .int a, .int b, .int d] := ownL_of h1
  have l2 : ownL h c = some (cells.map .int) := ownL_of h2
  have n1 : ¬ w = c := fun e => h3 e.symm
  have nx : ∀ a' d' b' : Int, 0 ≤ a' → Hx w c h (h.set w (.lst .own [.obj c, .int a', .int b', .int d'])) := fun a' d' b' ha => ⟨by simp, fun j hj hw => by rw [List.getElem?_set_ne (Ne.symm hw)], cells, a', b', d', by rw [List.getElem?_set_self hwl], by rw [List.getElem?_set_ne n1]; exact h2, h3, ha, h5⟩
  by_cases hle : a + 1 ≤ cells.length
  · have hlt : ¬ ((cells.length : Int) < a + 1) := by omega
    have ha : a < cells.length := by omega
    have hz : a.toNat < cells.length := by omega
    simp [slot, Con.pv, l1, l2, atI, ixN, hwl, hcl, n1, hle, hlt, ha, h4, hz]
    refine ⟨mul_small (by omega), ?_⟩
    by_cases hb : cells[a.toNat] < 1000000000000000000
    · exact .inl ⟨hb, mul_small' (by omega), mixed_wp fun r hr => q r _ (nx _ _ _ (by omega))⟩
    · exact .inr ⟨by omega, q _ _ (nx _ _ _ (by omega))⟩
  · have hlt : ((cells.length : Int) < a + 1) := by omega
    simp [slot, Con.pv, l1, l2, atI, ixN, hwl, hcl, n1, hle, hlt, h4]
    exact ⟨mul_small' (by omega), mixed_wp fun r hr => q r _ (nx _ _ _ (by omega))⟩
theorem draw_wp {w c : Nat} (hw : Well h w c) {m : Int} (h1 : 0 < m) (h2 : m < 4611686018427387904) {Q : PV → PH → Prop} (q : ∀ (r : Int) h', 0 ≤ r → r < m → Hx w c h h' → Q (.int r) h') : wp (callF P (k + 3) "_law_draw" [.obj w, .int m]) h Q E := by
  have hw0 := hw
  obtain ⟨cells, a, b, d, g1, g2, g3, g4, g5⟩ := hw
  rw [wp_call Dr.draw rfl]
  unfold b_law_draw
  have hwl : w < h.length := (List.getElem?_eq_some_iff.mp g1).1
  have l1 : ownL h w = some [.obj c, .int a, .int b, .int d] := ownL_of g1
  have st : ∀ (h3 : PH) (cells : List Int) (a b d b' : Int), h3[w]? = some (.lst .own [.obj c, .int a, .int b, .int d]) → h3[c]? = some (.lst .own (cells.map .int)) → c ≠ w → 0 ≤ a → cells.length ≤ 63 → Hx w c h3 (h3.set w (.lst .own [.obj c, .int a, .int b', .int d])) := fun h3 cells a b d b' g1 g2 g3 g4 g5 =>
    have hwl : w < h3.length := (List.getElem?_eq_some_iff.mp g1).1
    ⟨by simp, fun j hj hw => by rw [List.getElem?_set_ne (Ne.symm hw)], cells, a, b', d, by rw [List.getElem?_set_self hwl], by rw [List.getElem?_set_ne (Ne.symm g3)]; exact g2, g3, g4, g5⟩
  simp [slot, Con.pv, l1, atI, ixN, h1, h2]
  by_cases hb : b = 0
  · refine .inr ⟨hb, filled_wp hw0 fun r h3 hx => ?_⟩
    obtain ⟨cells, a, b, d, g1, g2, g3, g4, g5⟩ := hx.well
    have hwl : w < h3.length := (List.getElem?_eq_some_iff.mp g1).1
    have l1 : ownL h3 w = some [.obj c, .int a, .int b, .int d] := ownL_of g1
    simp [l1, h1, h2, hwl]
    exact q _ _ (Int.emod_nonneg _ (by omega)) (Int.emod_lt_of_pos _ h1) (hx.trans (st h3 cells a b d _ g1 g2 g3 g4 g5))
  · exact .inl ⟨hb, q _ _ (Int.emod_nonneg _ (by omega)) (Int.emod_lt_of_pos _ h1) (st h cells a b d _ g1 g2 g3 g4 g5)⟩
end PK

set_option Elab.async false
set_option linter.all false
set_option maxRecDepth 100000
set_option maxHeartbeats 4000000
/-! PKb: fractions over one bottom. -/
namespace PK
/-- a fraction in lowest terms -/
def nrm (t b : Int) : Int × Int := (t / (Nat.gcd t.natAbs b.natAbs : Nat), b / (Nat.gcd t.natAbs b.natAbs : Nat))
def fr (D : Nat) (n : Int) : Int × Int := nrm n D
theorem gcd_pos' {t b : Int} (hb : 0 < b) : 0 < (Nat.gcd t.natAbs b.natAbs : Nat) := Nat.gcd_pos_of_pos_right _ (by omega)
theorem nrm_top {t b : Int} : (nrm t b).1 * (Nat.gcd t.natAbs b.natAbs : Nat) = t := Int.ediv_mul_cancel (Int.ofNat_dvd_left.mpr (Nat.gcd_dvd_left _ _))
theorem nrm_bot {t b : Int} : (nrm t b).2 * (Nat.gcd t.natAbs b.natAbs : Nat) = b := Int.ediv_mul_cancel (Int.ofNat_dvd_left.mpr (Nat.gcd_dvd_right _ _))
theorem nrm_pos {t b : Int} (hb : 0 < b) : 0 < (nrm t b).2 := by
  have h1 := nrm_bot (t := t) (b := b)
  have h2 : (0 : Int) < (Nat.gcd t.natAbs b.natAbs : Nat) := by exact_mod_cast gcd_pos' hb
  by_cases h : 0 < (nrm t b).2
  · exact h
  · have : (nrm t b).2 * (Nat.gcd t.natAbs b.natAbs : Nat) ≤ 0 := Int.mul_nonpos_of_nonpos_of_nonneg (by omega) (by omega)
    omega
theorem nrm_cop {t b : Int} (hb : 0 < b) : Nat.gcd (nrm t b).1.natAbs (nrm t b).2.natAbs = 1 := by
  have h1 := congrArg Int.natAbs (nrm_top (t := t) (b := b))
  have h2 := congrArg Int.natAbs (nrm_bot (t := t) (b := b))
  rw [Int.natAbs_mul, Int.natAbs_natCast] at h1 h2
  have hg := gcd_pos' (t := t) hb
  have h3 := Nat.gcd_mul_right (nrm t b).1.natAbs (Nat.gcd t.natAbs b.natAbs) (nrm t b).2.natAbs
  rw [h1, h2] at h3
  have h4 : 1 * Nat.gcd t.natAbs b.natAbs = Nat.gcd (nrm t b).1.natAbs (nrm t b).2.natAbs * Nat.gcd t.natAbs b.natAbs := by rw [Nat.one_mul]; exact h3
  exact (Nat.eq_of_mul_eq_mul_right hg h4).symm
theorem nrm_mul {t b : Int} : (nrm t b).1 * b = t * (nrm t b).2 := by
  have h1 := nrm_top (t := t) (b := b)
  have h2 := nrm_bot (t := t) (b := b)
  calc (nrm t b).1 * b = (nrm t b).1 * ((nrm t b).2 * (Nat.gcd t.natAbs b.natAbs : Nat)) := by rw [h2]
    _ = ((nrm t b).1 * (Nat.gcd t.natAbs b.natAbs : Nat)) * (nrm t b).2 := by rw [Int.mul_comm (nrm t b).2, Int.mul_assoc]
    _ = t * (nrm t b).2 := by rw [h1]
/-- lowest terms are one -/
theorem low_eq {a b c d : Int} (hb : 0 < b) (hd : 0 < d) (h1 : Nat.gcd a.natAbs b.natAbs = 1) (h2 : Nat.gcd c.natAbs d.natAbs = 1) (h : a * d = c * b) : a = c ∧ b = d := by
  have e := congrArg Int.natAbs h
  rw [Int.natAbs_mul, Int.natAbs_mul] at e
  have c1 : Nat.Coprime b.natAbs a.natAbs := Nat.Coprime.symm h1
  have c2 : Nat.Coprime d.natAbs c.natAbs := Nat.Coprime.symm h2
  have d1 : b.natAbs ∣ d.natAbs := c1.dvd_of_dvd_mul_left ⟨c.natAbs, by rw [e, Nat.mul_comm]⟩
  have d2 : d.natAbs ∣ b.natAbs := c2.dvd_of_dvd_mul_left ⟨a.natAbs, by rw [← e, Nat.mul_comm]⟩
  have eq : b.natAbs = d.natAbs := Nat.dvd_antisymm d1 d2
  have eb : b = d := by omega
  subst eb
  exact ⟨Int.eq_of_mul_eq_mul_right (by omega) h, rfl⟩
theorem nrm_key {t b n : Int} {D : Nat} (hb : 0 < b) (hD : 0 < D) (h : t * D = n * b) : nrm t b = fr D n := by
  have hD' : (0 : Int) < (D : Int) := by omega
  have h1 := nrm_mul (t := t) (b := b)
  have h2 := nrm_mul (t := n) (b := (D : Int))
  have p1 := nrm_pos (t := t) hb
  have p2 := nrm_pos (t := n) hD'
  obtain ⟨e1, e2⟩ := low_eq p1 p2 (nrm_cop hb) (nrm_cop hD') (by
    -- x1 * y2 = y1 * x2, times b * D
    have q : (nrm t b).1 * (nrm n D).2 * (b * D) = (nrm n D).1 * (nrm t b).2 * (b * D) := by
      calc (nrm t b).1 * (nrm n D).2 * (b * D) = ((nrm t b).1 * b) * ((nrm n D).2 * D) := by ac_rfl
        _ = (t * (nrm t b).2) * ((nrm n D).2 * D) := by rw [h1]
        _ = (t * D) * ((nrm t b).2 * (nrm n D).2) := by ac_rfl
        _ = (n * b) * ((nrm t b).2 * (nrm n D).2) := by rw [h]
        _ = (n * (nrm n D).2) * ((nrm t b).2 * b) := by ac_rfl
        _ = ((nrm n D).1 * D) * ((nrm t b).2 * b) := by rw [h2]
        _ = (nrm n D).1 * (nrm t b).2 * (b * D) := by ac_rfl
    exact Int.eq_of_mul_eq_mul_right (Int.ne_of_gt (Int.mul_pos hb hD')) q)
  exact Prod.ext e1 e2
theorem fr_mul {D : Nat} {n : Int} : (fr D n).1 * D = n * (fr D n).2 := nrm_mul
theorem fr_pos {D : Nat} {n : Int} (hD : 0 < D) : 0 < (fr D n).2 := nrm_pos (by omega)
theorem fr_cop {D : Nat} {n : Int} (hD : 0 < D) : Nat.gcd (fr D n).1.natAbs (fr D n).2.natAbs = 1 := nrm_cop (by omega)
theorem fr_le {D : Nat} {n : Int} (hD : 0 < D) : (fr D n).2 ≤ D := by
  show (D : Int) / _ ≤ D
  exact Int.ediv_le_self _ (by omega)
theorem fr_top {D : Nat} {n : Int} : (fr D n).1.natAbs ≤ n.natAbs := by
  have h := congrArg Int.natAbs (nrm_top (t := n) (b := (D : Int)))
  rw [Int.natAbs_mul, Int.natAbs_natCast] at h
  by_cases hz : Nat.gcd n.natAbs (D : Int).natAbs = 0
  · have h1 : n.natAbs = 0 := Nat.eq_zero_of_gcd_eq_zero_left hz
    rw [hz] at h
    show (n / _).natAbs ≤ _
    have : n = 0 := by omega
    subst this
    simp
  · have : (fr D n).1.natAbs * 1 ≤ (fr D n).1.natAbs * Nat.gcd n.natAbs (D : Int).natAbs := Nat.mul_le_mul_left _ (by omega)
    have h' : (fr D n).1.natAbs * Nat.gcd n.natAbs (D : Int).natAbs = n.natAbs := h
    omega
theorem fr_inj {D : Nat} {m n : Int} (hD : 0 < D) (h : fr D m = fr D n) : m = n := by
  have h1 := fr_mul (D := D) (n := m)
  have h2 := fr_mul (D := D) (n := n)
  rw [h] at h1
  have := fr_pos (D := D) (n := n) hD
  exact Int.eq_of_mul_eq_mul_right (Int.ne_of_gt this) (h1.symm.trans h2)
theorem fr_add {D : Nat} {m n : Int} (hD : 0 < D) : nrm ((fr D m).1 * (fr D n).2 + (fr D n).1 * (fr D m).2) ((fr D m).2 * (fr D n).2) = fr D (m + n) := by
  refine nrm_key (Int.mul_pos (fr_pos hD) (fr_pos hD)) hD ?_
  have h1 := fr_mul (D := D) (n := m)
  have h2 := fr_mul (D := D) (n := n)
  calc ((fr D m).1 * (fr D n).2 + (fr D n).1 * (fr D m).2) * D = ((fr D m).1 * D) * (fr D n).2 + ((fr D n).1 * D) * (fr D m).2 := by rw [Int.add_mul]; ac_rfl
    _ = (m * (fr D m).2) * (fr D n).2 + (n * (fr D n).2) * (fr D m).2 := by rw [h1, h2]
    _ = (m + n) * ((fr D m).2 * (fr D n).2) := by rw [Int.add_mul]; ac_rfl
theorem fr_sub {D : Nat} {m n : Int} (hD : 0 < D) : nrm ((fr D m).1 * (fr D n).2 - (fr D n).1 * (fr D m).2) ((fr D m).2 * (fr D n).2) = fr D (m - n) := by
  refine nrm_key (Int.mul_pos (fr_pos hD) (fr_pos hD)) hD ?_
  have h1 := fr_mul (D := D) (n := m)
  have h2 := fr_mul (D := D) (n := n)
  calc ((fr D m).1 * (fr D n).2 - (fr D n).1 * (fr D m).2) * D = ((fr D m).1 * D) * (fr D n).2 - ((fr D n).1 * D) * (fr D m).2 := by rw [Int.sub_mul]; ac_rfl
    _ = (m * (fr D m).2) * (fr D n).2 - (n * (fr D n).2) * (fr D m).2 := by rw [h1, h2]
    _ = (m - n) * ((fr D m).2 * (fr D n).2) := by rw [Int.sub_mul]; ac_rfl
theorem fr_scale {D : Nat} {m k : Int} (hD : 0 < D) : nrm ((fr D m).1 * k) (fr D m).2 = fr D (m * k) := by
  refine nrm_key (fr_pos hD) hD ?_
  have h1 := fr_mul (D := D) (n := m)
  calc (fr D m).1 * k * D = ((fr D m).1 * D) * k := by ac_rfl
    _ = (m * (fr D m).2) * k := by rw [h1]
    _ = m * k * (fr D m).2 := by ac_rfl
theorem fr_zero {D : Nat} (hD : 0 < D) : fr D 0 = (0, 1) := by
  have := nrm_key (t := 0) (b := 1) (n := 0) (D := D) (by omega) hD (by simp)
  rw [← this]
  rfl
/-- in lowest terms, its bottom a divisor -/
theorem fr_of {t b : Int} {D : Nat} (hb : 0 < b) (hD : 0 < D) (hg : Nat.gcd t.natAbs b.natAbs = 1) (hd : b ∣ (D : Int)) : (t, b) = fr D (t * ((D : Int) / b)) := by
  have e : nrm t b = (t, b) := by unfold nrm; rw [hg]; simp
  rw [← e]
  refine nrm_key hb hD ?_
  rw [Int.mul_assoc, Int.ediv_mul_cancel hd]

/-! ### Euclid's steps -/
def eu : Nat → Nat → Nat → Option Nat
  | 0, _, _ => none
  | n + 1, a, b => if b = 0 then some a else eu n b (a % b)
theorem eu_ok : ∀ (n a b : Nat), b < 2 ^ n → ∀ m, 2 * n + 1 ≤ m → eu m a b = some (Nat.gcd a b) := by
  intro n
  induction n with
  | zero =>
    intro a b hb m hm
    have : b = 0 := by omega
    subst this
    obtain ⟨m, rfl⟩ : ∃ m', m = m' + 1 := ⟨m - 1, by omega⟩
    simp [eu]
  | succ n ih =>
    intro a b hb m hm
    obtain ⟨m, rfl⟩ : ∃ m', m = m' + 2 := ⟨m - 2, by omega⟩
    unfold eu
    by_cases h0 : b = 0
    · subst h0; simp
    · rw [if_neg h0]
      unfold eu
      have g1 : Nat.gcd a b = Nat.gcd b (a % b) := by rw [Nat.gcd_comm a b, Nat.gcd_rec b a, Nat.gcd_comm]
      by_cases h1 : a % b = 0
      · rw [if_pos h1, g1, h1]; simp
      · rw [if_neg h1]
        have hr : a % b < b := Nat.mod_lt _ (by omega)
        have g2 : Nat.gcd b (a % b) = Nat.gcd (a % b) (b % (a % b)) := by rw [Nat.gcd_comm b (a % b), Nat.gcd_rec (a % b) b, Nat.gcd_comm]
        rw [ih (a % b) (b % (a % b)) ?_ m (by omega), g1, g2]
        have h2 : b % (a % b) < a % b := Nat.mod_lt _ (by omega)
        have h3 : b % (a % b) + (a % b) ≤ b := by
          have h4 := Nat.mod_add_div b (a % b)
          have h5 : 1 ≤ b / (a % b) := (Nat.one_le_div_iff (by omega)).mpr (by omega)
          have h6 : (a % b) * 1 ≤ (a % b) * (b / (a % b)) := Nat.mul_le_mul_left _ h5
          omega
        have : 2 ^ (n + 1) = 2 * 2 ^ n := by rw [Nat.pow_succ, Nat.mul_comm]
        omega
end PK

set_option Elab.async false
set_option linter.all false
set_option maxRecDepth 100000
set_option maxHeartbeats 4000000
set_option exponentiation.threshold 5000
/-! PKc: the fractions of the program and of the laws. -/
namespace PK
open PySem MP L2
class Fs (P : Prog) : Prop where
  shared : Has P "_law_shared" 2 4 b_law_shared
  part : Has P "_law_part" 2 3 b_law_part
class Fq (P : Prog) : Prop extends Fs P where
  lplus : Has P "_law_plus" 2 2 b_law_plus
class Fl (P : Prog) : Prop where
  less : Has P "_law_less" 2 2 b_law_less
class Fp (P : Prog) : Prop where
  fraction : Has P "fraction" 2 3 b_fraction
  plus : Has P "plus" 2 2 b_plus
variable {P : Prog} {k : Nat} {h : PH} {E : Str → PH → Prop}
def frV (x : Int × Int) : PV := .tup [.int x.1, .int x.2]
theorem shared_wp [Fs P] {a b : Int} (hb : 0 ≤ b) (hl : b.natAbs < 2 ^ 1999) {Q : PV → PH → Prop} (q : Q (.int (Nat.gcd a.natAbs b.natAbs : Nat)) h) : wp (callF P (k + 1) "_law_shared" [.int a, .int b]) h Q E := by
  rw [wp_call Fs.shared rfl]
  unfold b_law_shared
  simp [slot, Con.pv, s_for, smallI]
  have he : eu 4000 a.natAbs b.natAbs = some (Nat.gcd a.natAbs b.natAbs) := eu_ok 1999 _ _ hl _ (by decide)
  refine wp_for_rng (fun i env h' => h' = h ∧ ∃ (x y : Nat) (e2 e3 : Option PV), env = [some (.int x), some (.int y), e2, e3] ∧ eu (4000 - i) x y = some (Nat.gcd a.natAbs b.natAbs)) ?_ ?_ 4000 0 _ _ rfl ?_
  · rintro i env h' hi ⟨rfl, x, y, e2, e3, rfl, e⟩
    refine ⟨_, rfl, ?_⟩
    obtain ⟨n, hn⟩ : ∃ n, 4000 - i = n + 1 := ⟨4000 - i - 1, by omega⟩
    rw [hn] at e
    unfold eu at e
    by_cases hy : y = 0
    · subst hy
      simp at e
      simp [slot, Con.pv]
      rw [e]
      exact q
    · rw [if_neg hy] at e
      have hy' : ¬ ((y : Int) = 0) := by omega
      have hy2 : (0 : Int) < (y : Int) := by omega
      have en : 4000 - (i + 1) = n := by omega
      simp [slot, Con.pv, hy']
      exact .inl ⟨hy, by omega, y, x % y, ⟨rfl, by simp⟩, by rw [show 3999 - i = n by omega]; exact e⟩
  · rintro env h' ⟨rfl, x, y, e2, e3, rfl, e⟩
    simp [eu] at e
  · refine ⟨rfl, a.natAbs, b.natAbs, none, none, ?_, he⟩
    simp
    constructor
    · split <;> omega
    · omega
theorem log_lt {j : Int} {n : Nat} (h1 : 0 < j) (h2 : j.natAbs < 2 ^ n) (hn : n ≤ 9000) : 0 < j ∧ j.natAbs.log2 < 9000 :=
  ⟨h1, Nat.lt_of_lt_of_le ((Nat.log2_lt (by omega)).mpr h2) hn⟩
theorem part_wp [Fs P] {a b : Int} (hb : 0 < b) (hl : b.natAbs < 2 ^ 1999) {Q : PV → PH → Prop} (q : Q (frV (nrm a b)) h) : wp (callF P (k + 2) "_law_part" [.int a, .int b]) h Q E := by
  rw [wp_call Fs.part rfl]
  unfold b_law_part
  simp [slot, Con.pv]
  refine shared_wp (by omega) hl ?_
  have hg : (0 : Int) < (Nat.gcd a.natAbs b.natAbs : Nat) := by exact_mod_cast gcd_pos' (t := a) hb
  have hle : Nat.gcd a.natAbs b.natAbs ≤ b.natAbs := Nat.gcd_le_right _ (by omega)
  have hg2 : ((Nat.gcd a.natAbs b.natAbs : Nat) : Int).natAbs < 2 ^ 1999 := by rw [Int.natAbs_natCast]; exact Nat.lt_of_le_of_lt hle hl
  rw [p_fdivI (log_lt hg hg2 (by decide)), p_fdivI (log_lt hg hg2 (by decide))]
  exact q
/-- numbers that may be multiplied -/
theorem mul_pow {i j : Int} {n m : Nat} (h1 : i.natAbs < 2 ^ n) (h2 : j.natAbs < 2 ^ m) (hn : n + m < 1000000) : mulOk i j = true := by
  unfold mulOk
  have l1 : i.natAbs.log2 ≤ n := by
    by_cases hz : i.natAbs = 0
    · rw [hz]; exact Nat.zero_le _
    · exact Nat.le_of_lt ((Nat.log2_lt hz).mpr h1)
  have l2 : j.natAbs.log2 ≤ m := by
    by_cases hz : j.natAbs = 0
    · rw [hz]; exact Nat.zero_le _
    · exact Nat.le_of_lt ((Nat.log2_lt hz).mpr h2)
  rw [decide_eq_true (p := i.natAbs.log2 + j.natAbs.log2 < 1000000) (by omega), Bool.or_true]
/-- a bottom for all, not too great -/
structure Bot (D : Nat) : Prop where
  pos : 0 < D
  small : D < 2 ^ 990
def Top (n : Int) : Prop := n.natAbs < 2 ^ 4000
section
variable {D : Nat} {m n : Int}
theorem fr1 (hm : Top m) : (fr D m).1.natAbs < 2 ^ 4000 := Nat.lt_of_le_of_lt fr_top hm
theorem fr2 (hD : Bot D) : (fr D m).2.natAbs < 2 ^ 990 := by
  have h1 := fr_le (n := m) hD.pos
  have h2 := fr_pos (n := m) hD.pos
  have h3 := hD.small
  omega
theorem bot2 (hD : Bot D) : ((fr D m).2 * (fr D n).2).natAbs < 2 ^ 1980 := by
  rw [Int.natAbs_mul]
  have h1 := fr2 (m := m) hD
  have h2 := fr2 (m := n) hD
  calc (fr D m).2.natAbs * (fr D n).2.natAbs < 2 ^ 990 * 2 ^ 990 := Nat.mul_lt_mul'' h1 h2
    _ = 2 ^ 1980 := by rw [← Nat.pow_add]
theorem frV_ix0 {x : Int × Int} : atI [PV.int x.1, PV.int x.2] 0 = some (.int x.1) := rfl
theorem frV_ix1 {x : Int × Int} : atI [PV.int x.1, PV.int x.2] 1 = some (.int x.2) := rfl
theorem lplus_wp [Fq P] (hD : Bot D) (hm : Top m) (hn : Top n) {Q : PV → PH → Prop} (q : Q (frV (fr D (m + n))) h) : wp (callF P (k + 3) "_law_plus" [frV (fr D m), frV (fr D n)]) h Q E := by
  rw [wp_call Fq.lplus rfl]
  unfold b_law_plus frV
  simp [slot, Con.pv, frV_ix0, frV_ix1]
  refine ⟨mul_pow (fr1 hm) (fr2 hD) (by decide), mul_pow (fr1 hn) (fr2 hD) (by decide), mul_pow (fr2 hD) (fr2 hD) (by decide), ?_⟩
  refine part_wp (Int.mul_pos (fr_pos hD.pos) (fr_pos hD.pos)) (Nat.lt_trans (bot2 hD) (Nat.pow_lt_pow_right (by decide) (by decide))) ?_
  rw [fr_add hD.pos]
  exact q
theorem lless_wp [Fq P] [Fl P] (hD : Bot D) (hm : Top m) (hn : Top n) {Q : PV → PH → Prop} (q : Q (frV (fr D (m - n))) h) : wp (callF P (k + 3) "_law_less" [frV (fr D m), frV (fr D n)]) h Q E := by
  rw [wp_call Fl.less rfl]
  unfold b_law_less frV
  simp [slot, Con.pv, frV_ix0, frV_ix1]
  refine ⟨mul_pow (fr1 hm) (fr2 hD) (by decide), mul_pow (fr1 hn) (fr2 hD) (by decide), mul_pow (fr2 hD) (fr2 hD) (by decide), ?_⟩
  refine part_wp (Int.mul_pos (fr_pos hD.pos) (fr_pos hD.pos)) (Nat.lt_trans (bot2 hD) (Nat.pow_lt_pow_right (by decide) (by decide))) ?_
  rw [fr_sub hD.pos]
  exact q
/-- the program's own -/
theorem fraction_wp [Fp P] {a b : Int} {N : Nat} (hb : 0 < b) (hl : b.natAbs < 2 ^ N) (hN : N ≤ 9000) {Q : PV → PH → Prop} (q : Q (frV (nrm a b)) h) : wp (callF P (k + 1) "fraction" [.int a, .int b]) h Q E := by
  rw [wp_call Fp.fraction rfl]
  unfold b_fraction
  have hb' : ¬ b < 0 := by omega
  simp [slot, Con.pv, hb']
  have hg : (0 : Int) < (Nat.gcd a.natAbs b.natAbs : Nat) := by exact_mod_cast gcd_pos' (t := a) hb
  have hle : Nat.gcd a.natAbs b.natAbs ≤ b.natAbs := Nat.gcd_le_right _ (by omega)
  have hg2 : ((Nat.gcd a.natAbs b.natAbs : Nat) : Int).natAbs < 2 ^ N := by rw [Int.natAbs_natCast]; exact Nat.lt_of_le_of_lt hle hl
  rw [p_fdivI (log_lt hg hg2 hN), p_fdivI (log_lt hg hg2 hN)]
  exact q
theorem plus_wp [Fp P] (hD : Bot D) (hm : Top m) (hn : Top n) {Q : PV → PH → Prop} (q : Q (frV (fr D (m + n))) h) : wp (callF P (k + 2) "plus" [frV (fr D m), frV (fr D n)]) h Q E := by
  rw [wp_call Fp.plus rfl]
  unfold b_plus frV
  simp [slot, Con.pv, frV_ix0, frV_ix1]
  refine ⟨mul_pow (fr1 hm) (fr2 hD) (by decide), mul_pow (fr1 hn) (fr2 hD) (by decide), mul_pow (fr2 hD) (fr2 hD) (by decide), ?_⟩
  refine fraction_wp (Int.mul_pos (fr_pos hD.pos) (fr_pos hD.pos)) (bot2 hD) (by decide) ?_
  rw [fr_add hD.pos]
  exact q
end
end PK

set_option Elab.async false
set_option linter.all false
set_option maxRecDepth 100000
set_option maxHeartbeats 4000000
set_option exponentiation.threshold 5000
/-! PKd: the program's judges, of any value. -/
namespace PK
open PySem MP L2
/-- the heap grown -/
structure Gr (h h' : PH) : Prop where
  len : h.length ≤ h'.length
  keep : ∀ j, j < h.length → h'[j]? = h[j]?
theorem Gr.refl {h : PH} : Gr h h := ⟨Nat.le_refl _, fun _ _ => rfl⟩
theorem Gr.trans {h h1 h2 : PH} (a : Gr h h1) (b : Gr h1 h2) : Gr h h2 := ⟨Nat.le_trans a.len b.len, fun j hj => (b.keep j (Nat.lt_of_lt_of_le hj a.len)).trans (a.keep j hj)⟩
theorem Gr.app {h : PH} {o : PO} : Gr h (h ++ [o]) := ⟨by simp, fun j hj => List.getElem?_append_left hj⟩
theorem Gr.lst {h h' : PH} (g : Gr h h') {i : Nat} {xs : List PV} (e : lstP h (.obj i) = some xs) : lstP h' (.obj i) = some xs := by
  unfold lstP at e ⊢
  simp only [] at e ⊢
  by_cases hi : i < h.length
  · rw [g.keep i hi]; exact e
  · rw [List.getElem?_eq_none (by omega)] at e; cases e
theorem Gr.own {h h' : PH} (g : Gr h h') {i : Nat} {xs : List PV} (e : ownL h i = some xs) : ownL h' i = some xs := by
  unfold ownL at e ⊢
  by_cases hi : i < h.length
  · rw [g.keep i hi]; exact e
  · rw [List.getElem?_eq_none (by omega)] at e; cases e
theorem Gr.well {w c : Nat} {h h' : PH} (g : Gr h h') (hw : Well h w c) : Well h' w c := by
  obtain ⟨cells, a, b, d, g1, g2, g3, g4, g5⟩ := hw
  have hwl : w < h.length := (List.getElem?_eq_some_iff.mp g1).1
  have hcl : c < h.length := (List.getElem?_eq_some_iff.mp g2).1
  exact ⟨cells, a, b, d, (g.keep w hwl).trans g1, (g.keep c hcl).trans g2, g3, g4, g5⟩
theorem Gr.hx {w c : Nat} {h h' : PH} (g : Gr h h') (hw : Well h w c) : Hx w c h h' := ⟨g.len, fun j hj _ => g.keep j hj, g.well hw⟩
/-- what has a kind, and its parts -/
inductive Ok (h : PH) : PV → Prop
  | non : Ok h .non
  | bl (b : Bool) : Ok h (.bl b)
  | int (i : Int) : Ok h (.int i)
  | str (x : Str) : Ok h (.str x)
  | tup (xs : List PV) (a : ∀ x ∈ xs, Ok h x) : Ok h (.tup xs)
  | lst (i : Nat) (k : LK) (xs : List PV) (e : h[i]? = some (.lst k xs)) : Ok h (.obj i)
  | dK (i : Nat) (xs : List (Key × PV)) (e : h[i]? = some (.dK xs)) : Ok h (.obj i)
def typ (h : PH) (v : PV) : PTy := (tyP h v).getD .non
theorem Ok.ty {h : PH} {v : PV} (o : Ok h v) : tyP h v = some (typ h v) := by
  unfold typ
  cases o <;> simp_all [tyP]
theorem Ok.gr {h h' : PH} (g : Gr h h') {v : PV} (o : Ok h v) : Ok h' v := by
  induction o with
  | non => exact .non
  | bl b => exact .bl b
  | int i => exact .int i
  | str x => exact .str x
  | tup xs a ih => exact .tup xs ih
  | lst i k xs e => exact .lst i k xs ((g.keep i (List.getElem?_eq_some_iff.mp e).1).trans e)
  | dK i xs e => exact .dK i xs ((g.keep i (List.getElem?_eq_some_iff.mp e).1).trans e)
class Ck (P : Prog) : Prop where
  is_integer : Has P "is_integer" 1 1 b_is_integer
  is_between : Has P "is_between" 3 3 b_is_between
  is_index : Has P "is_index" 2 2 b_is_index
  is_tuple_of : Has P "is_tuple_of" 2 2 b_is_tuple_of
variable {P : Prog} {k : Nat} {h : PH} {E : Str → PH → Prop} {v : PV} {Q : PV → PH → Prop}
def isInt : PV → Bool
  | .int _ => true
  | _ => false
theorem sub_int : ∀ c : PTy, c.sub .int = (c == .int || c == .bool) := by
  intro c; cases c <;> rfl
theorem sub_bool : ∀ c : PTy, c.sub .bool = (c == .bool) := by
  intro c; cases c <;> rfl
theorem sub_tup : ∀ c : PTy, c.sub .tuple = (c == .tuple) := by
  intro c; cases c <;> rfl
theorem is_integer_wp [Ck P] (o : Ok h v) (q : Q (.bl (isInt v)) h) : wp (callF P (k + 1) "is_integer" [v]) h Q E := by
  rw [wp_call Ck.is_integer rfl]
  unfold b_is_integer
  simp [slot, o.ty, sub_int, sub_bool]
  cases o <;> simp_all [typ, tyP, isInt] <;> exact q
def isBetween (v : PV) (a b : Int) : Bool := match v with
  | .int i => decide (a ≤ i) && decide (i ≤ b)
  | _ => false
theorem is_between_wp [Ck P] {a b : Int} (o : Ok h v) (q : Q (.bl (isBetween v a b)) h) : wp (callF P (k + 2) "is_between" [v, .int a, .int b]) h Q E := by
  rw [wp_call Ck.is_between rfl]
  unfold b_is_between
  simp [slot]
  refine is_integer_wp o ?_
  cases o <;> simp_all [isInt, isBetween]
  rename_i i
  by_cases ha : a ≤ i
  · exact .inr ⟨ha, by simpa [ha] using q⟩
  · exact .inl ⟨by omega, by simpa [ha] using q⟩
def isIndex (v : PV) (m : Int) : Bool := isBetween v 0 (m - 1)
theorem is_index_wp [Ck P] {m : Int} (o : Ok h v) (q : Q (.bl (isIndex v m)) h) : wp (callF P (k + 3) "is_index" [v, .int m]) h Q E := by
  rw [wp_call Ck.is_index rfl]
  unfold b_is_index
  simp [slot, Con.pv]
  exact is_between_wp o q
def isTup (v : PV) (m : Int) : Bool := match v with
  | .tup xs => decide ((xs.length : Int) = m)
  | _ => false
theorem is_tuple_of_wp [Ck P] {m : Int} (o : Ok h v) (q : Q (.bl (isTup v m)) h) : wp (callF P (k + 1) "is_tuple_of" [v, .int m]) h Q E := by
  rw [wp_call Ck.is_tuple_of rfl]
  unfold b_is_tuple_of
  simp [slot, Con.pv, o.ty, sub_tup]
  cases o <;> simp_all [typ, tyP, isTup] <;> first | exact q | skip
  rename_i xs _
  by_cases e : (xs.length : Int) = m
  · exact .inr ⟨e, by simpa [e] using q⟩
  · exact .inl ⟨e, by simpa [e] using q⟩
theorem boolsP_map {xs : List PV} {p : PV → Bool} : boolsP (xs.map fun x => .bl (p x)) = some (xs.map p) := by
  induction xs with
  | nil => rfl
  | cons x xs ih => simp [boolsP, ih]
/-- all([.. for x in tuple]) -/
theorem all_lc {G : Glob} {env : Env'} {i : Nat} {src elt : MP.E} {xs : List PV} {p : PV → Bool} (hs : ∀ (R : PV → PH → Prop), R (.tup xs) h → wp (evalE G src env) h R E) (hl : xs.length ≤ sizeLine)
    (body : ∀ x ∈ xs, ∀ h1, Gr h h1 → wp (evalE G elt ((wipeE env [i]).set i (some x))) h1 (fun v h2 => v = .bl (p x) ∧ Gr h1 h2) fun _ _ => False) (q : ∀ h1, Gr h h1 → Q (.bl (xs.all p)) h1) : wp (evalE G (.bi .all [.lc elt (.nm i) .val [src] [] [i]]) env) h Q E := by
  simp
  rw [x_lc]
  simp
  refine hs _ ?_
  simp
  refine wp_lc (xs := xs) (fun j acc h1 => Gr h h1 ∧ acc = (xs.take j).map fun x => .bl (p x)) (fun _ _ _ _ => rfl) ?_ ?_ xs.length 0 [] h (by simp) ⟨.refl, rfl⟩
  · rintro j v acc h1 hv ⟨g, rfl⟩
    have hj : j < xs.length := (List.getElem?_eq_some_iff.mp hv).1
    simp [putT]
    refine wp_mono (body v (List.mem_of_getElem? hv) h1 g) (fun r h2 z => ?_) fun _ _ z => z
    obtain ⟨rfl, g2⟩ := z
    refine ⟨by omega, g.trans g2, ?_⟩
    simp [List.take_add_one, hv]
  · rintro acc h1 ⟨g, rfl⟩
    simp
    rw [boolsP_map]
    have e : (xs.map p).all id = xs.all p := by rw [List.all_map]; rfl
    simpa [e] using q _ (g.trans .app)
/-! ### fractions, rows, machines -/
class Mf (P : Prog) : Prop where
  is_fraction : Has P "is_fraction" 1 1 b_is_fraction
class Mz (P : Prog) : Prop where
  is_size : Has P "is_size" 1 1 b_is_size
  MOST_SIZE : P.cT "MOST_SIZE" = some (.int 4)
class Mr (P : Prog) : Prop where
  raw_is_row : Has P "raw_is_row" 2 3 b_raw_is_row
  MOST_LETTERS : P.cT "MOST_LETTERS" = some (.int 400)
class Mm (P : Prog) : Prop extends Mf P, Mz P where
  is_allowance : Has P "is_allowance" 1 1 b_is_allowance
  is_step : Has P "is_step" 2 2 b_is_step
  is_rule : Has P "is_rule" 3 4 b_is_rule
  is_machine : Has P "is_machine" 1 3 b_is_machine
  SIZE : P.cT "SIZE" = some (.int 0)
  RULES : P.cT "RULES" = some (.int 1)
  MOST_STATES : P.cT "MOST_STATES" = some (.int 12)
  MOST_TOP : P.cT "MOST_TOP" = some (.int 1000000)
  MOST_BOTTOM : P.cT "MOST_BOTTOM" = some (.int 1000)
class Mc (P : Prog) : Prop extends Mm P, Mr P
def isFraction : PV → Bool
  | .tup [.int a, .int b] => decide (1 ≤ b) && (Nat.gcd a.natAbs b.natAbs == 1)
  | _ => false
theorem tup2 {v : PV} (e : isTup v 2 = true) : ∃ x y, v = .tup [x, y] := by
  unfold isTup at e
  split at e
  · rename_i xs
    have e := of_decide_eq_true e
    match xs, e with
    | [x, y], _ => exact ⟨x, y, rfl⟩
    | [], e => simp at e
    | [_], e => simp at e
    | _ :: _ :: _ :: _, e => simp at e; omega
  · cases e
theorem int_of {v : PV} (e : isInt v = true) : ∃ i, v = .int i := by
  cases v <;> first | exact ⟨_, rfl⟩ | cases e
theorem Ok.two {x y : PV} (o : Ok h (.tup [x, y])) : Ok h x ∧ Ok h y := by
  cases o with
  | tup _ a => exact ⟨a x (by simp), a y (by simp)⟩
theorem isFraction_iff {x y : PV} : isFraction (.tup [x, y]) = (isInt x && isInt y && (match x, y with | .int a, .int b => decide (1 ≤ b) && (Nat.gcd a.natAbs b.natAbs == 1) | _, _ => false)) := by
  cases x <;> first | rfl | (cases y <;> rfl)
theorem isFraction_no (e : isTup v 2 = false) : isFraction v = false := by
  unfold isFraction
  split
  · simp [isTup] at e
  · rfl
theorem is_fraction_wp [Ck P] [Mf P] (o : Ok h v) (q : Q (.bl (isFraction v)) h) : wp (callF P (k + 2) "is_fraction" [v]) h Q E := by
  rw [wp_call Mf.is_fraction rfl]
  unfold b_is_fraction
  simp [slot, Con.pv]
  refine is_tuple_of_wp o ?_
  simp
  by_cases e : isTup v 2 = true
  · refine .inr ⟨e, ?_⟩
    obtain ⟨x, y, rfl⟩ := tup2 e
    obtain ⟨ox, oy⟩ := o.two
    rw [isFraction_iff] at q
    simp [atI, ixN]
    refine is_integer_wp ox ?_
    simp
    by_cases e1 : isInt x = true
    · refine .inr ⟨e1, is_integer_wp oy ?_⟩
      simp
      by_cases e2 : isInt y = true
      · refine .inr ⟨e2, ?_⟩
        obtain ⟨a, rfl⟩ := int_of e1
        obtain ⟨b, rfl⟩ := int_of e2
        simp
        by_cases e3 : 1 ≤ b
        · refine .inl ⟨e3, ?_⟩
          by_cases e4 : Nat.gcd a.natAbs b.natAbs = 1
          · exact .inr ⟨by omega, by simpa [isInt, e3, e4] using q⟩
          · have e5 : (Nat.gcd a.natAbs b.natAbs == 1) = false := by simpa using e4
            exact .inl ⟨by omega, by simpa [isInt, e3, e5] using q⟩
        · exact .inr ⟨by omega, by simpa [isInt, e3] using q⟩
      · exact .inl ⟨by simpa using e2, by simpa [e2] using q⟩
    · exact .inl ⟨by simpa using e1, by simpa [e1] using q⟩
  · have e := Bool.not_eq_true _ ▸ e
    exact .inl ⟨by simpa using e, by rw [isFraction_no (by simpa using e)] at q; exact q⟩
def isSize (v : PV) : Bool := isBetween v 2 4
theorem is_size_wp [Ck P] [Mz P] (o : Ok h v) (q : Q (.bl (isSize v)) h) : wp (callF P (k + 3) "is_size" [v]) h Q E := by
  rw [wp_call Mz.is_size rfl]
  unfold b_is_size
  simp [slot, Con.pv, Mz.MOST_SIZE]
  exact is_between_wp o q
def isAllowance : PV → Bool
  | .tup [.int a, .int b] => decide (1 ≤ b) && (Nat.gcd a.natAbs b.natAbs == 1) && (decide (-1000000 ≤ a) && decide (a ≤ 1000000)) && decide (b ≤ 1000)
  | _ => false
theorem fraction_of {v : PV} (e : isFraction v = true) : ∃ a b, v = .tup [.int a, .int b] ∧ 1 ≤ b ∧ Nat.gcd a.natAbs b.natAbs = 1 := by
  unfold isFraction at e
  split at e
  · rename_i a b
    simp at e
    exact ⟨a, b, rfl, e.1, e.2⟩
  · cases e
theorem isAllowance_no (e : isFraction v = false) : isAllowance v = false := by
  unfold isAllowance
  split
  · simp [isFraction] at e ⊢
    intro h1 h2
    exact absurd h2 (e h1)
  · rfl
theorem is_allowance_wp [Ck P] [Mm P] (o : Ok h v) (q : Q (.bl (isAllowance v)) h) : wp (callF P (k + 3) "is_allowance" [v]) h Q E := by
  rw [wp_call Mm.is_allowance rfl]
  unfold b_is_allowance
  simp [slot, Con.pv, Mm.MOST_TOP, Mm.MOST_BOTTOM]
  refine is_fraction_wp o ?_
  simp
  by_cases e : isFraction v = true
  · refine .inr ⟨e, ?_⟩
    obtain ⟨a, b, rfl, e1, e2⟩ := fraction_of e
    simp [atI, ixN]
    refine is_between_wp (.int _) ?_
    simp [isBetween]
    by_cases e3 : -1000000 ≤ a ∧ a ≤ 1000000
    · refine .inr ⟨e3, by simpa [isAllowance, e1, e2, e3.1, e3.2] using q⟩
    · refine .inl ⟨by omega, ?_⟩
      have : (decide (-1000000 ≤ a) && decide (a ≤ 1000000)) = false := by
        rw [← Bool.decide_and, decide_eq_false e3]
      simp only [isAllowance, this, Bool.and_false, Bool.false_and] at q
      rw [this]
      exact q
  · have e' : isFraction v = false := by simpa using e
    exact .inl ⟨e', by rw [isAllowance_no e'] at q; rw [e']; exact q⟩
end PK

set_option Elab.async false
set_option linter.all false
set_option maxRecDepth 100000
set_option maxHeartbeats 4000000
set_option exponentiation.threshold 5000
/-! PKe: machines and rows judged. -/
namespace PK
open PySem MP L2
variable {P : Prog} {k : Nat} {h : PH} {E : Str → PH → Prop} {v : PV} {Q : PV → PH → Prop}
def isStep (v : PV) (states : Int) : Bool := match v with
  | .tup [a, b] => isAllowance a && isIndex b states
  | _ => false
theorem isStep_no {m : Int} (e : isTup v 2 = false) : isStep v m = false := by
  unfold isStep
  split
  · simp [isTup] at e
  · rfl
theorem is_step_wp [Ck P] [Mm P] {m : Int} (o : Ok h v) (q : Q (.bl (isStep v m)) h) : wp (callF P (k + 4) "is_step" [v, .int m]) h Q E := by
  rw [wp_call Mm.is_step rfl]
  unfold b_is_step
  simp [slot, Con.pv]
  refine is_tuple_of_wp o ?_
  simp
  by_cases e : isTup v 2 = true
  · refine .inr ⟨e, ?_⟩
    obtain ⟨x, y, rfl⟩ := tup2 e
    obtain ⟨ox, oy⟩ := o.two
    simp [atI, ixN]
    refine is_allowance_wp ox ?_
    simp
    by_cases e1 : isAllowance x = true
    · exact .inr ⟨e1, is_index_wp oy (by simpa [isStep, e1] using q)⟩
    · have e1' : isAllowance x = false := by simpa using e1
      refine .inl ⟨e1', ?_⟩
      rw [e1']
      simpa [isStep, e1'] using q
  · have e' : isTup v 2 = false := by simpa using e
    refine .inl ⟨e', ?_⟩
    rw [e']
    rw [isStep_no e'] at q
    exact q
def isRule (v : PV) (size states : Int) : Bool := isTup v size && (match v with
  | .tup xs => xs.all fun x => isStep x states
  | _ => false)
theorem tup_of {v : PV} {m : Int} (e : isTup v m = true) : ∃ xs, v = .tup xs ∧ (xs.length : Int) = m := by
  unfold isTup at e
  split at e
  · exact ⟨_, rfl, of_decide_eq_true e⟩
  · cases e
theorem Ok.all {xs : List PV} (o : Ok h (.tup xs)) : ∀ x ∈ xs, Ok h x := by
  cases o with
  | tup _ a => exact a
theorem is_rule_wp [Ck P] [Mm P] {s m : Int} (hs : s ≤ 1000) (o : Ok h v) (q : ∀ h', Gr h h' → Q (.bl (isRule v s m)) h') : wp (callF P (k + 5) "is_rule" [v, .int s, .int m]) h Q E := by
  rw [wp_call Mm.is_rule rfl]
  unfold b_is_rule
  simp only [s_cons, s_ret, x_and, x_and2, x_cl, x_cons, x_nil, x_slot, slot, x_and1]
  simp
  refine is_tuple_of_wp o ?_
  simp
  by_cases e : isTup v s = true
  · refine .inr ⟨e, ?_⟩
    obtain ⟨xs, rfl, hl⟩ := tup_of e
    have := all_lc (G := globOf P (k + 4)) (env := [some (.tup xs), some (.int s), some (.int m), none]) (i := 3) (src := .slot 0) (elt := .cl "is_step" [.slot 3, .slot 2]) (xs := xs) (p := fun x => isStep x m) (h := h) (Q := Q) (E := fun c h' => E c h')
      (fun R r => by simpa [slot] using r) (by rw [sizeLine_eq]; omega)
      (fun x hx h1 g => by
        simp [slot, wipeE]
        exact is_step_wp ((o.all x hx).gr g) ⟨rfl, .refl⟩)
      (fun h1 g => by
        have := q h1 g
        unfold isRule at this
        rw [e] at this
        exact this)
    simpa using this
  · have e' : isTup v s = false := by simpa using e
    refine .inl ⟨e', ?_⟩
    have := q h .refl
    unfold isRule at this
    rw [e'] at this ⊢
    exact this
theorem typ_no (o : Ok h v) (e : ¬ ∃ xs, v = .tup xs) : (typ h v).sub .tuple = false := by
  cases o with
  | tup xs a => exact absurd ⟨xs, rfl⟩ e
  | lst i k xs hh => simp [typ, tyP, hh]; rfl
  | dK i xs hh => simp [typ, tyP, hh]; rfl
  | _ => rfl
def isMachine (v : PV) : Bool := match v with
  | .tup [a, .tup rs] => isSize a && (decide (1 ≤ rs.length) && decide (rs.length ≤ 12)) && (match a with
    | .int s => rs.all fun r => isRule r s rs.length
    | _ => false)
  | _ => false
theorem size_of {v : PV} (e : isSize v = true) : ∃ i, v = .int i ∧ 2 ≤ i ∧ i ≤ 4 := by
  unfold isSize isBetween at e
  split at e
  · simp at e
    exact ⟨_, rfl, e.1, e.2⟩
  · cases e
theorem is_machine_wp [Ck P] [Mm P] (o : Ok h v) (q : ∀ h', Gr h h' → Q (.bl (isMachine v)) h') : wp (callF P (k + 6) "is_machine" [v]) h Q E := by
  rw [wp_call Mm.is_machine rfl]
  unfold b_is_machine
  simp [slot, Con.pv, Mm.SIZE, Mm.RULES]
  refine is_tuple_of_wp o ?_
  simp
  by_cases e : isTup v 2 = true
  · refine .inr ⟨e, ?_⟩
    obtain ⟨x, y, rfl⟩ := tup2 e
    obtain ⟨ox, oy⟩ := o.two
    simp [atI, ixN]
    refine is_size_wp ox ?_
    simp
    by_cases e1 : isSize x = true
    · refine .inr ⟨e1, ?_⟩
      obtain ⟨s, rfl, e2, e3⟩ := size_of e1
      by_cases e4 : ∃ rs, y = .tup rs
      · obtain ⟨rs, rfl⟩ := e4
        simp [sub_tup, Mm.MOST_STATES]
        by_cases e5 : 1 ≤ (rs.length : Int)
        · refine .inr ⟨e5, ?_⟩
          by_cases e6 : (rs.length : Int) ≤ 12
          · refine .inr ⟨e6, ?_⟩
            have := all_lc (G := globOf P (k + 5)) (env := [some (.tup [.int s, .tup rs]), some (.int rs.length), none]) (i := 2) (src := .sub (.slot 0) (.gl "RULES")) (elt := .cl "is_rule" [.slot 2, .sub (.slot 0) (.gl "SIZE"), .slot 1]) (xs := rs) (p := fun r => isRule r s rs.length) (h := h) (Q := Q) (E := fun c h' => E c h')
              (fun R r => by simpa [slot, Mm.RULES, atI, ixN] using r) (by rw [sizeLine_eq]; omega)
              (fun x hx h1 g => by
                simp [slot, wipeE, Mm.SIZE, atI, ixN]
                exact is_rule_wp (by omega) ((oy.all x hx).gr g) fun h2 g2 => ⟨rfl, g2⟩)
              (fun h1 g => by
                have := q h1 g
                simp only [isMachine, e1, decide_eq_true (show 1 ≤ rs.length by omega), decide_eq_true (show rs.length ≤ 12 by omega), Bool.true_and] at this
                exact this)
            simpa using this
          · have e6' : ¬ rs.length ≤ 12 := by omega
            refine .inl ⟨by omega, ?_⟩
            have := q h .refl
            rw [decide_eq_false e6]
            simpa [isMachine, e6'] using this
        · have e5' : ¬ 1 ≤ rs.length := by omega
          refine .inl ⟨by omega, ?_⟩
          have := q h .refl
          simp only [isMachine, decide_eq_false e5', Bool.false_and, Bool.and_false] at this
          exact this
      · have hno : isMachine (.tup [.int s, y]) = false := by
          unfold isMachine
          split
          · rename_i a rs z
            cases z
            exact absurd ⟨rs, rfl⟩ e4
          · rfl
        have := q h .refl
        rw [hno] at this
        simp [oy.ty, typ_no oy e4]
        exact this
    · have e1' : isSize x = false := by simpa using e1
      refine .inl ⟨e1', ?_⟩
      have := q h .refl
      have hno : isMachine (.tup [x, y]) = false := by
        unfold isMachine
        split
        · rename_i a rs z
          cases z
          simp [e1']
        · rfl
      rw [hno] at this
      exact this
  · have e' : isTup v 2 = false := by simpa using e
    refine .inl ⟨e', ?_⟩
    have := q h .refl
    have hno : isMachine v = false := by
      unfold isMachine
      split
      · simp [isTup] at e'
      · rfl
    rw [hno] at this
    exact this
def isRow (size : Int) (v : PV) : Bool := match v with
  | .tup xs => decide (xs.length ≤ 400) && xs.all fun x => isIndex x size
  | _ => false
theorem raw_is_row_wp [Ck P] [Mr P] {s : Int} (o : Ok h v) (q : ∀ h', Gr h h' → Q (.bl (isRow s v)) h') : wp (callF P (k + 4) "raw_is_row" [.int s, v]) h Q E := by
  rw [wp_call Mr.raw_is_row rfl]
  unfold b_raw_is_row
  simp [slot, Con.pv, o.ty, sub_tup, Mr.MOST_LETTERS]
  by_cases e4 : ∃ xs, v = .tup xs
  · obtain ⟨xs, rfl⟩ := e4
    simp [typ]
    by_cases e5 : (xs.length : Int) ≤ 400
    · refine .inl ⟨e5, ?_⟩
      have := all_lc (G := globOf P (k + 3)) (env := [some (.int s), some (.tup xs), none]) (i := 2) (src := .slot 1) (elt := .cl "is_index" [.slot 2, .slot 0]) (xs := xs) (p := fun r => isIndex r s) (h := h) (Q := Q) (E := fun c h' => E c h')
        (fun R r => by simpa [slot] using r) (by rw [sizeLine_eq]; omega)
        (fun x hx h1 g => by
          simp [slot, wipeE]
          exact is_index_wp ((o.all x hx).gr g) ⟨rfl, .refl⟩)
        (fun h1 g => by
          have := q h1 g
          simp only [isRow, decide_eq_true (show xs.length ≤ 400 by omega), Bool.true_and] at this
          exact this)
      simpa using this
    · have e5' : ¬ xs.length ≤ 400 := by omega
      refine .inr ⟨by omega, ?_⟩
      have := q h .refl
      simpa [isRow, e5'] using this
  · have hno : isRow s v = false := by
      unfold isRow
      split
      · exact absurd ⟨_, rfl⟩ e4
      · rfl
    have := q h .refl
    rw [hno] at this
    have z := typ_no o e4
    rw [sub_tup] at z
    have z2 : ¬ typ h v = .tuple := fun e => by rw [e] at z; exact absurd z (by decide)
    rw [if_neg z2]
    exact this
end PK

set_option Elab.async false
set_option linter.all false
set_option maxRecDepth 100000
set_option maxHeartbeats 4000000
set_option exponentiation.threshold 5000
/-! PKf: machines drawn. -/
namespace PK
open PySem MP L2
abbrev Stp := (Int × Int) × Nat
def stepV (s : Stp) : PV := .tup [frV s.1, .int (s.2 : Nat)]
def ruleV (r : List Stp) : PV := .tup (r.map stepV)
def machV (s : Nat) (rs : List (List Stp)) : PV := .tup [.int (s : Nat), .tup (rs.map ruleV)]
structure AllowOk (x : Int × Int) : Prop where
  pos : 1 ≤ x.2
  cop : Nat.gcd x.1.natAbs x.2.natAbs = 1
  top : -1000000 ≤ x.1 ∧ x.1 ≤ 1000000
  bot : x.2 ≤ 1000
structure MachOk (s : Nat) (rs : List (List Stp)) : Prop where
  s2 : 2 ≤ s
  s4 : s ≤ 4
  r1 : 1 ≤ rs.length
  r12 : rs.length ≤ 12
  len : ∀ r ∈ rs, r.length = s
  ok : ∀ r ∈ rs, ∀ st ∈ r, AllowOk st.1 ∧ st.2 < rs.length
theorem isAllowance_ok {x : Int × Int} (a : AllowOk x) : isAllowance (frV x) = true := by
  simp [isAllowance, frV, a.pos, a.cop, a.top, a.bot]
theorem isStep_ok {s : Stp} {n : Nat} (a : AllowOk s.1) (b : s.2 < n) : isStep (stepV s) n = true := by
  unfold isStep stepV
  simp only [isAllowance_ok a, Bool.true_and]
  simp [isIndex, isBetween]
  omega
theorem isRule_ok {r : List Stp} {s n : Nat} (h1 : r.length = s) (h2 : ∀ st ∈ r, AllowOk st.1 ∧ st.2 < n) : isRule (ruleV r) s n = true := by
  unfold isRule ruleV
  simp [isTup, h1]
  exact fun a b c d => isStep_ok (h2 _ d).1 (h2 _ d).2
theorem isMachine_ok {s : Nat} {rs : List (List Stp)} (m : MachOk s rs) : isMachine (machV s rs) = true := by
  have h1 := m.s2
  have h2 := m.s4
  unfold isMachine machV
  simp [isSize, isBetween, m.r1, m.r12]
  refine ⟨⟨by omega, by omega⟩, fun r hr => ?_⟩
  exact isRule_ok (m.len r hr) (m.ok r hr)
theorem ok_fr {h : PH} {x : Int × Int} : Ok h (frV x) := .tup _ fun y hy => by
  simp at hy
  rcases hy with rfl | rfl <;> exact .int _
theorem ok_mach {h : PH} {s : Nat} {rs : List (List Stp)} : Ok h (machV s rs) := .tup _ fun y hy => by
  simp at hy
  rcases hy with rfl | rfl
  · exact .int _
  · refine .tup _ fun z hz => ?_
    obtain ⟨r, _, rfl⟩ := List.mem_map.mp hz
    refine .tup _ fun z hz => ?_
    obtain ⟨st, _, rfl⟩ := List.mem_map.mp hz
    refine .tup _ fun z hz => ?_
    simp at hz
    rcases hz with rfl | rfl
    · exact ok_fr
    · exact .int _
theorem nrm_allow {t b : Int} (h1 : -1000000 ≤ t ∧ t ≤ 1000000) (h2 : 1 ≤ b) (h3 : b ≤ 1000) : AllowOk (nrm t b) := by
  have hb : 0 < b := by omega
  have p := nrm_pos (t := t) hb
  have c := nrm_cop (t := t) hb
  have e1 := congrArg Int.natAbs (nrm_top (t := t) (b := b))
  have e2 := congrArg Int.natAbs (nrm_bot (t := t) (b := b))
  rw [Int.natAbs_mul, Int.natAbs_natCast] at e1 e2
  have hg := gcd_pos' (t := t) hb
  have l1 : (nrm t b).1.natAbs ≤ t.natAbs := by rw [← e1]; exact Nat.le_mul_of_pos_right _ hg
  have l2 : (nrm t b).2.natAbs ≤ b.natAbs := by
    have : (nrm t b).2.natAbs ≤ (nrm t b).2.natAbs * Nat.gcd t.natAbs b.natAbs := Nat.le_mul_of_pos_right _ hg
    omega
  exact ⟨by omega, c, by omega, by omega⟩
class Mw (P : Prog) : Prop where
  allowance : Has P "_law_allowance" 1 2 b_law_allowance
  machine : Has P "_law_machine" 1 8 b_law_machine
variable {P : Prog} {k : Nat} {h : PH} {E : Str → PH → Prop} {v : PV} {Q : PV → PH → Prop} {w c : Nat}
theorem Hx.app {o : PO} (hw : Well h w c) : Hx w c h (h ++ [o]) := Gr.app.hx hw
theorem Well.lt (hw : Well h w c) : w < h.length ∧ c < h.length ∧ c ≠ w := by
  obtain ⟨cells, a, b, d, g1, g2, g3, g4, g5⟩ := hw
  exact ⟨(List.getElem?_eq_some_iff.mp g1).1, (List.getElem?_eq_some_iff.mp g2).1, g3⟩
theorem Hx.lst {h' : PH} (x : Hx w c h h') {j : Nat} {xs : List PV} (hj : j ≠ w) (e : lstP h (.obj j) = some xs) : lstP h' (.obj j) = some xs := by
  unfold lstP at e ⊢
  simp only [] at e ⊢
  by_cases hi : j < h.length
  · rw [x.keep j hi hj]; exact e
  · rw [List.getElem?_eq_none (by omega)] at e; cases e
theorem Hx.own {h' : PH} (x : Hx w c h h') {j : Nat} {xs : List PV} (hj : j ≠ w) (e : ownL h j = some xs) : ownL h' j = some xs := by
  unfold ownL at e ⊢
  by_cases hi : j < h.length
  · rw [x.keep j hi hj]; exact e
  · rw [List.getElem?_eq_none (by omega)] at e; cases e
theorem atI_pos {xs : List PV} {i : Int} (h0 : 0 ≤ i) (h1 : i < xs.length) : ∃ x, x ∈ xs ∧ atI xs i = some x := by
  refine ⟨xs[i.toNat]'(by omega), List.getElem_mem _, ?_⟩
  simp [atI, ixN, h0, h1]
/-- one of a fresh list's items -/
theorem pick_wp [Dr P] (hw : Well h w c) {xs : List PV} {m : Int} (hm : (xs.length : Int) = m) (hl : 0 < m) (hs : m < 1000000) {E' : Str → PH → Prop} (q : ∀ x ∈ xs, ∀ h', Hx w c h h' → Q x h') :
    wp (callF P (k + 3) "_law_draw" [.obj w, .int m]) (h ++ [.lst .own xs]) (fun y h2 => wp (ixM (.obj h.length) y) h2 Q E') E := by
  have hx := Hx.app (o := .lst .own xs) hw
  obtain ⟨l1, l2, l3⟩ := hw.lt
  refine draw_wp hx.well hl (by omega) fun r h2 r0 r1 x2 => ?_
  have e := x2.lst (j := h.length) (by omega) (lstP_app (h := h) (xs := xs) (k := .own))
  simp [e]
  obtain ⟨x, hx1, hx2⟩ := atI_pos (xs := xs) r0 (by omega)
  exact ⟨x, hx2, q x hx1 h2 (hx.trans x2)⟩
theorem allowance_wp [Dr P] [Fs P] [Mw P] (hw : Well h w c) (q : ∀ x h', AllowOk x → Hx w c h h' → Q (frV x) h') : wp (callF P (k + 4) "_law_allowance" [.obj w]) h Q E := by
  rw [wp_call Mw.allowance rfl]
  unfold b_law_allowance
  simp [slot, Con.pv]
  refine draw_wp hw (by omega) (by omega) fun r h1 r0 r1 x1 => ?_
  simp
  by_cases e : r = 0
  · subst e
    refine .inr ⟨rfl, ?_⟩
    refine draw_wp x1.well (by omega) (by omega) fun a h2 a0 a1 x2 => ?_
    simp
    refine draw_wp x2.well (by omega) (by omega) fun b h3 b0 b1 x3 => ?_
    simp
    exact part_wp (by omega) (Nat.lt_of_lt_of_le (show (1 + b).natAbs < 2 ^ 20 by omega) (Nat.pow_le_pow_right (by decide) (by decide))) (q _ _ (nrm_allow (by omega) (by omega) (by omega)) ((x1.trans x2).trans x3))
  · refine .inl ⟨e, ?_⟩
    by_cases e1 : r = 1
    · refine .inr ⟨e1, ?_⟩
      refine pick_wp x1.well (by rfl) (by omega) (by omega) fun x hx h2 x2 => ?_
      have two : ∀ t b : Int, AllowOk (t, b) → Q (.tup [.int t, .int b]) h2 := fun t b a => q (t, b) h2 a (x1.trans x2)
      simp at hx
      rcases hx with rfl | rfl | rfl | rfl | rfl
      · exact two _ _ ⟨by decide, by decide, by decide, by decide⟩
      · exact two _ _ ⟨by decide, by decide, by decide, by decide⟩
      · exact two _ _ ⟨by decide, by decide, by decide, by decide⟩
      · exact two _ _ ⟨by decide, by decide, by decide, by decide⟩
      · exact two _ _ ⟨by decide, by decide, by decide, by decide⟩
    · refine .inl ⟨e1, ?_⟩
      refine draw_wp x1.well (by omega) (by omega) fun a h2 a0 a1 x2 => ?_
      simp
      refine draw_wp x2.well (by omega) (by omega) fun b h3 b0 b1 x3 => ?_
      simp
      exact part_wp (by omega) (Nat.lt_of_lt_of_le (show (1 + b).natAbs < 2 ^ 20 by omega) (Nat.pow_le_pow_right (by decide) (by decide))) (q _ _ (nrm_allow (by omega) (by omega) (by omega)) ((x1.trans x2).trans x3))
theorem Hx.set {h0 : PH} (hw : Well h0 w c) (x : Hx w c h0 h) {o : Nat} (ho : h0.length ≤ o) {p : PO} : Hx w c h0 (h.set o p) := by
  obtain ⟨l1, l2, l3⟩ := hw.lt
  obtain ⟨cells, a, b, d, g1, g2, g3, g4, g5⟩ := x.well
  refine ⟨by simp [x.len], fun j hj hw => by rw [List.getElem?_set_ne (by omega)]; exact x.keep j hj hw, cells, a, b, d, ?_, ?_, g3, g4, g5⟩
  · rw [List.getElem?_set_ne (by omega)]; exact g1
  · rw [List.getElem?_set_ne (by omega)]; exact g2
theorem machine_wp [Dr P] [Fs P] [Mw P] (hw : Well h w c) (q : ∀ s rs h', MachOk s rs → Hx w c h h' → Q (machV s rs) h') : wp (callF P (k + 5) "_law_machine" [.obj w]) h Q E := by
  rw [wp_call Mw.machine rfl]
  unfold b_law_machine
  simp [-List.append_assoc, -List.length_append, slot, Con.pv]
  refine draw_wp hw (by omega) (by omega) fun sz h1 z0 z1 x1 => ?_
  simp [-List.append_assoc, -List.length_append]
  refine draw_wp x1.well (by omega) (by omega) fun a h2 a0 a1 x2 => ?_
  simp [-List.append_assoc, -List.length_append]
  refine draw_wp x2.well (by omega) (by omega) fun b h3 b0 b1 x3 => ?_
  simp [-List.append_assoc, -List.length_append]
  refine draw_wp x3.well (by omega) (by omega) fun d h4 d0 d1 x4 => ?_
  simp [-List.append_assoc, -List.length_append]
  have hx4 := (((x1.trans x2).trans x3).trans x4)
  have y5 := Hx.app (o := .lst .own [PV.int (1 + a), PV.int (1 + b), PV.int (12 - d)]) x4.well
  have l5 := lstP_app (h := h4) (xs := [PV.int (1 + a), PV.int (1 + b), PV.int (12 - d)]) (k := .own)
  obtain ⟨lw, lc, lcw⟩ := x4.well.lt
  refine pick_wp (m := 5) y5.well (by rfl) (by omega) (by omega) fun x hx h6 x6 => ?_
  obtain ⟨e, he, e3⟩ : ∃ e : Int, x = .int e ∧ 0 ≤ e ∧ e < 3 := by
    simp at hx
    rcases hx with rfl | rfl | rfl
    · exact ⟨0, rfl, by omega, by omega⟩
    · exact ⟨1, rfl, by omega, by omega⟩
    · exact ⟨2, rfl, by omega, by omega⟩
  subst he
  have l6 := x6.lst (j := h4.length) (by omega) l5
  simp [-List.append_assoc, -List.length_append, l6]
  obtain ⟨x, hx1, hx2⟩ := atI_pos (xs := [PV.int (1 + a), PV.int (1 + b), PV.int (12 - d)]) (i := e) e3.1 (by simp; omega)
  refine ⟨x, hx2, ?_⟩
  obtain ⟨n, hn, n1, n2⟩ : ∃ n : Nat, x = .int (n : Nat) ∧ 1 ≤ n ∧ n ≤ 12 := by
    simp at hx1
    rcases hx1 with rfl | rfl | rfl
    · exact ⟨(1 + a).toNat, by congr 1; omega, by omega, by omega⟩
    · exact ⟨(1 + b).toNat, by congr 1; omega, by omega, by omega⟩
    · exact ⟨(12 - d).toNat, by congr 1; omega, by omega, by omega⟩
  subst hn
  have X := hx4.trans (y5.trans x6)
  have hS : 2 + sz = (((2 + sz).toNat : Nat) : Int) := by omega
  generalize (2 + sz).toNat = Z at hS
  rw [hS]
  have hS2 : 2 ≤ Z := by omega
  have hS4 : Z ≤ 4 := by omega
  have hn3 : smallI (n : Nat) = true := by simp [smallI]; omega
  rw [s_for]
  simp [-List.append_assoc, -List.length_append, slot, hn3]
  have y7 := Hx.app (o := .lst .own []) X.well
  -- the loop over the states
  refine wp_for_rng (fun i env h' => Hx w c h h' ∧ ∃ (rs : List (List Stp)) (e5 e6 e7 : Option PV), env = [some (.obj w), some (.int (Z : Nat)), some (.obj h4.length), some (.int (n : Nat)), some (.obj h6.length), e5, e6, e7] ∧ ownL h' h6.length = some (rs.map ruleV) ∧ rs.length = i ∧ ∀ r ∈ rs, r.length = Z ∧ ∀ st ∈ r, AllowOk st.1 ∧ st.2 < n) ?_ ?_ n 0 _ _ (by simp) ?_
  · rintro i env h' hi ⟨X', rs, e5, e6, e7, rfl, hr, hl, hok⟩
    refine ⟨_, rfl, ?_⟩
    simp [-List.append_assoc, -List.length_append, slot, Con.pv]
    refine draw_wp X'.well (by omega) (by omega) fun few h8 f0 f1 x8 => ?_
    simp [-List.append_assoc, -List.length_append, slot, Con.pv]
    have lw8 : w < h6.length := Nat.lt_of_lt_of_le (hw.lt.1) X.len
    have hr8 := x8.own (j := h6.length) (by omega) hr
    refine ⟨⟨_, lstP_own hr8⟩, ?_⟩
    rw [x_lc]
    have hZ3 : smallI (Z : Nat) = true := by simp [smallI]; omega
    simp [-List.append_assoc, -List.length_append, slot, hZ3]
    refine wp_lc_rng (fun j acc hh => Hx w c h8 hh ∧ ∃ r : List Stp, acc = r.map stepV ∧ r.length = j ∧ ∀ st ∈ r, AllowOk st.1 ∧ st.2 < n) ?_ ?_ ⟨.refl x8.well, [], rfl, rfl, by simp⟩
    · rintro j acc hh hj ⟨xx, r, rfl, hrl, hro⟩
      simp [-List.append_assoc, -List.length_append, slot, putT, wipeE]
      refine allowance_wp xx.well fun al h9 ha x9 => ?_
      refine draw_wp x9.well (by omega) (by omega) fun lt h10 t0 t1 x10 => ?_
      refine ⟨by rw [hrl, sizeLine_eq]; omega, (xx.trans x9).trans x10, r ++ [(al, lt.toNat)], ?_, by simp [hrl], ?_⟩
      · have : ((lt.toNat : Nat) : Int) = lt := by omega
        simp [stepV, this]
      · intro a' b' n' hst
        rcases List.mem_append.mp hst with hst | hst
        · exact hro _ hst
        · have e := List.mem_singleton.mp hst
          rw [Prod.mk.injEq] at e
          obtain ⟨e1, e2⟩ := e
          exact ⟨e1 ▸ ha, by omega⟩
    · rintro acc hh ⟨xx, r, rfl, hrl, hro⟩
      have g := (Hx.app (o := .lst .own (r.map stepV)) xx.well)
      have o10 := (xx.trans g).own (j := h6.length) (by omega) hr8
      have lo : h6.length < (hh ++ [PO.lst .own (r.map stepV)]).length := by
        have := X'.len
        have z : h6.length < h'.length := by
          by_cases z : h6.length < h'.length
          · exact z
          · unfold ownL at hr; rw [List.getElem?_eq_none (by omega)] at hr; cases hr
        have := x8.len
        have := xx.len
        simp
        omega
      refine ⟨_, o10, by simp only [List.length_map]; rw [sizeLine_eq]; omega, ?_, rs ++ [r], ?_, by simp [hl], ?_⟩
      · exact Hx.set hw (((X'.trans x8).trans xx).trans g) X.len
      · rw [ownL_set lo]
        simp [ruleV]
      · intro r' hr'
        simp only [List.mem_append, List.mem_singleton] at hr'
        rcases hr' with hr' | rfl
        · exact ⟨(hok r' hr').1, fun a b b1 hm => (hok r' hr').2 _ hm⟩
        · exact ⟨hrl, fun a b b1 hm => hro _ hm⟩
  · rintro env h' ⟨X', rs, e5, e6, e7, rfl, hr, hl, hok⟩
    simp [-List.append_assoc, -List.length_append, slot, lstP_own hr]
    have : (PV.tup [.int (Z : Nat), .tup (rs.map ruleV)]) = machV Z rs := rfl
    exact q Z rs h' ⟨hS2, hS4, by omega, by omega, fun r hr => (hok r hr).1, fun r hr => by rw [hl]; exact (hok r hr).2⟩ X'
  · exact ⟨X.trans y7, [], none, none, none, rfl, by simp, rfl, by simp⟩
end PK

set_option Elab.async false
set_option linter.all false
set_option maxRecDepth 100000
set_option maxHeartbeats 4000000
set_option exponentiation.threshold 5000
/-! PKg: what rows come to. -/
namespace PK
open PySem MP L2
def stp (rs : List (List Stp)) (q l : Nat) : Stp := (rs.getD q []).getD l ((0, 1), 0)
def runS (rs : List (List Stp)) (q : Nat) (row : List Nat) : Nat := row.foldl (fun q l => (stp rs q l).2) q
def num (D : Nat) (x : Int × Int) : Int := x.1 * ((D : Int) / x.2)
def runN (rs : List (List Stp)) (D : Nat) : Nat → List Nat → Int
  | _, [] => 0
  | q, l :: row => num D (stp rs q l).1 + runN rs D (stp rs q l).2 row
def rowV (row : List Nat) : PV := .tup (row.map fun l => .int (l : Nat))
/-- a bottom for all allowances -/
structure Den (rs : List (List Stp)) (D : Nat) : Prop where
  bot : Bot D
  dvd : ∀ r ∈ rs, ∀ st ∈ r, st.1.2 ∣ (D : Int)
  small : D < 2 ^ 480
theorem prod_dvd : ∀ {l : List Nat} {x : Nat}, x ∈ l → x ∣ l.foldr (· * ·) 1
  | y :: l, x, h => by
    rcases List.mem_cons.mp h with rfl | h
    · exact ⟨_, rfl⟩
    · exact Nat.dvd_trans (prod_dvd h) ⟨y, by simp [Nat.mul_comm]⟩
theorem prod_le : ∀ {l : List Nat}, (∀ x ∈ l, 1 ≤ x ∧ x ≤ 1000) → 1 ≤ l.foldr (· * ·) 1 ∧ l.foldr (· * ·) 1 ≤ 1000 ^ l.length
  | [], _ => by simp
  | y :: l, h => by
    obtain ⟨h1, h2⟩ := prod_le (l := l) fun x hx => h x (List.mem_cons_of_mem _ hx)
    obtain ⟨h3, h4⟩ := h y (by simp)
    refine ⟨?_, ?_⟩
    · show 1 ≤ y * _
      exact Nat.mul_pos h3 h1
    · show y * _ ≤ 1000 ^ (l.length + 1)
      rw [Nat.pow_succ, Nat.mul_comm (1000 ^ l.length)]
      exact Nat.mul_le_mul h4 h2
theorem den_ex {s : Nat} {rs : List (List Stp)} (m : MachOk s rs) : ∃ D, Den rs D := by
  let l := (rs.flatMap id).map fun st => st.1.2.toNat
  have hl : ∀ x ∈ l, 1 ≤ x ∧ x ≤ 1000 := fun x hx => by
    obtain ⟨st, h1, rfl⟩ := List.mem_map.mp hx
    obtain ⟨r, h2, h3⟩ := List.mem_flatMap.mp h1
    have a := (m.ok r h2 st h3).1
    have := a.pos
    have := a.bot
    omega
  have hlen : l.length ≤ 48 := by
    have e : l.length = (rs.map List.length).sum := by
      have z : (List.length ∘ List.map fun st : Stp => st.fst.snd.toNat) = List.length := by funext r; simp
      simp [l, List.length_flatMap, z]
    rw [e]
    have : ∀ rs' : List (List Stp), (∀ r ∈ rs', r.length = s) → (rs'.map List.length).sum = rs'.length * s := by
      intro rs'
      induction rs' with
      | nil => intro _; simp
      | cons r rs' ih =>
        intro h
        simp only [List.map_cons, List.sum_cons, List.length_cons]
        rw [ih (fun r hr => h r (List.mem_cons_of_mem _ hr)), h r (by simp), Nat.add_mul]
        omega
    rw [this rs m.len]
    calc rs.length * s ≤ 12 * 4 := Nat.mul_le_mul m.r12 m.s4
      _ = 48 := rfl
  obtain ⟨p1, p2⟩ := prod_le hl
  have p3 : l.foldr (· * ·) 1 < 2 ^ 480 := by
    calc l.foldr (· * ·) 1 ≤ 1000 ^ l.length := p2
      _ ≤ 1000 ^ 48 := Nat.pow_le_pow_right (by decide) hlen
      _ < 2 ^ 480 := by decide
  refine ⟨l.foldr (· * ·) 1, ⟨p1, Nat.lt_trans p3 (Nat.pow_lt_pow_right (by decide) (by decide))⟩, fun r hr st hst => ?_, p3⟩
  have hx : st.1.2.toNat ∈ l := List.mem_map.mpr ⟨st, List.mem_flatMap.mpr ⟨r, hr, hst⟩, rfl⟩
  have a := (m.ok r hr st hst).1
  have := a.pos
  have e : ((st.1.2.toNat : Nat) : Int) = st.1.2 := by omega
  have d := prod_dvd hx
  rw [← e]
  exact Int.natCast_dvd_natCast.mpr d
section
variable {s : Nat} {rs : List (List Stp)} {q l : Nat} {D : Nat}
theorem stp_mem (m : MachOk s rs) (hq : q < rs.length) (hl : l < s) : ∃ r ∈ rs, stp rs q l ∈ r := by
  refine ⟨rs[q], List.getElem_mem _, ?_⟩
  have e := m.len rs[q] (List.getElem_mem _)
  have e1 : rs.getD q [] = rs[q] := by simp [List.getD_eq_getElem?_getD, hq]
  have e2 : rs[q].getD l ((0, 1), 0) = rs[q][l]'(by omega) := by simp [List.getD_eq_getElem?_getD, show l < rs[q].length by omega]
  unfold stp
  rw [e1, e2]
  exact List.getElem_mem _
theorem stp_ok (m : MachOk s rs) (hq : q < rs.length) (hl : l < s) : AllowOk (stp rs q l).1 ∧ (stp rs q l).2 < rs.length := by
  obtain ⟨r, h1, h2⟩ := stp_mem m hq hl
  exact m.ok r h1 _ h2
theorem stp_fr (m : MachOk s rs) (d : Den rs D) (hq : q < rs.length) (hl : l < s) : (stp rs q l).1 = fr D (num D (stp rs q l).1) := by
  obtain ⟨r, h1, h2⟩ := stp_mem m hq hl
  have a := (m.ok r h1 _ h2).1
  exact fr_of (Int.lt_of_lt_of_le (by decide : (0 : Int) < 1) a.pos) d.bot.pos a.cop (d.dvd r h1 _ h2)
theorem num_small (m : MachOk s rs) (d : Den rs D) (hq : q < rs.length) (hl : l < s) : (num D (stp rs q l).1).natAbs ≤ 1000000 * 2 ^ 480 := by
  have a := (stp_ok m hq hl).1
  unfold num
  rw [Int.natAbs_mul]
  have h1 := a.top
  have h2 : ((D : Int) / (stp rs q l).1.2).natAbs ≤ D := by
    have h3 : (D : Int) / (stp rs q l).1.2 ≤ D := Int.ediv_le_self _ (by omega)
    have h4 : 0 ≤ (D : Int) / (stp rs q l).1.2 := Int.ediv_nonneg (by omega) (by have := a.pos; omega)
    omega
  have h5 := d.small
  exact Nat.mul_le_mul (by omega) (by omega)
theorem runS_lt (m : MachOk s rs) (hq : q < rs.length) {row : List Nat} (hr : ∀ l ∈ row, l < s) : runS rs q row < rs.length := by
  induction row generalizing q with
  | nil => exact hq
  | cons l row ih => exact ih (stp_ok m hq (hr l (by simp))).2 fun l hl => hr l (List.mem_cons_of_mem _ hl)
theorem runN_small (m : MachOk s rs) (d : Den rs D) (hq : q < rs.length) {row : List Nat} (hr : ∀ l ∈ row, l < s) : (runN rs D q row).natAbs ≤ row.length * (1000000 * 2 ^ 480) := by
  induction row generalizing q with
  | nil => simp [runN]
  | cons l row ih =>
    have h1 := ih (stp_ok m hq (hr l (by simp))).2 fun l hl => hr l (List.mem_cons_of_mem _ hl)
    have h2 := num_small m d hq (hr l (by simp))
    have h3 := Int.natAbs_add_le (num D (stp rs q l).1) (runN rs D (stp rs q l).2 row)
    show (num D (stp rs q l).1 + runN rs D (stp rs q l).2 row).natAbs ≤ (row.length + 1) * _
    rw [Nat.add_mul, Nat.one_mul]
    omega
theorem top_of {n : Int} {k : Nat} (h : n.natAbs ≤ k * (1000000 * 2 ^ 480)) (hk : k ≤ 1000000000) : Top n := by
  have : k * (1000000 * 2 ^ 480) ≤ 1000000000 * (1000000 * 2 ^ 480) := Nat.mul_le_mul_right _ hk
  have h2 : 1000000000 * (1000000 * 2 ^ 480) < 2 ^ 4000 := by decide
  unfold Top
  omega
theorem runS_app {row row2 : List Nat} : runS rs q (row ++ row2) = runS rs (runS rs q row) row2 := List.foldl_append
theorem runN_app {row row2 : List Nat} : runN rs D q (row ++ row2) = runN rs D q row + runN rs D (runS rs q row) row2 := by
  induction row generalizing q with
  | nil => simp [runN, runS]
  | cons l row ih =>
    show num D (stp rs q l).1 + runN rs D (stp rs q l).2 (row ++ row2) = (num D (stp rs q l).1 + runN rs D (stp rs q l).2 row) + runN rs D (runS rs q (l :: row)) row2
    rw [ih, Int.add_assoc]
    rfl
end
end PK

set_option Elab.async false
set_option linter.all false
set_option maxRecDepth 100000
set_option maxHeartbeats 4000000
set_option exponentiation.threshold 5000
/-! PKv: any values drawn. -/
namespace PK
open PySem MP L2
/-- a value: its integers bounded, its tuples not too long -/
inductive Val (h : PH) (B L : Nat) : PV → Prop
  | non : Val h B L .non
  | bl (b : Bool) : Val h B L (.bl b)
  | int (i : Int) (hb : i.natAbs ≤ B) : Val h B L (.int i)
  | str (x : Str) : Val h B L (.str x)
  | tup (xs : List PV) (hl : xs.length ≤ L) (a : ∀ x ∈ xs, Val h B L x) : Val h B L (.tup xs)
  | lst (i : Nat) (k : LK) (xs : List PV) (e : h[i]? = some (.lst k xs)) : Val h B L (.obj i)
  | dK (i : Nat) (xs : List (L2.Key × PV)) (e : h[i]? = some (.dK xs)) : Val h B L (.obj i)
variable {P : Prog} {k : Nat} {h h' : PH} {E : Str → PH → Prop} {v : PV} {Q : PV → PH → Prop} {w c : Nat} {B B' L L' : Nat}
theorem Val.ok (a : Val h B L v) : Ok h v := by
  induction a with
  | non => exact .non
  | bl b => exact .bl b
  | int i hb => exact .int i
  | str x => exact .str x
  | tup xs hl a ih => exact .tup xs ih
  | lst i k xs e => exact .lst i k xs e
  | dK i xs e => exact .dK i xs e
theorem Val.mono (a : Val h B L v) (hB : B ≤ B') (hL : L ≤ L') : Val h B' L' v := by
  induction a with
  | non => exact .non
  | bl b => exact .bl b
  | int i hb => exact .int i (Nat.le_trans hb hB)
  | str x => exact .str x
  | tup xs hl a ih => exact .tup xs (Nat.le_trans hl hL) ih
  | lst i k xs e => exact .lst i k xs e
  | dK i xs e => exact .dK i xs e
theorem Val.gr (g : Gr h h') (a : Val h B L v) : Val h' B L v := by
  induction a with
  | non => exact .non
  | bl b => exact .bl b
  | int i hb => exact .int i hb
  | str x => exact .str x
  | tup xs hl a ih => exact .tup xs hl ih
  | lst i k xs e => exact .lst i k xs ((g.keep i (List.getElem?_eq_some_iff.mp e).1).trans e)
  | dK i xs e => exact .dK i xs ((g.keep i (List.getElem?_eq_some_iff.mp e).1).trans e)
theorem Val.hx (hw : Well h w c) (g : Hx w c h h') (a : Val h B L v) : Val h' B L v := by
  obtain ⟨cells, a1, b, d, g1, g2, g3, g4, g5⟩ := g.well
  obtain ⟨cells', a1', b', d', k1, k2, k3, k4, k5⟩ := hw
  induction a with
  | non => exact .non
  | bl b => exact .bl b
  | int i hb => exact .int i hb
  | str x => exact .str x
  | tup xs hl a ih => exact .tup xs hl ih
  | lst i k xs e =>
    by_cases hi : i = w
    · subst hi; exact .lst _ _ _ g1
    · exact .lst i k xs ((g.keep i (List.getElem?_eq_some_iff.mp e).1 hi).trans e)
  | dK i xs e =>
    by_cases hi : i = w
    · subst hi; exact .lst _ _ _ g1
    · exact .dK i xs ((g.keep i (List.getElem?_eq_some_iff.mp e).1 hi).trans e)
mutual
def depP : PV → Nat
  | .tup xs => 1 + depL xs
  | _ => 1
def depL : List PV → Nat
  | [] => 0
  | x :: xs => max (depP x) (depL xs)
end
theorem depL_le : ∀ {xs : List PV} {x : PV}, x ∈ xs → depP x ≤ depL xs
  | y :: ys, x, h => by
    unfold depL
    rcases List.mem_cons.mp h with rfl | h
    · exact Nat.le_max_left _ _
    · exact Nat.le_trans (depL_le h) (Nat.le_max_right _ _)
theorem dep_pos {v : PV} : 1 ≤ depP v := by
  cases v <;> simp [depP]
theorem depL_all : ∀ {xs : List PV} {n : Nat}, (∀ x ∈ xs, depP x ≤ n) → depL xs ≤ n
  | [], _, _ => by simp [depL]
  | x :: xs, n, h => by
    unfold depL
    exact Nat.max_le.mpr ⟨h x (by simp), depL_all fun y hy => h y (List.mem_cons_of_mem _ hy)⟩
theorem dep1 {v : PV} (h : ∀ xs, v ≠ .tup xs) {n : Nat} : depP v ≤ n + 1 := by
  cases v with
  | tup xs => exact absurd rfl (h xs)
  | _ => simp [depP]
class Vs (P : Prog) : Prop where
  any : Has P "_law_any" 2 5 b_law_any
  nodes : Has P "_law_nodes" 1 2 b_law_nodes
  changed : Has P "_law_changed" 2 4 b_law_changed
  spoilt : Has P "_law_spoilt" 3 5 b_law_spoilt
theorem kinds_wp [Dr P] {d : Nat} {t : Int} (t0 : 0 ≤ t) (t1 : t < 11) (hd : d = 0 → t ≤ 5) (hw : Well h w c) {N : Nat} (hN : N = k + 3) (q : ∀ v h', Val h' (2 ^ 100) 4 v → depP v ≤ d + 1 → Hx w c h h' → Q v h')
    (rec : ∀ {h : PH} {R : PV → PH → Prop}, Well h w c → 1 ≤ d → (∀ v h', Val h' (2 ^ 100) 4 v → depP v ≤ d → Hx w c h h' → R v h') → wp (callF P N "_law_any" [.obj w, .int ((d : Int) - 1)]) h R fun _ _ => False) :
    wpS (execSs (globOf P N) (b_law_any.drop 2) [some (.obj w), some (.int (d : Nat)), some (.int t), none, none] h) (.fn Q E) := by
  subst hN
  unfold b_law_any
  simp [-List.append_assoc, -List.length_append, slot, Con.pv]
  by_cases e0 : t = 0
  · refine .inr ⟨e0, draw_wp hw (by omega) (by omega) fun r h1 r0 r1 x1 => ?_⟩
    simp
    exact q _ _ (.int _ (by have : (2 : Nat) ^ 100 > 100 := by decide
                            omega)) (dep1 (by simp)) x1
  refine .inl ⟨e0, ?_⟩
  by_cases e1 : t = 1
  · refine .inr ⟨e1, pick_wp (m := 6) hw (by rfl) (by omega) (by omega) fun x hx h2 x2 => q x h2 ?_ ?_ x2⟩
    simp at hx
    rcases hx with rfl | rfl | rfl | rfl | rfl | rfl <;> exact .int _ (by decide)
    simp at hx
    rcases hx with rfl | rfl | rfl | rfl | rfl | rfl <;> exact dep1 (by simp)
  refine .inl ⟨e1, ?_⟩
  by_cases e2 : t = 2
  · refine .inr ⟨e2, draw_wp hw (by omega) (by omega) fun r h1 r0 r1 x1 => ?_⟩
    simp
    by_cases hr : r = 1
    · exact .inr ⟨hr, q _ _ (.bl _) (dep1 (by simp)) x1⟩
    · exact .inl ⟨hr, q _ _ (.bl _) (dep1 (by simp)) x1⟩
  refine .inl ⟨e2, ?_⟩
  by_cases e3 : t = 3
  · exact .inr ⟨e3, q _ _ .non (dep1 (by simp)) (.refl hw)⟩
  refine .inl ⟨e3, ?_⟩
  by_cases e5 : t ≤ 5
  · refine .inr ⟨e5, pick_wp (m := 6) hw (by rfl) (by omega) (by omega) fun x hx h2 x2 => q x h2 ?_ ?_ x2⟩
    simp at hx
    rcases hx with rfl | rfl | rfl | rfl | rfl | rfl <;> exact .str _
    simp at hx
    rcases hx with rfl | rfl | rfl | rfl | rfl | rfl <;> exact dep1 (by simp)
  refine .inl ⟨by omega, ?_⟩
  have hd1 : 1 ≤ d := by
    by_cases z : d = 0
    · exact absurd (hd z) e5
    · omega
  rw [x_lc]
  simp [-List.append_assoc, -List.length_append, slot, Con.pv]
  refine draw_wp hw (by omega) (by omega) fun r h1 r0 r1 x1 => ?_
  obtain ⟨n, hn⟩ : ∃ n : Nat, r = (n : Int) := ⟨r.toNat, by omega⟩
  subst hn
  have hsm : smallI (n : Nat) = true := by simp [smallI]; omega
  simp [-List.append_assoc, -List.length_append, hsm]
  refine wp_lc_rng (fun j acc hh => Hx w c h1 hh ∧ acc.length = j ∧ ∀ x ∈ acc, Val hh (2 ^ 100) 4 x ∧ depP x ≤ d) ?_ ?_ ⟨.refl x1.well, rfl, by simp⟩
  · rintro j acc hh hj ⟨xx, hl, ha⟩
    simp [-List.append_assoc, -List.length_append, slot, putT, wipeE, Con.pv]
    refine rec xx.well hd1 fun v h2 hv dv x2 => ?_
    refine ⟨by rw [hl, sizeLine_eq]; omega, xx.trans x2, by simp [hl], fun x hx => ?_⟩
    have hx : x ∈ acc ∨ x = v := by simpa using hx
    rcases hx with hx | hx
    · exact ⟨(ha x hx).1.hx xx.well x2, (ha x hx).2⟩
    · rw [hx]
      exact ⟨hv, dv⟩
  · rintro acc hh ⟨xx, hl, ha⟩
    have g := Hx.app (o := .lst .own acc) xx.well
    have X := (x1.trans xx).trans g
    have dt : depP (.tup acc) ≤ d + 1 := by
      have := depL_all fun x hx => (ha x hx).2
      simp [depP]
      omega
    by_cases e8 : t ≤ 8
    · refine .inr ⟨e8, ?_⟩
      first
        | exact q _ _ (.tup acc (by omega) fun x hx => (ha x hx).1.hx xx.well g) dt X
        | exact p_tupleO.mpr ⟨acc, lstP_app, q _ _ (.tup acc (by omega) fun x hx => (ha x hx).1.hx xx.well g) dt X⟩
    · refine .inl ⟨by omega, ?_⟩
      by_cases e9 : t = 9
      · exact .inr ⟨e9, q _ _ (.lst _ .own acc (by simp)) (dep1 (by simp)) X⟩
      · refine .inl ⟨e9, ?_⟩
        rw [x_dct]
        simp [-List.append_assoc, -List.length_append, slot, Con.pv]
        have g2 := Hx.app (o := .dK []) X.well
        refine ⟨by simp, q _ _ (.dK _ _ (List.getElem?_concat_length ..)) (dep1 (by simp)) (X.trans (Hx.app X.well))⟩
theorem any_head {d : Nat} : b_law_any = .asg 2 (.cl "_law_draw" [.slot 0, .con (.int 11)]) :: .ifS (.cmp .eq (.slot 1) (.con (.int 0))) [.asg 2 (.bin .mod (.bi .int [.slot 2]) (.con (.int 6)))] [] :: b_law_any.drop 2 := rfl
theorem any_wpD [Dr P] [Vs P] : ∀ (d : Nat) {k : Nat} {h : PH} {Q : PV → PH → Prop} {E : Str → PH → Prop} (hw : Well h w c) (q : ∀ v h', Val h' (2 ^ 100) 4 v → depP v ≤ d + 1 → Hx w c h h' → Q v h'), wp (callF P (k + 4 + d) "_law_any" [.obj w, .int (d : Nat)]) h Q E := by
  intro d
  induction d with
  | zero =>
    intro k h Q E hw q
    rw [wp_call Vs.any rfl]
    have K := fun t (t0 : (0 : Int) ≤ t) (t1 : t < 11) (t2 : t ≤ 5) (h1 : PH) (x1 : Hx w c h h1) => kinds_wp (P := P) (k := k) (d := 0) (t := t) (E := E) (Q := Q) t0 t1 (fun _ => t2) x1.well rfl (fun v h2 hv dv x2 => q v h2 hv dv (x1.trans x2)) (fun _ z => absurd z (by omega))
    rw [any_head (d := 0)]
    generalize b_law_any.drop 2 = B at K ⊢
    simp [-List.append_assoc, -List.length_append, slot, Con.pv]
    refine draw_wp hw (by omega) (by omega) fun r h1 r0 r1 x1 => ?_
    simp [-List.append_assoc, -List.length_append, slot, Con.pv]
    exact K (r % 6) (by omega) (by omega) (by omega) h1 x1
  | succ d ih =>
    intro k h Q E hw q
    rw [show k + 4 + (d + 1) = (k + 1 + d + 3) + 1 by omega, wp_call Vs.any rfl]
    have K := fun t (t0 : (0 : Int) ≤ t) (t1 : t < 11) (h1 : PH) (x1 : Hx w c h h1) => kinds_wp (P := P) (k := k + 1 + d) (d := d + 1) (t := t) (E := E) (Q := Q) t0 t1 (fun z => absurd z (by omega)) x1.well rfl (fun v h2 hv dv x2 => q v h2 hv dv (x1.trans x2)) (fun {h R} hw' _ q' => by
      have := ih (k := k) (E := fun _ _ => False) hw' q'
      rw [show k + 1 + d + 3 = k + 4 + d by omega, show ((d + 1 : Nat) : Int) - 1 = (d : Nat) by omega]
      exact this)
    rw [any_head (d := 0)]
    generalize b_law_any.drop 2 = B at K ⊢
    have hne : ¬ (((d : Nat) : Int) + 1 = 0) := by omega
    simp [-List.append_assoc, -List.length_append, slot, Con.pv, hne]
    refine draw_wp hw (by omega) (by omega) fun r h1 r0 r1 x1 => ?_
    have := K r r0 r1 h1 x1
    simpa using this
theorem any_wp [Dr P] [Vs P] (d : Nat) {k : Nat} {h : PH} {Q : PV → PH → Prop} {E : Str → PH → Prop} (hw : Well h w c) (q : ∀ v h', Val h' (2 ^ 100) 4 v → Hx w c h h' → Q v h') : wp (callF P (k + 4 + d) "_law_any" [.obj w, .int (d : Nat)]) h Q E := any_wpD d hw fun v h' hv _ x => q v h' hv x
end PK

set_option Elab.async false
set_option linter.all false
set_option maxRecDepth 100000
set_option maxHeartbeats 4000000
set_option exponentiation.threshold 5000
/-! PKw: values changed at a place. -/
namespace PK
open PySem MP L2
mutual
def nodesP : PV → Nat
  | .tup xs => 1 + nodesL xs
  | _ => 1
def nodesL : List PV → Nat
  | [] => 0
  | x :: xs => nodesP x + nodesL xs
end
theorem nodes_no {v : PV} (h : ¬ ∃ xs, v = .tup xs) : nodesP v = 1 := by
  cases v with
  | tup xs => exact absurd ⟨xs, rfl⟩ h
  | _ => rfl
theorem nodesL_sum : ∀ {xs : List PV}, (xs.map fun x => ((nodesP x : Nat) : Int)).sum = (nodesL xs : Nat)
  | [] => rfl
  | x :: xs => by
    rw [List.map_cons, List.sum_cons, nodesL_sum]
    show ((nodesP x : Nat) : Int) + (nodesL xs : Nat) = ((nodesP x + nodesL xs : Nat) : Int)
    omega
theorem intsP_map {xs : List PV} {f : PV → Int} : intsP (xs.map fun x => .int (f x)) = some (xs.map f) := by
  induction xs with
  | nil => rfl
  | cons x xs ih => simp [intsP, ih]
variable {P : Prog} {k : Nat} {h h' : PH} {E : Str → PH → Prop} {v : PV} {Q : PV → PH → Prop} {w c : Nat} {B L : Nat}
theorem Val.all {xs : List PV} (a : Val h B L (.tup xs)) : ∀ x ∈ xs, Val h B L x := by
  cases a with
  | tup _ _ a => exact a
theorem Val.len {xs : List PV} (a : Val h B L (.tup xs)) : xs.length ≤ L := by
  cases a with
  | tup _ hl _ => exact hl
theorem nodes_wp [Vs P] (hL : L ≤ 1000000) : ∀ (n : Nat) {h : PH} {v : PV} {Q : PV → PH → Prop} {E : Str → PH → Prop}, Val h B L v → depP v ≤ n → (∀ h', Gr h h' → Q (.int (nodesP v : Nat)) h') → wp (callF P (k + n) "_law_nodes" [v]) h Q E := by
  intro n
  induction n with
  | zero => intro h v Q E _ hd _; have := dep_pos (v := v); omega
  | succ n ih =>
    intro h v Q E a hd q
    rw [show k + (n + 1) = (k + n) + 1 from rfl, wp_call Vs.nodes rfl]
    unfold b_law_nodes
    simp [-List.append_assoc, -List.length_append, slot, Con.pv, a.ok.ty]
    by_cases e : ∃ xs, v = .tup xs
    · obtain ⟨xs, rfl⟩ := e
      have ht : (typ h (PV.tup xs)).sub PTy.tuple = true := rfl
      simp [-List.append_assoc, -List.length_append, ht]
      rw [x_lc]
      simp [-List.append_assoc, -List.length_append, slot]
      refine wp_lc (xs := xs) (fun j acc h1 => Gr h h1 ∧ acc = (xs.take j).map fun x => .int (nodesP x : Nat)) (fun _ _ _ _ => rfl) ?_ ?_ xs.length 0 [] h (by simp) ⟨.refl, rfl⟩
      · rintro j x acc h1 hx ⟨g, rfl⟩
        have hj : j < xs.length := (List.getElem?_eq_some_iff.mp hx).1
        have hl := a.len
        simp [-List.append_assoc, -List.length_append, slot, putT, wipeE]
        have hm := List.mem_of_getElem? hx
        refine ih ((a.all x hm).gr g) (by have := depL_le hm; simp [depP] at hd; omega) fun h2 g2 => ?_
        refine ⟨by rw [sizeLine_eq]; omega, g.trans g2, ?_⟩
        simp [List.take_add_one, hx]
      · rintro acc h1 ⟨g, rfl⟩
        have et : xs.take xs.length = xs := List.take_length
        rw [et]
        refine ⟨_, intsP_map, ?_⟩
        rw [nodesL_sum]
        have := q _ (g.trans (Gr.app (o := .lst .own (xs.map fun x => .int (nodesP x : Nat)))))
        simpa [nodesP] using this
    · have ht := typ_no a.ok e
      simp [ht]
      have := q h .refl
      rw [nodes_no e] at this
      exact this
/-! ### what is in a value, so many levels down -/
def InL : Nat → PV → PV → Prop
  | 0, v, x => x = v
  | n + 1, v, x => ∃ xs y, v = .tup xs ∧ y ∈ xs ∧ InL n y x
def isPr (x : PV) : Prop := ∃ a b, x = .tup [.int a, .int b]
/-- a pair of integers that is in the one is in the other, but for one -/
def Near (v v' : PV) : Prop := ∀ n, ∃ z, ∀ x, InL n v' x → isPr x → x = z ∨ InL n v x
theorem Near.same : Near v v := fun n => ⟨v, fun x hx _ => .inr hx⟩
theorem inL_dep : ∀ {n : Nat} {v x : PV}, InL n v x → isPr x → n + 2 ≤ depP v
  | 0, v, x, hx, hp => by
    obtain ⟨a, b, rfl⟩ := hp
    cases (hx : _ = v)
    simp [depP, depL]
  | n + 1, v, x, hx, hp => by
    obtain ⟨xs, y, rfl, hy, hx⟩ := hx
    have := inL_dep hx hp
    have := depL_le hy
    simp [depP]
    omega
theorem Near.shallow {v v' : PV} (h : depP v' ≤ 2) : Near v v' := fun n => ⟨v', fun x hx hp => by
  have := inL_dep hx hp
  obtain rfl : n = 0 := by omega
  exact .inl hx⟩
theorem Near.items {xs ys : List PV} (h : ∀ y ∈ ys, y ∈ xs ∨ y = .int 0) : Near (.tup xs) (.tup ys) := fun n => ⟨.tup ys, fun x hx hp => by
  cases n with
  | zero => exact .inl hx
  | succ n =>
    obtain ⟨zs, y, e, hy, hx⟩ := hx
    cases e
    rcases h y hy with hy | rfl
    · exact .inr ⟨xs, y, rfl, hy, hx⟩
    · have := inL_dep hx hp
      simp [depP] at this⟩
theorem Near.at' {xs ys : List PV} {x0 x' : PV} (h : Near x0 x') (h0 : x0 ∈ xs) (hy : ∀ y ∈ ys, y ∈ xs ∨ y = x') : Near (.tup xs) (.tup ys) := fun n => by
  cases n with
  | zero => exact ⟨.tup ys, fun x hx _ => .inl hx⟩
  | succ n =>
    obtain ⟨z, hz⟩ := h n
    refine ⟨z, fun x hx hp => ?_⟩
    obtain ⟨zs, y, e, hy', hx⟩ := hx
    cases e
    rcases hy y hy' with hm | rfl
    · exact .inr ⟨xs, y, rfl, hm, hx⟩
    · rcases hz x hx hp with e | hx
      · exact .inl e
      · exact .inr ⟨xs, x0, rfl, h0, hx⟩
/-! ### changed -/
theorem val_cut {xs : List PV} {lo hi : Option Int} (a : Val h B L (.tup xs)) : Val h B L (.tup (cutP xs lo hi)) := by
  refine .tup _ ?_ fun x hx => a.all x (List.mem_of_mem_drop (List.mem_of_mem_take hx))
  unfold cutP
  rw [List.length_take, List.length_drop]
  have := a.len
  omega
theorem val_app {xs ys : List PV} {L2 : Nat} (a : Val h B L (.tup xs)) (b : Val h B L2 (.tup ys)) : Val h B (L + L2) (.tup (xs ++ ys)) := by
  refine .tup _ (by rw [List.length_append]; have := a.len; have := b.len; omega) fun x hx => ?_
  rcases List.mem_append.mp hx with hx | hx
  · exact (a.all x hx).mono (Nat.le_refl _) (by omega)
  · exact (b.all x hx).mono (Nat.le_refl _) (by omega)
theorem cut_len {xs : List PV} {lo hi : Option Int} : (cutP xs lo hi).length ≤ xs.length := by
  unfold cutP
  rw [List.length_take, List.length_drop]
  omega
theorem typ_int {i : Int} : typ h (.int i) = .int := rfl
theorem typ_tup {xs : List PV} : typ h (.tup xs) = .tuple := rfl
theorem typ_bl {b : Bool} : typ h (.bl b) = .bool := rfl
theorem changed_wpN [Dr P] [Vs P] (hw : Well h w c) (hL : L ≤ 400) (a : Val h B L v) (q : ∀ v' h', Val h' (B + 2 ^ 100) (2 * L + 4) v' → Near v v' → Hx w c h h' → Q v' h') : wp (callF P (k + 7) "_law_changed" [v, .obj w]) h Q E := by
  rw [wp_call Vs.changed rfl]
  unfold b_law_changed
  simp [-List.append_assoc, -List.length_append, slot, Con.pv, a.ok.ty]
  refine draw_wp hw (by omega) (by omega) fun r h1 r0 r1 x1 => ?_
  have a1 := a.hx hw x1
  have any1 : ∀ {E : Str → PH → Prop}, wp (callF P (k + 6) "_law_any" [.obj w, .int 1]) h1 Q E := fun {E} => any_wpD (k := k + 1) 1 x1.well fun v' h' hv dv x2 => q v' h' (hv.mono (by omega) (by omega)) (.shallow dv) (x1.trans x2)
  simp [-List.append_assoc, -List.length_append, slot, Con.pv, a1.ok.ty]
  by_cases e0 : r = 0
  · exact .inr ⟨e0, any1⟩
  refine .inl ⟨e0, ?_⟩
  by_cases ht : ∃ xs, v = .tup xs
  · obtain ⟨xs, rfl⟩ := ht
    have s1 : (typ h1 (PV.tup xs)).sub PTy.tuple = true := rfl
    have s2 : (typ h1 (PV.tup xs)).sub PTy.bool = false := rfl
    have s3 : (typ h1 (PV.tup xs)).sub PTy.int = false := rfl
    have hlen := a.len
    simp [-List.append_assoc, -List.length_append, s1, s2, s3]
    have c1 := cut_len (xs := xs) (lo := some 1) (hi := none)
    have c2 := cut_len (xs := xs) (lo := none) (hi := some 1)
    refine ⟨by rw [sizeLine_eq]; omega, by rw [sizeLine_eq]; omega, by rw [sizeLine_eq]; omega, by omega, ?_⟩
    have y1 := Hx.app (o := .lst .own xs) x1.well
    generalize hl : [PV.tup (cutP xs (some 1) none), PV.tup (cutP xs none (some (-1))), PV.tup (cutP xs (some 1) none ++ cutP xs none (some 1)), PV.tup (cutP xs none (some 1) ++ xs), PV.tup (xs ++ [PV.int 0]), PV.obj (List.length h1)] = l
    have hll : l.length = 6 := by subst hl; rfl
    have y2 := Hx.app (o := .lst .own l) y1.well
    have y3 := Hx.app (o := .lst .own [PV.non, PV.tup (xs ++ xs)]) y2.well
    have y4 := Hx.app (o := .lst .own (l ++ [PV.non, PV.tup (xs ++ xs)])) y3.well
    have o1 : ownL (h1 ++ [PO.lst .own xs] ++ [PO.lst .own l]) (h1 ++ [PO.lst .own xs]).length = some l := ownL_app
    have o2 : ownL (h1 ++ [PO.lst .own xs] ++ [PO.lst .own l] ++ [PO.lst .own [PV.non, PV.tup (xs ++ xs)]]) (h1 ++ [PO.lst .own xs]).length = some l := by rw [ownL_appN (by simp)]; exact o1
    refine ⟨l, o2, by rw [hll]; simp, ?_⟩
    obtain ⟨x, hx1, hx2⟩ := atI_pos (xs := l ++ [PV.non, PV.tup (xs ++ xs)]) (i := r - 1) (by omega) (by rw [List.length_append, hll]; simp; omega)
    refine ⟨x, hx2, q x _ ?_ ?_ ((((x1.trans y1).trans y2).trans y3).trans y4)⟩
    have a2 := ((((a1.hx x1.well y1).hx y1.well y2).hx y2.well y3).hx y3.well y4)
    have hcut : ∀ lo hi, Val (h1 ++ [PO.lst .own xs] ++ [PO.lst .own l] ++ [PO.lst .own [PV.non, PV.tup (xs ++ xs)]] ++ [PO.lst .own (l ++ [PV.non, PV.tup (xs ++ xs)])]) B L (.tup (cutP xs lo hi)) := fun lo hi => val_cut a2
    have z1 : ∀ {h : PH}, Val h B 1 (.tup [PV.int 0]) := .tup _ (by simp) fun y hy => by simp at hy; subst hy; exact .int _ (by simp)
    have hobj : Val (h1 ++ [PO.lst .own xs] ++ [PO.lst .own l] ++ [PO.lst .own [PV.non, PV.tup (xs ++ xs)]] ++ [PO.lst .own (l ++ [PV.non, PV.tup (xs ++ xs)])]) B L (.obj h1.length) := .lst _ .own xs (by simp)
    rcases List.mem_append.mp hx1 with hx1 | hx1
    · subst hl
      simp only [List.mem_cons, List.not_mem_nil, or_false] at hx1
      rcases hx1 with rfl | rfl | rfl | rfl | rfl | rfl
      · exact (hcut _ _).mono (by omega) (by omega)
      · exact (hcut _ _).mono (by omega) (by omega)
      · exact (val_app (hcut _ _) (hcut _ _)).mono (by omega) (by omega)
      · exact (val_app (hcut _ _) a2).mono (by omega) (by omega)
      · exact (val_app a2 z1).mono (by omega) (by omega)
      · exact hobj.mono (by omega) (by omega)
    · simp only [List.mem_cons, List.not_mem_nil, or_false] at hx1
      rcases hx1 with rfl | rfl
      · exact .non
      · exact (val_app a2 a2).mono (by omega) (by omega)
    have hcm : ∀ lo hi, ∀ y ∈ cutP xs lo hi, y ∈ xs := fun lo hi y hy => List.mem_of_mem_drop (List.mem_of_mem_take hy)
    rcases List.mem_append.mp hx1 with hx1 | hx1
    · subst hl
      simp only [List.mem_cons, List.not_mem_nil, or_false] at hx1
      rcases hx1 with rfl | rfl | rfl | rfl | rfl | rfl
      · exact .items fun y hy => .inl (hcm _ _ y hy)
      · exact .items fun y hy => .inl (hcm _ _ y hy)
      · exact .items fun y hy => .inl ((List.mem_append.mp hy).elim (hcm _ _ y) (hcm _ _ y))
      · exact .items fun y hy => .inl ((List.mem_append.mp hy).elim (hcm _ _ y) id)
      · exact .items fun y hy => (List.mem_append.mp hy).elim .inl fun hy => .inr (List.mem_singleton.mp hy)
      · exact .shallow (dep1 (by simp))
    · simp only [List.mem_cons, List.not_mem_nil, or_false] at hx1
      rcases hx1 with rfl | rfl
      · exact .shallow (dep1 (by simp))
      · exact .items fun y hy => .inl ((List.mem_append.mp hy).elim id id)
  · by_cases hi : ∃ i, v = .int i
    · obtain ⟨i, rfl⟩ := hi
      have s1 : (typ h1 (PV.int i)).sub PTy.tuple = false := rfl
      have s2 : (typ h1 (PV.int i)).sub PTy.bool = false := rfl
      have s3 : (typ h1 (PV.int i)).sub PTy.int = true := rfl
      have hb : i.natAbs ≤ B := by cases a with | int _ hb => exact hb
      simp [-List.append_assoc, -List.length_append, s1, s2, s3]
      obtain ⟨x, hx1, hx2⟩ := atI_pos (xs := [PV.int (i + 1), PV.int (i - 1), PV.int (-i), PV.bl (decide (1 ≤ i)), PV.int 0, PV.int 1000001, PV.non, PV.tup [PV.int i]]) (i := r - 1) (by omega) (by simp; omega)
      refine ⟨x, hx2, q x _ ?_ ?_ (x1.trans (Hx.app x1.well))⟩
      have hp : 1000001 ≤ 2 ^ 100 := by decide
      have p2 : 1 ≤ 2 ^ 100 := by decide
      simp at hx1
      rcases hx1 with rfl | rfl | rfl | rfl | rfl | rfl | rfl | rfl
      · exact .int _ (by omega)
      · exact .int _ (by omega)
      · exact .int _ (by omega)
      · exact .bl _
      · exact .int _ (by omega)
      · exact .int _ (by omega)
      · exact .non
      · refine .tup _ (by simp) fun y hy => ?_
        simp at hy
        subst hy
        exact .int _ (by omega)
      simp at hx1
      refine .shallow ?_
      rcases hx1 with rfl | rfl | rfl | rfl | rfl | rfl | rfl | rfl <;> simp [depP, depL]
    · have s1 : (typ h1 v).sub PTy.tuple = false := typ_no a1.ok ht
      by_cases s3 : (typ h1 v).sub PTy.int = true
      · by_cases s2 : (typ h1 v).sub PTy.bool = true
        · simp [s1, s2, s3]
          exact any1
        · exfalso
          cases a1 with
          | int i hb => exact hi ⟨i, rfl⟩
          | bl b => exact s2 rfl
          | tup xs hl a => exact ht ⟨xs, rfl⟩
          | non => cases s3
          | str x => cases s3
          | lst i k xs e => simp [typ, tyP, e] at s3; cases s3
          | dK i xs e => simp [typ, tyP, e] at s3; cases s3
      · have s3 : (typ h1 v).sub PTy.int = false := by simpa using s3
        simp [s1, s3]
        exact any1
theorem changed_wp [Dr P] [Vs P] (hw : Well h w c) (hL : L ≤ 400) (a : Val h B L v) (q : ∀ v' h', Val h' (B + 2 ^ 100) (2 * L + 4) v' → Hx w c h h' → Q v' h') : wp (callF P (k + 7) "_law_changed" [v, .obj w]) h Q E := changed_wpN hw hL a fun v' h' hv _ x => q v' h' hv x
/-! ### spoilt -/
theorem cutP_to {xs : List PV} {i : Nat} : cutP xs none (some (i : Int)) = xs.take i := by
  unfold cutP
  rw [HT.sIx_nat, HT.sIx_none]
  simp
theorem spoilt_wpN [Dr P] [Vs P] (hL : L ≤ 400) : ∀ (n : Nat) {h : PH} {v : PV} {at' : Int} {Q : PV → PH → Prop} {E : Str → PH → Prop}, Well h w c → Val h B L v → depP v ≤ n → 0 ≤ at' → at' < nodesP v → (∀ v' h', Val h' (B + 2 ^ 100) (2 * L + 4) v' → Near v v' → Hx w c h h' → Q v' h') →
    wp (callF P (k + 8 + n) "_law_spoilt" [v, .int at', .obj w]) h Q E := by
  intro n
  induction n with
  | zero => intro h v at' Q E _ _ hd; have := dep_pos (v := v); omega
  | succ n ih =>
    intro h v at' Q E hw a hd h0 h1 q
    rw [show k + 8 + (n + 1) = ((k + n + 1) + 7) + 1 by omega, wp_call Vs.spoilt rfl]
    unfold b_law_spoilt
    simp [-List.append_assoc, -List.length_append, slot, Con.pv]
    by_cases e0 : at' = 0
    · refine .inr ⟨e0, changed_wpN hw hL a q⟩
    refine .inl ⟨e0, ?_⟩
    have ht : ∃ xs, v = .tup xs := by
      by_cases z : ∃ xs, v = .tup xs
      · exact z
      · rw [nodes_no z] at h1; omega
    obtain ⟨xs, rfl⟩ := ht
    have hlen := a.len
    have hdx : ∀ x ∈ xs, depP x ≤ n := fun x hx => by
      have := depL_le hx
      simp [depP] at hd
      omega
    rw [s_for, show k + n + 1 + 7 = k + 8 + n by omega]
    simp [-List.append_assoc, -List.length_append, slot, Con.pv]
    refine ⟨by simp [smallI]; omega, ?_⟩
    refine wp_for_rng (fun i env hh => Hx w c h hh ∧ ∃ (a' : Int) (e3 e4 : Option PV), env = [some (.tup xs), some (.int a'), some (.obj w), e3, e4] ∧ 0 ≤ a') ?_ ?_ xs.length 0 _ _ (by simp) ⟨.refl hw, at' - 1, none, none, rfl, by omega⟩
    · rintro i env hh hi ⟨X, a', e3, e4, rfl, ha'⟩
      refine ⟨_, rfl, ?_⟩
      have hx : xs[i]? = some xs[i] := List.getElem?_eq_getElem hi
      have hm : xs[i] ∈ xs := List.getElem_mem _
      have ea : atI xs (i : Int) = some xs[i] := by simp [atI, ixN, hi]
      have ax := (a.hx hw X)
      simp [-List.append_assoc, -List.length_append, slot, Con.pv, ea]
      refine nodes_wp (k := k + 8) (L := L) (B := B) (by omega) n (ax.all _ hm) (hdx _ hm) fun h2 g2 => ?_
      have X2 := X.trans (g2.hx X.well)
      have ax2 := ax.gr g2
      simp [-List.append_assoc, -List.length_append, slot, Con.pv, ea]
      by_cases hlt : a' < (nodesP xs[i] : Nat)
      · refine .inr ⟨hlt, ?_⟩
        refine ih X2.well (ax2.all _ hm) (hdx _ hm) ha' hlt fun v' h3 hv nv x3 => ?_
        have ax3 := ax2.hx X2.well x3
        have ec1 : cutP xs none (some (i : Int)) = xs.take i := cutP_to
        have c2 := cut_len (xs := xs) (lo := some ((i : Int) + 1)) (hi := none)
        have tl : (xs.take i).length = i := by rw [List.length_take]; omega
        simp [-List.append_assoc, -List.length_append, slot, Con.pv, ec1]
        refine ⟨by rw [sizeLine_eq]; omega, by rw [List.length_append, tl, sizeLine_eq]; simp; omega, ?_⟩
        refine q _ _ ?_ ?_ (X2.trans x3)
        refine .tup _ (by rw [List.length_append, List.length_append, tl]; simp; omega) fun y hy => ?_
        rcases List.mem_append.mp hy with hy | hy
        · rcases List.mem_append.mp hy with hy | hy
          · exact (ax3.all y (List.mem_of_mem_take hy)).mono (by omega) (by omega)
          · rw [List.mem_singleton.mp hy]; exact hv
        · exact ((val_cut (lo := some ((i : Int) + 1)) (hi := none) ax3).all y hy).mono (by omega) (by omega)
        refine nv.at' hm fun y hy => ?_
        rcases List.mem_append.mp hy with hy | hy
        · rcases List.mem_append.mp hy with hy | hy
          · exact .inl (List.mem_of_mem_take hy)
          · exact .inr (List.mem_singleton.mp hy)
        · exact .inl (List.mem_of_mem_drop (List.mem_of_mem_take hy))
      · refine .inl ⟨by omega, X2, by omega⟩
    · rintro env hh ⟨X, a', e3, e4, rfl, ha'⟩
      simp [slot]
      exact q _ _ ((a.hx hw X).mono (by omega) (by omega)) .same X
theorem spoilt_wp [Dr P] [Vs P] (hL : L ≤ 400) (n : Nat) {h : PH} {v : PV} {at' : Int} {Q : PV → PH → Prop} {E : Str → PH → Prop} (hw : Well h w c) (a : Val h B L v) (hd : depP v ≤ n) (h0 : 0 ≤ at') (h1 : at' < nodesP v) (q : ∀ v' h', Val h' (B + 2 ^ 100) (2 * L + 4) v' → Hx w c h h' → Q v' h') : wp (callF P (k + 8 + n) "_law_spoilt" [v, .int at', .obj w]) h Q E := spoilt_wpN hL n hw a hd h0 h1 fun v' h' hv _ x => q v' h' hv x
end PK

set_option Elab.async false
set_option linter.all false
set_option maxRecDepth 100000
set_option maxHeartbeats 4000000
set_option exponentiation.threshold 5000
/-! PKu: the laws' own judges. -/
namespace PK
open PySem MP L2
class Jl (P : Prog) : Prop where
  is_int : Has P "_law_is_int" 3 3 b_law_is_int
  long : Has P "_law_long" 2 2 b_law_long
class Jf (P : Prog) : Prop extends Jl P where
  fraction_fits : Has P "_law_fraction_fits" 1 1 b_law_fraction_fits
class Jr (P : Prog) : Prop where
  row_fits : Has P "_law_row_fits" 2 3 b_law_row_fits
class Jm (P : Prog) : Prop extends Jf P where
  step_fits : Has P "_law_step_fits" 2 2 b_law_step_fits
  machine_fits : Has P "_law_machine_fits" 1 4 b_law_machine_fits
class Jd (P : Prog) : Prop extends Jm P, Jr P
variable {P : Prog} {k : Nat} {h h' : PH} {E : Str → PH → Prop} {v : PV} {Q : PV → PH → Prop} {B L : Nat}
theorem l_is_int_wp [Jl P] {a b : Int} (o : Ok h v) (q : Q (.bl (isBetween v a b)) h) : wp (callF P (k + 1) "_law_is_int" [v, .int a, .int b]) h Q E := by
  rw [wp_call Jl.is_int rfl]
  unfold b_law_is_int
  simp [slot, o.ty, sub_int, sub_bool]
  cases o with
  | int i =>
    simp [typ]
    by_cases h1 : a ≤ i
    · refine .inr ⟨h1, by simpa [isBetween, h1] using q⟩
    · refine .inl ⟨by omega, by simpa [isBetween, h1] using q⟩
  | bl b => simp [typ]; exact q
  | non => simp [typ]; exact q
  | str x => simp [typ]; exact q
  | tup xs a => simp [typ]; exact q
  | lst i k xs e => simp [typ, tyP, e]; exact q
  | dK i xs e => simp [typ, tyP, e]; exact q
theorem l_long_wp [Jl P] {m : Int} (o : Ok h v) (q : Q (.bl (isTup v m)) h) : wp (callF P (k + 1) "_law_long" [v, .int m]) h Q E := by
  rw [wp_call Jl.long rfl]
  unfold b_law_long
  simp [slot, Con.pv, o.ty, sub_tup]
  cases o <;> simp_all [typ, tyP, isTup] <;> first | exact q | skip
  rename_i xs _
  by_cases e : (xs.length : Int) = m
  · exact .inr ⟨e, by simpa [e] using q⟩
  · exact .inl ⟨e, by simpa [e] using q⟩
theorem val_two {x y : PV} (a : Val h B L (.tup [x, y])) : Val h B L x ∧ Val h B L y := ⟨a.all x (by simp), a.all y (by simp)⟩
theorem bet_big {v : PV} {h : PH} {N : Nat} (a : Val h B L v) (hB : B ≤ N) : isBetween v (-(N : Int)) N = isInt v := by
  cases a with
  | int i hb =>
    show (decide (-(N : Int) ≤ i) && decide (i ≤ (N : Int))) = true
    rw [decide_eq_true (by omega), decide_eq_true (by omega)]
    rfl
  | _ => rfl
theorem l_fraction_fits_wp [Jf P] [Fs P] (hB : B ≤ 10 ^ 40) (a : Val h B L v) (q : Q (.bl (isFraction v)) h) : wp (callF P (k + 2) "_law_fraction_fits" [v]) h Q E := by
  rw [wp_call Jf.fraction_fits rfl]
  unfold b_law_fraction_fits
  simp [slot, Con.pv]
  refine l_long_wp a.ok ?_
  simp
  by_cases e : isTup v 2 = true
  · refine .inr ⟨e, ?_⟩
    obtain ⟨x, y, rfl⟩ := tup2 e
    obtain ⟨ax, ay⟩ := val_two a
    rw [isFraction_iff] at q
    simp [atI, ixN]
    refine l_is_int_wp ax.ok ?_
    have eb := bet_big (N := 10 ^ 40) ax hB
    have e40 : (-((10 ^ 40 : Nat) : Int)) = -10000000000000000000000000000000000000000 := by decide
    have e41 : ((10 ^ 40 : Nat) : Int) = 10000000000000000000000000000000000000000 := by decide
    rw [e40, e41] at eb
    rw [eb]
    simp
    by_cases e1 : isInt x = true
    · refine .inr ⟨e1, ?_⟩
      obtain ⟨i, rfl⟩ := int_of e1
      refine l_is_int_wp ay.ok ?_
      by_cases e2 : isInt y = true
      · obtain ⟨j, rfl⟩ := int_of e2
        have hj : j.natAbs ≤ B := by cases ay with | int _ hb => exact hb
        have hj2 : j ≤ 10000000000000000000000000000000000000000 := by rw [← e41]; omega
        by_cases e3 : 1 ≤ j
        · refine .inr ⟨by simp [isBetween, e3, hj2], ?_⟩
          refine shared_wp (by omega) (Nat.lt_of_le_of_lt (show j.natAbs ≤ 10 ^ 40 by omega) (by decide)) ?_
          simp
          by_cases e4 : Nat.gcd i.natAbs j.natAbs = 1
          · exact .inr ⟨by omega, by simpa [isInt, e3, e4] using q⟩
          · have e5 : (Nat.gcd i.natAbs j.natAbs == 1) = false := by simpa using e4
            exact .inl ⟨by omega, by simpa [isInt, e3, e5] using q⟩
        · have : isBetween (.int j) 1 10000000000000000000000000000000000000000 = false := by simp [isBetween, e3]
          refine .inl ⟨by rw [this]; rfl, ?_⟩
          rw [this]
          simpa [isInt, e3] using q
      · have e2' : isInt y = false := by simpa using e2
        have : isBetween y 1 10000000000000000000000000000000000000000 = false := by
          cases y <;> first | rfl | cases e2'
        refine .inl ⟨by rw [this]; rfl, ?_⟩
        rw [this]
        simpa [e2'] using q
    · exact .inl ⟨by simpa using e1, by simpa [e1] using q⟩
  · have e' : isTup v 2 = false := by simpa using e
    refine .inl ⟨e', ?_⟩
    rw [isFraction_no e'] at q
    exact q
theorem l_step_fits_wp [Jm P] [Fs P] {m : Int} (hB : B ≤ 10 ^ 40) (a : Val h B L v) (q : Q (.bl (isStep v m)) h) : wp (callF P (k + 3) "_law_step_fits" [v, .int m]) h Q E := by
  rw [wp_call Jm.step_fits rfl]
  unfold b_law_step_fits
  simp [slot, Con.pv]
  refine l_long_wp a.ok ?_
  simp
  by_cases e : isTup v 2 = true
  · refine .inr ⟨e, ?_⟩
    obtain ⟨x, y, rfl⟩ := tup2 e
    obtain ⟨ax, ay⟩ := val_two a
    simp [atI, ixN]
    refine l_fraction_fits_wp hB ax ?_
    simp
    by_cases e1 : isFraction x = true
    · refine .inr ⟨e1, ?_⟩
      obtain ⟨t, b, rfl, f1, f2⟩ := fraction_of e1
      refine l_is_int_wp ay.ok ?_
      simp
      have f3 : Nat.gcd t.natAbs b.natAbs == 1 := by simpa using f2
      by_cases e2 : isBetween y 0 (m - 1) = true
      · refine .inr ⟨e2, ?_⟩
        simp [atI, ixN]
        have e3 : isIndex y m = true := e2
        by_cases g1 : -1000000 ≤ t
        · refine .inr ⟨g1, ?_⟩
          by_cases g2 : t ≤ 1000000
          · refine .inr ⟨g2, ?_⟩
            simpa [isStep, isAllowance, f1, f2, g1, g2, e3] using q
          · exact .inl ⟨by omega, by simpa [isStep, isAllowance, f1, f2, g1, g2, e3] using q⟩
        · exact .inl ⟨by omega, by simpa [isStep, isAllowance, f1, f2, g1, e3] using q⟩
      · have e2' : isBetween y 0 (m - 1) = false := by simpa using e2
        have e3 : isIndex y m = false := e2'
        exact .inl ⟨e2', by simpa [isStep, e3] using q⟩
    · have e1' : isFraction x = false := by simpa using e1
      exact .inl ⟨e1', by simpa [isStep, isAllowance_no e1'] using q⟩
  · have e' : isTup v 2 = false := by simpa using e
    refine .inl ⟨e', ?_⟩
    rw [isStep_no e'] at q
    exact q
theorem lc_bools {G : Glob} {env : Env'} {i : Nat} {src elt : MP.E} {xs : List PV} {p : PV → Bool} {R : List Bool → PH → Prop} (hs : ∀ (R : PV → PH → Prop), R (.tup xs) h → wp (evalE G src env) h R E) (hl : xs.length ≤ sizeLine)
    (body : ∀ x ∈ xs, ∀ h1, Gr h h1 → wp (evalE G elt ((wipeE env [i]).set i (some x))) h1 (fun v h2 => v = .bl (p x) ∧ Gr h1 h2) fun _ _ => False) (q : ∀ h1, Gr h h1 → R (xs.map p) h1) : wp (evalE G (.lc elt (.nm i) .val [src] [] [i]) env) h (fun v h1 => ∃ bs, (lstP h1 v).bind boolsP = some bs ∧ R bs h1) E := by
  rw [x_lc]
  simp only [x_cons, x_nil]
  refine hs _ ?_
  simp only [p_itT]
  refine wp_lc (xs := xs) (fun j acc h1 => Gr h h1 ∧ acc = (xs.take j).map fun x => .bl (p x)) (fun _ _ _ _ => rfl) ?_ ?_ xs.length 0 [] h (by simp) ⟨.refl, rfl⟩
  · rintro j v acc h1 hv ⟨g, rfl⟩
    have hj : j < xs.length := (List.getElem?_eq_some_iff.mp hv).1
    simp [putT]
    refine wp_mono (body v (List.mem_of_getElem? hv) h1 g) (fun r h2 z => ?_) fun _ _ z => z
    obtain ⟨rfl, g2⟩ := z
    refine ⟨by omega, g.trans g2, ?_⟩
    simp [List.take_add_one, hv]
  · rintro acc h1 ⟨g, rfl⟩
    rw [List.take_length]
    exact ⟨_, by rw [lstP_app]; exact boolsP_map, q _ (g.trans .app)⟩
theorem l_machine_fits_wp [Jm P] [Fs P] (hB : B ≤ 10 ^ 40) (a : Val h B L v) (q : ∀ h', Gr h h' → Q (.bl (isMachine v)) h') : wp (callF P (k + 4) "_law_machine_fits" [v]) h Q E := by
  rw [wp_call Jm.machine_fits rfl]
  unfold b_law_machine_fits
  simp [-List.append_assoc, -List.length_append, slot, Con.pv]
  refine l_long_wp (k := k + 2) a.ok ?_
  simp [-List.append_assoc, -List.length_append]
  by_cases e : isTup v 2 = true
  · refine .inr ⟨e, ?_⟩
    obtain ⟨x, y, rfl⟩ := tup2 e
    obtain ⟨ax, ay⟩ := val_two a
    simp [-List.append_assoc, -List.length_append, atI, ixN]
    refine l_is_int_wp (k := k + 2) ax.ok ?_
    simp [-List.append_assoc, -List.length_append]
    by_cases e1 : isSize x = true
    · have e1b : isBetween x 2 4 = true := e1
      refine .inr ⟨e1b, ?_⟩
      obtain ⟨s, rfl, e2, e3⟩ := size_of e1
      by_cases e4 : ∃ rs, y = .tup rs
      · obtain ⟨rs, rfl⟩ := e4
        simp [-List.append_assoc, -List.length_append, sub_tup]
        by_cases e5 : 1 ≤ (rs.length : Int)
        · refine .inl ⟨e5, ?_⟩
          by_cases e6 : (rs.length : Int) ≤ 12
          · refine .inl ⟨e6, ?_⟩
            refine lc_bools (xs := rs) (p := fun r => isTup r s) (fun R r => by simpa [slot, Con.pv, atI, ixN] using r) (by rw [sizeLine_eq]; omega) (fun x hx h1 g => ?_) fun h1 g => ?_
            · simp [slot, wipeE, Con.pv, atI, ixN]
              exact l_long_wp (k := k + 2) ((ay.all x hx).gr g).ok ⟨rfl, .refl⟩
            · by_cases e7 : ∀ r ∈ rs, isTup r s = true
              · refine .inr ⟨fun z => ?_, ?_⟩
                · obtain ⟨r, hr, z⟩ := List.mem_map.mp z
                  rw [e7 r hr] at z
                  cases z
                refine lc_bools (xs := rs) (p := fun r => isRule r s rs.length) (fun R r => by simpa [slot, Con.pv, atI, ixN] using r) (by rw [sizeLine_eq]; omega) (fun x hx h2 g2 => ?_) fun h2 g2 => ?_
                · obtain ⟨xs, rfl, hl⟩ := tup_of (e7 x hx)
                  have ax := ((ay.all _ hx).gr (g.trans g2))
                  have := all_lc (G := globOf P (k + 3)) (env := [some (.tup [.int s, .tup rs]), some (.int rs.length), some (.tup xs), none]) (i := 3) (src := .slot 2) (elt := .cl "_law_step_fits" [.slot 3, .slot 1]) (xs := xs) (p := fun x => isStep x rs.length) (h := h2)
                    (Q := fun v h3 => v = .bl (isRule (.tup xs) s rs.length) ∧ Gr h2 h3) (E := fun _ _ => False)
                    (fun R r => by simpa [slot] using r) (by rw [sizeLine_eq]; omega)
                    (fun x hx h1 g => by
                      simp [slot, wipeE]
                      exact l_step_fits_wp hB ((ax.all x hx).gr g) ⟨rfl, .refl⟩)
                    (fun h1 g => by
                      refine ⟨?_, g⟩
                      unfold isRule
                      rw [e7 _ hx]
                      rfl)
                  simpa [wipeE] using this
                · have := q h2 (g.trans g2)
                  have em : isMachine (.tup [.int s, .tup rs]) = (rs.map fun r => isRule r s rs.length).all id := by
                    simp only [isMachine, e1, decide_eq_true (show 1 ≤ rs.length by omega), decide_eq_true (show rs.length ≤ 12 by omega), Bool.true_and]
                    rw [List.all_map]
                    rfl
                  rw [em] at this
                  exact this
              · have ex : ∃ r ∈ rs, isTup r s = false := by
                  by_cases z : ∃ r ∈ rs, isTup r s = false
                  · exact z
                  · exfalso
                    apply e7
                    intro r hr
                    by_cases z2 : isTup r s = true
                    · exact z2
                    · exact absurd ⟨r, hr, by simpa using z2⟩ z
                obtain ⟨r, hr, hf⟩ := ex
                refine .inl ⟨List.mem_map.mpr ⟨r, hr, hf⟩, ?_⟩
                have := q h1 g
                have em : isMachine (.tup [.int s, .tup rs]) = false := by
                  simp only [isMachine]
                  have : (rs.all fun r => isRule r s rs.length) = false := by
                    rw [List.all_eq_false]
                    exact ⟨r, hr, by unfold isRule; rw [hf]; simp⟩
                  rw [this, Bool.and_false]
                rw [em] at this
                exact this
          · have e6' : ¬ rs.length ≤ 12 := by omega
            refine .inr ⟨by omega, ?_⟩
            have := q h .refl
            simpa [isMachine, e6'] using this
        · have e5' : ¬ 1 ≤ rs.length := by omega
          refine .inr ⟨by omega, ?_⟩
          have := q h .refl
          simp only [isMachine, decide_eq_false e5', Bool.false_and, Bool.and_false] at this
          exact this
      · have hno : isMachine (.tup [.int s, y]) = false := by
          unfold isMachine
          split
          · rename_i a rs z
            cases z
            exact absurd ⟨rs, rfl⟩ e4
          · rfl
        have := q h .refl
        rw [hno] at this
        simp [ay.ok.ty, typ_no ay.ok e4]
        exact this
    · have e1' : isSize x = false := by simpa using e1
      refine .inl ⟨e1', ?_⟩
      have := q h .refl
      have hno : isMachine (.tup [x, y]) = false := by
        unfold isMachine
        split
        · rename_i a rs z
          cases z
          simp [e1']
        · rfl
      rw [hno] at this
      exact this
  · have e' : isTup v 2 = false := by simpa using e
    refine .inl ⟨e', ?_⟩
    have := q h .refl
    have hno : isMachine v = false := by
      unfold isMachine
      split
      · simp [isTup] at e'
      · rfl
    rw [hno] at this
    exact this
theorem l_row_fits_wp [Jl P] [Jr P] {s : Int} (a : Val h B L v) (q : ∀ h', Gr h h' → Q (.bl (isRow s v)) h') : wp (callF P (k + 2) "_law_row_fits" [.int s, v]) h Q E := by
  rw [wp_call Jr.row_fits rfl]
  unfold b_law_row_fits
  simp [slot, Con.pv, a.ok.ty]
  by_cases e4 : ∃ xs, v = .tup xs
  · obtain ⟨xs, rfl⟩ := e4
    have s1 : (typ h (PV.tup xs)).sub PTy.tuple = true := rfl
    simp [s1]
    by_cases e5 : (xs.length : Int) ≤ 400
    · refine .inl ⟨e5, ?_⟩
      have := all_lc (G := globOf P (k + 1)) (env := [some (.int s), some (.tup xs), none]) (i := 2) (src := .slot 1) (elt := .cl "_law_is_int" [.slot 2, .con (.int 0), .bin .sub (.slot 0) (.con (.int 1))]) (xs := xs) (p := fun r => isIndex r s) (h := h) (Q := Q) (E := fun c h' => E c h')
        (fun R r => by simpa [slot] using r) (by rw [sizeLine_eq]; omega)
        (fun x hx h1 g => by
          simp [slot, wipeE, Con.pv]
          exact l_is_int_wp (k := k) ((a.all x hx).gr g).ok ⟨rfl, .refl⟩)
        (fun h1 g => by
          have := q h1 g
          simp only [isRow, decide_eq_true (show xs.length ≤ 400 by omega), Bool.true_and] at this
          exact this)
      simpa using this
    · have e5' : ¬ xs.length ≤ 400 := by omega
      refine .inr ⟨by omega, ?_⟩
      have := q h .refl
      simpa [isRow, e5'] using this
  · have hno : isRow s v = false := by
      unfold isRow
      split
      · exact absurd ⟨_, rfl⟩ e4
      · rfl
    have := q h .refl
    rw [hno] at this
    simp [typ_no a.ok e4]
    exact this
end PK

set_option Elab.async false
set_option linter.all false
set_option maxRecDepth 100000
set_option maxHeartbeats 4000000
set_option exponentiation.threshold 5000
/-! PKh: the program's functions of rows. -/
namespace PK
open PySem MP L2
class Cr (P : Prog) : Prop where
  check_row : Has P "check_row" 2 2 b_check_row
class Ng (P : Prog) : Prop where
  NOUGHT : P.cT "NOUGHT" = some (.tup ([0, 1].map .int))
class Am (P : Prog) : Prop where
  check_machine : Has P "check_machine" 1 1 b_check_machine
class Ac (P : Prog) : Prop extends Cr P, Ng P, Am P where
  state_after : Has P "state_after" 2 4 b_state_after
  raw_allowed : Has P "raw_allowed" 2 6 b_raw_allowed
  allowed : Has P "allowed" 2 2 b_allowed
variable {P : Prog} {k : Nat} {h : PH} {E : Str → PH → Prop} {v : PV} {Q : PV → PH → Prop}
theorem check_machine_ok [Ck P] [Mm P] [Am P] (o : Ok h v) (hm : isMachine v = true) (q : ∀ h', Gr h h' → Q .non h') : wp (callF P (k + 7) "check_machine" [v]) h Q E := by
  rw [wp_call Am.check_machine rfl]
  unfold b_check_machine
  simp [slot]
  refine is_machine_wp o fun h' g => ?_
  simp [hm]
  exact q h' g
theorem check_row_ok [Ck P] [Mr P] [Cr P] {s : Int} (o : Ok h v) (hm : isRow s v = true) (q : ∀ h', Gr h h' → Q .non h') : wp (callF P (k + 5) "check_row" [.int s, v]) h Q E := by
  rw [wp_call Cr.check_row rfl]
  unfold b_check_row
  simp [slot]
  refine raw_is_row_wp o fun h' g => ?_
  simp [hm]
  exact q h' g
theorem ok_row {row : List Nat} : Ok h (rowV row) := .tup _ fun y hy => by
  obtain ⟨l, _, rfl⟩ := List.mem_map.mp hy
  exact .int _
theorem isRow_ok {row : List Nat} {s : Nat} (hl : row.length ≤ 400) (hr : ∀ l ∈ row, l < s) : isRow s (rowV row) = true := by
  unfold isRow rowV
  simp [hl, isIndex, isBetween]
  intro l hm
  have := hr l hm
  omega
theorem atI_map {α : Type} {f : α → PV} {xs : List α} {i : Nat} (hi : i < xs.length) : atI (xs.map f) (i : Nat) = some (f xs[i]) := by
  simp [atI, ixN, hi]
theorem ix_mach0 {s : Nat} {rs : List (List Stp)} : wp (ixM (machV s rs) (.int 0)) h Q E ↔ Q (.int (s : Nat)) h := by
  unfold machV
  simp [atI, ixN]
theorem ix_mach1 {s : Nat} {rs : List (List Stp)} : wp (ixM (machV s rs) (.int 1)) h Q E ↔ Q (.tup (rs.map ruleV)) h := by
  unfold machV
  simp [atI, ixN]
theorem ix_rules {rs : List (List Stp)} {q : Nat} (hq : q < rs.length) : wp (ixM (.tup (rs.map ruleV)) (.int (q : Nat))) h Q E ↔ Q (ruleV rs[q]) h := by
  simp [atI_map hq]
theorem ix_rule {s : Nat} {rs : List (List Stp)} (m : MachOk s rs) {q l : Nat} (hq : q < rs.length) (hl : l < s) : wp (ixM (ruleV rs[q]) (.int (l : Nat))) h Q E ↔ Q (stepV (stp rs q l)) h := by
  have e := m.len rs[q] (List.getElem_mem _)
  have hl' : l < rs[q].length := by omega
  have e1 : rs.getD q [] = rs[q] := by simp [List.getD_eq_getElem?_getD, hq]
  have e2 : rs[q].getD l ((0, 1), 0) = rs[q][l] := by simp [List.getD_eq_getElem?_getD, hl']
  unfold stp
  rw [e1, e2]
  unfold ruleV
  simp [atI_map hl']
theorem ix_step0 {x : Stp} : wp (ixM (stepV x) (.int 0)) h Q E ↔ Q (frV x.1) h := by
  unfold stepV
  simp [atI, ixN]
theorem ix_step1 {x : Stp} : wp (ixM (stepV x) (.int 1)) h Q E ↔ Q (.int (x.2 : Nat)) h := by
  unfold stepV
  simp [atI, ixN]
/-- a walk over a row's letters -/
theorem for_row {row : List Nat} {put : PH → PV → Env' → Option Env'} {body : Env' → PH → SR} {D : PD} (I : List Nat → Env' → PH → Prop)
    (step : ∀ pre l e h, (pre ++ [l]) <+: row → I pre e h → ∃ e1, put h (.int (l : Nat)) e = some e1 ∧ wpS (body e1 h) { nx := I (pre ++ [l]), ct := I (pre ++ [l]), bk := D.nx, rt := D.rt, ex := D.ex }) (last : ∀ e h, I row e h → D.nx e h)
    {e : Env'} {hh : PH} (h0 : I [] e h) : wpS (forGo (.vals (row.map fun l => .int (l : Nat))) put body ((Itr.vals (row.map fun l => .int (l : Nat))).size hh) 0 e h) D := by
  have es : (Itr.vals (row.map fun l => PV.int (l : Nat))).size hh = row.length := by show (row.map _).length = _; simp
  rw [es]
  refine wp_for_vals (fun i e h => I (row.take i) e h) (fun i v e h hv hi => ?_) (fun e h hi => last e h (by simpa using hi)) row.length 0 e h (by simp) (by simpa using h0)
  rw [List.getElem?_map] at hv
  cases hl : row[i]? with
  | none => rw [hl] at hv; cases hv
  | some l =>
    rw [hl] at hv
    cases hv
    have e1 : row.take (i + 1) = row.take i ++ [l] := by rw [List.take_add_one, hl]; rfl
    rw [e1]
    exact step (row.take i) l e h (by rw [← e1]; exact List.take_prefix _ _) hi
theorem pre_lt {row pre : List Nat} {l s : Nat} (hp : (pre ++ [l]) <+: row) (hr : ∀ l ∈ row, l < s) : (∀ x ∈ pre, x < s) ∧ l < s :=
  ⟨fun x hx => hr x (hp.subset (List.mem_append_left _ hx)), hr l (hp.subset (by simp))⟩
theorem pre_len {row pre : List Nat} {l : Nat} (hp : (pre ++ [l]) <+: row) : pre.length < row.length := by
  have := hp.length_le
  simp at this
  omega
section
variable {s : Nat} {rs : List (List Stp)} {D : Nat}
theorem state_after_wp [Ck P] [Mc P] [Ac P] (m : MachOk s rs) {row : List Nat} (hl : row.length ≤ 400) (hr : ∀ l ∈ row, l < s) (q : ∀ h', Gr h h' → Q (.int (runS rs 0 row : Nat)) h') : wp (callF P (k + 8) "state_after" [machV s rs, rowV row]) h Q E := by
  rw [wp_call Ac.state_after rfl]
  unfold b_state_after
  simp [slot, Con.pv, Mm.SIZE]
  refine check_machine_ok ok_mach (isMachine_ok m) fun h1 g1 => ?_
  rw [ix_mach0]
  refine check_row_ok (k := k + 2) ok_row (isRow_ok hl hr) fun h2 g2 => ?_
  rw [s_for]
  unfold rowV
  simp [slot]
  refine for_row (fun pre env h' => h' = h2 ∧ ∃ e3, env = [some (machV s rs), some (rowV row), some (.int (runS rs 0 pre : Nat)), e3]) ?_ ?_ ⟨rfl, none, rfl⟩
  · rintro pre l env h' hp ⟨rfl, e3, rfl⟩
    obtain ⟨p1, p2⟩ := pre_lt hp hr
    have hq := runS_lt m (q := 0) (by have := m.r1; omega) p1
    refine ⟨_, rfl, ?_⟩
    simp [slot, Con.pv, Mm.RULES]
    rw [ix_mach1, ix_rules hq, ix_rule m hq p2, ix_step1]
    simp [runS_app]
    rfl
  · rintro env h' ⟨rfl, e3, rfl⟩
    simp [slot]
    exact q _ (g1.trans g2)
theorem raw_allowed_wp [Fp P] [Mc P] [Ac P] (m : MachOk s rs) (d : Den rs D) {row : List Nat} (hl : row.length ≤ 400) (hr : ∀ l ∈ row, l < s) (q : Q (frV (fr D (runN rs D 0 row))) h) : wp (callF P (k + 3) "raw_allowed" [machV s rs, rowV row]) h Q E := by
  rw [wp_call Ac.raw_allowed rfl]
  unfold b_raw_allowed
  simp [slot, Con.pv, Ng.NOUGHT]
  rw [s_for]
  unfold rowV
  simp [slot]
  have z : frV (fr D 0) = .tup [.int 0, .int 1] := by rw [fr_zero d.bot.pos]; rfl
  refine for_row (fun pre env h' => h' = h ∧ ∃ e2 e5, env = [some (machV s rs), some (rowV row), e2, some (.int (runS rs 0 pre : Nat)), some (frV (fr D (runN rs D 0 pre))), e5]) ?_ ?_ ?_
  · rintro pre l env h' hp ⟨rfl, e2, e5, rfl⟩
    obtain ⟨p1, p2⟩ := pre_lt hp hr
    have p3 := pre_len hp
    have hq := runS_lt m (q := 0) (by have := m.r1; omega) p1
    refine ⟨_, rfl, ?_⟩
    simp [slot, Con.pv, Mm.RULES]
    rw [ix_mach1, ix_rules hq, ix_rule m hq p2]
    unfold stepV
    simp [putT, putTs]
    rw [stp_fr m d hq p2]
    refine plus_wp d.bot (top_of (runN_small m d (by have := m.r1; omega) p1) (by omega)) (top_of (k := 1) (by have := num_small m d hq p2; omega) (by decide)) ?_
    refine ⟨rfl, ?_⟩
    have e1 : runN rs D 0 (pre ++ [l]) = runN rs D 0 pre + num D (stp rs (runS rs 0 pre) l).1 := by
      rw [runN_app]
      simp [runN]
    have e2 : runS rs 0 (pre ++ [l]) = (stp rs (runS rs 0 pre) l).2 := by rw [runS_app]; rfl
    rw [e1, e2]
    simp
  · rintro env h' ⟨rfl, e2, e5, rfl⟩
    simp [slot]
    exact q
  · refine ⟨rfl, none, none, ?_⟩
    show _ = [some (machV s rs), some (rowV row), none, some (.int 0), some (frV (fr D 0)), none]
    rw [z]
    rfl
theorem allowed_wp [Ck P] [Mc P] [Fp P] [Ac P] (m : MachOk s rs) (d : Den rs D) {row : List Nat} (hl : row.length ≤ 400) (hr : ∀ l ∈ row, l < s) (q : ∀ h', Gr h h' → Q (frV (fr D (runN rs D 0 row))) h') : wp (callF P (k + 8) "allowed" [machV s rs, rowV row]) h Q E := by
  rw [wp_call Ac.allowed rfl]
  unfold b_allowed
  simp [slot, Con.pv, Mm.SIZE]
  refine check_machine_ok ok_mach (isMachine_ok m) fun h1 g1 => ?_
  rw [ix_mach0]
  refine check_row_ok (k := k + 2) ok_row (isRow_ok hl hr) fun h2 g2 => ?_
  exact raw_allowed_wp (k := k + 4) m d hl hr (q _ (g1.trans g2))
end
end PK

set_option Elab.async false
set_option linter.all false
set_option maxRecDepth 100000
set_option maxHeartbeats 4000000
set_option exponentiation.threshold 5000
/-! PKi: the laws' own walks. -/
namespace PK
open PySem MP L2
class Lw (P : Prog) : Prop where
  well : Has P "_law_well" 1 2 b_law_well
class Ls (P : Prog) : Prop where
  states : Has P "_law_states" 3 5 b_law_states
  sum : Has P "_law_sum" 3 6 b_law_sum
variable {P : Prog} {k : Nat} {h : PH} {E : Str → PH → Prop} {v : PV} {Q : PV → PH → Prop}
theorem slc_script {ns : List Int} (s : Script h v ns) {lo hi : Option Int} {E : Str → PH → Prop} (q : ∀ ms : List Int, ms.length ≤ ns.length → Q (.obj h.length) (h ++ [.lst .own (ms.map .int)])) : wp (slcM v lo hi) h Q E := by
  have e : ∃ ms : List Int, cutP (ns.map .int) lo hi = ms.map .int ∧ ms.length ≤ ns.length := ⟨(ns.drop (HT.sIx (ns.map PV.int).length 0 lo)).take (HT.sIx (ns.map PV.int).length (ns.map PV.int).length hi - HT.sIx (ns.map PV.int).length 0 lo), by unfold cutP; rw [← List.map_drop, ← List.map_take], by
    rw [List.length_take, List.length_drop]
    omega⟩
  obtain ⟨ms, e1, e2⟩ := e
  have q1 := q ms e2
  rw [← e1] at q1
  rcases s with ⟨rfl, rfl⟩ | ⟨k, rfl, rfl⟩
  · exact q1
  · rw [p_slcO]
    exact ⟨_, rfl, q1⟩
theorem well_wp [Lw P] {ns : List Int} (hl : ns.length ≤ 63) (s : Script h v ns) (q : ∀ w c h', Well h' w c → Q (.obj w) h') : wp (callF P (k + 1) "_law_well" [v]) h Q E := by
  rw [wp_call Lw.well rfl]
  unfold b_law_well
  simp [-List.append_assoc, -List.length_append, slot, Con.pv]
  rw [x_lc]
  simp [-List.append_assoc, -List.length_append, slot, Con.pv]
  refine slc_script s fun ms hms => ?_
  rw [p_itO]
  refine ⟨⟨_, lstP_app⟩, ?_⟩
  have es : (Itr.lst h.length).size (h ++ [PO.lst .own (ms.map PV.int)]) = (ms.map PV.int).length := by
    show ((lstP _ (.obj h.length)).getD []).length = _
    rw [lstP_app]
    rfl
  rw [es]
  refine wp_lc (xs := ms.map PV.int) (fun i acc h' => h' = h ++ [PO.lst .own (ms.map PV.int)] ∧ acc = (ms.take i).map PV.int) (fun i acc h' ⟨e, _⟩ => by subst e; show (lstP _ (.obj h.length)).map (fun xs => xs[i]?) = _; rw [lstP_app]; rfl) ?_ ?_ _ 0 [] _ (by simp) ⟨rfl, rfl⟩
  · rintro i x acc h' hv ⟨rfl, rfl⟩
    rw [List.getElem?_map] at hv
    cases hz : ms[i]? with
    | none => rw [hz] at hv; cases hv
    | some z =>
      rw [hz] at hv
      cases hv
      simp [-List.append_assoc, -List.length_append, slot, putT, wipeE]
      refine ⟨?_, ?_⟩
      · rw [sizeLine_eq]; omega
      · simp [List.take_add_one, hz]
  · rintro acc h' ⟨rfl, rfl⟩
    have et : ms.take (ms.map PV.int).length = ms := by simp
    rw [et]
    refine q _ (h ++ [PO.lst .own (ms.map PV.int)]).length _ ⟨ms, 0, 0, 1, ?_, ?_, ?_, by decide, by omega⟩
    · simp
    · rw [List.getElem?_append_left (by simp)]
      simp
    · simp
def sts (rs : List (List Stp)) (q : Nat) (row : List Nat) : List Nat := (List.range (row.length + 1)).map fun i => runS rs q (row.take i)
theorem sts_app {rs : List (List Stp)} {q l : Nat} {pre : List Nat} : sts rs q (pre ++ [l]) = sts rs q pre ++ [runS rs q (pre ++ [l])] := by
  unfold sts
  rw [List.length_append, List.length_singleton, List.range_succ, List.map_append]
  congr 1
  · apply List.map_congr_left
    intro i hi
    have : i < pre.length + 1 := List.mem_range.mp hi
    rw [List.take_append_of_le_length (by omega)]
  · have : (pre ++ [l]).take (pre.length + 1) = pre ++ [l] := List.take_of_length_le (by simp)
    simp [this]
theorem sts_len {rs : List (List Stp)} {q : Nat} {row : List Nat} : (sts rs q row).length = row.length + 1 := by simp [sts]
theorem sts_get {rs : List (List Stp)} {q : Nat} {row : List Nat} {i : Nat} (hi : i ≤ row.length) : (sts rs q row)[i]? = some (runS rs q (row.take i)) := by
  unfold sts
  rw [List.getElem?_map, List.getElem?_range (by omega)]
  rfl
theorem atI_last {xs : List PV} {x : PV} : atI (xs ++ [x]) (-1) = some x := by
  unfold atI ixN
  have h1 : (-((xs ++ [x]).length : Int) ≤ -1) := by simp; omega
  have h2 : (-1 + ((xs ++ [x]).length : Int)).toNat = xs.length := by simp; omega
  rw [if_neg (by decide), if_pos h1, h2]
  simp
theorem sts_last {rs : List (List Stp)} {q : Nat} {row : List Nat} : ∃ xs, (sts rs q row).map (fun n => PV.int (n : Nat)) = xs ++ [.int (runS rs q row : Nat)] := by
  refine ⟨(((List.range row.length).map fun i => runS rs q (row.take i))).map (fun n => PV.int (n : Nat)), ?_⟩
  unfold sts
  rw [List.range_succ]
  simp
section
variable {s : Nat} {rs : List (List Stp)} {D : Nat}
theorem states_wp [Ls P] (m : MachOk s rs) {q0 : Nat} (hq : q0 < rs.length) {row : List Nat} (hl : row.length ≤ 1000) (hr : ∀ l ∈ row, l < s) (q : ∀ h' o, Gr h h' → h.length ≤ o → ownL h' o = some ((sts rs q0 row).map fun n => .int (n : Nat)) → Q (.obj o) h') :
    wp (callF P (k + 1) "_law_states" [machV s rs, .int (q0 : Nat), rowV row]) h Q E := by
  rw [wp_call Ls.states rfl]
  unfold b_law_states
  simp [-List.append_assoc, -List.length_append, slot, Con.pv]
  rw [s_for]
  unfold rowV
  simp [-List.append_assoc, -List.length_append, slot]
  refine for_row (fun pre env h' => Gr h h' ∧ h.length < h'.length ∧ ∃ e4, env = [some (machV s rs), some (.int (q0 : Nat)), some (rowV row), some (.obj h.length), e4] ∧ ownL h' h.length = some ((sts rs q0 pre).map fun n => .int (n : Nat))) ?_ ?_ ⟨.app, by simp, none, rfl, by simp [sts, runS]⟩
  · rintro pre l env h' hp ⟨g, hlt, e4, rfl, ho⟩
    obtain ⟨p1, p2⟩ := pre_lt hp hr
    have p3 := pre_len hp
    have hq' := runS_lt m hq p1
    refine ⟨_, rfl, ?_⟩
    obtain ⟨ys, hy⟩ := sts_last (rs := rs) (q := q0) (row := pre)
    simp [-List.append_assoc, -List.length_append, slot, Con.pv, lstP_own ho]
    rw [ix_mach1]
    refine ⟨_, lstP_own ho, ?_⟩
    rw [hy, atI_last]
    refine ⟨_, rfl, ?_⟩
    rw [ix_rules hq', ix_rule m hq' p2, ix_step1]
    refine ⟨_, ho, by rw [List.length_map, sts_len, sizeLine_eq]; omega, ⟨by simp; exact g.len, fun j hj => by rw [List.getElem?_set_ne (by omega)]; exact g.keep j hj⟩, by simpa using hlt, ?_⟩
    rw [ownL_set hlt, sts_app]
    have e2 : runS rs q0 (pre ++ [l]) = (stp rs (runS rs q0 pre) l).2 := by rw [runS_app]; rfl
    simp [e2]
  · rintro env h' ⟨g, hlt, e4, rfl, ho⟩
    simp [slot]
    exact q h' _ g (Nat.le_refl _) ho
theorem sum_wp [Ls P] [Fq P] (m : MachOk s rs) (d : Den rs D) {q0 : Nat} (hq : q0 < rs.length) {row : List Nat} (hl : row.length ≤ 1000) (hr : ∀ l ∈ row, l < s) (q : Q (frV (fr D (runN rs D q0 row))) h) :
    wp (callF P (k + 4) "_law_sum" [machV s rs, .int (q0 : Nat), rowV row]) h Q E := by
  rw [wp_call Ls.sum rfl]
  unfold b_law_sum
  simp [slot, Con.pv]
  rw [s_for]
  unfold rowV
  simp [slot]
  have z : frV (fr D 0) = .tup [.int 0, .int 1] := by rw [fr_zero d.bot.pos]; rfl
  refine for_row (fun pre env h' => h' = h ∧ ∃ e5, env = [some (machV s rs), some (.int (q0 : Nat)), some (rowV row), some (frV (fr D (runN rs D q0 pre))), some (.int (runS rs q0 pre : Nat)), e5]) ?_ ?_ ?_
  · rintro pre l env h' hp ⟨rfl, e5, rfl⟩
    obtain ⟨p1, p2⟩ := pre_lt hp hr
    have p3 := pre_len hp
    have hq' := runS_lt m hq p1
    refine ⟨_, rfl, ?_⟩
    simp [slot, Con.pv]
    rw [ix_mach1, ix_rules hq', ix_rule m hq' p2, ix_step0, stp_fr m d hq' p2]
    refine lplus_wp d.bot (top_of (runN_small m d hq p1) (by omega)) (top_of (k := 1) (by have := num_small m d hq' p2; omega) (by decide)) ?_
    rw [ix_mach1, ix_rules hq', ix_rule m hq' p2, ix_step1]
    refine ⟨rfl, ?_⟩
    have e1 : runN rs D q0 (pre ++ [l]) = runN rs D q0 pre + num D (stp rs (runS rs q0 pre) l).1 := by
      rw [runN_app]
      simp [runN]
    have e2 : runS rs q0 (pre ++ [l]) = (stp rs (runS rs q0 pre) l).2 := by rw [runS_app]; rfl
    rw [e1, e2]
    simp
  · rintro env h' ⟨rfl, e5, rfl⟩
    simp [slot]
    exact q
  · refine ⟨rfl, none, ?_⟩
    show _ = [some (machV s rs), some (.int (q0 : Nat)), some (rowV row), some (frV (fr D 0)), some (.int (q0 : Nat)), none]
    rw [z]
    rfl
end
end PK

set_option Elab.async false
set_option linter.all false
set_option maxRecDepth 100000
set_option maxHeartbeats 4000000
set_option exponentiation.threshold 5000
/-! PKr: rows drawn and read. -/
namespace PK
open PySem MP L2
class Rw (P : Prog) : Prop where
  row : Has P "_law_row" 2 4 b_law_row
class Rd (P : Prog) : Prop where
  read : Has P "_law_read" 3 6 b_law_read
variable {P : Prog} {k : Nat} {h h' : PH} {E : Str → PH → Prop} {v : PV} {Q : PV → PH → Prop} {w c : Nat} {s : Nat} {rs : List (List Stp)} {D : Nat}
theorem row_wp [Dr P] [Rw P] (hw : Well h w c) (hs : 1 ≤ s) (hs4 : s ≤ 1000) (q : ∀ row h', row.length ≤ 400 → (∀ l ∈ row, l < s) → Hx w c h h' → Q (rowV row) h') : wp (callF P (k + 4) "_law_row" [.obj w, .int (s : Nat)]) h Q E := by
  rw [wp_call Rw.row rfl]
  unfold b_law_row
  simp [-List.append_assoc, -List.length_append, slot, Con.pv]
  refine draw_wp hw (by omega) (by omega) fun a h1 a0 a1 x1 => ?_
  refine draw_wp x1.well (by omega) (by omega) fun b h2 b0 b1 x2 => ?_
  simp [-List.append_assoc, -List.length_append]
  have y3 := Hx.app (o := .lst .own [PV.int a, PV.int (390 + b)]) x2.well
  obtain ⟨lw, lc, lcw⟩ := x2.well.lt
  refine draw_wp y3.well (by omega) (by omega) fun d h3 d0 d1 x3 => ?_
  have l3 := x3.lst (j := h2.length) (by omega) (lstP_app (h := h2) (xs := [PV.int a, PV.int (390 + b)]) (k := .own))
  have X := ((x1.trans x2).trans y3).trans x3
  -- what is left of it: a number of letters
  have rest : ∀ i : Int, 0 ≤ i → i ≤ 400 → wp (evalE (globOf P (k + 3)) (.lc (.cl "_law_draw" [.slot 0, .slot 1]) (.nm 3) .range [.slot 2] [] [3]) [some (.obj w), some (.int (s : Nat)), some (.int i), none]) h3 (fun v h1 => wp (biM .tuple [v]) h1 Q fun c h' => E c h') fun c h' => E c h' := fun i hi0 hi1 => by
    have hz : ((Int.toNat i : Nat) : Int) = i := by omega
    have hn : Int.toNat i ≤ 400 := by omega
    rw [← hz]
    generalize Int.toNat i = n at hn
    clear hz
    have hsm : smallI (n : Nat) = true := by simp [smallI]; omega
    rw [x_lc]
    simp [-List.append_assoc, -List.length_append, slot, hsm]
    refine wp_lc_rng (fun j acc hh => Hx w c h3 hh ∧ ∃ row : List Nat, acc = row.map (fun l => PV.int (l : Nat)) ∧ row.length = j ∧ ∀ l ∈ row, l < s) ?_ ?_ ⟨.refl x3.well, [], rfl, rfl, by simp⟩
    · rintro j acc hh hj ⟨xx, row, rfl, hrl, hro⟩
      simp [-List.append_assoc, -List.length_append, slot, putT, wipeE, Con.pv]
      refine draw_wp (k := k) xx.well (by omega) (by omega) fun lt h4 t0 t1 x4 => ?_
      refine ⟨by rw [hrl, sizeLine_eq]; omega, xx.trans x4, row ++ [lt.toNat], ?_, by simp [hrl], ?_⟩
      · have : ((lt.toNat : Nat) : Int) = lt := by omega
        simp [this]
      · intro l hl
        rcases List.mem_append.mp hl with hl | hl
        · exact hro l hl
        · have := List.mem_singleton.mp hl
          omega
    · rintro acc hh ⟨xx, row, rfl, hrl, hro⟩
      have g := Hx.app (o := .lst .own (row.map fun l => PV.int (l : Nat))) xx.well
      have er : (PV.tup (row.map fun l => PV.int (l : Nat))) = rowV row := rfl
      rw [er]
      exact q row _ (by omega) hro ((X.trans xx).trans g)
  by_cases e : d = 0
  · subst e
    have ea : atI [PV.int a, PV.int (390 + b)] 1 = some (.int (390 + b)) := rfl
    simp [-List.append_assoc, -List.length_append, l3, ea]
    exact rest _ (by omega) (by omega)
  · have ea : atI [PV.int a, PV.int (390 + b)] 0 = some (.int a) := rfl
    simp [-List.append_assoc, -List.length_append, l3, ea, e]
    exact rest _ (by omega) (by omega)
theorem read_wp [Rd P] [Fq P] (m : MachOk s rs) (d : Den rs D) {q0 : Nat} (hq : q0 < rs.length) {row : List Nat} (hl : row.length ≤ 1000) (hr : ∀ l ∈ row, l < s) (q : Q (.tup [frV (fr D (runN rs D q0 row)), .int (runS rs q0 row : Nat)]) h) :
    wp (callF P (k + 4) "_law_read" [machV s rs, .int (q0 : Nat), rowV row]) h Q E := by
  rw [wp_call Rd.read rfl]
  unfold b_law_read
  simp [slot, Con.pv]
  rw [s_for]
  unfold rowV
  simp [slot]
  have z : frV (fr D 0) = .tup [.int 0, .int 1] := by rw [fr_zero d.bot.pos]; rfl
  refine for_row (fun pre env h' => h' = h ∧ ∃ e5, env = [some (machV s rs), some (.int (q0 : Nat)), some (rowV row), some (.int (runS rs q0 pre : Nat)), some (frV (fr D (runN rs D q0 pre))), e5]) ?_ ?_ ?_
  · rintro pre l env h' hp ⟨rfl, e5, rfl⟩
    obtain ⟨p1, p2⟩ := pre_lt hp hr
    have p3 := pre_len hp
    have hq' := runS_lt m hq p1
    refine ⟨_, rfl, ?_⟩
    simp [slot, Con.pv]
    rw [ix_mach1, ix_rules hq', ix_rule m hq' p2, ix_step0, stp_fr m d hq' p2]
    refine lplus_wp d.bot (top_of (runN_small m d hq p1) (by omega)) (top_of (k := 1) (by have := num_small m d hq' p2; omega) (by decide)) ?_
    rw [ix_mach1, ix_rules hq', ix_rule m hq' p2, ix_step1]
    have e1 : runN rs D q0 (pre ++ [l]) = runN rs D q0 pre + num D (stp rs (runS rs q0 pre) l).1 := by
      rw [runN_app]
      simp [runN]
    have e2 : runS rs q0 (pre ++ [l]) = (stp rs (runS rs q0 pre) l).2 := by rw [runS_app]; rfl
    rw [e1, e2]
    simp
  · rintro env h' ⟨rfl, e5, rfl⟩
    simp [slot]
    exact q
  · refine ⟨rfl, none, ?_⟩
    show _ = [some (machV s rs), some (.int (q0 : Nat)), some (rowV row), some (.int (q0 : Nat)), some (frV (fr D 0)), none]
    rw [z]
    rfl
end PK

set_option Elab.async false
set_option linter.all false
set_option maxRecDepth 100000
set_option maxHeartbeats 4000000
set_option exponentiation.threshold 5000
/-! PKt: what is judged well has the form. -/
namespace PK
open PySem MP L2
theorem allow_of {v : PV} (e : isAllowance v = true) : ∃ x, v = frV x ∧ AllowOk x := by
  unfold isAllowance at e
  split at e
  · rename_i a b
    simp at e
    obtain ⟨⟨⟨h1, h2⟩, h3, h4⟩, h5⟩ := e
    exact ⟨(a, b), rfl, h1, h2, ⟨h3, h4⟩, h5⟩
  · cases e
theorem index_of {v : PV} {n : Nat} (e : isIndex v n = true) : ∃ l : Nat, v = .int (l : Nat) ∧ l < n := by
  unfold isIndex isBetween at e
  split at e
  · rename_i i
    simp at e
    exact ⟨i.toNat, by congr 1; omega, by omega⟩
  · cases e
theorem step_of {v : PV} {n : Nat} (e : isStep v n = true) : ∃ st : Stp, v = stepV st ∧ AllowOk st.1 ∧ st.2 < n := by
  unfold isStep at e
  split at e
  · rename_i a b
    rw [Bool.and_eq_true] at e
    obtain ⟨x, rfl, hx⟩ := allow_of e.1
    obtain ⟨l, rfl, hl⟩ := index_of e.2
    exact ⟨(x, l), rfl, hx, hl⟩
  · cases e
/-- a list of values that all have a form -/
theorem list_of {α : Type} {f : α → PV} {p : α → Prop} : ∀ {xs : List PV}, (∀ x ∈ xs, ∃ a, x = f a ∧ p a) → ∃ as : List α, xs = as.map f ∧ ∀ a ∈ as, p a
  | [], _ => ⟨[], rfl, by simp⟩
  | x :: xs, h => by
    obtain ⟨a, rfl, ha⟩ := h x (by simp)
    obtain ⟨as, rfl, has⟩ := list_of (xs := xs) fun y hy => h y (List.mem_cons_of_mem _ hy)
    exact ⟨a :: as, rfl, fun b hb => by
      rcases List.mem_cons.mp hb with rfl | hb
      · exact ha
      · exact has b hb⟩
theorem rule_of {v : PV} {s : Int} {n : Nat} (e : isRule v s n = true) : ∃ r : List Stp, v = ruleV r ∧ ((r.length : Int) = s ∧ ∀ st ∈ r, AllowOk st.1 ∧ st.2 < n) := by
  unfold isRule at e
  rw [Bool.and_eq_true] at e
  obtain ⟨xs, rfl, hl⟩ := tup_of e.1
  have h2 : (xs.all fun x => isStep x n) = true := e.2
  obtain ⟨r, rfl, hr⟩ := list_of (f := stepV) (p := fun st => AllowOk st.1 ∧ st.2 < n) (xs := xs) fun x hx => by
    obtain ⟨st, h3, h4⟩ := step_of (List.all_eq_true.mp h2 x hx)
    exact ⟨st, h3, h4⟩
  exact ⟨r, rfl, by simpa using hl, hr⟩
theorem mach_of {v : PV} (e : isMachine v = true) : ∃ s rs, v = machV s rs ∧ MachOk s rs := by
  unfold isMachine at e
  split at e
  · rename_i a rs
    simp only [Bool.and_eq_true] at e
    obtain ⟨⟨e1, e2, e3⟩, e4⟩ := e
    obtain ⟨i, rfl, h1, h2⟩ := size_of e1
    have e4 : (rs.all fun r => isRule r i rs.length) = true := e4
    have e2 := of_decide_eq_true e2
    have e3 := of_decide_eq_true e3
    obtain ⟨qs, hq, hqs⟩ := list_of (f := ruleV) (p := fun r => (r.length : Int) = i ∧ ∀ st ∈ r, AllowOk st.1 ∧ st.2 < rs.length) (xs := rs) fun x hx => rule_of (List.all_eq_true.mp e4 x hx)
    have hl : qs.length = rs.length := by rw [hq, List.length_map]
    have hi : ((i.toNat : Nat) : Int) = i := by omega
    refine ⟨i.toNat, qs, ?_, by omega, by omega, by omega, by omega, fun r hr => by have := (hqs r hr).1; omega, fun r hr st hst => by rw [hl]; exact (hqs r hr).2 st hst⟩
    unfold machV
    rw [hi, hq]
  · cases e
theorem row_of {v : PV} {s : Nat} (e : isRow s v = true) : ∃ row, v = rowV row ∧ row.length ≤ 400 ∧ ∀ l ∈ row, l < s := by
  unfold isRow at e
  split at e
  · rename_i xs
    rw [Bool.and_eq_true] at e
    obtain ⟨row, rfl, hr⟩ := list_of (f := fun l : Nat => PV.int (l : Nat)) (p := fun l => l < s) (xs := xs) fun x hx => index_of (List.all_eq_true.mp e.2 x hx)
    exact ⟨row, rfl, by simpa using of_decide_eq_true e.1, hr⟩
  · cases e
end PK

set_option Elab.async false
set_option linter.all false
set_option maxRecDepth 100000
set_option maxHeartbeats 4000000
set_option exponentiation.threshold 5000
/-! PKx: allowed, state_after of any values; the word told. -/
namespace PK
open PySem MP L2
variable {P : Prog} {k : Nat} {h h' : PH} {E : Str → PH → Prop} {v r : PV} {Q : PV → PH → Prop} {s : Nat} {rs : List (List Stp)} {D : Nat}
theorem check_machine_wp [Ck P] [Mm P] [Am P] (o : Ok h v) (q : isMachine v = true → ∀ h', Gr h h' → Q .non h') (e : isMachine v = false → ∀ h', Gr h h' → E "NoMachine" h') : wp (callF P (k + 7) "check_machine" [v]) h Q E := by
  rw [wp_call Am.check_machine rfl]
  unfold b_check_machine
  simp [slot]
  refine is_machine_wp o fun h' g => ?_
  cases hm : isMachine v with
  | true => exact .inr ⟨rfl, q hm h' g⟩
  | false => exact .inl ⟨rfl, e hm h' g⟩
theorem check_row_wp [Ck P] [Mr P] [Cr P] {s : Int} (o : Ok h v) (q : isRow s v = true → ∀ h', Gr h h' → Q .non h') (e : isRow s v = false → ∀ h', Gr h h' → E "NoRow" h') : wp (callF P (k + 5) "check_row" [.int s, v]) h Q E := by
  rw [wp_call Cr.check_row rfl]
  unfold b_check_row
  simp [slot]
  refine raw_is_row_wp o fun h' g => ?_
  cases hm : isRow s v with
  | true => exact .inr ⟨rfl, q hm h' g⟩
  | false => exact .inl ⟨rfl, e hm h' g⟩
/-- allowed refuses what is no machine, then what is no row -/
theorem allowed_no1 [Ck P] [Mc P] [Ac P] (o : Ok h v) (hm : isMachine v = false) (e : ∀ h', Gr h h' → E "NoMachine" h') : wp (callF P (k + 8) "allowed" [v, r]) h Q E := by
  rw [wp_call Ac.allowed rfl]
  unfold b_allowed
  simp [slot, Con.pv, Mm.SIZE]
  exact check_machine_wp o (fun z => by rw [hm] at z; cases z) fun _ => e
theorem allowed_no2 [Ck P] [Mc P] [Ac P] (m : MachOk s rs) (o : Ok h r) (hr : isRow s r = false) (e : ∀ h', Gr h h' → E "NoRow" h') : wp (callF P (k + 8) "allowed" [machV s rs, r]) h Q E := by
  rw [wp_call Ac.allowed rfl]
  unfold b_allowed
  simp [slot, Con.pv, Mm.SIZE]
  refine check_machine_ok ok_mach (isMachine_ok m) fun h1 g1 => ?_
  rw [ix_mach0]
  exact check_row_wp (k := k + 2) (o.gr g1) (fun z => by rw [hr] at z; cases z) fun _ h2 g2 => e h2 (g1.trans g2)
theorem state_no1 [Ck P] [Mc P] [Ac P] (o : Ok h v) (hm : isMachine v = false) (e : ∀ h', Gr h h' → E "NoMachine" h') : wp (callF P (k + 8) "state_after" [v, r]) h Q E := by
  rw [wp_call Ac.state_after rfl]
  unfold b_state_after
  simp [slot, Con.pv, Mm.SIZE]
  exact check_machine_wp o (fun z => by rw [hm] at z; cases z) fun _ => e
theorem state_no2 [Ck P] [Mc P] [Ac P] (m : MachOk s rs) (o : Ok h r) (hr : isRow s r = false) (e : ∀ h', Gr h h' → E "NoRow" h') : wp (callF P (k + 8) "state_after" [machV s rs, r]) h Q E := by
  rw [wp_call Ac.state_after rfl]
  unfold b_state_after
  simp [slot, Con.pv, Mm.SIZE]
  refine check_machine_ok ok_mach (isMachine_ok m) fun h1 g1 => ?_
  rw [ix_mach0]
  exact check_row_wp (k := k + 2) (o.gr g1) (fun z => by rw [hr] at z; cases z) fun _ h2 g2 => e h2 (g1.trans g2)
class Wd (P : Prog) : Prop where
  word : Has P "_law_word" 3 4 b_law_word
  mm : P.sub "NoMachine" "NoMachine" = some true
  rm : P.sub "NoRow" "NoMachine" = some false
  rr : P.sub "NoRow" "NoRow" = some true
def strV (x : Str) (y : PV) : PV := .tup [.str x, y]
/-- the word told by a function that is asked -/
theorem word_wp [Wd P] {f : Str} (hf : (P.fT f).isSome = true) (ask : wp (callF P k f [v, r]) h (fun u h1 => Q (strV "told" u) h1) (fun c h1 => (c = "NoMachine" ∧ Q (strV "machine" .non) h1) ∨ (c = "NoRow" ∧ Q (strV "row" .non) h1))) : wp (callF P (k + 1) "_law_word" [.fn f, v, r]) h Q E := by
  rw [wp_call Wd.word rfl]
  unfold b_law_word
  have hk : (globOf P k).known f = true := hf
  rw [s_cons]
  simp [slot, Con.pv]
  refine s_try ?_
  simp [slot, Con.pv, fnP, hk]
  refine wp_mono ask (fun u h1 z => z) fun c h1 z vs => ?_
  rcases z with ⟨rfl, z⟩ | ⟨rfl, z⟩
  · rw [hs_yes (by exact Wd.mm)]
    simp [slot, Con.pv]
    exact z
  · rw [hs_no (by exact Wd.rm), hs_yes (by exact Wd.rr)]
    simp [slot, Con.pv]
    exact z
end PK

set_option Elab.async false
set_option linter.all false
set_option maxRecDepth 100000
set_option maxHeartbeats 4000000
set_option exponentiation.threshold 5000
/-! PKk: chances judged. -/
namespace PK
open PySem MP L2
/-! ### sums of fractions -/
def addF (x y : Int × Int) : Int × Int := nrm (x.1 * y.2 + y.1 * x.2) (x.2 * y.2)
def sumF (x : Int × Int) (l : List (Int × Int)) : Int × Int := l.foldl addF x
theorem addF_fr {D : Nat} (hD : 0 < D) {m n : Int} : addF (fr D m) (fr D n) = fr D (m + n) := fr_add hD
theorem sumF_fr {D : Nat} (hD : 0 < D) : ∀ {ns : List Int} {a : Int}, sumF (fr D a) (ns.map (fr D)) = fr D (a + ns.sum)
  | [], a => by simp [sumF]
  | n :: ns, a => by
    show sumF (addF (fr D a) (fr D n)) (ns.map (fr D)) = _
    rw [addF_fr hD, sumF_fr hD]
    simp [Int.add_assoc]
/-- not too great, above 0 at the bottom -/
structure Sml (k : Nat) (x : Int × Int) : Prop where
  pos : 0 < x.2
  bot : x.2.natAbs < 2 ^ k
  top : x.1.natAbs < 2 ^ k
theorem Sml.mono {k m : Nat} {x : Int × Int} (a : Sml k x) (h : k ≤ m) : Sml m x := ⟨a.pos, Nat.lt_of_lt_of_le a.bot (Nat.pow_le_pow_right (by decide) h), Nat.lt_of_lt_of_le a.top (Nat.pow_le_pow_right (by decide) h)⟩
theorem nrm_bot_le {t b : Int} (hb : 0 < b) : (nrm t b).2.natAbs ≤ b.natAbs := by
  have e := congrArg Int.natAbs (nrm_bot (t := t) (b := b))
  rw [Int.natAbs_mul, Int.natAbs_natCast] at e
  have := Nat.le_mul_of_pos_right (nrm t b).2.natAbs (gcd_pos' (t := t) hb)
  omega
theorem nrm_top_le {t b : Int} (hb : 0 < b) : (nrm t b).1.natAbs ≤ t.natAbs := by
  have e := congrArg Int.natAbs (nrm_top (t := t) (b := b))
  rw [Int.natAbs_mul, Int.natAbs_natCast] at e
  have := Nat.le_mul_of_pos_right (nrm t b).1.natAbs (gcd_pos' (t := t) hb)
  omega
theorem mul_lt {a b k m : Nat} (h1 : a < 2 ^ k) (h2 : b < 2 ^ m) : a * b < 2 ^ (k + m) := by
  rw [Nat.pow_add]
  exact Nat.mul_lt_mul'' h1 h2
theorem addF_sml {k m : Nat} {x y : Int × Int} (a : Sml k x) (b : Sml m y) : Sml (k + m + 1) (addF x y) := by
  have hp : 0 < x.2 * y.2 := Int.mul_pos a.pos b.pos
  refine ⟨nrm_pos hp, ?_, ?_⟩
  · refine Nat.lt_of_le_of_lt (nrm_bot_le hp) ?_
    rw [Int.natAbs_mul]
    exact Nat.lt_trans (mul_lt a.bot b.bot) (Nat.pow_lt_pow_right (by decide) (by omega))
  · refine Nat.lt_of_le_of_lt (nrm_top_le hp) ?_
    have h1 : (x.1 * y.2).natAbs < 2 ^ (k + m) := by rw [Int.natAbs_mul]; exact mul_lt a.top b.bot
    have h2 : (y.1 * x.2).natAbs < 2 ^ (k + m) := by rw [Int.natAbs_mul, Nat.mul_comm]; exact mul_lt a.bot b.top
    have h3 : (2 : Nat) ^ (k + m + 1) = 2 ^ (k + m) + 2 ^ (k + m) := by rw [Nat.pow_succ]; omega
    have h4 := Int.natAbs_add_le (x.1 * y.2) (y.1 * x.2)
    omega
class On (P : Prog) : Prop where
  ONE : P.cT "ONE" = some (.tup ([1, 1].map .int))
class Fm (P : Prog) : Prop extends On P where
  minus : Has P "minus" 2 2 b_minus
class Rk (P : Prog) : Prop where
  raw_is_chances : Has P "raw_is_chances" 2 4 b_raw_is_chances
class Jc (P : Prog) : Prop where
  chances_fit : Has P "_law_chances_fit" 2 4 b_law_chances_fit
variable {P : Prog} {k : Nat} {h h' : PH} {E : Str → PH → Prop} {v : PV} {Q : PV → PH → Prop} {B L : Nat} {D : Nat} {m n : Int}
theorem plus_any [Fp P] {x y : Int × Int} {a b : Nat} (hx : Sml a x) (hy : Sml b y) (hk : a + b ≤ 1900) (q : Q (frV (addF x y)) h) : wp (callF P (k + 2) "plus" [frV x, frV y]) h Q E := by
  rw [wp_call Fp.plus rfl]
  unfold b_plus frV
  simp [slot, Con.pv, frV_ix0, frV_ix1]
  refine ⟨mul_pow hx.top hy.bot (by omega), mul_pow hy.top hx.bot (by omega), mul_pow hx.bot hy.bot (by omega), ?_⟩
  exact fraction_wp (N := a + b) (Int.mul_pos hx.pos hy.pos) (by rw [Int.natAbs_mul]; exact mul_lt hx.bot hy.bot) (by omega) q
theorem lplus_any [Fq P] {x y : Int × Int} {a b : Nat} (hx : Sml a x) (hy : Sml b y) (hk : a + b ≤ 1900) (q : Q (frV (addF x y)) h) : wp (callF P (k + 3) "_law_plus" [frV x, frV y]) h Q E := by
  rw [wp_call Fq.lplus rfl]
  unfold b_law_plus frV
  simp [slot, Con.pv, frV_ix0, frV_ix1]
  refine ⟨mul_pow hx.top hy.bot (by omega), mul_pow hy.top hx.bot (by omega), mul_pow hx.bot hy.bot (by omega), ?_⟩
  exact part_wp (Int.mul_pos hx.pos hy.pos) (by rw [Int.natAbs_mul]; exact Nat.lt_of_lt_of_le (mul_lt hx.bot hy.bot) (Nat.pow_le_pow_right (by decide) (by omega))) q
theorem minus_wp [Fp P] [Fm P] (hD : Bot D) (hm : Top m) (hn : Top n) (q : Q (frV (fr D (m - n))) h) : wp (callF P (k + 2) "minus" [frV (fr D m), frV (fr D n)]) h Q E := by
  rw [wp_call Fm.minus rfl]
  unfold b_minus frV
  simp [slot, Con.pv, frV_ix0, frV_ix1]
  refine ⟨mul_pow (fr1 hm) (fr2 hD) (by decide), mul_pow (fr1 hn) (fr2 hD) (by decide), mul_pow (fr2 hD) (fr2 hD) (by decide), ?_⟩
  refine fraction_wp (Int.mul_pos (fr_pos hD.pos) (fr_pos hD.pos)) (bot2 hD) (by decide) ?_
  rw [fr_sub hD.pos]
  exact q
/-! ### chances -/
/-- a fraction from 0 on -/
def isPart : PV → Bool
  | .tup [.int a, .int b] => decide (1 ≤ b) && (Nat.gcd a.natAbs b.natAbs == 1) && decide (0 ≤ a)
  | _ => false
def partOf : PV → Int × Int
  | .tup [.int a, .int b] => (a, b)
  | _ => (0, 1)
def isCh (s : Int) : PV → Bool
  | .tup xs => decide ((xs.length : Int) = s) && xs.all isPart && (sumF (0, 1) (xs.map partOf) == (1, 1))
  | _ => false
theorem isPart_frac {v : PV} (e : isFraction v = false) : isPart v = false := by
  unfold isPart
  split
  · simp only [isFraction] at e
    rw [e]
    rfl
  · rfl
theorem part_of {v : PV} (e : isPart v = true) : ∃ a b, v = .tup [.int a, .int b] ∧ 1 ≤ b ∧ Nat.gcd a.natAbs b.natAbs = 1 ∧ 0 ≤ a := by
  unfold isPart at e
  split at e
  · rename_i a b
    simp at e
    exact ⟨a, b, rfl, e.1.1, e.1.2, e.2⟩
  · cases e
theorem parts_of : ∀ {xs : List PV}, xs.all isPart = true → ∃ fs : List (Int × Int), xs = fs.map frV ∧ xs.map partOf = fs ∧ ∀ f ∈ fs, 1 ≤ f.2 ∧ Nat.gcd f.1.natAbs f.2.natAbs = 1 ∧ 0 ≤ f.1
  | [], _ => ⟨[], rfl, rfl, by simp⟩
  | x :: xs, e => by
    rw [List.all_cons, Bool.and_eq_true] at e
    obtain ⟨a, b, rfl, h1, h2, h3⟩ := part_of e.1
    obtain ⟨fs, rfl, h4, h5⟩ := parts_of e.2
    refine ⟨(a, b) :: fs, rfl, ?_, fun f hf => ?_⟩
    · rw [List.map_cons, h4]
      rfl
    · rcases List.mem_cons.mp hf with rfl | hf
      · exact ⟨h1, h2, h3⟩
      · exact h5 f hf
theorem eqP_one {x : Int × Int} : eqP h (frV x) (.tup [.int 1, .int 1]) = some (x == (1, 1)) := by
  unfold frV
  rw [eqP_fr]
  obtain ⟨a, b⟩ := x
  congr 1
  show (a == 1 && (b == 1 && true)) = ((a, b) == ((1, 1) : Int × Int))
  rw [Bool.and_true]
  rfl
theorem raw_is_chances_wp [Ck P] [Mf P] [Fp P] [On P] [Ng P] [Rk P] {s : Int} (hs : 2 ≤ s ∧ s ≤ 4) (hB : B < 2 ^ 102) (a : Val h B L v) (q : ∀ h', Gr h h' → Q (.bl (isCh s v)) h') : wp (callF P (k + 3) "raw_is_chances" [.int s, v]) h Q E := by
  rw [wp_call Rk.raw_is_chances rfl]
  unfold b_raw_is_chances
  simp [slot, Con.pv]
  refine is_tuple_of_wp a.ok ?_
  simp
  cases e : isTup v s with
  | false =>
    refine .inl ⟨rfl, ?_⟩
    have e2 : isCh s v = false := by
      unfold isCh
      split
      · have e3 : decide ((_ : Int) = s) = false := e
        rw [e3]
        rfl
      · rfl
    have := q h .refl
    rwa [e2] at this
  | true =>
    refine .inr ⟨rfl, ?_⟩
    obtain ⟨xs, rfl, hl⟩ := tup_of e
    refine lc_bools (xs := xs) (p := isPart) (fun R hR => by simp [slot]; exact hR) (by rw [sizeLine_eq]; omega) (fun x hx h1 g1 => ?_) fun h1 g1 => ?_
    · have ax := (a.gr g1).all x hx
      simp [slot, wipeE, Con.pv]
      refine is_fraction_wp ax.ok ?_
      simp
      cases ef : isFraction x with
      | false => exact .inl ⟨rfl, by rw [isPart_frac ef], .refl⟩
      | true =>
        obtain ⟨t, b, rfl, h1, h2⟩ := fraction_of ef
        refine .inr ⟨rfl, ?_⟩
        simp [atI, ixN, isPart, h1, h2]
        exact .refl
    · have ax := a.gr g1
      by_cases hall : xs.all isPart = true
      · refine .inr ⟨?_, ?_⟩
        · intro hf
          obtain ⟨x, hx, e2⟩ := List.mem_map.mp hf
          rw [List.all_eq_true] at hall
          rw [hall x hx] at e2
          cases e2
        obtain ⟨fs, rfl, hp, hf⟩ := parts_of hall
        rw [List.length_map] at hl
        have hsml : ∀ f ∈ fs, Sml 102 f := fun f hm => by
          have := ax.all (frV f) (List.mem_map_of_mem hm)
          unfold frV at this
          have v1 := this.all (.int f.1) (by simp)
          have v2 := this.all (.int f.2) (by simp)
          have b1 : f.1.natAbs ≤ B := by cases v1 with | int _ hb => exact hb
          have b2 : f.2.natAbs ≤ B := by cases v2 with | int _ hb => exact hb
          exact ⟨by have := (hf f hm).1; omega, by omega, by omega⟩
        refine ⟨_, Ng.NOUGHT, ?_⟩
        rw [s_for]
        simp [-List.append_assoc, -List.length_append, -List.map_map, slot, Con.pv]
        obtain ⟨J, hJ⟩ : ∃ J : Nat → Env' → PH → Prop, ∀ i env h', J i env h' ↔ (h' = h1 ∧ Sml (1 + 103 * i) (sumF (0, 1) (fs.take i)) ∧ ∃ e3, env = [some (.int s), some (.tup (fs.map frV)), some (frV (sumF (0, 1) (fs.take i))), e3]) := ⟨_, fun _ _ _ => Iff.rfl⟩
        have es : (Itr.vals (fs.map frV)).size h1 = (fs.map frV).length := rfl
        rw [es]
        refine wp_for_vals (xs := fs.map frV) J ?_ ?_ _ 0 _ _ (by simp) ((hJ _ _ _).mpr ⟨rfl, ⟨by simp [sumF], by simp [sumF], by simp [sumF]⟩, none, rfl⟩)
        · intro i y env h2 hy hj
          obtain ⟨rfl, sm, e3, rfl⟩ := (hJ _ _ _).mp hj
          refine ⟨_, rfl, ?_⟩
          rw [List.getElem?_map] at hy
          cases hz : fs[i]? with
          | none => rw [hz] at hy; cases hy
          | some f =>
            rw [hz] at hy
            cases hy
            have hi := (List.getElem?_eq_some_iff.mp hz).1
            have hfm := hsml f (List.mem_of_getElem? hz)
            simp [slot]
            refine plus_any (k := k) sm hfm (by omega) ?_
            have es : sumF (0, 1) (fs.take (i + 1)) = addF (sumF (0, 1) (fs.take i)) f := by
              rw [List.take_add_one, hz]
              simp [sumF]
            refine (hJ _ _ _).mpr ⟨rfl, ?_, _, by rw [es]⟩
            rw [es]
            exact (addF_sml sm hfm).mono (by omega)
        · intro env h2 hj
          obtain ⟨rfl, sm, e3, rfl⟩ := (hJ _ _ _).mp hj
          have et : fs.take (fs.map frV).length = fs := List.take_of_length_le (by simp)
          rw [et]
          simp [slot]
          refine ⟨_, On.ONE, ?_⟩
          have eo : PV.tup ([1, 1].map PV.int) = .tup [.int 1, .int 1] := rfl
          rw [eo, eqP_one]
          have ei : isCh s (.tup (fs.map frV)) = (sumF (0, 1) fs == (1, 1)) := by
            show (decide (((fs.map frV).length : Int) = s) && (fs.map frV).all isPart && _) = _
            rw [hall, hp, List.length_map, decide_eq_true hl]
            rfl
          have := q h2 g1
          rw [ei] at this
          cases hz : (sumF (0, 1) fs == (1, 1)) with
          | false => exact .inl ⟨rfl, by rw [hz] at this; exact this⟩
          | true => exact .inr ⟨rfl, by rw [hz] at this; exact this⟩
      · refine .inl ⟨?_, ?_⟩
        · have : ∃ x ∈ xs, ¬ isPart x = true := by
            rw [List.all_eq_true] at hall
            exact Classical.byContradiction fun z => hall fun x hx => Classical.byContradiction fun z2 => z ⟨x, hx, z2⟩
          obtain ⟨x, hx, e2⟩ := this
          exact List.mem_map.mpr ⟨x, hx, by simpa using e2⟩
        · have := q h1 g1
          have ei : isCh s (.tup xs) = false := by
            show (decide ((xs.length : Int) = s) && xs.all isPart && _) = _
            rw [show xs.all isPart = false by simpa using hall, Bool.and_false]
            rfl
          rwa [ei] at this
theorem l_chances_fit_wp [Jf P] [Fq P] [Jc P] {s : Int} (hs : 2 ≤ s ∧ s ≤ 4) (hB : B < 2 ^ 102) (a : Val h B L v) (q : ∀ h', Gr h h' → Q (.bl (isCh s v)) h') : wp (callF P (k + 4) "_law_chances_fit" [.int s, v]) h Q E := by
  rw [wp_call Jc.chances_fit rfl]
  unfold b_law_chances_fit
  simp [slot, Con.pv]
  refine l_long_wp a.ok ?_
  simp
  cases e : isTup v s with
  | false =>
    refine .inl ⟨rfl, ?_⟩
    have e2 : isCh s v = false := by
      unfold isCh
      split
      · have e3 : decide ((_ : Int) = s) = false := e
        rw [e3]
        rfl
      · rfl
    have := q h .refl
    rwa [e2] at this
  | true =>
    refine .inr ⟨rfl, ?_⟩
    obtain ⟨xs, rfl, hl⟩ := tup_of e
    refine lc_bools (xs := xs) (p := isPart) (fun R hR => by simp [slot]; exact hR) (by rw [sizeLine_eq]; omega) (fun x hx h1 g1 => ?_) fun h1 g1 => ?_
    · have ax := (a.gr g1).all x hx
      simp [slot, wipeE, Con.pv]
      refine l_fraction_fits_wp (B := B) (L := L) (by omega) ax ?_
      simp
      cases ef : isFraction x with
      | false => exact .inl ⟨rfl, by rw [isPart_frac ef], .refl⟩
      | true =>
        obtain ⟨t, b, rfl, h1, h2⟩ := fraction_of ef
        refine .inr ⟨rfl, ?_⟩
        simp [atI, ixN, isPart, h1, h2]
        exact .refl
    · have ax := a.gr g1
      by_cases hall : xs.all isPart = true
      · refine .inr ⟨?_, ?_⟩
        · intro hf
          obtain ⟨x, hx, e2⟩ := List.mem_map.mp hf
          rw [List.all_eq_true] at hall
          rw [hall x hx] at e2
          cases e2
        obtain ⟨fs, rfl, hp, hf⟩ := parts_of hall
        rw [List.length_map] at hl
        have hsml : ∀ f ∈ fs, Sml 102 f := fun f hm => by
          have := ax.all (frV f) (List.mem_map_of_mem hm)
          unfold frV at this
          have v1 := this.all (.int f.1) (by simp)
          have v2 := this.all (.int f.2) (by simp)
          have b1 : f.1.natAbs ≤ B := by cases v1 with | int _ hb => exact hb
          have b2 : f.2.natAbs ≤ B := by cases v2 with | int _ hb => exact hb
          exact ⟨by have := (hf f hm).1; omega, by omega, by omega⟩
        rw [s_for]
        simp [-List.append_assoc, -List.length_append, -List.map_map, slot, Con.pv]
        obtain ⟨J, hJ⟩ : ∃ J : Nat → Env' → PH → Prop, ∀ i env h', J i env h' ↔ (h' = h1 ∧ Sml (1 + 103 * i) (sumF (0, 1) (fs.take i)) ∧ ∃ e3, env = [some (.int s), some (.tup (fs.map frV)), some (frV (sumF (0, 1) (fs.take i))), e3]) := ⟨_, fun _ _ _ => Iff.rfl⟩
        have es : (Itr.vals (fs.map frV)).size h1 = (fs.map frV).length := rfl
        rw [es]
        refine wp_for_vals (xs := fs.map frV) J ?_ ?_ _ 0 _ _ (by simp) ((hJ _ _ _).mpr ⟨rfl, ⟨by simp [sumF], by simp [sumF], by simp [sumF]⟩, none, rfl⟩)
        · intro i y env h2 hy hj
          obtain ⟨rfl, sm, e3, rfl⟩ := (hJ _ _ _).mp hj
          refine ⟨_, rfl, ?_⟩
          rw [List.getElem?_map] at hy
          cases hz : fs[i]? with
          | none => rw [hz] at hy; cases hy
          | some f =>
            rw [hz] at hy
            cases hy
            have hi := (List.getElem?_eq_some_iff.mp hz).1
            have hfm := hsml f (List.mem_of_getElem? hz)
            simp [slot]
            refine lplus_any (k := k) sm hfm (by omega) ?_
            have es : sumF (0, 1) (fs.take (i + 1)) = addF (sumF (0, 1) (fs.take i)) f := by
              rw [List.take_add_one, hz]
              simp [sumF]
            refine (hJ _ _ _).mpr ⟨rfl, ?_, _, by rw [es]⟩
            rw [es]
            exact (addF_sml sm hfm).mono (by omega)
        · intro env h2 hj
          obtain ⟨rfl, sm, e3, rfl⟩ := (hJ _ _ _).mp hj
          have et : fs.take (fs.map frV).length = fs := List.take_of_length_le (by simp)
          rw [et]
          simp [slot]
          rw [eqP_one]
          have ei : isCh s (.tup (fs.map frV)) = (sumF (0, 1) fs == (1, 1)) := by
            show (decide (((fs.map frV).length : Int) = s) && (fs.map frV).all isPart && _) = _
            rw [hall, hp, List.length_map, decide_eq_true hl]
            rfl
          have := q h2 g1
          rw [ei] at this
          cases hz : (sumF (0, 1) fs == (1, 1)) with
          | false => exact .inl ⟨rfl, by rw [hz] at this; exact this⟩
          | true => exact .inr ⟨rfl, by rw [hz] at this; exact this⟩
      · refine .inl ⟨?_, ?_⟩
        · have : ∃ x ∈ xs, ¬ isPart x = true := by
            rw [List.all_eq_true] at hall
            exact Classical.byContradiction fun z => hall fun x hx => Classical.byContradiction fun z2 => z ⟨x, hx, z2⟩
          obtain ⟨x, hx, e2⟩ := this
          exact List.mem_map.mpr ⟨x, hx, by simpa using e2⟩
        · have := q h1 g1
          have ei : isCh s (.tup xs) = false := by
            show (decide ((xs.length : Int) = s) && xs.all isPart && _) = _
            rw [show xs.all isPart = false by simpa using hall, Bool.and_false]
            rfl
          rwa [ei] at this
end PK

set_option Elab.async false
set_option linter.all false
set_option maxRecDepth 100000
set_option maxHeartbeats 4000000
set_option exponentiation.threshold 5000
/-! PK07a: rings. -/
namespace PK
open PySem MP L2
class K7 (P : Prog) : Prop where
  ring : Has P "_law_ring" 1 2 b_law_ring
  runs_right : Has P "_law_runs_right" 4 11 b_law_runs_right
  turned_right : Has P "_law_turned_right" 4 10 b_law_turned_right
variable {P : Prog} {k : Nat} {h : PH} {E : Str → PH → Prop} {v : PV} {Q : PV → PH → Prop}
def cutL (row : List Nat) (lo hi : Option Int) : List Nat := (row.drop (HT.sIx row.length 0 lo)).take (HT.sIx row.length row.length hi - HT.sIx row.length 0 lo)
theorem cut_map {α : Type} {f : α → PV} {row : List α} {lo hi : Option Int} : cutP (row.map f) lo hi = ((row.drop (HT.sIx row.length 0 lo)).take (HT.sIx row.length row.length hi - HT.sIx row.length 0 lo)).map f := by
  unfold cutP
  rw [List.length_map, ← List.map_drop, ← List.map_take]
theorem slc_row {row : List Nat} {lo hi : Option Int} : wp (slcM (rowV row) lo hi) h Q E ↔ Q (rowV (cutL row lo hi)) h := by
  unfold rowV
  rw [p_slcT, cut_map]
  exact Iff.rfl
theorem cut_to {row : List Nat} {a : Nat} : cutL row none (some (a : Int)) = row.take a := by
  unfold cutL
  rw [HT.sIx_nat, HT.sIx_none]
  simp
theorem cut_from {row : List Nat} {a : Nat} : cutL row (some (a : Int)) none = row.drop a := by
  unfold cutL
  rw [HT.sIx_nat, HT.sIx_none]
  apply List.ext_getElem?
  intro i
  simp only [List.getElem?_take, List.getElem?_drop]
  by_cases ha : a ≤ row.length
  · rw [Nat.min_eq_left ha]
    split
    · rfl
    · exact (List.getElem?_eq_none (by omega)).symm
  · rw [Nat.min_eq_right (by omega)]
    split
    · omega
    · exact (List.getElem?_eq_none (by omega)).symm
theorem cut_mid {row : List Nat} {a b : Nat} (hab : a ≤ b) (hb : b ≤ row.length) : cutL row (some (a : Int)) (some (b : Int)) = (row.drop a).take (b - a) := by
  unfold cutL
  rw [HT.sIx_nat, HT.sIx_nat, Nat.min_eq_left hb, Nat.min_eq_left (Nat.le_trans hab hb)]
/-- as many unlike ones as there are -/
theorem pigeon : ∀ (n : Nat) (L : List Nat), L.Nodup → (∀ x ∈ L, x < n) → L.length ≤ n := by
  intro n
  induction n with
  | zero =>
    intro L _ h
    cases L with
    | nil => simp
    | cons x L => exact absurd (h x (by simp)) (Nat.not_lt_zero _)
  | succ n ih =>
    intro L hd h
    have h1 := ih (L.filter (fun x => x != n)) (hd.filter _) (fun x hx => by
      have h2 := (List.mem_filter.mp hx)
      have h3 := h x h2.1
      have h4 : x ≠ n := by simpa using h2.2
      omega)
    have h2 : L.length ≤ (L.filter (fun x => x != n)).length + 1 := by
      clear ih h h1
      induction L with
      | nil => simp
      | cons y L ihL =>
        rw [List.nodup_cons] at hd
        by_cases hy : y = n
        · subst hy
          have e : L.filter (fun x => x != y) = L := by
            apply List.filter_eq_self.mpr
            intro x hx
            simp
            rintro rfl
            exact hd.1 hx
          simp [e]
        · have := ihL hd.2
          simp [hy]
          omega
    omega
def natV (n : Nat) : PV := .int (n : Nat)
theorem all_flat {L : List Nat} : (L.map natV).all flatP = true := by
  rw [List.all_eq_true]
  intro x hx
  obtain ⟨n, _, rfl⟩ := List.mem_map.mp hx
  rfl
theorem any_nat {L : List Nat} {x : Nat} : ((L.map natV).any fun z => eqF z (natV x)) = L.contains x := by
  induction L with
  | nil => rfl
  | cons y L ih =>
    rw [List.map_cons, List.any_cons, ih, List.contains_cons]
    congr 1
    show ((y : Int) == (x : Int)) = (x == y)
    rw [Bool.eq_iff_iff, beq_iff_eq, beq_iff_eq]
    omega
theorem ring_wp [K7 P] {o : Nat} {L : List Nat} (hl : L.length ≤ 1000) (h0 : 1 ≤ L.length) (ho : ownL h o = some (L.map natV)) (q1 : ∀ a b h', a < b → b < L.length → L[a]? = L[b]? → Gr h h' → Q (.tup [.int (a : Nat), .int (b : Nat)]) h') (q2 : L.Nodup → ∀ h', Gr h h' → Q .non h') : wp (callF P (k + 1) "_law_ring" [.obj o]) h Q E := by
  rw [wp_call K7.ring rfl]
  unfold b_law_ring
  have nd1 : (L.take (1 + 0)).Nodup := by cases L <;> simp
  have hs : (smallI 1 && smallI ((L.length : Nat) : Int)) = true := by simp [smallI]; omega
  rw [s_cons, s_for]
  simp [slot, Con.pv, lstP_own ho]
  refine ⟨⟨by decide, by simp [smallI]; omega⟩, ?_⟩
  refine wp_for_rng (fun i env h' => Gr h h' ∧ (∃ e1, env = [some (.obj o), e1]) ∧ (L.take (1 + i)).Nodup) ?_ ?_ (L.length - 1) 0 _ _ (by simp) ?_
  · rintro i env h' hi ⟨g, ⟨e1, rfl⟩, nd⟩
    refine ⟨_, rfl, ?_⟩
    have hb : 1 + i < L.length := by omega
    have ho' := g.own ho
    have ei : (1 : Int) + (i : Int) = ((1 + i : Nat) : Int) := by omega
    have ea : atI (L.map natV) ((1 : Int) + (i : Int)) = some (natV L[1 + i]) := by rw [ei]; exact atI_map hb
    have ec : cutP (L.map natV) none (some ((1 : Int) + (i : Int))) = (L.take (1 + i)).map natV := by
      rw [ei, cut_map, HT.sIx_nat, HT.sIx_none]
      simp
    have g2 : Gr h' (h' ++ [PO.lst LK.own ((L.take (1 + i)).map natV)]) := .app
    have ein : inP (h' ++ [PO.lst LK.own ((L.take (1 + i)).map natV)]) (natV L[1 + i]) (.obj h'.length) = some ((L.take (1 + i)).contains L[1 + i]) := by
      unfold inP
      have e2 : itemsP (h' ++ [PO.lst LK.own ((L.take (1 + i)).map natV)]) (.obj h'.length) = some ((L.take (1 + i)).map natV) := lstP_app
      rw [e2]
      show (if flatP (natV _) && ((L.take (1 + i)).map natV).all flatP then _ else none) = _
      rw [all_flat, any_nat]
      rfl
    simp [-List.append_assoc, -List.length_append, -List.map_take, -List.contains_eq_mem, slot, Con.pv, lstP_own ho', ea, ec, ein]
    have et : L.take (1 + (i + 1)) = L.take (1 + i) ++ [L[1 + i]] := by
      rw [show 1 + (i + 1) = (1 + i) + 1 by omega, List.take_add_one, List.getElem?_eq_getElem hb]
      rfl
    cases hc : (L.take (1 + i)).contains L[1 + i] with
    | false =>
      have hn : L[1 + i] ∉ L.take (1 + i) := fun z => by
        have := List.contains_iff_mem.mpr z
        rw [hc] at this
        cases this
      refine .inl ⟨rfl, g.trans g2, ?_⟩
      rw [et]
      rw [List.nodup_append]
      exact ⟨nd, by simp, fun a ha b hb' => by simp at hb'; subst hb'; exact fun e => hn (e ▸ ha)⟩
    | true =>
      refine .inr ⟨rfl, ?_⟩
      have hm : L[1 + i] ∈ L.take (1 + i) := List.contains_iff_mem.mp hc
      obtain ⟨p, hp, hpe⟩ := List.getElem_of_mem hm
      have hp1 : p < 1 + i := by rw [List.length_take] at hp; omega
      have hpe' : L[p]'(by omega) = L[1 + i] := by rw [← hpe]; simp
      have ho2 := g2.own ho'
      -- the first place
      have hex : ∃ x ∈ L.map natV, (fun z => eqF z (natV L[1 + i])) x = true := ⟨natV L[1 + i], List.mem_map.mpr ⟨_, List.getElem_mem _, rfl⟩, by show ((L[1+i] : Int) == (L[1+i] : Int)) = true; exact beq_self_eq_true _⟩
      have hfl : (L.map natV).findIdx (fun z => eqF z (natV L[1 + i])) < (L.map natV).length := List.findIdx_lt_length_of_exists hex
      have hfg := List.findIdx_getElem (p := fun z => eqF z (natV L[1 + i])) (w := hfl)
      have hle : (L.map natV).findIdx (fun z => eqF z (natV L[1 + i])) ≤ p := by
        by_cases z : (L.map natV).findIdx (fun z => eqF z (natV L[1 + i])) ≤ p
        · exact z
        · have z2 := List.not_of_lt_findIdx (p := fun z => eqF z (natV L[1 + i])) (xs := L.map natV) (i := p) (by omega)
          exfalso
          rw [List.getElem_map, hpe'] at z2
          have z3 : eqF (natV L[1 + i]) (natV L[1 + i]) = true := beq_self_eq_true ((L[1 + i] : Nat) : Int)
          rw [z3] at z2
          cases z2
      have eidx : idxP (natV L[1 + i]) (L.map natV) = some ((L.map natV).findIdx fun z => eqF z (natV L[1 + i])) := by
        unfold idxP
        rw [all_flat]
        show (if (true && true) = true then _ else none) = _
        rw [if_pos (by rfl), if_pos hfl]
      generalize (L.map natV).findIdx (fun z => eqF z (natV L[1 + i])) = j at hfl hfg hle eidx
      have hjl : j < L.length := by simpa using hfl
      have hje : L[j] = L[1 + i] := by
        have hfg' : eqF ((L.map natV)[j]) (natV L[1 + i]) = true := hfg
        rw [List.getElem_map] at hfg'
        have := beq_iff_eq.mp (show ((L[j] : Int) == (L[1 + i] : Int)) = true from hfg')
        omega
      simp [-List.append_assoc, -List.length_append, -List.map_take, slot, Con.pv, lstP_own ho2, ea, eidx]
      have := q1 j (1 + i) _ (by omega) hb (by rw [List.getElem?_eq_getElem hjl, List.getElem?_eq_getElem hb, hje]) (g.trans g2)
      rw [← ei] at this
      exact this
  · rintro env h' ⟨g, ⟨e1, rfl⟩, nd⟩
    refine q2 ?_ h' g
    rw [show 1 + (L.length - 1) = L.length by omega, List.take_length] at nd
    exact nd
  · exact ⟨.refl, ⟨none, rfl⟩, nd1⟩
end PK

set_option Elab.async false
set_option linter.all false
set_option maxRecDepth 100000
set_option maxHeartbeats 4000000
set_option exponentiation.threshold 5000
/-! PK07b: rings read. -/
namespace PK
open PySem MP L2
variable {P : Prog} {k : Nat} {h : PH} {E : Str → PH → Prop} {v : PV} {Q : PV → PH → Prop} {s : Nat} {rs : List (List Stp)} {D : Nat}
theorem add_row {x y : List Nat} : wp (binM .add (rowV x) (rowV y)) h Q E ↔ (x.length + y.length ≤ sizeLine) ∧ Q (rowV (x ++ y)) h := by
  unfold rowV
  rw [p_addT]
  simp
theorem mul_row {x : List Nat} {m : Int} : wp (binM .mul (rowV x) (.int m)) h Q E ↔ (-1000000 ≤ m ∧ m ≤ 1000 ∧ x.length ≤ 1000) ∧ Q (rowV (List.replicate m.toNat x).flatten) h := by
  unfold rowV
  rw [p_mulT]
  have e : (List.replicate m.toNat (x.map fun l => PV.int (l : Nat))).flatten = (List.replicate m.toNat x).flatten.map fun l => PV.int (l : Nat) := by
    rw [List.map_flatten, List.map_replicate]
  rw [e, List.length_map]
theorem len_row {x : List Nat} : wp (biM .len [rowV x]) h Q E ↔ Q (.int (x.length : Nat)) h := by
  unfold rowV
  rw [p_lenT, List.length_map]
theorem rep_runS {q : Nat} {R : List Nat} (hq : runS rs q R = q) : ∀ m, runS rs q (List.replicate m R).flatten = q
  | 0 => rfl
  | m + 1 => by
    rw [List.replicate_succ, List.flatten_cons, runS_app, hq]
    exact rep_runS hq m
theorem rep_runN {q : Nat} {R : List Nat} (hq : runS rs q R = q) : ∀ m : Nat, runN rs D q (List.replicate m R).flatten = runN rs D q R * m
  | 0 => by simp [runN]
  | m + 1 => by
    rw [List.replicate_succ, List.flatten_cons, runN_app, hq, rep_runN hq m]
    rw [Int.natCast_add, Int.mul_add]
    simp
    omega
theorem rep_len {R : List Nat} : ∀ m : Nat, (List.replicate m R).flatten.length = m * R.length
  | 0 => by simp
  | m + 1 => by rw [List.replicate_succ, List.flatten_cons, List.length_append, rep_len m, Nat.add_mul]; omega
theorem rep_mem {R : List Nat} {m x : Nat} (hx : x ∈ (List.replicate m R).flatten) : x ∈ R := by
  obtain ⟨l, h1, h2⟩ := List.mem_flatten.mp hx
  rw [List.mem_replicate] at h1
  exact h1.2 ▸ h2
theorem eq_fr {x : Int × Int} : eqP h (frV x) (frV x) = some true := by
  unfold frV
  rw [eqP_fr]
  simp
structure RingOk (rs : List (List Stp)) (s : Nat) (row : List Nat) (a b : Nat) : Prop where
  lt : a < b
  le : b ≤ row.length
  eq : runS rs 0 (row.take a) = runS rs 0 (row.take b)
  r30 : row.length ≤ 30
  r1 : 1 ≤ row.length
  ok : ∀ l ∈ row, l < s
theorem RingOk.ring {row : List Nat} {a b : Nat} (r : RingOk rs s row a b) : runS rs (runS rs 0 (row.take a)) ((row.drop a).take (b - a)) = runS rs 0 (row.take a) := by
  have e : row.take b = row.take a ++ (row.drop a).take (b - a) := by
    have := List.take_add (l := row) (i := a) (j := b - a)
    rw [show a + (b - a) = b by have := r.lt; omega] at this
    exact this
  have h1 := r.eq
  rw [e, runS_app] at h1
  exact h1.symm
theorem row_split {row : List Nat} {a b : Nat} (hab : a ≤ b) : row = row.take a ++ ((row.drop a).take (b - a) ++ row.drop b) := by
  have e : row.take b = row.take a ++ (row.drop a).take (b - a) := by
    have := List.take_add (l := row) (i := a) (j := b - a)
    rw [show a + (b - a) = b by omega] at this
    exact this
  rw [← List.append_assoc, ← e, List.take_append_drop]
theorem runs_right_wp [Ck P] [Mc P] [Fp P] [Fq P] [Ac P] [Ls P] [K7 P] (m : MachOk s rs) (d : Den rs D) {row : List Nat} {a b : Nat} (r : RingOk rs s row a b) (q : ∀ h', Gr h h' → Q (.bl true) h') :
    wp (callF P (k + 9) "_law_runs_right" [machV s rs, rowV row, .int (a : Nat), .int (b : Nat)]) h Q E := by
  have hab := r.lt
  have hbl := r.le
  have hl := r.r30
  have hrow := r.ok
  have hA : ∀ l ∈ row.take a, l < s := fun l hl => hrow l (List.mem_of_mem_take hl)
  have hR : ∀ l ∈ (row.drop a).take (b - a), l < s := fun l hl => hrow l (List.mem_of_mem_drop (List.mem_of_mem_take hl))
  have hC : ∀ l ∈ row.drop b, l < s := fun l hl => hrow l (List.mem_of_mem_drop hl)
  have q0 : 0 < rs.length := by have := m.r1; omega
  have hq := runS_lt m q0 hA
  have hring := r.ring
  have lenA : (row.take a).length = a := by rw [List.length_take]; omega
  have lenR : ((row.drop a).take (b - a)).length = b - a := by rw [List.length_take, List.length_drop]; omega
  have lenC : (row.drop b).length = row.length - b := by rw [List.length_drop]
  have hsp := row_split (row := row) (Nat.le_of_lt hab)
  have cM := cut_mid (row := row) (a := a) (b := b) (Nat.le_of_lt hab) hbl
  rw [wp_call K7.runs_right rfl]
  unfold b_law_runs_right
  simp [-List.append_assoc, -List.length_append, slot, Con.pv, slc_row, cM, cut_to, cut_from]
  generalize hRe : (row.drop a).take (b - a) = R at *
  generalize hAe : row.take a = A at *
  generalize hCe : row.drop b = C at *
  have hlen0 : ∀ l ∈ A ++ C, l < s := fun l hl => by
    rcases List.mem_append.mp hl with z | z
    · exact hA l z
    · exact hC l z
  refine states_wp (q0 := 0) m q0 (by omega) hA fun h1 o1 g1 ho1 ho1' => ?_
  obtain ⟨ys, hy⟩ := sts_last (rs := rs) (q := 0) (row := A)
  rw [hy] at ho1'
  simp [-List.append_assoc, -List.length_append, slot, Con.pv, lstP_own ho1', atI_last]
  refine sum_wp (k := k + 4) m d hq (by omega) hR ?_
  simp [-List.append_assoc, -List.length_append, slot, Con.pv, slc_row, cut_to, cut_from, add_row, hAe, hCe]
  refine ⟨by rw [sizeLine_eq]; omega, ?_⟩
  refine allowed_wp m d (by rw [List.length_append]; omega) hlen0 fun h2 g2 => ?_
  refine state_after_wp m (by omega) hrow fun h3 g3 => ?_
  rw [s_for]
  simp [-List.append_assoc, -List.length_append, slot, Con.pv]
  rw [len_row, p_fdivS (by have := r.r1; omega) (by omega)]
  have hdiv : (360 : Int) / (row.length : Int) = ((360 / row.length : Nat) : Int) := by rfl
  rw [hdiv]
  have gap := Gr.app (h := h3) (o := .lst .own [PV.int 0, .int 1, .int 2, .int 3, .int 4, .int ((360 / row.length : Nat) : Int)])
  have lap := lstP_app (h := h3) (xs := [PV.int 0, .int 1, .int 2, .int 3, .int 4, .int ((360 / row.length : Nat) : Int)]) (k := .own)
  have ring1 := r.r1
  have hdl : 360 / row.length * row.length ≤ 360 := Nat.div_mul_le_self _ _
  have es : (Itr.lst h3.length).size (h3 ++ [PO.lst .own [PV.int 0, .int 1, .int 2, .int 3, .int 4, .int ((360 / row.length : Nat) : Int)]]) = 6 := by
    show ((lstP _ (.obj h3.length)).getD []).length = _
    rw [lap]
    rfl
  rw [es]
  refine wp_for_lst (xs := [PV.int 0, .int 1, .int 2, .int 3, .int 4, .int ((360 / row.length : Nat) : Int)]) (fun i env h' => Gr (h3 ++ [PO.lst .own [PV.int 0, .int 1, .int 2, .int 3, .int 4, .int ((360 / row.length : Nat) : Int)]]) h' ∧
    ∃ e9 e10, env = [some (machV s rs), some (rowV row), some (.int (a : Nat)), some (.int (b : Nat)), some (rowV R), some (.int (runS rs 0 A : Nat)), some (frV (fr D (runN rs D (runS rs 0 A) R))), some (frV (fr D (runN rs D 0 (A ++ C)))), some (.int (runS rs 0 row : Nat)), e9, e10]) (fun i env h' ⟨g, _⟩ => g.lst lap) ?_ ?_ 6 0 _ _ rfl ⟨.refl, none, none, rfl⟩
  · rintro i w env h' hw ⟨g, e9, e10, rfl⟩
    obtain ⟨mm, rfl, hmm⟩ : ∃ mm : Nat, w = .int (mm : Nat) ∧ (mm ≤ 4 ∨ mm * row.length ≤ 360) := by
      have := List.mem_of_getElem? hw
      simp only [List.mem_cons, List.not_mem_nil, or_false] at this
      rcases this with rfl | rfl | rfl | rfl | rfl | rfl
      · exact ⟨0, rfl, .inl (by omega)⟩
      · exact ⟨1, rfl, .inl (by omega)⟩
      · exact ⟨2, rfl, .inl (by omega)⟩
      · exact ⟨3, rfl, .inl (by omega)⟩
      · exact ⟨4, rfl, .inl (by omega)⟩
      · exact ⟨_, rfl, .inr hdl⟩
    refine ⟨_, rfl, ?_⟩
    have hmR : mm * R.length ≤ 360 := by
      rcases hmm with z | z
      · calc mm * R.length ≤ 4 * 30 := Nat.mul_le_mul z (by omega)
          _ ≤ 360 := by decide
      · exact Nat.le_trans (Nat.mul_le_mul_left _ (by omega)) z
    have hm1 : mm ≤ 1000 := by
      rcases hmm with z | z
      · omega
      · have : mm * 1 ≤ mm * row.length := Nat.mul_le_mul_left _ ring1
        omega
    have lrep := rep_len (R := R) mm
    have hO : ∀ l ∈ (A ++ (List.replicate mm R).flatten) ++ C, l < s := fun l hl => by
      rcases List.mem_append.mp hl with z | z
      · rcases List.mem_append.mp z with z | z
        · exact hA l z
        · exact hR l (rep_mem z)
      · exact hC l z
    have hOl : ((A ++ (List.replicate mm R).flatten) ++ C).length ≤ 400 := by
      rw [List.length_append, List.length_append, lrep]
      omega
    simp [-List.append_assoc, -List.length_append, slot, Con.pv, slc_row, cut_to, cut_from, add_row, hAe, hCe, mul_row]
    refine ⟨by omega, by rw [sizeLine_eq]; omega, by rw [sizeLine_eq]; (try rw [List.length_append, lrep]); omega, ?_⟩
    refine allowed_wp m d hOl hO fun h4 g4 => ?_
    unfold frV
    simp [-List.append_assoc, -List.length_append, frV_ix0, frV_ix1]
    refine ⟨mul_small (by omega), ?_⟩
    refine part_wp (k := k + 6) (fr_pos d.bot.pos) (Nat.lt_trans (fr2 d.bot) (Nat.pow_lt_pow_right (by decide) (by decide))) ?_
    rw [fr_scale d.bot.pos]
    refine lplus_wp (k := k + 5) d.bot (top_of (runN_small m d q0 hlen0) (by rw [List.length_append]; omega)) ?_ ?_
    · have h1 := runN_small m d hq hR
      have h2 : (runN rs D (runS rs 0 A) R * (mm : Int)).natAbs ≤ (R.length * mm) * (1000000 * 2 ^ 480) := by
        rw [Int.natAbs_mul, Int.natAbs_natCast]
        calc (runN rs D (runS rs 0 A) R).natAbs * mm ≤ (R.length * (1000000 * 2 ^ 480)) * mm := Nat.mul_le_mul_right _ h1
          _ = (R.length * mm) * (1000000 * 2 ^ 480) := by ac_rfl
      exact top_of h2 (by rw [Nat.mul_comm]; omega)
    · have eN : runN rs D 0 ((A ++ (List.replicate mm R).flatten) ++ C) = runN rs D 0 (A ++ C) + runN rs D (runS rs 0 A) R * (mm : Int) := by
        rw [runN_app, runN_app, runN_app, runS_app, rep_runS hring, rep_runN hring]
        omega
      have eS : runS rs 0 ((A ++ (List.replicate mm R).flatten) ++ C) = runS rs 0 row := by
        rw [runS_app, runS_app, rep_runS hring, hsp, runS_app, runS_app, hring]
      rw [← eN]
      refine .inr ⟨eq_fr, ?_⟩
      refine state_after_wp m hOl hO fun h5 g5 => ?_
      rw [eS]
      simp
      exact (g.trans g4).trans g5
  · rintro env h' ⟨g, e9, e10, rfl⟩
    exact q h' ((((g1.trans g2).trans g3).trans gap).trans g)
end PK

set_option Elab.async false
set_option linter.all false
set_option maxRecDepth 100000
set_option maxHeartbeats 4000000
set_option exponentiation.threshold 5000
/-! PK04a: chances of a row judged. -/
namespace PK
open PySem MP L2
class Ar (P : Prog) : Prop where
  are_chances : Has P "are_chances" 2 4 b_are_chances
class Jn (P : Prog) : Prop where
  are_chances : Has P "_law_are_chances" 2 3 b_law_are_chances
variable {P : Prog} {k : Nat} {h h' : PH} {E : Str → PH → Prop} {v : PV} {Q : PV → PH → Prop} {B L : Nat} {D : Nat} {m n : Int}
def areCh (row : List Nat) : PV → Bool
  | .tup ts => decide (ts.length = row.length) && (row.isEmpty || (match ts with
    | .tup fs :: _ => isSize (.int (fs.length : Nat)) && row.all (fun l => decide (l < fs.length)) && ts.all (isCh (fs.length : Nat))
    | _ => false))
  | _ => false
theorem at_zero {x : PV} {xs : List PV} : atI (x :: xs) 0 = some x := by simp [atI, ixN]
theorem max_lt {s : Nat} : ∀ (row : List Nat) (a : Int), ((row.map fun n => ((n : Nat) : Int)).foldl max a < s) ↔ (a < s ∧ row.all (fun l => decide (l < s)) = true)
  | [], a => by simp
  | x :: row, a => by
    rw [List.map_cons, List.foldl_cons, max_lt row, List.all_cons, Bool.and_eq_true]
    simp only [decide_eq_true_eq]
    exact ⟨fun ⟨h1, h2⟩ => ⟨by omega, by omega, h2⟩, fun ⟨h1, h2, h3⟩ => ⟨by omega, h3⟩⟩
theorem max_row {s : Nat} {row : List Nat} (h : row ≠ []) : ∃ M, maxI (row.map fun n => ((n : Nat) : Int)) = some M ∧ decide (M < (s : Int)) = row.all (fun l => decide (l < s)) := by
  cases row with
  | nil => exact absurd rfl h
  | cons x row =>
    refine ⟨_, rfl, ?_⟩
    rw [Bool.eq_iff_iff, decide_eq_true_eq, max_lt, List.all_cons, Bool.and_eq_true, decide_eq_true_eq]
    have e : (((x : Nat) : Int) < (s : Nat)) ↔ x < s := by omega
    exact ⟨fun ⟨h1, h2⟩ => ⟨e.mp h1, h2⟩, fun ⟨h1, h2⟩ => ⟨e.mpr h1, h2⟩⟩
theorem row_ints {row : List Nat} : (itemsP h (rowV row)).bind intsP = some (row.map fun n => ((n : Nat) : Int)) := by
  show intsP (row.map fun l => PV.int (l : Nat)) = _
  induction row with
  | nil => rfl
  | cons x row ih => rw [List.map_cons]; show (intsP _).map _ = _; rw [ih]; rfl
theorem isCh_no {s : Int} (e : ¬ ∃ xs, v = .tup xs) : isCh s v = false := by
  unfold isCh
  split
  · exact absurd ⟨_, rfl⟩ e
  · rfl
theorem are_chances_wp [Ck P] [Mf P] [Mz P] [Fp P] [Fm P] [Ng P] [Rk P] [Ar P] {row : List Nat} (hr : row.length ≤ 1000) (hB : B < 2 ^ 102) (a : Val h B L v) (q : ∀ h', Gr h h' → Q (.bl (areCh row v)) h') : wp (callF P (k + 5) "are_chances" [rowV row, v]) h Q E := by
  rw [wp_call Ar.are_chances rfl]
  unfold b_are_chances
  simp [-List.append_assoc, -List.length_append, slot, Con.pv]
  rw [len_row]
  refine is_tuple_of_wp a.ok ?_
  simp [-List.append_assoc, -List.length_append]
  cases e : isTup v (row.length : Nat) with
  | false =>
    refine .inl ⟨rfl, ?_⟩
    have e2 : areCh row v = false := by
      unfold areCh
      split
      · rename_i ts
        have e3 : decide (((ts.length : Nat) : Int) = (row.length : Nat)) = false := e
        have : decide (ts.length = row.length) = false := by
          rw [decide_eq_false_iff_not] at e3 ⊢
          omega
        rw [this]
        rfl
      · rfl
    have := q h .refl
    rwa [e2] at this
  | true =>
    refine .inr ⟨rfl, ?_⟩
    obtain ⟨ts, rfl, hl⟩ := tup_of e
    have hl : ts.length = row.length := by omega
    refine lc_bools (xs := ts) (p := fun x => (typ h x).sub .tuple) (fun R hR => by simp [slot]; exact hR) (by rw [sizeLine_eq]; omega) (fun x hx h1 g1 => ?_) fun h1 g1 => ?_
    · have ax := a.all x hx
      simp [slot, wipeE, Con.pv]
      refine ⟨_, (ax.gr g1).ok.ty, ?_, .refl⟩
      cases ax <;> first | rfl | skip
      · rename_i i kk xs e; simp [typ, tyP, e, g1.keep i (List.getElem?_eq_some_iff.mp e).1]
      · rename_i i kk e; simp [typ, tyP, e, g1.keep i (List.getElem?_eq_some_iff.mp e).1]
    · have hne : ∀ {b : Bool}, areCh row (.tup ts) = b → Q (.bl b) h1 := fun {b} e => by
        have := q h1 g1
        rwa [e] at this
      have elen : decide (ts.length = row.length) = true := decide_eq_true hl
      by_cases hall : ∀ x ∈ ts, ∃ xs, x = PV.tup xs
      · refine .inr ⟨?_, ?_⟩
        · intro hf
          obtain ⟨x, hx, e2⟩ := List.mem_map.mp hf
          obtain ⟨xs, rfl⟩ := hall x hx
          cases e2
        rw [len_row, eqP_int]
        cases row with
        | nil =>
          refine .inr ⟨rfl, hne ?_⟩
          show (decide (ts.length = ([] : List Nat).length) && (true || _)) = true
          rw [decide_eq_true hl]
          rfl
        | cons l0 row =>
          refine .inl ⟨by simp; omega, ?_⟩
          cases ts with
          | nil => simp at hl
          | cons t0 ts =>
            obtain ⟨fs, rfl⟩ := hall t0 (by simp)
            have eA : areCh (l0 :: row) (.tup (.tup fs :: ts)) = (isSize (.int (fs.length : Nat)) && (l0 :: row).all (fun l => decide (l < fs.length)) && (PV.tup fs :: ts).all (isCh (fs.length : Nat))) := by
              show (decide _ && (false || _)) = _
              rw [elen]
              rfl
            have e0 : atI (PV.tup fs :: ts) 0 = some (.tup fs) := at_zero
            simp [-List.append_assoc, -List.length_append, e0]
            refine is_size_wp (k := k + 1) (.int _) ?_
            have hq : ∀ {b : Bool}, areCh (l0 :: row) (.tup (.tup fs :: ts)) = b → ∀ h2, Gr h1 h2 → Q (.bl b) h2 := fun {b} e h2 g2 => by
              have := q h2 (g1.trans g2)
              rwa [e] at this
            cases es : isSize (.int (fs.length : Nat)) with
            | false =>
              refine .inl ⟨rfl, hq ?_ h1 .refl⟩
              rw [eA, es]
              rfl
            | true =>
              refine .inr ⟨rfl, ?_⟩
              have hs : (2 : Int) ≤ (fs.length : Nat) ∧ ((fs.length : Nat) : Int) ≤ 4 := by
                have e3 : (decide ((2 : Int) ≤ (fs.length : Nat)) && decide (((fs.length : Nat) : Int) ≤ 4)) = true := es
                rw [Bool.and_eq_true] at e3
                exact ⟨of_decide_eq_true e3.1, of_decide_eq_true e3.2⟩
              rw [p_max1]
              obtain ⟨M, m1, m2⟩ := max_row (s := fs.length) (row := l0 :: row) (by simp)
              refine ⟨_, row_ints, M, m1, ?_⟩
              rw [p_lt, m2]
              cases em : (l0 :: row).all (fun l => decide (l < fs.length)) with
              | false =>
                refine .inl ⟨rfl, hq ?_ h1 .refl⟩
                rw [eA, es, em]
                rfl
              | true =>
                refine .inr ⟨rfl, ?_⟩
                refine lc_bools (xs := .tup fs :: ts) (p := isCh (fs.length : Nat)) (fun R hR => by simp [slot]; exact hR) (by rw [sizeLine_eq]; omega) (fun x hx h2 g2 => ?_) fun h2 g2 => ?_
                · have ax := ((a.gr g1).gr g2).all x hx
                  simp [slot, wipeE, Con.pv]
                  exact raw_is_chances_wp (k := k + 1) hs hB ax fun h3 g3 => ⟨rfl, g3⟩
                · refine hq ?_ h2 g2
                  rw [eA, es, em, List.all_map]
                  rfl
      · have hx : ∃ x ∈ ts, ¬ ∃ xs, x = PV.tup xs := Classical.byContradiction fun z => hall fun x hx => Classical.byContradiction fun z2 => z ⟨x, hx, z2⟩
        obtain ⟨x, hx, hno⟩ := hx
        refine .inl ⟨List.mem_map.mpr ⟨x, hx, typ_no (a.all x hx).ok hno⟩, hne ?_⟩
        cases row with
        | nil =>
          have : ts = [] := List.eq_nil_of_length_eq_zero hl
          rw [this] at hx
          cases hx
        | cons l0 row =>
          show (decide _ && (false || _)) = false
          rw [elen]
          have hf : ∀ s : Int, ts.all (isCh s) = false := fun s => by
            rw [List.all_eq_false]
            exact ⟨x, hx, by rw [isCh_no hno]; decide⟩
          simp only [Bool.true_and, Bool.false_or]
          split
          · rename_i fs ts'
            rw [hf, Bool.and_false]
          · rfl
theorem in_234 {n : Nat} {o : Nat} (e : ownL h o = some [.int 2, .int 3, .int 4]) : inP h (.int (n : Nat)) (.obj o) = some (isSize (.int (n : Nat))) := by
  unfold inP
  have e1 : itemsP h (.obj o) = some [.int 2, .int 3, .int 4] := by
    unfold ownL at e
    unfold itemsP
    split at e
    · rename_i ys hy
      cases e
      simp [hy]
    · cases e
  rw [e1]
  show (if (true && (true && true && true)) = true then _ else none) = _
  rw [if_pos (by rfl)]
  congr 1
  show (((2 : Int) == (n : Nat)) || (((3 : Int) == (n : Nat)) || (((4 : Int) == (n : Nat)) || false))) = (decide ((2 : Int) ≤ (n : Nat)) && decide (((n : Nat) : Int) ≤ 4))
  rw [Bool.eq_iff_iff]
  simp
  omega
theorem l_are_chances_wp [Jf P] [Fq P] [Jc P] [Jn P] {row : List Nat} (hr : row.length ≤ 1000) (hB : B < 2 ^ 102) (a : Val h B L v) (q : ∀ h', Gr h h' → Q (.bl (areCh row v)) h') : wp (callF P (k + 5) "_law_are_chances" [rowV row, v]) h Q E := by
  rw [wp_call Jn.are_chances rfl]
  unfold b_law_are_chances
  simp [-List.append_assoc, -List.length_append, slot, Con.pv]
  rw [len_row]
  refine l_long_wp a.ok ?_
  simp [-List.append_assoc, -List.length_append]
  cases e : isTup v (row.length : Nat) with
  | false =>
    refine .inl ⟨rfl, ?_⟩
    have e2 : areCh row v = false := by
      unfold areCh
      split
      · rename_i ts
        have e3 : decide (((ts.length : Nat) : Int) = (row.length : Nat)) = false := e
        have : decide (ts.length = row.length) = false := by
          rw [decide_eq_false_iff_not] at e3 ⊢
          omega
        rw [this]
        rfl
      · rfl
    have := q h .refl
    rwa [e2] at this
  | true =>
    refine .inr ⟨rfl, ?_⟩
    obtain ⟨ts, rfl, hl⟩ := tup_of e
    have hl : ts.length = row.length := by omega
    have elen : decide (ts.length = row.length) = true := decide_eq_true hl
    rw [len_row, eqP_int]
    cases row with
    | nil =>
      refine .inr ⟨rfl, ?_⟩
      have : areCh [] (.tup ts) = true := by
        show (decide (ts.length = ([] : List Nat).length) && (true || _)) = true
        rw [decide_eq_true hl]
        rfl
      have q1 := q h .refl
      rwa [this] at q1
    | cons l0 row =>
      refine .inl ⟨by simp; omega, ?_⟩
      cases ts with
      | nil => simp at hl
      | cons t0 ts =>
        have e0 : atI (t0 :: ts) 0 = some t0 := at_zero
        have a0 := a.all t0 (by simp)
        simp [-List.append_assoc, -List.length_append, slot, Con.pv, e0, a0.ok.ty]
        by_cases ht : ∃ fs, t0 = PV.tup fs
        · obtain ⟨fs, rfl⟩ := ht
          have s1 : (typ h (PV.tup fs)).sub PTy.tuple = true := rfl
          simp [-List.append_assoc, -List.length_append, slot, Con.pv, e0, s1]
          have ein := in_234 (h := h ++ [PO.lst .own [PV.int 2, .int 3, .int 4]]) (n := fs.length) ownL_app
          have g1 : Gr h (h ++ [PO.lst .own [PV.int 2, .int 3, .int 4]]) := .app
          generalize h ++ [PO.lst .own [PV.int 2, .int 3, .int 4]] = h1 at g1 ein
          have eA : areCh (l0 :: row) (.tup (.tup fs :: ts)) = (isSize (.int (fs.length : Nat)) && (l0 :: row).all (fun l => decide (l < fs.length)) && (PV.tup fs :: ts).all (isCh (fs.length : Nat))) := by
            show (decide _ && (false || _)) = _
            rw [elen]
            rfl
          have hq : ∀ {b : Bool}, areCh (l0 :: row) (.tup (.tup fs :: ts)) = b → ∀ h2, Gr h1 h2 → Q (.bl b) h2 := fun {b} e h2 g2 => by
            have := q h2 (g1.trans g2)
            rwa [e] at this
          cases es : isSize (.int (fs.length : Nat)) with
          | false =>
            refine .inl ⟨by rw [ein, es], hq ?_ h1 .refl⟩
            rw [eA, es]
            rfl
          | true =>
            refine .inr ⟨by rw [ein, es], ?_⟩
            have hs : (2 : Int) ≤ (fs.length : Nat) ∧ ((fs.length : Nat) : Int) ≤ 4 := by
              have e3 : (decide ((2 : Int) ≤ (fs.length : Nat)) && decide (((fs.length : Nat) : Int) ≤ 4)) = true := es
              rw [Bool.and_eq_true] at e3
              exact ⟨of_decide_eq_true e3.1, of_decide_eq_true e3.2⟩
            rw [p_max1]
            obtain ⟨M, m1, m2⟩ := max_row (s := fs.length) (row := l0 :: row) (by simp)
            refine ⟨_, row_ints, M, m1, ?_⟩
            have m3 : decide (((fs.length : Nat) : Int) ≤ M) = !((l0 :: row).all (fun l => decide (l < fs.length))) := by
              rw [← m2, Bool.eq_iff_iff]
              simp
            rw [p_ge, m3]
            cases em : (l0 :: row).all (fun l => decide (l < fs.length)) with
            | false =>
              refine .inr ⟨rfl, hq ?_ h1 .refl⟩
              rw [eA, es, em]
              rfl
            | true =>
              refine .inl ⟨rfl, ?_⟩
              refine lc_bools (xs := .tup fs :: ts) (p := isCh (fs.length : Nat)) (fun R hR => by simp [slot]; exact hR) (by rw [sizeLine_eq]; omega) (fun x hx h2 g2 => ?_) fun h2 g2 => ?_
              · have ax := ((a.gr g1).gr g2).all x hx
                simp [slot, wipeE, Con.pv, e0]
                exact l_chances_fit_wp (k := k) hs hB ax fun h3 g3 => ⟨rfl, g3⟩
              · refine hq ?_ h2 g2
                rw [eA, es, em, List.all_map]
                rfl
        · have s1 : (typ h t0).sub PTy.tuple = false := typ_no a0.ok ht
          simp [s1]
          have : areCh (l0 :: row) (.tup (t0 :: ts)) = false := by
            show (decide _ && (false || _)) = false
            rw [elen]
            simp only [Bool.true_and, Bool.false_or]
            split
            · rename_i fs ts' he
              cases he
              exact absurd ⟨_, rfl⟩ ht
            · rfl
          have q1 := q h .refl
          rwa [this] at q1
end PK

set_option Elab.async false
set_option linter.all false
set_option maxRecDepth 100000
set_option maxHeartbeats 4000000
set_option exponentiation.threshold 5000
/-! PK04b: chances by a bottom for all; what rows miss by them. -/
namespace PK
open PySem MP L2
class Ms (P : Prog) : Prop where
  misses : Has P "misses" 2 5 b_misses
class Du (P : Prog) : Prop where
  due : Has P "_law_due" 2 4 b_law_due
variable {P : Prog} {k : Nat} {h h' : PH} {E : Str → PH → Prop} {v : PV} {Q : PV → PH → Prop} {B L : Nat} {D s : Nat} {m n : Int} {row : List Nat} {chs : List (List Int)}
def chV (D : Nat) (ns : List Int) : PV := .tup (ns.map fun n => frV (fr D n))
def toldV (D : Nat) (chs : List (List Int)) : PV := .tup (chs.map (chV D))
/-- chances of one size, by one bottom -/
structure Tol (D s : Nat) (row : List Nat) (chs : List (List Int)) : Prop where
  len : chs.length = row.length
  siz : ∀ ns ∈ chs, ns.length = s
  nn : ∀ ns ∈ chs, ∀ n ∈ ns, 0 ≤ n
  sum : ∀ ns ∈ chs, ns.sum = D
  s2 : 2 ≤ s ∧ s ≤ 4
  lt : ∀ l ∈ row, l < s
def missN (D : Nat) : List Nat → List (List Int) → Int
  | l :: row, ns :: chs => ((D : Int) - ns.getD l 0) + missN D row chs
  | _, _ => 0
theorem missN_app {D : Nat} : ∀ {row : List Nat} {chs : List (List Int)} {row2 : List Nat} {chs2 : List (List Int)}, chs.length = row.length → missN D (row ++ row2) (chs ++ chs2) = missN D row chs + missN D row2 chs2
  | [], [], _, _, _ => by simp [missN]
  | l :: row, ns :: chs, row2, chs2, h => by
    show ((D : Int) - ns.getD l 0) + missN D (row ++ row2) (chs ++ chs2) = ((D : Int) - ns.getD l 0) + missN D row chs + _
    rw [missN_app (by simpa using h)]
    omega
  | [], _ :: _, _, _, h => by cases h
  | _ :: _, [], _, _, h => by cases h
theorem sum_nn : ∀ {ns : List Int}, (∀ n ∈ ns, 0 ≤ n) → 0 ≤ ns.sum
  | [], _ => by simp
  | n :: ns, h => by
    have h1 := h n (by simp)
    have h2 := sum_nn (ns := ns) fun x hx => h x (List.mem_cons_of_mem _ hx)
    rw [List.sum_cons]
    omega
theorem le_sum : ∀ {ns : List Int}, (∀ n ∈ ns, 0 ≤ n) → ∀ n ∈ ns, n ≤ ns.sum
  | m :: ns, h, n, hn => by
    have h1 := h m (by simp)
    have h2 : ∀ x ∈ ns, 0 ≤ x := fun x hx => h x (List.mem_cons_of_mem _ hx)
    rw [List.sum_cons]
    rcases List.mem_cons.mp hn with rfl | hn
    · have := sum_nn h2; omega
    · have := le_sum h2 n hn; omega
theorem getD_mem {ns : List Int} {l : Nat} (hl : l < ns.length) : ns.getD l 0 ∈ ns := by
  rw [List.getD_eq_getElem?_getD, List.getElem?_eq_getElem hl]
  exact List.getElem_mem hl
theorem Tol.part (t : Tol D s row chs) {ns : List Int} (hn : ns ∈ chs) {l : Nat} (hl : l ∈ row) : 0 ≤ ns.getD l 0 ∧ ns.getD l 0 ≤ D := by
  have hlt : l < ns.length := by rw [t.siz ns hn]; exact t.lt l hl
  have hm := getD_mem hlt
  exact ⟨t.nn ns hn _ hm, by rw [← t.sum ns hn]; exact le_sum (t.nn ns hn) _ hm⟩
theorem missN_bound {D : Nat} : ∀ {row : List Nat} {chs : List (List Int)}, (∀ ns ∈ chs, ∀ l ∈ row, 0 ≤ ns.getD l 0 ∧ ns.getD l 0 ≤ (D : Int)) → 0 ≤ missN D row chs ∧ missN D row chs ≤ row.length * D
  | [], _, _ => by cases ‹List (List Int)› <;> simp [missN]
  | l :: row, [], _ => by simp [missN]; exact Int.mul_nonneg (by omega) (by omega)
  | l :: row, ns :: chs, h => by
    have h1 := h ns (by simp) l (by simp)
    have h2 := missN_bound (D := D) (row := row) (chs := chs) fun ns hn l hl => h ns (List.mem_cons_of_mem _ hn) l (List.mem_cons_of_mem _ hl)
    have e : missN D (l :: row) (ns :: chs) = ((D : Int) - ns.getD l 0) + missN D row chs := rfl
    rw [e]
    have e2 : (((l :: row).length : Nat) : Int) * (D : Int) = (row.length : Int) * D + D := by
      rw [List.length_cons, Int.natCast_add, Int.add_mul]
      simp
    rw [e2]
    omega
theorem Tol.bound (t : Tol D s row chs) : 0 ≤ missN D row chs ∧ missN D row chs ≤ row.length * D := missN_bound fun ns hn l hl => t.part hn hl
theorem Tol.take (t : Tol D s row chs) (i : Nat) : Tol D s (row.take i) (chs.take i) := ⟨by rw [List.length_take, List.length_take, t.len], fun ns hn => t.siz ns (List.mem_of_mem_take hn), fun ns hn => t.nn ns (List.mem_of_mem_take hn), fun ns hn => t.sum ns (List.mem_of_mem_take hn), t.s2, fun l hl => t.lt l (List.mem_of_mem_take hl)⟩
theorem Tol.drop (t : Tol D s row chs) (i : Nat) : Tol D s (row.drop i) (chs.drop i) := ⟨by rw [List.length_drop, List.length_drop, t.len], fun ns hn => t.siz ns (List.mem_of_mem_drop hn), fun ns hn => t.nn ns (List.mem_of_mem_drop hn), fun ns hn => t.sum ns (List.mem_of_mem_drop hn), t.s2, fun l hl => t.lt l (List.mem_of_mem_drop hl)⟩
theorem fr_one (hD : 0 < D) : fr D (D : Int) = (1, 1) := by
  have := fr_of (t := 1) (b := 1) (D := D) (by decide) hD (by decide) (Int.one_dvd _)
  rw [this]
  simp
theorem isPart_fr (hD : 0 < D) (hn : 0 ≤ n) : isPart (frV (fr D n)) = true := by
  have h1 := fr_pos (n := n) hD
  have h2 := fr_cop (n := n) hD
  have h3 := fr_mul (D := D) (n := n)
  have h4 : 0 ≤ (fr D n).1 := by
    have : 0 ≤ (fr D n).1 * (D : Int) := by rw [h3]; exact Int.mul_nonneg hn (by omega)
    exact Classical.byContradiction fun z => by
      have : (fr D n).1 * (D : Int) < 0 := Int.mul_neg_of_neg_of_pos (by omega) (by omega)
      omega
  unfold isPart frV
  simp only [h2]
  rw [decide_eq_true (show 1 ≤ (fr D n).2 by omega), decide_eq_true h4]
  rfl
theorem isCh_fr (hD : 0 < D) {ns : List Int} (hs : ns.length = s) (hn : ∀ n ∈ ns, 0 ≤ n) (hsum : ns.sum = D) : isCh (s : Nat) (chV D ns) = true := by
  unfold chV
  show (decide (((ns.map fun n => frV (fr D n)).length : Int) = (s : Nat)) && (ns.map fun n => frV (fr D n)).all isPart && (sumF (0, 1) ((ns.map fun n => frV (fr D n)).map partOf) == (1, 1))) = true
  have e1 : (ns.map fun n => frV (fr D n)).map partOf = ns.map (fr D) := by rw [List.map_map]; rfl
  have e2 : (ns.map fun n => frV (fr D n)).all isPart = true := by
    rw [List.all_eq_true]
    intro x hx
    obtain ⟨n, hm, rfl⟩ := List.mem_map.mp hx
    exact isPart_fr hD (hn n hm)
  have e3 : sumF (0, 1) (ns.map (fr D)) = (1, 1) := by
    rw [← fr_zero hD, sumF_fr hD, hsum, Int.zero_add, fr_one hD]
  rw [e1, e2, e3, List.length_map, hs]
  simp
theorem Tol.ok (hD : 0 < D) (t : Tol D s row chs) : areCh row (toldV D chs) = true := by
  unfold toldV
  show (decide ((chs.map (chV D)).length = row.length) && (row.isEmpty || _)) = true
  rw [List.length_map, decide_eq_true t.len]
  cases hr : row with
  | nil => rfl
  | cons l0 row0 =>
    cases hc : chs with
    | nil =>
      have := t.len
      rw [hr, hc] at this
      cases this
    | cons ns0 chs0 =>
      have e1 : (ns0.map fun n => frV (fr D n)).length = s := by rw [List.length_map]; exact t.siz ns0 (by rw [hc]; simp)
      show (true && (false || (isSize (.int ((ns0.map fun n => frV (fr D n)).length : Nat)) && (l0 :: row0).all (fun l => decide (l < (ns0.map fun n => frV (fr D n)).length)) && ((ns0 :: chs0).map (chV D)).all (isCh ((ns0.map fun n => frV (fr D n)).length : Nat))))) = true
      rw [e1]
      have e2 : isSize (.int (s : Nat)) = true := by
        show (decide ((2 : Int) ≤ (s : Nat)) && decide (((s : Nat) : Int) ≤ 4)) = true
        have := t.s2
        rw [decide_eq_true (by omega), decide_eq_true (by omega)]
        rfl
      have e3 : (l0 :: row0).all (fun l => decide (l < s)) = true := by
        rw [List.all_eq_true]
        intro l hl
        exact decide_eq_true (t.lt l (by rw [hr]; exact hl))
      have e4 : ((ns0 :: chs0).map (chV D)).all (isCh (s : Nat)) = true := by
        rw [List.all_eq_true]
        intro x hx
        obtain ⟨ns, hm, rfl⟩ := List.mem_map.mp hx
        rw [← hc] at hm
        exact isCh_fr hD (t.siz ns hm) (t.nn ns hm) (t.sum ns hm)
      rw [e2, e3, e4]
      rfl
theorem tol_of (hD : 0 < D) (e : areCh row v = true) (hf : ∀ ts, v = .tup ts → ∀ t ∈ ts, ∀ fs, t = .tup fs → ∀ f ∈ fs, ∀ a b, f = .tup [.int a, .int b] → 1 ≤ b → b ∣ (D : Int)) : ∃ s chs, Tol D s row chs ∧ v = toldV D chs := by
  unfold areCh at e
  split at e
  · rename_i ts
    rw [Bool.and_eq_true, decide_eq_true_eq] at e
    obtain ⟨hl, e⟩ := e
    cases hr : row with
    | nil =>
      rw [hr] at hl
      have : ts = [] := List.eq_nil_of_length_eq_zero hl
      subst this
      exact ⟨2, [], ⟨rfl, by simp, by simp, by simp, by decide, by simp⟩, rfl⟩
    | cons l0 row0 =>
      rw [hr] at e hl
      simp only [List.isEmpty_cons, Bool.false_or] at e
      split at e
      · rename_i fs0 ts0
        simp only [Bool.and_eq_true] at e
        obtain ⟨⟨e1, e2⟩, e3⟩ := e
        have hs : (2 : Int) ≤ (fs0.length : Nat) ∧ ((fs0.length : Nat) : Int) ≤ 4 := by
          have e3 : (decide ((2 : Int) ≤ (fs0.length : Nat)) && decide (((fs0.length : Nat) : Int) ≤ 4)) = true := e1
          rw [Bool.and_eq_true] at e3
          exact ⟨of_decide_eq_true e3.1, of_decide_eq_true e3.2⟩
        have each : ∀ t ∈ (PV.tup fs0 :: ts0), ∃ ns : List Int, t = chV D ns ∧ (ns.length = fs0.length ∧ (∀ n ∈ ns, 0 ≤ n) ∧ ns.sum = D) := fun t ht => by
          have et := List.all_eq_true.mp e3 t ht
          unfold isCh at et
          split at et
          · rename_i xs
            simp only [Bool.and_eq_true, decide_eq_true_eq, beq_iff_eq] at et
            obtain ⟨⟨a1, a2⟩, a3⟩ := et
            obtain ⟨fs, rfl, hp, hfs⟩ := parts_of a2
            have hdv : ∀ f ∈ fs, f.2 ∣ (D : Int) := fun f hm => hf _ rfl _ ht _ rfl (frV f) (List.mem_map_of_mem hm) f.1 f.2 rfl (hfs f hm).1
            have efr : ∀ f ∈ fs, f = fr D (f.1 * ((D : Int) / f.2)) := fun f hm => by
              obtain ⟨c1, c2, c3⟩ := hfs f hm
              exact fr_of (by omega) hD c2 (hdv f hm)
            have emap : fs = (fs.map fun f => f.1 * ((D : Int) / f.2)).map (fr D) := by
              rw [List.map_map]
              conv => lhs; rw [← List.map_id fs]
              exact List.map_congr_left fun f hm => efr f hm
            refine ⟨fs.map fun f => f.1 * ((D : Int) / f.2), ?_, ?_, ?_, ?_⟩
            · unfold chV
              conv => lhs; rw [emap]
              rw [List.map_map]
              rfl
            · rw [List.length_map] at a1 ⊢
              omega
            · intro n hn
              obtain ⟨f, hm, rfl⟩ := List.mem_map.mp hn
              obtain ⟨c1, c2, c3⟩ := hfs f hm
              exact Int.mul_nonneg c3 (Int.ediv_nonneg (by omega) (by omega))
            · rw [hp] at a3
              rw [emap, ← fr_zero hD, sumF_fr hD, Int.zero_add] at a3
              have := fr_one hD
              rw [← a3] at this
              exact (fr_inj hD this).symm
          · cases et
        obtain ⟨chs, ec, hc⟩ := list_of (f := chV D) (p := fun ns => ns.length = fs0.length ∧ (∀ n ∈ ns, 0 ≤ n) ∧ ns.sum = D) each
        refine ⟨fs0.length, chs, ⟨?_, fun ns hn => (hc ns hn).1, fun ns hn => (hc ns hn).2.1, fun ns hn => (hc ns hn).2.2, by omega, ?_⟩, ?_⟩
        · rw [← hl, ec, List.length_map]
        · intro l hm
          exact of_decide_eq_true (List.all_eq_true.mp e2 l hm)
        · unfold toldV
          rw [ec]
      · cases e
  · cases e
end PK

set_option Elab.async false
set_option linter.all false
set_option maxRecDepth 100000
set_option maxHeartbeats 4000000
set_option exponentiation.threshold 5000
/-! PK04c: misses and what is due, run. -/
namespace PK
open PySem MP L2
variable {P : Prog} {k : Nat} {h h' : PH} {E : Str → PH → Prop} {v : PV} {Q : PV → PH → Prop} {B L : Nat} {D s : Nat} {m n : Int} {row : List Nat} {chs : List (List Int)}
theorem top_miss (hD : Bot D) {x : Int} {c : Nat} (h0 : 0 ≤ x) (h1 : x ≤ c * D) (hc : c ≤ 1000000) : Top x := by
  unfold Top
  have hd := hD.small
  have e : x.natAbs ≤ c * D := by
    have : ((c * D : Nat) : Int) = (c : Int) * D := by simp
    omega
  refine Nat.lt_of_le_of_lt (Nat.le_trans e (Nat.mul_le_mul hc (Nat.le_of_lt hd))) ?_
  decide +kernel
theorem top_part (hD : Bot D) {x : Int} (h0 : 0 ≤ x) (h1 : x ≤ D) : Top x := top_miss (c := 1) hD h0 (by omega) (by decide)
theorem at_ch {l : Nat} {ns : List Int} (hl : l < ns.length) : atI (ns.map fun n => frV (fr D n)) ((l : Nat) : Int) = some (frV (fr D (ns.getD l 0))) := by
  rw [atI_map hl, List.getD_eq_getElem?_getD, List.getElem?_eq_getElem hl]
  rfl
theorem misses_loop {i l : Nat} {ns : List Int} (hi : row[i]? = some l) (hc : chs[i]? = some ns) (t : chs.length = row.length) : missN D (row.take (i + 1)) (chs.take (i + 1)) = missN D (row.take i) (chs.take i) + ((D : Int) - ns.getD l 0) := by
  rw [List.take_add_one, List.take_add_one, hi, hc]
  show missN D (row.take i ++ [l]) (chs.take i ++ [ns]) = _
  rw [missN_app (by rw [List.length_take, List.length_take, t])]
  simp [missN]
theorem misses_wp [Ck P] [Mf P] [Mz P] [Mr P] [Cr P] [Fp P] [Fm P] [Ng P] [Rk P] [Ar P] [Ms P] (hD : Bot D) (hl : row.length ≤ 400) (hr : ∀ l ∈ row, l < 4) (t : Tol D s row chs) (hB : B < 2 ^ 102) (a : ∀ h, Val h B L (toldV D chs)) (q : ∀ h', Gr h h' → Q (frV (fr D (missN D row chs))) h') : wp (callF P (k + 6) "misses" [rowV row, toldV D chs]) h Q E := by
  rw [wp_call Ms.misses rfl]
  unfold b_misses
  simp [-List.append_assoc, -List.length_append, slot, Con.pv, Mz.MOST_SIZE]
  refine check_row_ok (k := k) (s := 4) ok_row (isRow_ok (s := 4) hl hr) fun h1 g1 => ?_
  refine are_chances_wp (k := k) (by omega) hB (a h1) fun h2 g2 => ?_
  rw [t.ok hD.pos]
  simp [-List.append_assoc, -List.length_append, slot, Con.pv]
  refine ⟨_, Ng.NOUGHT, ?_⟩
  rw [s_for]
  unfold rowV toldV
  simp [-List.append_assoc, -List.length_append, -List.map_map, slot, Con.pv]
  have ez : frV (fr D 0) = .tup [.int 0, .int 1] := by rw [fr_zero hD.pos]; rfl
  have hlen := t.len
  have es : (Itr.zipT (row.map fun l => PV.int (l : Nat)) (chs.map (chV D))).size h2 = row.length := by
    show min (row.map _).length (chs.map (chV D)).length = _
    rw [List.length_map, List.length_map, hlen, Nat.min_self]
  rw [es]
  have hzl : (zipW (row.map fun l => PV.int (l : Nat)) (chs.map (chV D))).length = row.length := by
    rw [zipW_len, List.length_map, List.length_map, hlen, Nat.min_self]
  obtain ⟨J, hJ⟩ : ∃ J : Nat → Env' → PH → Prop, ∀ i env h', J i env h' ↔ (h' = h2 ∧ ∃ e3 e4, env = [some (rowV row), some (toldV D chs), some (frV (fr D (missN D (row.take i) (chs.take i)))), e3, e4]) := ⟨_, fun _ _ _ => Iff.rfl⟩
  refine wp_for_at (xs := zipW (row.map fun l => PV.int (l : Nat)) (chs.map (chV D))) J (fun i e h _ => by show some (zipAt _ _ i) = _; rw [zipAt_eq]) ?_ ?_ _ 0 _ _ (by rw [hzl, Nat.zero_add]) ((hJ _ _ _).mpr ⟨rfl, none, none, ?_⟩)
  · intro i y env h3 hy hj
    obtain ⟨rfl, e3, e4, rfl⟩ := (hJ _ _ _).mp hj
    have hi : i < row.length := by rw [← hzl]; exact (List.getElem?_eq_some_iff.mp hy).1
    have hrow : row[i]? = some row[i] := List.getElem?_eq_getElem hi
    have hch : chs[i]? = some (chs[i]'(by omega)) := List.getElem?_eq_getElem (by omega)
    generalize row[i] = l at hrow
    generalize chs[i]'(by omega) = ns at hch
    have ey : y = .tup [.int (l : Nat), chV D ns] := by
      unfold zipW at hy
      rw [List.getElem?_zipWith, List.getElem?_map, List.getElem?_map, hrow, hch] at hy
      exact (Option.some.inj hy).symm
    subst ey
    have hm := List.mem_of_getElem? hch
    have hlm := List.mem_of_getElem? hrow
    have hb := (t.take i).bound
    have hp := t.part hm hlm
    have hln : l < ns.length := by rw [t.siz ns hm]; exact t.lt l hlm
    refine ⟨_, rfl, ?_⟩
    unfold chV
    simp [-List.append_assoc, -List.length_append, -List.map_map, slot, Con.pv]
    refine ⟨_, On.ONE, _, at_ch hln, ?_⟩
    have eo : PV.tup ([1, 1].map PV.int) = frV (fr D (D : Int)) := by rw [fr_one hD.pos]; rfl
    rw [eo]
    have htl : (row.take i).length ≤ 400 := by rw [List.length_take]; omega
    have htake : missN D (row.take i) (chs.take i) ≤ ((400 : Nat) : Int) * D := Int.le_trans hb.2 (Int.mul_le_mul_of_nonneg_right (by omega) (by omega))
    refine minus_wp (k := k + 3) hD (top_part hD (by omega) (by omega)) (top_part hD hp.1 hp.2) ?_
    refine plus_wp (k := k + 3) hD (top_miss (c := 400) hD hb.1 htake (by decide)) (top_part hD (by omega) (by omega)) ?_
    exact (hJ _ _ _).mpr ⟨rfl, _, _, by rw [misses_loop hrow hch hlen]⟩
  · intro env h3 hj
    obtain ⟨rfl, e3, e4, rfl⟩ := (hJ _ _ _).mp hj
    rw [hzl]
    have et : row.take row.length = row := List.take_of_length_le (by omega)
    have et2 : chs.take row.length = chs := List.take_of_length_le (by omega)
    rw [et, et2]
    simp [slot]
    exact q _ (g1.trans g2)
  · show _ = [_, _, some (frV (fr D 0)), none, none]
    rw [ez]
    rfl
theorem due_wp [Fq P] [Fl P] [Du P] (hD : Bot D) (hl : row.length ≤ 400) (t : Tol D s row chs) (q : Q (frV (fr D (missN D row chs))) h) : wp (callF P (k + 4) "_law_due" [rowV row, toldV D chs]) h Q E := by
  rw [wp_call Du.due rfl]
  unfold b_law_due
  simp [-List.append_assoc, -List.length_append, slot, Con.pv]
  rw [s_for]
  have hsm : smallI (row.length : Nat) = true := by simp [smallI]; omega
  simp [-List.append_assoc, -List.length_append, slot, Con.pv]
  rw [len_row]
  simp [-List.append_assoc, -List.length_append, slot, Con.pv, hsm]
  have ez : frV (fr D 0) = .tup [.int 0, .int 1] := by rw [fr_zero hD.pos]; rfl
  have eo : frV (fr D (D : Int)) = .tup [.int 1, .int 1] := by rw [fr_one hD.pos]; rfl
  have hlen := t.len
  obtain ⟨J, hJ⟩ : ∃ J : Nat → Env' → PH → Prop, ∀ i env h', J i env h' ↔ (h' = h ∧ ∃ e3, env = [some (rowV row), some (toldV D chs), some (frV (fr D (missN D (row.take i) (chs.take i)))), e3]) := ⟨_, fun _ _ _ => Iff.rfl⟩
  refine wp_for_rng J ?_ ?_ row.length 0 _ _ (by simp) ((hJ _ _ _).mpr ⟨rfl, none, ?_⟩)
  · intro i env h3 hi hj
    obtain ⟨rfl, e3, rfl⟩ := (hJ _ _ _).mp hj
    have hrow : row[i]? = some row[i] := List.getElem?_eq_getElem hi
    have hch : chs[i]? = some (chs[i]'(by omega)) := List.getElem?_eq_getElem (by omega)
    have ea : atI (row.map fun l => PV.int (l : Nat)) ((i : Nat) : Int) = some (.int (row[i] : Nat)) := atI_map hi
    have eb : atI (chs.map (chV D)) ((i : Nat) : Int) = some (chV D (chs[i]'(by omega))) := atI_map (by omega)
    generalize row[i] = l at hrow ea
    generalize chs[i]'(by omega) = ns at hch eb
    have hm := List.mem_of_getElem? hch
    have hlm := List.mem_of_getElem? hrow
    have hb := (t.take i).bound
    have hp := t.part hm hlm
    have hln : l < ns.length := by rw [t.siz ns hm]; exact t.lt l hlm
    refine ⟨_, rfl, ?_⟩
    simp [-List.append_assoc, -List.length_append, -List.map_map, slot, Con.pv]
    unfold toldV rowV
    simp only [p_ixT]
    refine ⟨_, eb, ?_⟩
    unfold chV
    rw [ea]
    refine ⟨_, rfl, ?_⟩
    rw [p_ixT]
    refine ⟨_, at_ch hln, ?_⟩
    rw [← eo]
    have htl : (row.take i).length ≤ 400 := by rw [List.length_take]; omega
    have htake : missN D (row.take i) (chs.take i) ≤ ((400 : Nat) : Int) * D := Int.le_trans hb.2 (Int.mul_le_mul_of_nonneg_right (by omega) (by omega))
    refine lless_wp (k := k) hD (top_part hD (by omega) (by omega)) (top_part hD hp.1 hp.2) ?_
    refine lplus_wp (k := k) hD (top_miss (c := 400) hD hb.1 htake (by decide)) (top_part hD (by omega) (by omega)) ?_
    exact (hJ _ _ _).mpr ⟨rfl, _, by rw [misses_loop hrow hch hlen]; rfl⟩
  · intro env h3 hj
    obtain ⟨rfl, e3, rfl⟩ := (hJ _ _ _).mp hj
    have et : row.take row.length = row := List.take_of_length_le (by omega)
    have et2 : chs.take row.length = chs := List.take_of_length_le (by omega)
    rw [et, et2]
    simp [slot]
    exact q
  · show _ = [_, _, some (frV (fr D 0)), none]
    rw [ez]
end PK

set_option Elab.async false
set_option linter.all false
set_option maxRecDepth 100000
set_option maxHeartbeats 4000000
set_option exponentiation.threshold 5000
/-! PK04d: chances drawn. -/
namespace PK
open PySem MP L2
class Dc (P : Prog) : Prop where
  chances : Has P "_law_chances" 2 6 b_law_chances
variable {P : Prog} {k : Nat} {h h' : PH} {E : Str → PH → Prop} {v : PV} {Q : PV → PH → Prop} {B L : Nat} {D s : Nat} {m n : Int} {row : List Nat} {chs : List (List Int)} {w c : Nat}
/-- a bottom for all numbers up to 402 -/
def D0 : Nat := (List.range 402).foldl (fun a i => Nat.lcm a (i + 1)) 1
theorem D0_small : D0 < 2 ^ 600 := by decide +kernel
theorem D0_pos : 0 < D0 := by decide +kernel
theorem D0_all : ((List.range 402).all fun i => D0 % (i + 1) == 0) = true := by decide +kernel
theorem D0_dvd {b : Nat} (h1 : 1 ≤ b) (h2 : b ≤ 402) : b ∣ D0 := by
  have := List.all_eq_true.mp D0_all (b - 1) (List.mem_range.mpr (by omega))
  rw [beq_iff_eq, show b - 1 + 1 = b by omega] at this
  exact Nat.dvd_of_mod_eq_zero this
theorem bot0 : Bot D0 := ⟨D0_pos, Nat.lt_trans D0_small (Nat.pow_lt_pow_right (by decide) (by decide))⟩
structure ChOk (s : Nat) (ns : List Int) : Prop where
  len : ns.length = s
  nn : ∀ n ∈ ns, 0 ≤ n
  sum : ns.sum = D0
  bd : ∀ n ∈ ns, (fr D0 n).1.natAbs ≤ 400 ∧ (fr D0 n).2.natAbs ≤ 400
theorem sum_mul {x : Int} : ∀ {l : List Int}, (l.map fun p => p * x).sum = l.sum * x
  | [] => by simp
  | p :: l => by rw [List.map_cons, List.sum_cons, List.sum_cons, sum_mul, Int.add_mul]
theorem sum_le {l : List Int} {b : Int} (h : ∀ p ∈ l, p ≤ b) : l.sum ≤ l.length * b := by
  induction l with
  | nil => simp
  | cons p l ih =>
    have h1 := h p (by simp)
    have h2 := ih fun x hx => h x (List.mem_cons_of_mem _ hx)
    rw [List.sum_cons, List.length_cons, Int.natCast_add, Int.add_mul]
    simp
    omega
theorem sum_zero {l : List Int} (h : ∀ p ∈ l, 0 ≤ p) (e : l.sum = 0) : ∀ p ∈ l, p = 0 := fun p hp => by
  have h1 := h p hp
  have h2 := le_sum h p hp
  omega
theorem ch_of {ps : List Int} (hl : ps.length = s) (hs : s ≤ 4) (h0 : ∀ p ∈ ps, 0 ≤ p ∧ p ≤ 99) (h1 : 1 ≤ ps.sum) : ChOk s (ps.map fun p => p * ((D0 : Int) / ps.sum)) ∧ ∀ p ∈ ps, nrm p ps.sum = fr D0 (p * ((D0 : Int) / ps.sum)) := by
  have hS : ps.sum ≤ 396 := by
    have := sum_le (l := ps) (b := 99) fun p hp => (h0 p hp).2
    rw [hl] at this
    omega
  have hd : ps.sum ∣ (D0 : Int) := by
    have := D0_dvd (b := ps.sum.toNat) (by omega) (by omega)
    have e : ((ps.sum.toNat : Nat) : Int) = ps.sum := by omega
    rw [← e]
    exact Int.natCast_dvd_natCast.mpr this
  have hm : ps.sum * ((D0 : Int) / ps.sum) = D0 := Int.mul_ediv_cancel' hd
  have hq : 0 ≤ (D0 : Int) / ps.sum := Int.ediv_nonneg (by omega) (by omega)
  have key : ∀ p, nrm p ps.sum = fr D0 (p * ((D0 : Int) / ps.sum)) := fun p => nrm_key (by omega) D0_pos (by
    rw [Int.mul_assoc, Int.mul_comm ((D0 : Int) / ps.sum), hm])
  refine ⟨⟨by simp [hl], fun n hn => ?_, by rw [sum_mul, hm], fun n hn => ?_⟩, fun p _ => key p⟩
  · obtain ⟨p, hp, rfl⟩ := List.mem_map.mp hn
    exact Int.mul_nonneg (h0 p hp).1 hq
  · obtain ⟨p, hp, rfl⟩ := List.mem_map.mp hn
    rw [← key p]
    have a1 := nrm_top_le (t := p) (b := ps.sum) (by omega)
    have a2 := nrm_bot_le (t := p) (b := ps.sum) (by omega)
    have := h0 p hp
    exact ⟨by omega, by omega⟩
theorem own_ltA {o : Nat} {xs : List PV} (e : ownL h o = some xs) : o < h.length := by
  by_cases z : o < h.length
  · exact z
  · unfold ownL at e; rw [List.getElem?_eq_none (by omega)] at e; cases e
theorem sum_set {x : Int} : ∀ {l : List Int} {i : Nat} (hi : i < l.length), (l.set i x).sum = l.sum - l[i] + x
  | y :: l, 0, _ => by simp; omega
  | y :: l, i + 1, hi => by
    have := sum_set (x := x) (l := l) (i := i) (by simpa using hi)
    rw [List.set_cons_succ, List.sum_cons, List.sum_cons, this]
    simp
    omega
theorem eints : ∀ l : List Int, intsP (l.map PV.int) = some l := fun l => by
  induction l with
  | nil => rfl
  | cons x l ih => rw [List.map_cons]; show (intsP _).map _ = _; rw [ih]; rfl
theorem chances_wp [Dr P] [Fs P] [Dc P] (hw : Well h w c) (hs1 : 2 ≤ s) (hs4 : s ≤ 4) (q : ∀ ns h', ChOk s ns → Hx w c h h' → Q (chV D0 ns) h') : wp (callF P (k + 4) "_law_chances" [.obj w, .int (s : Nat)]) h Q E := by
  rw [wp_call Dc.chances rfl]
  unfold b_law_chances
  have hsm : smallI (s : Nat) = true := by simp [smallI]; omega
  have hwl := Well.lt hw
  simp [-List.append_assoc, -List.length_append, slot, Con.pv]
  rw [x_lc]
  simp [-List.append_assoc, -List.length_append, slot, Con.pv, hsm]
  refine wp_lc_rng (fun j acc hh => Hx w c h hh ∧ ∃ ps : List Int, acc = ps.map PV.int ∧ ps.length = j ∧ ∀ p ∈ ps, 0 ≤ p ∧ p ≤ 99) ?_ ?_ ⟨.refl hw, [], rfl, rfl, by simp⟩
  · rintro j acc hh hj ⟨xx, ps, rfl, hpl, hp⟩
    simp [-List.append_assoc, -List.length_append, slot, putT, wipeE, Con.pv]
    refine draw_wp (k := k) xx.well (by omega) (by omega) fun a h1 a0 a1 x1 => ?_
    refine draw_wp (k := k) x1.well (by omega) (by omega) fun b h2 b0 b1 x2 => ?_
    refine pick_wp (k := k) (m := 4) x2.well (by rfl) (by omega) (by omega) fun x hx h3 x3 => ?_
    obtain ⟨p, rfl, p0, p1⟩ : ∃ p : Int, x = .int p ∧ 0 ≤ p ∧ p ≤ 99 := by
      simp at hx
      rcases hx with rfl | rfl | rfl | rfl
      · exact ⟨0, rfl, by omega, by omega⟩
      · exact ⟨1, rfl, by omega, by omega⟩
      · exact ⟨_, rfl, by omega, by omega⟩
      · exact ⟨_, rfl, by omega, by omega⟩
    refine ⟨by rw [hpl, sizeLine_eq]; omega, ((xx.trans x1).trans x2).trans x3, ps ++ [p], by simp, by simp [hpl], ?_⟩
    intro z hz
    rcases List.mem_append.mp hz with hz | hz
    · exact hp z hz
    · rw [List.mem_singleton.mp hz]
      exact ⟨p0, p1⟩
  rintro acc h1 ⟨x1, ps, rfl, hpl, hp⟩
  have g2 := Hx.app (o := .lst .own (ps.map PV.int)) x1.well
  have o2 : ownL (h1 ++ [PO.lst .own (ps.map PV.int)]) h1.length = some (ps.map PV.int) := ownL_app
  have hle := x1.len
  generalize h1 ++ [PO.lst .own (ps.map PV.int)] = h2 at g2 o2
  refine draw_wp (k := k) g2.well (by omega) (by omega) fun a h3 a0 a1 x3 => ?_
  have o3 := x3.own (by omega) o2
  obtain ⟨i, rfl⟩ : ∃ i : Nat, a = (i : Nat) := ⟨a.toNat, by omega⟩
  have hi : i < ps.length := by omega
  simp [-List.append_assoc, -List.length_append, slot, Con.pv]
  have hwle := x3.len
  have hwle2 := g2.len
  have X3 := (x1.trans g2).trans x3
  -- what is left, with some parts
  have rest : ∀ (ps' : List Int) (H : PH), ps'.length = s → (∀ p ∈ ps', 0 ≤ p ∧ p ≤ 99) → 1 ≤ ps'.sum → ownL H h1.length = some (ps'.map PV.int) → Hx w c h H →
      wp (evalE (globOf P (k + 3)) ((MP.E.cl (Str.ofString "_law_part") [MP.E.slot 5, MP.E.bi BI.sum [MP.E.slot 2]]).lc (Tg.nm 5) IK.val [MP.E.slot 2] [] [5]) [some (PV.obj w), some (PV.int (s : Nat)), some (PV.obj h1.length), some (PV.int (i : Nat)), none, none]) H (fun v h1 => wp (biM BI.tuple [v]) h1 Q fun c h' => E c h') fun c h' => E c h' := fun ps' H hl' hp' hs' ho' X => by
    obtain ⟨c1, c2⟩ := ch_of hl' hs4 hp' hs'
    have hS : ps'.sum ≤ 396 := by
      have := sum_le (l := ps') (b := 99) fun p hp => (hp' p hp).2
      rw [hl'] at this
      omega
    rw [x_lc]
    simp [-List.append_assoc, -List.length_append, slot, Con.pv]
    refine ⟨⟨_, lstP_own ho'⟩, ?_⟩
    have es : (Itr.lst h1.length).size H = (ps'.map PV.int).length := by
      show ((lstP _ (.obj h1.length)).getD []).length = _
      rw [lstP_own ho']
      rfl
    rw [es]
    refine wp_lc (xs := ps'.map PV.int) (fun j acc hh => hh = H ∧ acc = (((ps'.take j).map fun p => p * ((D0 : Int) / ps'.sum)).map fun n => frV (fr D0 n))) (fun j acc hh ⟨e, _⟩ => by subst e; show (lstP _ (.obj h1.length)).map (fun xs => xs[j]?) = _; rw [lstP_own ho']; rfl) ?_ ?_ _ 0 [] H (by simp) ⟨rfl, rfl⟩
    · rintro j x acc hh hv ⟨rfl, rfl⟩
      rw [List.getElem?_map] at hv
      cases hz : ps'[j]? with
      | none => rw [hz] at hv; cases hv
      | some z =>
        rw [hz] at hv
        cases hv
        have hj := (List.getElem?_eq_some_iff.mp hz).1
        have hzm := List.mem_of_getElem? hz
        rw [x_lcB0]
        refine ⟨_, rfl, ?_⟩
        simp [-List.append_assoc, -List.length_append, -List.map_map, -List.map_take, slot, wipeE, Con.pv]
        refine ⟨ps', by rw [lstP_own ho']; exact eints _, ?_⟩
        refine part_wp (k := k + 1) (by omega) (Nat.lt_of_lt_of_le (show ps'.sum.natAbs < 2 ^ 10 by omega) (Nat.pow_le_pow_right (by decide) (by decide))) ?_
        refine ⟨by rw [sizeLine_eq]; omega, rfl, ?_⟩
        rw [c2 z hzm, List.take_add_one, hz]
        simp
    · rintro acc hh ⟨rfl, rfl⟩
      have et : ps'.take (ps'.map PV.int).length = ps' := List.take_of_length_le (by simp)
      rw [et]
      exact q _ _ c1 (X.trans (Hx.app X.well))
  have hat : atI (ps.map PV.int) ((i : Nat) : Int) = some (.int ps[i]) := atI_map hi
  have hix : ixN (ps.map PV.int).length ((i : Nat) : Int) = some i := by simp [ixN, hi]
  refine ⟨_, lstP_own o3, _, hat, ps, by rw [lstP_own o3]; exact eints _, ?_⟩
  have hsum := sum_nn (ns := ps) fun p hp0 => (hp p hp0).1
  have go : ∀ d : Int, 0 ≤ ps[i] + d → ps[i] + d ≤ 99 → 1 ≤ ps.sum + d → wp (binM BOp.add (.int ps[i]) (.int d)) h3 (fun v h4 => ∃ xs, ownL h4 h1.length = some xs ∧ ∃ m, ixN xs.length ((i : Nat) : Int) = some m ∧ wp (evalE (globOf P (k + 3)) ((MP.E.cl (Str.ofString "_law_part") [MP.E.slot 5, MP.E.bi BI.sum [MP.E.slot 2]]).lc (Tg.nm 5) IK.val [MP.E.slot 2] [] [5]) [some (PV.obj w), some (PV.int (s : Nat)), some (PV.obj h1.length), some (PV.int (i : Nat)), none, none]) (h4.set h1.length (.lst .own (xs.set m v))) (fun v h1 => wp (biM BI.tuple [v]) h1 Q fun c h' => E c h') fun c h' => E c h') (fun c h' => E c h') := fun d d0 d1 d2 => by
    rw [p_addI]
    refine ⟨_, o3, i, hix, ?_⟩
    have em : (ps.map PV.int).set i (.int (ps[i] + d)) = (ps.set i (ps[i] + d)).map PV.int := by rw [List.map_set]
    rw [em]
    refine rest _ _ (by simp [hpl]) (fun p hp0 => ?_) ?_ (ownL_set (own_ltA o3)) (Hx.set hw X3 hle)
    · rcases List.mem_or_eq_of_mem_set hp0 with h | h
      · exact hp p h
      · omega
    · rw [sum_set hi]
      omega
  have hpi := hp ps[i] (List.getElem_mem _)
  by_cases e : ps.sum = 0
  · have ez := sum_zero (fun p hp0 => (hp p hp0).1) e ps[i] (List.getElem_mem _)
    exact .inr ⟨e, go 1 (by omega) (by omega) (by omega)⟩
  · exact .inl ⟨e, go 0 (by omega) (by omega) (by omega)⟩
end PK

set_option Elab.async false
set_option linter.all false
set_option maxRecDepth 100000
set_option maxHeartbeats 4000000
set_option exponentiation.threshold 5000
/-! PK02a: machines and rows as values that are changed. -/
namespace PK
open PySem MP L2
variable {P : Prog} {k : Nat} {h h' : PH} {E : Str → PH → Prop} {v r : PV} {Q : PV → PH → Prop} {s : Nat} {rs : List (List Stp)} {D : Nat}
theorem depL_map {α : Type} {f : α → PV} {n : Nat} : ∀ {as : List α}, (∀ a ∈ as, depP (f a) ≤ n) → depL (as.map f) ≤ n
  | [], _ => by simp [depL]
  | a :: as, hh => by
    show max (depP (f a)) (depL (as.map f)) ≤ n
    exact Nat.max_le.mpr ⟨hh a (by simp), depL_map fun b hb => hh b (List.mem_cons_of_mem _ hb)⟩
theorem nodesL_map {α : Type} {f : α → PV} {n : Nat} : ∀ {as : List α}, (∀ a ∈ as, nodesP (f a) ≤ n) → nodesL (as.map f) ≤ as.length * n
  | [], _ => by simp [nodesL]
  | a :: as, hh => by
    show nodesP (f a) + nodesL (as.map f) ≤ (as.length + 1) * n
    have h1 := hh a (by simp)
    have h2 := nodesL_map (f := f) (n := n) (as := as) fun b hb => hh b (List.mem_cons_of_mem _ hb)
    rw [Nat.add_mul]
    omega
theorem dep_step {st : Stp} : depP (stepV st) ≤ 3 := by simp [stepV, frV, depP, depL]
theorem nodes_step {st : Stp} : nodesP (stepV st) ≤ 5 := by simp [stepV, frV, nodesP, nodesL]
theorem dep_mach : depP (machV s rs) ≤ 6 := by
  have h1 : depL (rs.map ruleV) ≤ 4 := depL_map fun r _ => by
    show 1 + depL (r.map stepV) ≤ 4
    have := depL_map (f := stepV) (n := 3) (as := r) fun st _ => dep_step
    omega
  show 1 + max 1 (max (1 + depL (rs.map ruleV)) 0) ≤ 6
  omega
theorem nodes_mach (m : MachOk s rs) : nodesP (machV s rs) ≤ 1000 := by
  have h1 : nodesL (rs.map ruleV) ≤ rs.length * 21 := nodesL_map fun r hr => by
    show 1 + nodesL (r.map stepV) ≤ 21
    have := nodesL_map (f := stepV) (n := 5) (as := r) fun st _ => nodes_step
    have := m.len r hr
    have := m.s4
    omega
  have := m.r12
  show 1 + (1 + (1 + nodesL (rs.map ruleV) + 0)) ≤ 1000
  omega
theorem nodes_pos : 1 ≤ nodesP v := by cases v <;> simp [nodesP]
theorem dep_row {row : List Nat} : depP (rowV row) ≤ 2 := by
  have := depL_map (f := fun l : Nat => PV.int (l : Nat)) (n := 1) (as := row) fun l _ => by simp [depP]
  show 1 + depL (row.map fun l : Nat => PV.int (l : Nat)) ≤ 2
  omega
theorem nodes_row {row : List Nat} : nodesP (rowV row) ≤ 1 + row.length := by
  have := nodesL_map (f := fun l : Nat => PV.int (l : Nat)) (n := 1) (as := row) fun l _ => by simp [nodesP]
  show 1 + nodesL (row.map fun l : Nat => PV.int (l : Nat)) ≤ 1 + row.length
  omega
theorem val_map {α : Type} {f : α → PV} {B L : Nat} {as : List α} (hl : as.length ≤ L) (hv : ∀ a ∈ as, Val h B L (f a)) : Val h B L (.tup (as.map f)) := by
  refine .tup _ (by rw [List.length_map]; exact hl) fun x hx => ?_
  obtain ⟨a, ha, rfl⟩ := List.mem_map.mp hx
  exact hv a ha
theorem val_pair {B L : Nat} {x y : PV} (hL : 2 ≤ L) (a : Val h B L x) (b : Val h B L y) : Val h B L (.tup [x, y]) :=
  .tup _ (by simpa using hL) fun z hz => by
    simp at hz
    rcases hz with rfl | rfl
    · exact a
    · exact b
theorem val_mach (m : MachOk s rs) : Val h 1000000 400 (machV s rs) := by
  have := m.s4
  have := m.r12
  refine val_pair (by omega) (.int _ (by omega)) (val_map (by omega) fun r hr => val_map (by have := m.len r hr; omega) fun st hst => ?_)
  have ok := m.ok r hr st hst
  have a1 := ok.1.top
  have a2 := ok.1.bot
  have a3 := ok.1.pos
  exact val_pair (by omega) (val_pair (by omega) (.int _ (by omega)) (.int _ (by omega))) (.int _ (by omega))
theorem val_row {row : List Nat} (hl : row.length ≤ 400) (hs : s ≤ 4) (hr : ∀ l ∈ row, l < s) : Val h 1000000 400 (rowV row) :=
  val_map hl fun l hm => .int _ (by have := hr l hm; omega)
theorem eq_told {x : Str} {y : PV} {d : PyData} (hy : toData h 69 y = some d) (hs : SeqAt.shaped (.tuple [.str x, d]) = true) (he : PyData.eqv d d = true) : eqP h (strV x y) (strV x y) = some true := by
  have e : toData h 70 (strV x y) = some (.tuple [.str x, d]) := by
    show (([PV.str x, y].mapM (toData h 69)).map PyData.tuple) = _
    have e1 : toData h 69 (.str x) = some (.str x) := rfl
    simp [List.mapM_cons, e1, hy]
  unfold eqP
  rw [e]
  show (if (SeqAt.shaped _ && SeqAt.shaped _) = true then _ else none) = _
  rw [hs]
  show some (PyData.eqv (.tuple [.str x, d]) (.tuple [.str x, d])) = _
  congr 1
  show ((x == x) && (PyData.eqv d d && true)) = true
  rw [he]
  simp
end PK

set_option Elab.async false
set_option linter.all false
set_option maxRecDepth 100000
set_option maxHeartbeats 4000000
set_option exponentiation.threshold 5000
/-! PK01a: values whose repr is told, and stays. -/
namespace PK
open PySem MP L2
variable {P : Prog} {k : Nat} {h h' h2 : PH} {E : Str → PH → Prop} {v : PV} {Q : PV → PH → Prop} {w c n n' m m' m1 m2 : Nat} {xs ys : List PV} {x : PV}
/-- all stays but what is at w -/
def Stw (w : Nat) (h h' : PH) : Prop := h.length ≤ h'.length ∧ ∀ j, j < h.length → j ≠ w → h'[j]? = h[j]?
theorem Stw.refl : Stw w h h := ⟨Nat.le_refl _, fun _ _ _ => rfl⟩
theorem Stw.trans (a : Stw w h h') (b : Stw w h' h2) : Stw w h h2 := ⟨Nat.le_trans a.1 b.1, fun j hj hw => (b.2 j (Nat.lt_of_lt_of_le hj a.1) hw).trans (a.2 j hj hw)⟩
theorem Hx.stw (x : Hx w c h h') : Stw w h h' := ⟨x.len, x.keep⟩
theorem Gr.stw (g : Gr h h') : Stw w h h' := ⟨g.len, fun j hj _ => g.keep j hj⟩
theorem Stw.get (a : Stw w h h') {i : Nat} (hi : i ≠ w) {o : PO} (e : h[i]? = some o) : h'[i]? = some o := (a.2 i (List.getElem?_eq_some_iff.mp e).1 hi).trans e
/-- what repr tells of a value: told so deep, so heavy at most -/
def Rpr (h : PH) (w n m : Nat) (v : PV) : Prop := ∃ d : PyData, d.leavesShort 40 = true ∧ d.showable = true ∧ d.weight ≤ m ∧ ∀ h' N, Stw w h h' → n ≤ N → toD h' N v = some d
def RprL (h : PH) (w n m : Nat) (xs : List PV) : Prop := ∃ ds : List PyData, PyData.leavesShortAll 40 ds = true ∧ PyData.showableAll ds = true ∧ PyData.weightAll ds ≤ m ∧ ∀ h' N, Stw w h h' → n ≤ N → mapO (toD h' N) xs = some ds
theorem Rpr.mono (a : Rpr h w n m v) (hn : n ≤ n') (hm : m ≤ m') : Rpr h w n' m' v := by
  obtain ⟨d, h1, h2, h3, h4⟩ := a
  exact ⟨d, h1, h2, by omega, fun h' N s hN => h4 h' N s (by omega)⟩
theorem RprL.mono (a : RprL h w n m xs) (hn : n ≤ n') (hm : m ≤ m') : RprL h w n' m' xs := by
  obtain ⟨d, h1, h2, h3, h4⟩ := a
  exact ⟨d, h1, h2, by omega, fun h' N s hN => h4 h' N s (by omega)⟩
theorem Rpr.st (a : Rpr h w n m v) (s : Stw w h h') : Rpr h' w n m v := by
  obtain ⟨d, h1, h2, h3, h4⟩ := a
  exact ⟨d, h1, h2, h3, fun h2 N s2 hN => h4 h2 N (s.trans s2) hN⟩
theorem RprL.st (a : RprL h w n m xs) (s : Stw w h h') : RprL h' w n m xs := by
  obtain ⟨d, h1, h2, h3, h4⟩ := a
  exact ⟨d, h1, h2, h3, fun h2 N s2 hN => h4 h2 N (s.trans s2) hN⟩
theorem toD_leaf {d : PyData} (e : leafD v = some d) (N : Nat) : toD h N v = some d := by
  cases N with
  | zero => exact e
  | succ N => cases v <;> first | exact e | cases e
theorem Rpr.leaf {d : PyData} (e : leafD v = some d) (h1 : d.leavesShort 40 = true) (h2 : d.showable = true) (h3 : d.weight ≤ m) : Rpr h w 0 m v := ⟨d, h1, h2, h3, fun h' N _ _ => toD_leaf e N⟩
theorem Rpr.non : Rpr h w 0 0 .non := .leaf (d := .none) rfl (by simp [PyData.leavesShort]) (by simp [PyData.showable]) (by simp [PyData.weight])
theorem Rpr.bl {b : Bool} : Rpr h w 0 0 (.bl b) := .leaf (d := .bool b) rfl (by simp [PyData.leavesShort]) (by simp [PyData.showable]) (by simp [PyData.weight])
theorem Rpr.int {i : Int} (hb : i.natAbs ≤ 2 ^ 104) : Rpr h w 0 106 (.int i) := by
  have l1 : i.natAbs.log2 < 105 := by
    by_cases z : i.natAbs = 0
    · rw [z]; decide
    · exact (Nat.log2_lt z).mpr (Nat.lt_of_le_of_lt hb (by decide))
  refine .leaf (d := .int i) rfl ?_ ?_ ?_
  · have e := int_text_length_le10 (k := 35) (by decide) (Nat.lt_of_le_of_lt hb (by decide))
    simp only [PyData.leavesShort, decide_eq_true_eq]
    show (Str.ofString (toString i)).length ≤ 40
    rw [ofString_length]
    omega
  · simp only [PyData.showable, decide_eq_true_eq]
    omega
  · unfold PyData.weight
    split <;> omega
theorem RprL.nil : RprL h w n 0 [] := ⟨[], by simp [PyData.leavesShortAll], by simp [PyData.showableAll], by simp [PyData.weightAll], fun _ _ _ _ => rfl⟩
theorem mapO_cons {α β : Type} {f : α → Option β} {x : α} {xs : List α} {d : β} {ds : List β} (h1 : f x = some d) (h2 : mapO f xs = some ds) : mapO f (x :: xs) = some (d :: ds) := by
  show (match f x with | some y => (mapO f xs).map (y :: ·) | none => none) = _
  rw [h1, h2]
  rfl
theorem mapO_uncons {α β : Type} {f : α → Option β} {x : α} {xs : List α} {es : List β} (e : mapO f (x :: xs) = some es) : ∃ d ds, es = d :: ds ∧ f x = some d ∧ mapO f xs = some ds := by
  have e : (match f x with | some y => (mapO f xs).map (y :: ·) | none => none) = some es := e
  cases h1 : f x with
  | none => rw [h1] at e; cases e
  | some d =>
    rw [h1] at e
    cases h2 : mapO f xs with
    | none => simp [h2] at e
    | some ds => simp [h2] at e; exact ⟨d, ds, e.symm, rfl, rfl⟩
theorem RprL.cons (a : Rpr h w n m1 x) (b : RprL h w n m2 xs) : RprL h w n (m1 + 1 + m2) (x :: xs) := by
  obtain ⟨d, h1, h2, h3, h4⟩ := a
  obtain ⟨ds, k1, k2, k3, k4⟩ := b
  refine ⟨d :: ds, by simp [PyData.leavesShortAll, h1, k1], by simp [PyData.showableAll, h2, k2], by simp only [PyData.weightAll]; omega, fun h' N s hN => mapO_cons (h4 h' N s hN) (k4 h' N s hN)⟩
theorem RprL.uncons (a : RprL h w n m (x :: xs)) : ∃ m1 m2, m1 + 1 + m2 ≤ m ∧ Rpr h w n m1 x ∧ RprL h w n m2 xs := by
  obtain ⟨es, k1, k2, k3, k4⟩ := a
  obtain ⟨d, ds, rfl, e1, e2⟩ := mapO_uncons (k4 h n .refl (Nat.le_refl _))
  simp only [PyData.leavesShortAll, Bool.and_eq_true] at k1
  simp only [PyData.showableAll, Bool.and_eq_true] at k2
  simp only [PyData.weightAll] at k3
  refine ⟨d.weight, PyData.weightAll ds, k3, ⟨d, k1.1, k2.1, Nat.le_refl _, fun h' N s hN => ?_⟩, ⟨ds, k1.2, k2.2, Nat.le_refl _, fun h' N s hN => ?_⟩⟩ <;>
  · obtain ⟨d', ds', e, f1, f2⟩ := mapO_uncons (k4 h' N s hN)
    cases e
    assumption
theorem RprL.app (a : RprL h w n m1 xs) (b : RprL h w n m2 ys) : RprL h w n (m1 + m2) (xs ++ ys) := by
  induction xs generalizing m1 with
  | nil => exact b.mono (Nat.le_refl _) (by omega)
  | cons x xs ih =>
    obtain ⟨a1, a2, hm, h1, h2⟩ := a.uncons
    exact (RprL.cons h1 (ih h2)).mono (Nat.le_refl _) (by omega)
theorem RprL.split (a : RprL h w n m (xs ++ ys)) : ∃ m1 m2, m1 + m2 ≤ m ∧ RprL h w n m1 xs ∧ RprL h w n m2 ys := by
  induction xs generalizing m with
  | nil => exact ⟨0, m, by omega, .nil, a⟩
  | cons x xs ih =>
    obtain ⟨a1, a2, hm, h1, h2⟩ := RprL.uncons (xs := xs ++ ys) a
    obtain ⟨b1, b2, hm2, h3, h4⟩ := ih h2
    exact ⟨a1 + 1 + b1, b2, by omega, .cons h1 h3, h4⟩
theorem RprL.take (a : RprL h w n m xs) (i : Nat) : RprL h w n m (xs.take i) := by
  rw [← List.take_append_drop i xs] at a
  obtain ⟨m1, m2, hm, h1, _⟩ := a.split
  exact h1.mono (Nat.le_refl _) (by omega)
theorem RprL.drop (a : RprL h w n m xs) (i : Nat) : RprL h w n m (xs.drop i) := by
  rw [← List.take_append_drop i xs] at a
  obtain ⟨m1, m2, hm, _, h1⟩ := a.split
  exact h1.mono (Nat.le_refl _) (by omega)
theorem RprL.cut (a : RprL h w n m xs) (lo hi : Option Int) : RprL h w n m (cutP xs lo hi) := by
  unfold cutP
  exact (a.drop _).take _
theorem RprL.all (hx : ∀ x ∈ xs, Rpr h w n m x) : RprL h w n (xs.length * (m + 1)) xs := by
  induction xs with
  | nil => exact RprL.nil.mono (Nat.le_refl _) (by simp)
  | cons x xs ih =>
    refine (RprL.cons (hx x (by simp)) (ih fun y hy => hx y (List.mem_cons_of_mem _ hy))).mono (Nat.le_refl _) ?_
    rw [List.length_cons, Nat.add_mul]
    omega
theorem Rpr.tup (a : RprL h w n m xs) : Rpr h w (n + 1) m (.tup xs) := by
  obtain ⟨ds, k1, k2, k3, k4⟩ := a
  refine ⟨.tuple ds, by simpa [PyData.leavesShort] using k1, by simpa [PyData.showable] using k2, by simpa [PyData.weight] using k3, fun h' N s hN => ?_⟩
  obtain ⟨N, rfl⟩ : ∃ N', N = N' + 1 := ⟨N - 1, by omega⟩
  show (mapO (toD h' N) xs).map PyData.tuple = _
  rw [k4 h' N s (by omega)]
  rfl
theorem RprL.tup (a : RprL h w n m xs) : Rpr h w (n + 1) m (.tup xs) := Rpr.tup a
theorem Rpr.cons (a : Rpr h w n m1 x) (b : RprL h w n m2 xs) : RprL h w n (m1 + 1 + m2) (x :: xs) := RprL.cons a b
theorem Rpr.untup (a : Rpr h w n m (.tup xs)) : ∃ n', n = n' + 1 ∧ RprL h w n' m xs := by
  obtain ⟨d, k1, k2, k3, k4⟩ := a
  cases n with
  | zero => cases k4 h 0 .refl (Nat.le_refl _)
  | succ n =>
    have e : (mapO (toD h n) xs).map PyData.tuple = some d := k4 h (n + 1) .refl (Nat.le_refl _)
    cases e1 : mapO (toD h n) xs with
    | none => rw [e1] at e; cases e
    | some ds =>
      rw [e1] at e
      cases e
      refine ⟨n, rfl, ds, by simpa [PyData.leavesShort] using k1, by simpa [PyData.showable] using k2, by simpa [PyData.weight] using k3, fun h' N s hN => ?_⟩
      have e : (mapO (toD h' N) xs).map PyData.tuple = some (.tuple ds) := k4 h' (N + 1) s (by omega)
      cases e2 : mapO (toD h' N) xs with
      | none => rw [e2] at e; cases e
      | some es => rw [e2] at e; cases e; rfl
theorem Rpr.lst {i : Nat} {kk : LK} (e : h[i]? = some (.lst kk xs)) (hi : i ≠ w) (a : RprL h w n m xs) : Rpr h w (n + 1) m (.obj i) := by
  obtain ⟨ds, k1, k2, k3, k4⟩ := a
  refine ⟨.list ds, by simpa [PyData.leavesShort] using k1, by simpa [PyData.showable] using k2, by simpa [PyData.weight] using k3, fun h' N s hN => ?_⟩
  obtain ⟨N, rfl⟩ : ∃ N', N = N' + 1 := ⟨N - 1, by omega⟩
  show (match h'[i]? with
    | some (PO.lst _ xs) => (mapO (toD h' N) xs).map PyData.list
    | some (.dK kvs) => (mapO (toD h' N) (kvs.map fun (p : L2.Key × PV) => p.2)).map fun ds => PyData.dict ((kvs.map fun (p : L2.Key × PV) => keyD p.1).zip ds)
    | _ => none) = _
  rw [s.get hi e]
  show (mapO (toD h' N) xs).map PyData.list = _
  rw [k4 h' N s (by omega)]
  rfl
/-- the dict that _law_any draws -/
theorem Rpr.dict {i : Nat} (e : h[i]? = some (.dK [(.inr "a", x), (.inl 1, .non)])) (hi : i ≠ w) (a : Rpr h w n m x) : Rpr h w (n + 1) (m + 6) (.obj i) := by
  obtain ⟨d, k1, k2, k3, k4⟩ := a
  have s1 : (PyData.str "a").leavesShort 40 = true := by simp only [PyData.leavesShort]; decide +kernel
  have i1 : (PyData.int 1).leavesShort 40 = true := by simp only [PyData.leavesShort]; decide +kernel
  have w1 : (PyData.str "a").weight = 1 := by simp only [PyData.weight]; decide +kernel
  have w2 : (PyData.int 1).weight = 1 := by simp only [PyData.weight]; decide +kernel
  have w3 : PyData.none.weight = 0 := by simp [PyData.weight]
  refine ⟨.dict [(.str "a", d), (.int 1, .none)], ?_, ?_, ?_, fun h' N s hN => ?_⟩
  · simp only [PyData.leavesShort, PyData.leavesShortKv] at s1 i1 ⊢
    simp [k1]
    exact ⟨by simpa using s1, by simpa using i1⟩
  · simp only [PyData.showable, PyData.showableKv]
    rw [k2]
    decide +kernel
  · simp only [PyData.weight, PyData.weightKv] at w1 w2 w3 k3 ⊢
    omega
  · obtain ⟨N, rfl⟩ : ∃ N', N = N' + 1 := ⟨N - 1, by omega⟩
    show (match h'[i]? with
      | some (PO.lst _ xs) => (mapO (toD h' N) xs).map PyData.list
      | some (.dK kvs) => (mapO (toD h' N) (kvs.map fun (p : L2.Key × PV) => p.2)).map fun ds => PyData.dict ((kvs.map fun (p : L2.Key × PV) => keyD p.1).zip ds)
      | _ => none) = _
    rw [s.get hi e]
    have e1 : mapO (toD h' N) [x, .non] = some [d, .none] := mapO_cons (k4 h' N s (by omega)) (mapO_cons (toD_leaf rfl N) rfl)
    show (mapO (toD h' N) [x, .non]).map _ = _
    rw [e1]
    rfl
/-- repr tells, and tells the same later -/
theorem Rpr.rep (a : Rpr h w n m v) (hn : n ≤ 60) (hm : m ≤ 300000) : ∃ t, ∀ h', Stw w h h' → repP h' v = some t := by
  obtain ⟨d, k1, k2, k3, k4⟩ := a
  refine ⟨d.shown, fun h' s => ?_⟩
  unfold repP
  rw [k4 h' 60 s hn]
  have h1 := PyData.shown_le 40 (by decide) d k1
  have h2 : d.shown.length ≤ sizeLine := by rw [sizeLine_eq]; omega
  simp [k2, h2]
end PK

set_option Elab.async false
set_option linter.all false
set_option maxRecDepth 100000
set_option maxHeartbeats 4000000
set_option exponentiation.threshold 5000
/-! PK01b: what is drawn of any kind can be told by repr. -/
namespace PK
open PySem MP L2
variable {P : Prog} {k : Nat} {h h' : PH} {E : Str → PH → Prop} {v : PV} {Q : PV → PH → Prop} {w c : Nat} {B B' L L' : Nat}
theorem four_pos {d : Nat} : 110 ≤ 110 * 4 ^ d := Nat.le_mul_of_pos_right _ (Nat.pow_pos (by decide))
theorem Rpr.str {x : Str} (hx : x ∈ ["", "0", "1/2:0", "size 2\n", "-", " \n"].map Str.ofString) : Rpr h w 0 10 (.str x) := by
  have : ∀ x ∈ ["", "0", "1/2:0", "size 2\n", "-", " \n"].map Str.ofString, (PyData.str x).leavesShort 40 = true ∧ (PyData.str x).weight ≤ 10 := by
    simp only [PyData.leavesShort, PyData.weight]
    decide +kernel
  obtain ⟨h1, h2⟩ := this x hx
  exact .leaf (d := .str x) rfl h1 (by simp [PyData.showable]) h2
theorem kinds_wpR [Dr P] {d : Nat} {t : Int} (t0 : 0 ≤ t) (t1 : t < 11) (hd : d = 0 → t ≤ 5) (hw : Well h w c) {N : Nat} (hN : N = k + 3) (q : ∀ v h', Val h' (2 ^ 100) 4 v → depP v ≤ d + 1 → Rpr h' w (2 * d) (110 * 4 ^ d) v → Hx w c h h' → Q v h')
    (rec : ∀ {h : PH} {R : PV → PH → Prop}, Well h w c → 1 ≤ d → (∀ v h', Val h' (2 ^ 100) 4 v → depP v ≤ d → Rpr h' w (2 * (d - 1)) (110 * 4 ^ (d - 1)) v → Hx w c h h' → R v h') → wp (callF P N "_law_any" [.obj w, .int ((d : Int) - 1)]) h R fun _ _ => False) :
    wpS (execSs (globOf P N) (b_law_any.drop 2) [some (.obj w), some (.int (d : Nat)), some (.int t), none, none] h) (.fn Q E) := by
  have P4 := four_pos (d := d)
  subst hN
  unfold b_law_any
  simp [-List.append_assoc, -List.length_append, slot, Con.pv]
  by_cases e0 : t = 0
  · refine .inr ⟨e0, draw_wp hw (by omega) (by omega) fun r h1 r0 r1 x1 => ?_⟩
    simp
    exact q _ _ (.int _ (by have : (2 : Nat) ^ 100 > 100 := by decide
                            omega)) (dep1 (by simp)) ((Rpr.int (by have : (2 : Nat) ^ 104 > 100 := by decide
                                                                   omega)).mono (by omega) (by omega)) x1
  refine .inl ⟨e0, ?_⟩
  by_cases e1 : t = 1
  · refine .inr ⟨e1, pick_wp (m := 6) hw (by rfl) (by omega) (by omega) fun x hx h2 x2 => q x h2 ?_ ?_ ?_ x2⟩
    simp at hx
    rcases hx with rfl | rfl | rfl | rfl | rfl | rfl <;> exact .int _ (by decide)
    simp at hx
    rcases hx with rfl | rfl | rfl | rfl | rfl | rfl <;> exact dep1 (by simp)
    simp at hx
    rcases hx with rfl | rfl | rfl | rfl | rfl | rfl <;> exact (Rpr.int (by decide)).mono (by omega) (by omega)
  refine .inl ⟨e1, ?_⟩
  by_cases e2 : t = 2
  · refine .inr ⟨e2, draw_wp hw (by omega) (by omega) fun r h1 r0 r1 x1 => ?_⟩
    simp
    by_cases hr : r = 1
    · exact .inr ⟨hr, q _ _ (.bl _) (dep1 (by simp)) (Rpr.bl.mono (by omega) (by omega)) x1⟩
    · exact .inl ⟨hr, q _ _ (.bl _) (dep1 (by simp)) (Rpr.bl.mono (by omega) (by omega)) x1⟩
  refine .inl ⟨e2, ?_⟩
  by_cases e3 : t = 3
  · exact .inr ⟨e3, q _ _ .non (dep1 (by simp)) (Rpr.non.mono (by omega) (by omega)) (.refl hw)⟩
  refine .inl ⟨e3, ?_⟩
  by_cases e5 : t ≤ 5
  · refine .inr ⟨e5, pick_wp (m := 6) hw (by rfl) (by omega) (by omega) fun x hx h2 x2 => q x h2 ?_ ?_ ?_ x2⟩
    simp at hx
    rcases hx with rfl | rfl | rfl | rfl | rfl | rfl <;> exact .str _
    simp at hx
    rcases hx with rfl | rfl | rfl | rfl | rfl | rfl <;> exact dep1 (by simp)
    simp at hx
    rcases hx with rfl | rfl | rfl | rfl | rfl | rfl <;> exact (Rpr.str (by simp)).mono (by omega) (by omega)
  refine .inl ⟨by omega, ?_⟩
  have hd1 : 1 ≤ d := by
    by_cases z : d = 0
    · exact absurd (hd z) e5
    · omega
  obtain ⟨d', rfl⟩ : ∃ d', d = d' + 1 := ⟨d - 1, by omega⟩
  have P4' := four_pos (d := d')
  have PS : 110 * 4 ^ (d' + 1) = 440 * 4 ^ d' := by rw [Nat.pow_succ]; omega
  rw [x_lc]
  simp [-List.append_assoc, -List.length_append, slot, Con.pv]
  refine draw_wp hw (by omega) (by omega) fun r h1 r0 r1 x1 => ?_
  obtain ⟨n, hn⟩ : ∃ n : Nat, r = (n : Int) := ⟨r.toNat, by omega⟩
  subst hn
  have hsm : smallI (n : Nat) = true := by simp [smallI]; omega
  simp [-List.append_assoc, -List.length_append, hsm]
  refine wp_lc_rng (fun j acc hh => Hx w c h1 hh ∧ acc.length = j ∧ ∀ x ∈ acc, (Val hh (2 ^ 100) 4 x ∧ depP x ≤ d' + 1) ∧ Rpr hh w (2 * d') (110 * 4 ^ d') x) ?_ ?_ ⟨.refl x1.well, rfl, by simp⟩
  · rintro j acc hh hj ⟨xx, hl, ha⟩
    simp [-List.append_assoc, -List.length_append, slot, putT, wipeE, Con.pv]
    have rec' := @rec hh
    rw [show ((d' + 1 : Nat) : Int) - 1 = (d' : Nat) by omega] at rec'
    refine rec' xx.well hd1 fun v h2 hv dv rv x2 => ?_
    refine ⟨by rw [hl, sizeLine_eq]; omega, xx.trans x2, by simp [hl], fun x hx => ?_⟩
    have hx : x ∈ acc ∨ x = v := by simpa using hx
    rcases hx with hx | hx
    · exact ⟨⟨(ha x hx).1.1.hx xx.well x2, (ha x hx).1.2⟩, (ha x hx).2.st x2.stw⟩
    · rw [hx]
      exact ⟨⟨hv, dv⟩, rv⟩
  · rintro acc hh ⟨xx, hl, ha⟩
    have g := Hx.app (o := .lst .own acc) xx.well
    have X := (x1.trans xx).trans g
    have dt : depP (.tup acc) ≤ d' + 1 + 1 := by
      have := depL_all fun x hx => (ha x hx).1.2
      simp [depP]
      omega
    have ra : RprL (hh ++ [.lst .own acc]) w (2 * d') (330 * 4 ^ d' + 3) acc := (RprL.all fun x hx => (ha x hx).2.st g.stw).mono (Nat.le_refl _) (by
      have : acc.length ≤ 3 := by omega
      have := Nat.mul_le_mul_right (110 * 4 ^ d' + 1) this
      omega)
    have nw : hh.length ≠ w := by
      have := xx.well.lt
      omega
    have nw2 : (hh ++ [PO.lst .own acc]).length ≠ w := by
      have := xx.well.lt
      simp
      omega
    by_cases e8 : t ≤ 8
    · refine .inr ⟨e8, ?_⟩
      have rt := (Rpr.tup ra).mono (n' := 2 * (d' + 1)) (m' := 110 * 4 ^ (d' + 1)) (by omega) (by omega)
      first
        | exact q _ _ (.tup acc (by omega) fun x hx => (ha x hx).1.1.hx xx.well g) dt rt X
        | exact p_tupleO.mpr ⟨acc, lstP_app, q _ _ (.tup acc (by omega) fun x hx => (ha x hx).1.1.hx xx.well g) dt rt X⟩
    · refine .inl ⟨by omega, ?_⟩
      have rl := Rpr.lst (i := hh.length) (kk := .own) (by simp) nw ra
      by_cases e9 : t = 9
      · exact .inr ⟨e9, q _ _ (.lst _ .own acc (by simp)) (dep1 (by simp)) (rl.mono (by omega) (by omega)) X⟩
      · refine .inl ⟨e9, ?_⟩
        rw [x_dct]
        simp [-List.append_assoc, -List.length_append, slot, Con.pv]
        have g2 := Hx.app (o := .dK []) X.well
        refine ⟨by simp, q _ _ (.dK _ _ (List.getElem?_concat_length ..)) (dep1 (by simp)) ?_ (X.trans (Hx.app X.well))⟩
        have rl2 := (rl.st (Gr.app (o := .dK [(.inr (Str.ofString "a"), .obj hh.length), (.inl 1, .non)])).stw)
        have rd := Rpr.dict (i := (hh ++ [PO.lst .own acc]).length) (List.getElem?_concat_length ..) nw2 rl2
        exact rd.mono (by omega) (by omega)
theorem any_wpR [Dr P] [Vs P] : ∀ (d : Nat) {k : Nat} {h : PH} {Q : PV → PH → Prop} {E : Str → PH → Prop} (hw : Well h w c) (q : ∀ v h', Val h' (2 ^ 100) 4 v → depP v ≤ d + 1 → Rpr h' w (2 * d) (110 * 4 ^ d) v → Hx w c h h' → Q v h'), wp (callF P (k + 4 + d) "_law_any" [.obj w, .int (d : Nat)]) h Q E := by
  intro d
  induction d with
  | zero =>
    intro k h Q E hw q
    rw [wp_call Vs.any rfl]
    have K := fun t (t0 : (0 : Int) ≤ t) (t1 : t < 11) (t2 : t ≤ 5) (h1 : PH) (x1 : Hx w c h h1) => kinds_wpR (P := P) (k := k) (d := 0) (t := t) (E := E) (Q := Q) t0 t1 (fun _ => t2) x1.well rfl (fun v h2 hv dv rv x2 => q v h2 hv dv rv (x1.trans x2)) (fun _ z => absurd z (by omega))
    rw [any_head (d := 0)]
    generalize b_law_any.drop 2 = B at K ⊢
    simp [-List.append_assoc, -List.length_append, slot, Con.pv]
    refine draw_wp hw (by omega) (by omega) fun r h1 r0 r1 x1 => ?_
    simp [-List.append_assoc, -List.length_append, slot, Con.pv]
    exact K (r % 6) (by omega) (by omega) (by omega) h1 x1
  | succ d ih =>
    intro k h Q E hw q
    rw [show k + 4 + (d + 1) = (k + 1 + d + 3) + 1 by omega, wp_call Vs.any rfl]
    have K := fun t (t0 : (0 : Int) ≤ t) (t1 : t < 11) (h1 : PH) (x1 : Hx w c h h1) => kinds_wpR (P := P) (k := k + 1 + d) (d := d + 1) (t := t) (E := E) (Q := Q) t0 t1 (fun z => absurd z (by omega)) x1.well rfl (fun v h2 hv dv rv x2 => q v h2 hv dv rv (x1.trans x2)) (fun {h R} hw' _ q' => by
      have := ih (k := k) (E := fun _ _ => False) hw' q'
      rw [show k + 1 + d + 3 = k + 4 + d by omega, show ((d + 1 : Nat) : Int) - 1 = (d : Nat) by omega]
      exact this)
    rw [any_head (d := 0)]
    generalize b_law_any.drop 2 = B at K ⊢
    have hne : ¬ (((d : Nat) : Int) + 1 = 0) := by omega
    simp [-List.append_assoc, -List.length_append, slot, Con.pv, hne]
    refine draw_wp hw (by omega) (by omega) fun r h1 r0 r1 x1 => ?_
    have := K r r0 r1 h1 x1
    simpa using this
end PK

set_option Elab.async false
set_option linter.all false
set_option maxRecDepth 100000
set_option maxHeartbeats 4000000
set_option exponentiation.threshold 5000
/-! PK01c: values changed can be told by repr. -/
namespace PK
open PySem MP L2
variable {P : Prog} {k : Nat} {h h' : PH} {E : Str → PH → Prop} {v : PV} {Q : PV → PH → Prop} {w c : Nat} {B B' L L' n m : Nat}
theorem changed_wpR [Dr P] [Vs P] (hw : Well h w c) (hL : L ≤ 1000) (hB : B < 2 ^ 103) (a : Val h B L v) (b : Rpr h w n m v) (q : ∀ v' h', Val h' (B + 2 ^ 100) (2 * L + 4) v' → Rpr h' w (n + 2) (2 * m + 440) v' → Hx w c h h' → Q v' h') : wp (callF P (k + 7) "_law_changed" [v, .obj w]) h Q E := by
  rw [wp_call Vs.changed rfl]
  unfold b_law_changed
  simp [-List.append_assoc, -List.length_append, slot, Con.pv, a.ok.ty]
  refine draw_wp hw (by omega) (by omega) fun r h1 r0 r1 x1 => ?_
  have a1 := a.hx hw x1
  have b1 := b.st x1.stw
  have any1 : ∀ {E : Str → PH → Prop}, wp (callF P (k + 6) "_law_any" [.obj w, .int 1]) h1 Q E := fun {E} => any_wpR (k := k + 1) 1 x1.well fun v' h' hv dv rv x2 => q v' h' (hv.mono (by omega) (by omega)) (rv.mono (by omega) (by omega)) (x1.trans x2)
  simp [-List.append_assoc, -List.length_append, slot, Con.pv, a1.ok.ty]
  by_cases e0 : r = 0
  · exact .inr ⟨e0, any1⟩
  refine .inl ⟨e0, ?_⟩
  by_cases ht : ∃ xs, v = .tup xs
  · obtain ⟨xs, rfl⟩ := ht
    have s1 : (typ h1 (PV.tup xs)).sub PTy.tuple = true := rfl
    have s2 : (typ h1 (PV.tup xs)).sub PTy.bool = false := rfl
    have s3 : (typ h1 (PV.tup xs)).sub PTy.int = false := rfl
    have hlen := a.len
    simp [-List.append_assoc, -List.length_append, s1, s2, s3]
    have c1 := cut_len (xs := xs) (lo := some 1) (hi := none)
    have c2 := cut_len (xs := xs) (lo := none) (hi := some 1)
    refine ⟨by rw [sizeLine_eq]; omega, by rw [sizeLine_eq]; omega, by rw [sizeLine_eq]; omega, by omega, ?_⟩
    have y1 := Hx.app (o := .lst .own xs) x1.well
    generalize hl : [PV.tup (cutP xs (some 1) none), PV.tup (cutP xs none (some (-1))), PV.tup (cutP xs (some 1) none ++ cutP xs none (some 1)), PV.tup (cutP xs none (some 1) ++ xs), PV.tup (xs ++ [PV.int 0]), PV.obj (List.length h1)] = l
    have hll : l.length = 6 := by subst hl; rfl
    have y2 := Hx.app (o := .lst .own l) y1.well
    have y3 := Hx.app (o := .lst .own [PV.non, PV.tup (xs ++ xs)]) y2.well
    have y4 := Hx.app (o := .lst .own (l ++ [PV.non, PV.tup (xs ++ xs)])) y3.well
    have o1 : ownL (h1 ++ [PO.lst .own xs] ++ [PO.lst .own l]) (h1 ++ [PO.lst .own xs]).length = some l := ownL_app
    have o2 : ownL (h1 ++ [PO.lst .own xs] ++ [PO.lst .own l] ++ [PO.lst .own [PV.non, PV.tup (xs ++ xs)]]) (h1 ++ [PO.lst .own xs]).length = some l := by rw [ownL_appN (by simp)]; exact o1
    refine ⟨l, o2, by rw [hll]; simp, ?_⟩
    obtain ⟨x, hx1, hx2⟩ := atI_pos (xs := l ++ [PV.non, PV.tup (xs ++ xs)]) (i := r - 1) (by omega) (by rw [List.length_append, hll]; simp; omega)
    refine ⟨x, hx2, q x _ ?_ ?_ ((((x1.trans y1).trans y2).trans y3).trans y4)⟩
    have a2 := ((((a1.hx x1.well y1).hx y1.well y2).hx y2.well y3).hx y3.well y4)
    have hcut : ∀ lo hi, Val (h1 ++ [PO.lst .own xs] ++ [PO.lst .own l] ++ [PO.lst .own [PV.non, PV.tup (xs ++ xs)]] ++ [PO.lst .own (l ++ [PV.non, PV.tup (xs ++ xs)])]) B L (.tup (cutP xs lo hi)) := fun lo hi => val_cut a2
    have z1 : ∀ {h : PH}, Val h B 1 (.tup [PV.int 0]) := .tup _ (by simp) fun y hy => by simp at hy; subst hy; exact .int _ (by simp)
    have hobj : Val (h1 ++ [PO.lst .own xs] ++ [PO.lst .own l] ++ [PO.lst .own [PV.non, PV.tup (xs ++ xs)]] ++ [PO.lst .own (l ++ [PV.non, PV.tup (xs ++ xs)])]) B L (.obj h1.length) := .lst _ .own xs (by simp)
    rcases List.mem_append.mp hx1 with hx1 | hx1
    · subst hl
      simp only [List.mem_cons, List.not_mem_nil, or_false] at hx1
      rcases hx1 with rfl | rfl | rfl | rfl | rfl | rfl
      · exact (hcut _ _).mono (by omega) (by omega)
      · exact (hcut _ _).mono (by omega) (by omega)
      · exact (val_app (hcut _ _) (hcut _ _)).mono (by omega) (by omega)
      · exact (val_app (hcut _ _) a2).mono (by omega) (by omega)
      · exact (val_app a2 z1).mono (by omega) (by omega)
      · exact hobj.mono (by omega) (by omega)
    · simp only [List.mem_cons, List.not_mem_nil, or_false] at hx1
      rcases hx1 with rfl | rfl
      · exact .non
      · exact (val_app a2 a2).mono (by omega) (by omega)
    have b2 := b1.st (((y1.trans y2).trans y3).trans y4).stw
    obtain ⟨n', rfl, bl⟩ := b2.untup
    have nw : h1.length ≠ w := by
      have := x1.well.lt
      omega
    have z0 : ∀ {h : PH}, RprL h w n' 107 [PV.int 0] := fun {h} => Rpr.cons (m1 := 106) (m2 := 0) ((Rpr.int (i := 0) (by decide)).mono (Nat.zero_le _) (Nat.le_refl _)) (RprL.nil.mono (Nat.zero_le _) (Nat.le_refl _))
    rcases List.mem_append.mp hx1 with hx1 | hx1
    · subst hl
      simp only [List.mem_cons, List.not_mem_nil, or_false] at hx1
      rcases hx1 with rfl | rfl | rfl | rfl | rfl | rfl
      · exact (bl.cut _ _).tup.mono (by omega) (by omega)
      · exact (bl.cut _ _).tup.mono (by omega) (by omega)
      · exact ((bl.cut _ _).app (bl.cut _ _)).tup.mono (by omega) (by omega)
      · exact ((bl.cut _ _).app bl).tup.mono (by omega) (by omega)
      · exact (bl.app z0).tup.mono (by omega) (by omega)
      · exact (Rpr.lst (kk := .own) (xs := xs) (by simp) nw bl).mono (by omega) (by omega)
    · simp only [List.mem_cons, List.not_mem_nil, or_false] at hx1
      rcases hx1 with rfl | rfl
      · exact Rpr.non.mono (by omega) (by omega)
      · exact (bl.app bl).tup.mono (by omega) (by omega)
  · by_cases hi : ∃ i, v = .int i
    · obtain ⟨i, rfl⟩ := hi
      have s1 : (typ h1 (PV.int i)).sub PTy.tuple = false := rfl
      have s2 : (typ h1 (PV.int i)).sub PTy.bool = false := rfl
      have s3 : (typ h1 (PV.int i)).sub PTy.int = true := rfl
      have hb : i.natAbs ≤ B := by cases a with | int _ hb => exact hb
      simp [-List.append_assoc, -List.length_append, s1, s2, s3]
      obtain ⟨x, hx1, hx2⟩ := atI_pos (xs := [PV.int (i + 1), PV.int (i - 1), PV.int (-i), PV.bl (decide (1 ≤ i)), PV.int 0, PV.int 1000001, PV.non, PV.tup [PV.int i]]) (i := r - 1) (by omega) (by simp; omega)
      have hp : 1000001 ≤ 2 ^ 100 := by decide
      have p2 : 1 ≤ 2 ^ 100 := by decide
      have p3 : (2 : Nat) ^ 103 + 2 ≤ 2 ^ 104 := by decide
      refine ⟨x, hx2, q x _ ?_ ?_ (x1.trans (Hx.app x1.well))⟩
      simp at hx1
      rcases hx1 with rfl | rfl | rfl | rfl | rfl | rfl | rfl | rfl
      · exact .int _ (by omega)
      · exact .int _ (by omega)
      · exact .int _ (by omega)
      · exact .bl _
      · exact .int _ (by omega)
      · exact .int _ (by omega)
      · exact .non
      · refine .tup _ (by simp) fun y hy => ?_
        simp at hy
        subst hy
        exact .int _ (by omega)
      simp at hx1
      rcases hx1 with rfl | rfl | rfl | rfl | rfl | rfl | rfl | rfl
      · exact (Rpr.int (by omega)).mono (by omega) (by omega)
      · exact (Rpr.int (by omega)).mono (by omega) (by omega)
      · exact (Rpr.int (by omega)).mono (by omega) (by omega)
      · exact Rpr.bl.mono (by omega) (by omega)
      · exact (Rpr.int (by omega)).mono (by omega) (by omega)
      · exact (Rpr.int (by omega)).mono (by omega) (by omega)
      · exact Rpr.non.mono (by omega) (by omega)
      · exact ((Rpr.int (by omega)).cons RprL.nil).tup.mono (by omega) (by omega)
    · have s1 : (typ h1 v).sub PTy.tuple = false := typ_no a1.ok ht
      by_cases s3 : (typ h1 v).sub PTy.int = true
      · by_cases s2 : (typ h1 v).sub PTy.bool = true
        · simp [s1, s2, s3]
          exact any1
        · exfalso
          cases a1 with
          | int i hb => exact hi ⟨i, rfl⟩
          | bl b => exact s2 rfl
          | tup xs hl a => exact ht ⟨xs, rfl⟩
          | non => cases s3
          | str x => cases s3
          | lst i k xs e => simp [typ, tyP, e] at s3; cases s3
          | dK i xs e => simp [typ, tyP, e] at s3; cases s3
      · have s3 : (typ h1 v).sub PTy.int = false := by simpa using s3
        simp [s1, s3]
        exact any1
/-! ### spoilt -/
theorem spoilt_wpR [Dr P] [Vs P] (hL : L ≤ 1000) (hB : B < 2 ^ 103) : ∀ (dd : Nat) {n m : Nat} {h : PH} {v : PV} {at' : Int} {Q : PV → PH → Prop} {E : Str → PH → Prop}, Well h w c → Val h B L v → Rpr h w n m v → depP v ≤ dd → 0 ≤ at' → at' < nodesP v → (∀ v' h', Val h' (B + 2 ^ 100) (2 * L + 4) v' → Rpr h' w (n + 2) (2 * m + 440) v' → Hx w c h h' → Q v' h') →
    wp (callF P (k + 8 + dd) "_law_spoilt" [v, .int at', .obj w]) h Q E := by
  intro dd
  induction dd with
  | zero => intro n m h v at' Q E _ _ _ hd; have := dep_pos (v := v); omega
  | succ dd ih =>
    intro n m h v at' Q E hw a b hd h0 h1 q
    have bu : ∀ xs, v = .tup xs → ∃ n', n = n' + 1 ∧ RprL h w n' m xs := fun xs e => by subst e; exact b.untup
    rw [show k + 8 + (dd + 1) = ((k + dd + 1) + 7) + 1 by omega, wp_call Vs.spoilt rfl]
    unfold b_law_spoilt
    simp [-List.append_assoc, -List.length_append, slot, Con.pv]
    by_cases e0 : at' = 0
    · refine .inr ⟨e0, changed_wpR hw hL hB a b q⟩
    refine .inl ⟨e0, ?_⟩
    have ht : ∃ xs, v = .tup xs := by
      by_cases z : ∃ xs, v = .tup xs
      · exact z
      · rw [nodes_no z] at h1; omega
    obtain ⟨xs, ex⟩ := ht
    obtain ⟨n', hn', bl⟩ := bu xs ex
    subst ex
    have hlen := a.len
    have hdx : ∀ x ∈ xs, depP x ≤ dd := fun x hx => by
      have := depL_le hx
      simp [depP] at hd
      omega
    rw [s_for, show k + dd + 1 + 7 = k + 8 + dd by omega]
    simp [-List.append_assoc, -List.length_append, slot, Con.pv]
    refine ⟨by simp [smallI]; omega, ?_⟩
    refine wp_for_rng (fun i env hh => Hx w c h hh ∧ ∃ (a' : Int) (e3 e4 : Option PV), env = [some (.tup xs), some (.int a'), some (.obj w), e3, e4] ∧ 0 ≤ a') ?_ ?_ xs.length 0 _ _ (by simp) ⟨.refl hw, at' - 1, none, none, rfl, by omega⟩
    · rintro i env hh hi ⟨X, a', e3, e4, rfl, ha'⟩
      refine ⟨_, rfl, ?_⟩
      have hx : xs[i]? = some xs[i] := List.getElem?_eq_getElem hi
      have hm : xs[i] ∈ xs := List.getElem_mem _
      have ea : atI xs (i : Int) = some xs[i] := by simp [atI, ixN, hi]
      have ax := (a.hx hw X)
      simp [-List.append_assoc, -List.length_append, slot, Con.pv, ea]
      refine nodes_wp (k := k + 8) (L := L) (B := B) (by omega) dd (ax.all _ hm) (hdx _ hm) fun h2 g2 => ?_
      have X2 := X.trans (g2.hx X.well)
      have ax2 := ax.gr g2
      have bl1 := bl.st X2.stw
      have bl2 : RprL h2 w n' m (xs.take i ++ (xs[i] :: xs.drop (i + 1))) := by rw [List.getElem_cons_drop, List.take_append_drop]; exact bl1
      obtain ⟨p1, p2, hp, q1, q2⟩ := bl2.split
      obtain ⟨p3, p4, hp2, q3, q4⟩ := q2.uncons
      simp [-List.append_assoc, -List.length_append, slot, Con.pv, ea]
      by_cases hlt : a' < (nodesP xs[i] : Nat)
      · refine .inr ⟨hlt, ?_⟩
        refine ih X2.well (ax2.all _ hm) q3 (hdx _ hm) ha' hlt fun v' h3 hv rv x3 => ?_
        have ax3 := ax2.hx X2.well x3
        have ec1 : cutP xs none (some (i : Int)) = xs.take i := cutP_to
        have ec2 : cutP xs (some ((i : Int) + 1)) none = xs.drop (i + 1) := by
          have e : cutP xs (some ((i + 1 : Nat) : Int)) none = xs.drop (i + 1) := by
            unfold cutP
            rw [HT.sIx_nat, HT.sIx_none, Nat.min_eq_left (by omega), List.take_of_length_le (by simp)]
          exact e
        have tl : (xs.take i).length = i := by rw [List.length_take]; omega
        have dl : (xs.drop (i + 1)).length ≤ xs.length := by simp
        simp [-List.append_assoc, -List.length_append, slot, Con.pv, ec1, ec2]
        refine ⟨by rw [sizeLine_eq]; omega, by rw [List.length_append, tl, sizeLine_eq]; simp; omega, ?_⟩
        refine q _ _ ?_ ?_ (X2.trans x3)
        refine .tup _ (by rw [List.length_append, List.length_append, tl]; simp; omega) fun y hy => ?_
        rcases List.mem_append.mp hy with hy | hy
        · rcases List.mem_append.mp hy with hy | hy
          · exact (ax3.all y (List.mem_of_mem_take hy)).mono (by omega) (by omega)
          · rw [List.mem_singleton.mp hy]; exact hv
        · exact (ax3.all y (List.mem_of_mem_drop hy)).mono (by omega) (by omega)
        have r1 := ((q1.st x3.stw).mono (n' := n' + 2) (by omega) (Nat.le_refl _))
        have r2 := ((q4.st x3.stw).mono (n' := n' + 2) (by omega) (Nat.le_refl _))
        exact ((r1.app ((rv.cons (RprL.nil.mono (Nat.zero_le _) (Nat.le_refl _))))).app r2).tup.mono (by omega) (by omega)
      · refine .inl ⟨by omega, X2, by omega⟩
    · rintro env hh ⟨X, a', e3, e4, rfl, ha'⟩
      simp [slot]
      exact q _ _ ((a.hx hw X).mono (by omega) (by omega)) ((b.st X.stw).mono (by omega) (by omega)) X
end PK

set_option Elab.async false
set_option linter.all false
set_option maxRecDepth 100000
set_option maxHeartbeats 4000000
set_option exponentiation.threshold 5000
/-! PK01d: the things drawn. -/
namespace PK
open PySem MP L2
def b1_law_thing : List S := [.asg 1 (.cl (Str.ofString "_law_draw") [.slot 0, .con (.int 8)]), .ifS (.cmp .eq (.slot 1) (.con (.int 0))) [.ret (.cl (Str.ofString "_law_any") [.slot 0, .con (.int 3)])] [], .ifS (.cmp .le (.slot 1) (.con (.int 3))) [.asg 3 (.cl (Str.ofString "_law_machine") [.slot 0])] [.ifS (.cmp .le (.slot 1) (.con (.int 5))) [.asg 3 (.cl (Str.ofString "_law_row") [.slot 0, .bin .add (.con (.int 2)) (.cl (Str.ofString "_law_draw") [.slot 0, .con (.int 3)])])] [.asg 3 (.cl (Str.ofString "_law_chances") [.slot 0, .bin .add (.con (.int 2)) (.cl (Str.ofString "_law_draw") [.slot 0, .con (.int 3)])])]], .for_ (.nm 2) .range [.sub (.lst [.con (.int 0), .con (.int 0), .con (.int 1), .con (.int 1), .con (.int 1), .con (.int 2)]) (.cl (Str.ofString "_law_draw") [.slot 0, .con (.int 6)])] [.asg 3 (.cl (Str.ofString "_law_spoilt") [.slot 3, .cl (Str.ofString "_law_draw") [.slot 0, .cl (Str.ofString "_law_nodes") [.slot 3]], .slot 0])], .ret (.slot 3)]
def b1_thing_tail : List S := b1_law_thing.drop 3
class Tn (P : Prog) : Prop where
  thing : Has P "_law_thing" 1 4 b1_law_thing
variable {P : Prog} {k : Nat} {h h' : PH} {E : Str → PH → Prop} {v : PV} {Q : PV → PH → Prop} {w c : Nat} {B L n m : Nat}
theorem mapO_map {α β : Type} {f : α → Option β} : ∀ {xs : List α} {ys : List β}, mapO f xs = some ys → ∀ x ∈ xs, ∃ y ∈ ys, f x = some y
  | [], _, _, x, hx => nomatch hx
  | x :: xs, es, e, y, hy => by
    obtain ⟨d, ds, rfl, e1, e2⟩ := mapO_uncons e
    rcases List.mem_cons.mp hy with rfl | hy
    · exact ⟨d, by simp, e1⟩
    · obtain ⟨z, hz, hf⟩ := mapO_map e2 y hy
      exact ⟨z, List.mem_cons_of_mem _ hz, hf⟩
theorem toD_dep : ∀ {n : Nat} {v : PV} {d : PyData}, toD h n v = some d → depP v ≤ n + 1
  | 0, v, d, e => dep1 fun xs z => by subst z; cases e
  | n + 1, v, d, e => by
    by_cases ht : ∃ xs, v = .tup xs
    · obtain ⟨xs, rfl⟩ := ht
      have e : (mapO (toD h n) xs).map PyData.tuple = some d := e
      cases e1 : mapO (toD h n) xs with
      | none => rw [e1] at e; cases e
      | some ds =>
        have : depL xs ≤ n + 1 := depL_all fun x hx => by
          obtain ⟨y, _, hy⟩ := mapO_map e1 x hx
          exact toD_dep hy
        show 1 + depL xs ≤ n + 1 + 1
        omega
    · exact Nat.le_trans (dep1 (n := 0) fun xs z => ht ⟨xs, z⟩) (by omega)
theorem nodesL_le {f : PV → Option PyData} (hf : ∀ {x : PV} {d : PyData}, f x = some d → nodesP x ≤ d.weight + 1) : ∀ {xs : List PV} {ds : List PyData}, mapO f xs = some ds → nodesL xs ≤ PyData.weightAll ds
  | [], _, _ => Nat.zero_le _
  | x :: xs, es, e => by
    obtain ⟨d, ds, rfl, e1, e2⟩ := mapO_uncons e
    have h1 := hf e1
    have h2 := nodesL_le hf e2
    show nodesP x + nodesL xs ≤ _
    simp only [PyData.weightAll]
    omega
theorem toD_nodes : ∀ {n : Nat} {v : PV} {d : PyData}, toD h n v = some d → nodesP v ≤ d.weight + 1
  | 0, v, d, e => by
    rw [nodes_no]
    · omega
    · rintro ⟨xs, rfl⟩
      cases e
  | n + 1, v, d, e => by
    by_cases ht : ∃ xs, v = .tup xs
    · obtain ⟨xs, rfl⟩ := ht
      have e : (mapO (toD h n) xs).map PyData.tuple = some d := e
      cases e1 : mapO (toD h n) xs with
      | none => rw [e1] at e; cases e
      | some ds =>
        rw [e1] at e
        cases e
        have := nodesL_le (fun {x d} => toD_nodes (n := n) (v := x) (d := d)) e1
        show 1 + nodesL xs ≤ (PyData.tuple ds).weight + 1
        simp only [PyData.weight]
        omega
    · rw [nodes_no ht]; omega
theorem Rpr.dep (a : Rpr h w n m v) : depP v ≤ n + 1 := by
  obtain ⟨d, _, _, _, h4⟩ := a
  exact toD_dep (h4 h n .refl (Nat.le_refl _))
theorem Rpr.nodes (a : Rpr h w n m v) : nodesP v ≤ m + 1 := by
  obtain ⟨d, _, _, h3, h4⟩ := a
  have := toD_nodes (h4 h n .refl (Nat.le_refl _))
  omega
theorem Rpr.int' {i : Int} (hb : i.natAbs ≤ 1000000) : Rpr h w n 106 (.int i) :=
  (Rpr.int (i := i) (Nat.le_trans hb (by decide))).mono (Nat.zero_le _) (Nat.le_refl _)
theorem RprL.map {α : Type} {f : α → PV} {as : List α} {l : Nat} (hl : as.length ≤ l) (hx : ∀ a ∈ as, Rpr h w n m (f a)) : RprL h w n (l * (m + 1)) (as.map f) :=
  (RprL.all (m := m) fun x hx' => by
    obtain ⟨a, ha, rfl⟩ := List.mem_map.mp hx'
    exact hx a ha).mono (Nat.le_refl _) (by rw [List.length_map]; exact Nat.mul_le_mul_right _ hl)
theorem Rpr.two {x y : PV} {m1 m2 : Nat} (a : Rpr h w n m1 x) (b : Rpr h w n m2 y) : Rpr h w (n + 1) (m1 + m2 + 2) (.tup [x, y]) := (a.cons (b.cons (RprL.nil.mono (Nat.zero_le _) (Nat.le_refl _)))).tup.mono (Nat.le_refl _) (by omega)
theorem rpr_mach {s : Nat} {rs : List (List Stp)} (mk : MachOk s rs) : Rpr h w 6 50000 (machV s rs) := by
  have s4 := mk.s4
  have r12 := mk.r12
  have hr : RprL h w 4 (12 * ((4 * (322 + 1)) + 1)) (rs.map ruleV) := RprL.map r12 fun r hr => (RprL.map (f := stepV) (m := 322) (n := 3 ) (l := 4) (by rw [mk.len r hr]; exact s4) fun st hst => by
    obtain ⟨ok1, ok2⟩ := mk.ok r hr st hst
    have a1 := ok1.top
    have a2 := ok1.bot
    have a3 := ok1.pos
    exact (Rpr.two (n := 2) ((Rpr.two (n := 1) (Rpr.int' (by omega)) (Rpr.int' (by omega)))) (Rpr.int' (by omega))).mono (by omega) (by omega)).tup
  exact (Rpr.two (n := 5) (Rpr.int' (by omega)) hr.tup).mono (by omega) (by omega)
theorem rpr_row {row : List Nat} {s : Nat} (hl : row.length ≤ 400) (hs : s ≤ 4) (hr : ∀ l ∈ row, l < s) : Rpr h w 6 50000 (rowV row) :=
  ((RprL.map (n := 0) (m := 106) (f := fun l : Nat => PV.int (l : Nat)) hl fun l hm => Rpr.int' (by have := hr l hm; omega)).tup).mono (by omega) (by omega)
theorem rpr_ch {ns : List Int} {s : Nat} (hs : s ≤ 4) (ok : ChOk s ns) : Rpr h w 6 50000 (chV D0 ns) :=
  ((RprL.map (n := 1) (m := 214) (l := 4) (f := fun n => frV (fr D0 n)) (by rw [ok.len]; exact hs) fun n hn => by
    have b := ok.bd n hn
    exact (Rpr.two (n := 0) (Rpr.int' (by omega)) (Rpr.int' (by omega))).mono (by omega) (by omega)).tup).mono (by omega) (by omega)
theorem val_chD {ns : List Int} {s : Nat} (hs : s ≤ 4) (ok : ChOk s ns) : Val h 1000000 400 (chV D0 ns) := val_map (by rw [ok.len]; omega) fun n hm => val_pair (by omega) (.int _ (by have := (ok.bd n hm).1; omega)) (.int _ (by have := (ok.bd n hm).2; omega))
/-- a thing that is spoilt up to twice -/
theorem tail_wp [Dr P] [Vs P] {e1 e2 : Option PV} (hw : Well h w c) (a : Val h (2 ^ 100) 400 v) (b : Rpr h w 6 50000 v) (q : ∀ v' h', Val h' (3 * 2 ^ 100) 1612 v' → Rpr h' w 10 201320 v' → Hx w c h h' → Q v' h') :
    wpS (execSs (globOf P (k + 20)) b1_thing_tail [some (.obj w), e1, e2, some v] h) (.fn Q E) := by
  unfold b1_thing_tail b1_law_thing
  simp only [List.drop_succ_cons, List.drop_zero]
  rw [s_cons, s_for]
  simp [-List.append_assoc, -List.length_append, slot, Con.pv]
  refine pick_wp (k := k + 17) (m := 6) hw (by rfl) (by omega) (by omega) fun x hx h1 x1 => ?_
  obtain ⟨r, hr, hr2⟩ : ∃ r : Nat, x = .int (r : Nat) ∧ r ≤ 2 := by
    simp at hx
    rcases hx with rfl | rfl | rfl
    · exact ⟨0, rfl, by omega⟩
    · exact ⟨1, rfl, by omega⟩
    · exact ⟨2, rfl, by omega⟩
  subst hr
  have hsm : smallI (r : Nat) = true := by simp [smallI]; omega
  simp [-List.append_assoc, -List.length_append, hsm]
  refine wp_for_rng (fun i env hh => Hx w c h hh ∧ ∃ (u : PV) (e1 e2 : Option PV), env = [some (.obj w), e1, e2, some u] ∧ Val hh ((i + 1) * 2 ^ 100) (404 * 2 ^ i - 4) u ∧ Rpr hh w (6 + 2 * i) (50440 * 2 ^ i - 440) u) ?_ ?_ r 0 _ _ (by simp) ⟨x1, v, e1, e2, rfl, (a.hx hw x1).mono (by omega) (by omega), (b.st x1.stw).mono (by omega) (by omega)⟩
  · rintro i env hh hi ⟨X, u, e1, e2, rfl, av, rv⟩
    refine ⟨_, rfl, ?_⟩
    have i1 : i ≤ 1 := by omega
    have ip : 2 ^ i ≤ 2 := by
      rcases (show i = 0 ∨ i = 1 by omega) with rfl | rfl <;> decide
    have i0 : 1 ≤ 2 ^ i := Nat.pow_pos (by decide)
    have is : 2 ^ (i + 1) = 2 * 2 ^ i := by rw [Nat.pow_succ]; omega
    have dp := rv.dep
    have nd := rv.nodes
    simp [-List.append_assoc, -List.length_append, slot, Con.pv]
    refine nodes_wp (k := k + 9) (n := 11) (by omega) av (by omega) fun h2 g2 => ?_
    have X2 := X.trans (g2.hx X.well)
    have np := nodes_pos (v := u)
    refine draw_wp (k := k + 17) X2.well (by omega) (by omega) fun t h3 t0 t1 x3 => ?_
    have X3 := X2.trans x3
    have av3 := (av.gr g2).hx X2.well x3
    have rv3 := rv.st (g2.stw.trans x3.stw)
    have hBB : (i + 1) * 2 ^ 100 < 2 ^ 103 := by
      have : (i + 1) * 2 ^ 100 ≤ 2 * 2 ^ 100 := Nat.mul_le_mul_right _ (by omega)
      exact Nat.lt_of_le_of_lt this (by decide)
    refine spoilt_wpR (k := k + 1) (by omega) hBB 11 X3.well av3 rv3 (by omega) t0 t1 fun v' h4 av4 rv4 x4 => ?_
    refine ⟨X3.trans x4, av4.mono ?_ (by omega), rv4.mono (by omega) (by omega)⟩
    rw [Nat.add_mul (i + 1) 1]
    omega
  · rintro env hh ⟨X, u, e1, e2, rfl, av, rv⟩
    simp [slot]
    have ip : 2 ^ r ≤ 4 := by
      rcases (show r = 0 ∨ r = 1 ∨ r = 2 by omega) with rfl | rfl | rfl <;> decide
    exact q u hh (av.mono (Nat.mul_le_mul_right _ (by omega)) (by omega)) (rv.mono (by omega) (by omega)) X
end PK

set_option Elab.async false
set_option linter.all false
set_option maxRecDepth 100000
set_option maxHeartbeats 4000000
set_option exponentiation.threshold 5000
/-! PK01e: things drawn; what is asked with a size. -/
namespace PK
open PySem MP L2
variable {P : Prog} {k : Nat} {h h' : PH} {E : Str → PH → Prop} {v s : PV} {Q : PV → PH → Prop} {w c : Nat} {B L n m : Nat}
theorem thing_head : b1_law_thing = .asg 1 (.cl (Str.ofString "_law_draw") [.slot 0, .con (.int 8)]) :: .ifS (.cmp .eq (.slot 1) (.con (.int 0))) [.ret (.cl (Str.ofString "_law_any") [.slot 0, .con (.int 3)])] [] :: .ifS (.cmp .le (.slot 1) (.con (.int 3))) [.asg 3 (.cl (Str.ofString "_law_machine") [.slot 0])] [.ifS (.cmp .le (.slot 1) (.con (.int 5))) [.asg 3 (.cl (Str.ofString "_law_row") [.slot 0, .bin .add (.con (.int 2)) (.cl (Str.ofString "_law_draw") [.slot 0, .con (.int 3)])])] [.asg 3 (.cl (Str.ofString "_law_chances") [.slot 0, .bin .add (.con (.int 2)) (.cl (Str.ofString "_law_draw") [.slot 0, .con (.int 3)])])]] :: b1_thing_tail := rfl
theorem thing_wp [Dr P] [Fs P] [Mw P] [Rw P] [Dc P] [Vs P] [Tn P] (hw : Well h w c) (q : ∀ v' h', Val h' (3 * 2 ^ 100) 1612 v' → Rpr h' w 10 201320 v' → Hx w c h h' → Q v' h') : wp (callF P (k + 21) "_law_thing" [.obj w]) h Q E := by
  rw [wp_call Tn.thing rfl, thing_head]
  have K := fun (e1 e2 : Option PV) (u : PV) (h1 : PH) (x : Hx w c h h1) (a : Val h1 (2 ^ 100) 400 u) (b : Rpr h1 w 6 50000 u) => tail_wp (P := P) (k := k) (e1 := e1) (e2 := e2) (Q := Q) (E := E) x.well a b fun v' h' av rv x2 => q v' h' av rv (x.trans x2)
  generalize b1_thing_tail = T at K ⊢
  simp [-List.append_assoc, -List.length_append, slot, Con.pv]
  refine draw_wp (k := k + 17) hw (by omega) (by omega) fun r h1 r0 r1 x1 => ?_
  simp [-List.append_assoc, -List.length_append, slot, Con.pv]
  have hp : 1000000 ≤ 2 ^ 100 := by decide
  by_cases e0 : r = 0
  · refine .inr ⟨e0, any_wpR (k := k + 13) 3 x1.well fun v' h2 av dv rv x2 => ?_⟩
    exact q v' h2 (av.mono (by omega) (by omega)) (rv.mono (by omega) (by decide)) (x1.trans x2)
  refine .inl ⟨e0, ?_⟩
  by_cases e3 : r ≤ 3
  · refine .inr ⟨e3, machine_wp (k := k + 15) x1.well fun s rs h2 mk x2 => ?_⟩
    exact K _ _ _ h2 (x1.trans x2) ((val_mach mk).mono hp (by omega)) (rpr_mach mk)
  refine .inl ⟨by omega, ?_⟩
  by_cases e5 : r ≤ 5
  · refine .inr ⟨e5, draw_wp (k := k + 17) x1.well (by omega) (by omega) fun z h2 z0 z1 x2 => ?_⟩
    obtain ⟨s, hs⟩ : ∃ s : Nat, 2 + z = (s : Int) := ⟨(2 + z).toNat, by omega⟩
    simp [-List.append_assoc, -List.length_append, slot, Con.pv, hs]
    refine row_wp (k := k + 16) x2.well (by omega) (by omega) fun row h3 hl hr x3 => ?_
    exact K _ _ _ h3 ((x1.trans x2).trans x3) ((val_row (s := s) hl (by omega) hr).mono hp (by omega)) (rpr_row hl (s := s) (by omega) hr)
  · refine .inl ⟨by omega, draw_wp (k := k + 17) x1.well (by omega) (by omega) fun z h2 z0 z1 x2 => ?_⟩
    obtain ⟨s, hs⟩ : ∃ s : Nat, 2 + z = (s : Int) := ⟨(2 + z).toNat, by omega⟩
    simp [-List.append_assoc, -List.length_append, slot, Con.pv, hs]
    refine chances_wp (k := k + 16) x2.well (by omega) (by omega) fun ns h3 ok x3 => ?_
    exact K _ _ _ h3 ((x1.trans x2).trans x3) ((val_chD (s := s) (by omega) ok).mono hp (by omega)) (rpr_ch (s := s) (by omega) ok)
def b1_law_told : List S := [.asg 3 (.tup [.con (.str (Str.ofString "other")), .con .non]), .tryS [.asg 3 (.tup [.con (.str (Str.ofString "told")), .clv 0 [.slot 1, .slot 2]])] [((Str.ofString "NoSize"), [.asg 3 (.tup [.con (.str (Str.ofString "size")), .con .non])]), ((Str.ofString "MissError"), [.asg 3 (.tup [.con (.str (Str.ofString "other")), .con .non])])], .ret (.slot 3)]
def b1_law_sized_right : List S := [.asg 4 (.cl (Str.ofString "_law_told") [.slot 0, .slot 2, .slot 3]), .ifS (.not_ (.cl (Str.ofString "_law_is_int") [.slot 2, .con (.int 2), .con (.int 4)])) [.ret (.cmp .eq (.slot 4) (.tup [.con (.str (Str.ofString "size")), .con .non]))] [], .ret (.and_ [.cmp .eq (.sub (.slot 4) (.con (.int 0))) (.con (.str (Str.ofString "told"))), .isi (.sub (.slot 4) (.con (.int 1))) .bool, .cmp .eq (.sub (.slot 4) (.con (.int 1))) (.clv 1 [.slot 2, .slot 3])])]
def b1_is_row : List S := [.expr (.cl (Str.ofString "check_size") [.slot 0]), .ret (.cl (Str.ofString "raw_is_row") [.slot 0, .slot 1])]
def b1_is_chances : List S := [.expr (.cl (Str.ofString "check_size") [.slot 0]), .ret (.cl (Str.ofString "raw_is_chances") [.slot 0, .slot 1])]
def b1_check_size : List S := [.ifS (.not_ (.cl (Str.ofString "is_size") [.slot 0])) [.raise (Str.ofString "NoSize")] []]
class Sz (P : Prog) : Prop where
  told : Has P "_law_told" 3 4 b1_law_told
  sized_right : Has P "_law_sized_right" 4 5 b1_law_sized_right
  is_row : Has P "is_row" 2 2 b1_is_row
  is_chances : Has P "is_chances" 2 2 b1_is_chances
  check_size : Has P "check_size" 1 1 b1_check_size
  nn : P.sub "NoSize" "NoSize" = some true
theorem check_size_wp [Ck P] [Mz P] [Sz P] (o : Ok h s) (q : isSize s = true → Q .non h) (e : isSize s = false → E "NoSize" h) : wp (callF P (k + 4) "check_size" [s]) h Q E := by
  rw [wp_call Sz.check_size rfl]
  unfold b1_check_size
  simp [slot]
  refine is_size_wp o ?_
  cases hm : isSize s with
  | true => simpa using q hm
  | false => simpa using e hm
theorem is_row_wp [Ck P] [Mz P] [Mr P] [Sz P] (o : Ok h v) (os : Ok h s) (q : ∀ i, s = .int i → isSize s = true → ∀ h', Gr h h' → Q (.bl (isRow i v)) h') (e : isSize s = false → E "NoSize" h) : wp (callF P (k + 5) "is_row" [s, v]) h Q E := by
  rw [wp_call Sz.is_row rfl]
  unfold b1_is_row
  simp [slot]
  refine check_size_wp os (fun hs => ?_) e
  obtain ⟨i, rfl, _, _⟩ := size_of hs
  exact raw_is_row_wp o fun h' g => q i rfl hs h' g
theorem is_chances_wp [Ck P] [Mf P] [Mz P] [Fp P] [On P] [Ng P] [Rk P] [Sz P] (hB : B < 2 ^ 102) (a : Val h B L v) (os : Ok h s) (q : ∀ i, s = .int i → isSize s = true → ∀ h', Gr h h' → Q (.bl (isCh i v)) h') (e : isSize s = false → E "NoSize" h) : wp (callF P (k + 5) "is_chances" [s, v]) h Q E := by
  rw [wp_call Sz.is_chances rfl]
  unfold b1_is_chances
  simp [slot]
  refine check_size_wp os (fun hs => ?_) e
  obtain ⟨i, rfl, h1, h2⟩ := size_of hs
  exact raw_is_chances_wp (k := k + 1) ⟨h1, h2⟩ hB a fun h' g => q i rfl hs h' g
theorem told_wp [Sz P] {f : Str} (hf : (P.fT f).isSome = true) (ask : wp (callF P k f [s, v]) h (fun u h1 => Q (strV "told" u) h1) (fun c h1 => c = "NoSize" ∧ Q (strV "size" .non) h1)) : wp (callF P (k + 1) "_law_told" [.fn f, s, v]) h Q E := by
  rw [wp_call Sz.told rfl]
  unfold b1_law_told
  have hk : (globOf P k).known f = true := hf
  rw [s_cons]
  simp [slot, Con.pv]
  refine s_try ?_
  simp [slot, Con.pv, fnP, hk]
  refine wp_mono ask (fun u h1 z => z) fun c h1 z vs => ?_
  obtain ⟨rfl, z⟩ := z
  rw [hs_yes (by exact Sz.nn)]
  simp [slot, Con.pv]
  exact z
theorem eqSize : eqP h (strV "size" .non) (.tup [.str "size", .non]) = some true := eq_told (x := "size") (y := .non) (d := .none) rfl (by decide +kernel) rfl
theorem eqTold : eqP h (.str "told") (.str "told") = some true := by
  unfold eqP
  have e : toData h 70 (.str "told") = some (.str "told") := rfl
  rw [e]
  decide +kernel
theorem eqBl {b : Bool} : eqP h (.bl b) (.bl b) = some true := by
  unfold eqP
  have e : toData h 70 (.bl b) = some (.bool b) := rfl
  rw [e]
  cases b <;> decide +kernel
/-- both answers: a size is asked for, and they are alike -/
theorem sized_wp [Sz P] [Jl P] {f g : Str} {fit : Int → Bool} (hf : (P.fT f).isSome = true) (hg : (P.fT g).isSome = true) (os : Ok h s)
    (ask : ∀ (Q : PV → PH → Prop) (E : Str → PH → Prop), (∀ i, s = .int i → isSize s = true → ∀ h', Gr h h' → Q (.bl (fit i)) h') → (isSize s = false → E "NoSize" h) → wp (callF P (k + 5) f [s, v]) h Q E)
    (due : ∀ (i : Int) (h1 : PH) (Q : PV → PH → Prop) (E : Str → PH → Prop), s = .int i → isSize s = true → Gr h h1 → (∀ h', Gr h1 h' → Q (.bl (fit i)) h') → wp (callF P (k + 6) g [s, v]) h1 Q E)
    (q : ∀ h', Gr h h' → Q (.bl true) h') : wp (callF P (k + 7) "_law_sized_right" [.fn f, .fn g, s, v]) h Q E := by
  rw [wp_call Sz.sized_right rfl]
  unfold b1_law_sized_right
  have hk : (globOf P (k + 6)).known g = true := hg
  simp [slot, Con.pv]
  refine told_wp (k := k + 5) hf (ask _ _ (fun i ei hs h1 g1 => ?_) fun hs => ⟨rfl, ?_⟩)
  · refine l_is_int_wp (k := k + 5) (os.gr g1) ?_
    have hb : isBetween s 2 4 = true := hs
    rw [hb]
    simp [slot, Con.pv, strV, atI, ixN, fnP, hk]
    refine .inr ⟨eqTold, .inr ⟨rfl, ?_⟩⟩
    refine due i h1 _ _ ei hs g1 fun h2 g2 => ?_
    exact .inr ⟨eqBl, q h2 (g1.trans g2)⟩
  · refine l_is_int_wp (k := k + 5) os ?_
    have hb : isBetween s 2 4 = false := hs
    rw [hb]
    simp [slot, Con.pv]
    exact .inr ⟨eqSize, q h .refl⟩
end PK

set_option Elab.async false
set_option linter.all false
set_option maxRecDepth 100000
set_option maxHeartbeats 4000000
set_option exponentiation.threshold 5000
/-! PK05a: numbers, words, lines as texts; plain. -/
namespace PK
open PySem MP L2 TL
def decS (i : Int) : Str := Str.ofString (toString i)
theorem numL_head {n : Nat} (h : 0 < n) : ∃ c r, numL n = c :: r ∧ c ≠ 48 := by
  induction n using Nat.strongRecOn with
  | _ n ih =>
    by_cases h1 : n < 10
    · exact ⟨48 + n, [], numL_lt h1, by omega⟩
    · obtain ⟨c, r, e, hc⟩ := ih (n / 10) (by omega) (by omega)
      exact ⟨c, r ++ [48 + n % 10], by rw [numL_step (by omega), e]; rfl, hc⟩
theorem tl_dec (i : Int) : tl (decS i) = if i < 0 then 45 :: numL i.natAbs else numL i.natAbs := by
  cases i with
  | ofNat m =>
    rw [if_neg (by have : (0 : Int) ≤ Int.ofNat m := Int.natCast_nonneg m
                   omega)]
    exact tl_num m
  | negSucc m =>
    rw [if_pos (Int.negSucc_lt_zero m)]
    have e : toString (Int.negSucc m) = "-" ++ toString (((m + 1 : Nat)) : Int) := rfl
    unfold decS
    show (Str.ofString (toString (Int.negSucc m))).cps.toList = _
    rw [e, PyProof.Rows.signs_ofString, String.toList_append, List.map_append]
    have h2 := tl_num (m + 1)
    rw [show tl (Str.ofString (toString (((m + 1 : Nat)) : Int))) = (Str.ofString (toString (((m + 1 : Nat)) : Int))).cps.toList from rfl, PyProof.Rows.signs_ofString] at h2
    rw [h2]
    rfl
/-! ### what a word is read as -/
def isDg (c : Nat) : Bool := decide (c ∈ tl (Str.ofString "0123456789"))
theorem isDg_iff {c : Nat} : isDg c = true ↔ 48 ≤ c ∧ c ≤ 57 := by
  have e : tl (Str.ofString "0123456789") = [48, 49, 50, 51, 52, 53, 54, 55, 56, 57] := by decide +kernel
  unfold isDg
  rw [e, decide_eq_true_iff]
  simp only [List.mem_cons, List.not_mem_nil, or_false]
  omega
def nOf (l : List Nat) : Option Nat := if (1 ≤ l.length ∧ l.length ≤ 7) ∧ l.all isDg = true ∧ (l = [48] ∨ l.head? ≠ some 48) then some (NumText.digitsVal l) else none
def nV : Option Nat → PV
  | some n => .int (n : Nat)
  | none => .non
def zOf : List Nat → Option Int
  | 45 :: r => match nOf r with
    | some 0 => none
    | some n => some (-(n : Int))
    | none => none
  | l => (nOf l).map fun n => (n : Int)
def zV : Option Int → PV
  | some n => .int n
  | none => .non
theorem numL_all (n : Nat) : (numL n).all isDg = true := List.all_eq_true.mpr fun c hc => isDg_iff.mpr (numL_digits n c hc)
theorem nOf_num {n : Nat} (h : n < 10 ^ 7) : nOf (numL n) = some n := by
  unfold nOf
  have h1 : 0 < (numL n).length := List.length_pos_iff.mpr (numL_ne n)
  have h2 := numL_len (k := 7) (by decide) h
  have h3 : numL n = [48] ∨ (numL n).head? ≠ some 48 := by
    by_cases z : n = 0
    · subst z; exact .inl (by decide +kernel)
    · obtain ⟨c, r, e, hc⟩ := numL_head (n := n) (by omega)
      rw [e]
      exact .inr (by simp [hc])
  rw [if_pos ⟨⟨h1, h2⟩, numL_all n, h3⟩, numL_val]
theorem zOf_dec {i : Int} (h : i.natAbs < 10 ^ 7) : zOf (tl (decS i)) = some i := by
  rw [tl_dec]
  by_cases hi : i < 0
  · rw [if_pos hi]
    show (match nOf (numL i.natAbs) with
      | some 0 => none
      | some n => some (-(n : Int))
      | none => none) = _
    obtain ⟨m, hm⟩ : ∃ m, i.natAbs = m + 1 := ⟨i.natAbs - 1, by omega⟩
    rw [nOf_num h, hm]
    show some (-((m + 1 : Nat) : Int)) = _
    congr 1
    omega
  · rw [if_neg hi]
    have hne : (∀ r, numL i.natAbs ≠ 45 :: r) := fun r e => by
      have := numL_digits i.natAbs 45 (by rw [e]; simp)
      omega
    unfold zOf
    split
    · rename_i r e; exact absurd e (hne r)
    · rw [nOf_num h]
      show some ((i.natAbs : Nat) : Int) = _
      congr 1
      omega
theorem nOf_dec {n : Nat} (h : n < 10 ^ 7) : nOf (tl (decS (n : Nat))) = some n := by
  rw [tl_dec, if_neg (by omega)]
  exact nOf_num h
theorem dec_free {i : Int} {s : Nat} (h : s ≠ 45 ∧ (s < 48 ∨ 57 < s)) : s ∉ tl (decS i) := by
  rw [tl_dec]
  split
  · intro hm
    rcases List.mem_cons.mp hm with e | hm
    · exact h.1 e
    · exact numL_free h.2 hm
  · exact numL_free h.2
theorem dec_len {i : Int} (h : i.natAbs < 10 ^ 7) : (decS i).length ≤ 8 := by
  rw [len_tl, tl_dec]
  have := numL_len (k := 7) (by decide) h
  split
  · simp; omega
  · omega
/-! ### the texts -/
def cS (x : String) : Str := Str.ofString x
def stepS (st : Stp) : Str := decS st.1.1 ++ cS "/" ++ decS st.1.2 ++ cS ":" ++ decS (st.2 : Nat)
def lineS (r : List Stp) : Str := Txt.join (cS " ") (r.map stepS)
def headS (s : Nat) : Str := cS "size " ++ decS (s : Nat)
def textS (s : Nat) (rs : List (List Stp)) : Str := (rs.map lineS).foldl (fun t x => t ++ x ++ cS "\n") (headS s ++ cS "\n")
theorem tl_nl : tl (cS "\n") = [10] := by decide +kernel
theorem tl_sp : tl (cS " ") = [32] := by decide +kernel
theorem tl_co : tl (cS ":") = [58] := by decide +kernel
theorem tl_sl : tl (cS "/") = [47] := by decide +kernel
theorem tl_size : tl (cS "size ") = [115, 105, 122, 101, 32] := by decide +kernel
/-- lines, each with its end -/
theorem join_lines : ∀ (l : List Str), Txt.join (cS "") (l.map fun x => x ++ cS "\n") = ⟨((l.map fun x => tl x ++ [10]).flatten).toArray⟩
  | [] => by rw [join_eq]; rfl
  | [x] => by
    rw [join_eq]
    refine ext_tl ?_
    show tl (x ++ cS "\n") = _
    rw [tl_append, tl_nl]
    simp
  | x :: y :: l => by
    have ih := join_lines (y :: l)
    rw [join_eq] at ih ⊢
    refine ext_tl ?_
    show tl (x ++ cS "\n" ++ cS "" ++ Str.join (cS "") ((y :: l).map fun x => x ++ cS "\n")) = _
    rw [ih, tl_append, tl_append, tl_append, tl_nl]
    have e : tl (cS "") = [] := by decide +kernel
    rw [e]
    simp
theorem fold_lines : ∀ (l : List Str) (t : Str), tl (l.foldl (fun t x => t ++ x ++ cS "\n") t) = tl t ++ (l.map fun x => tl x ++ [10]).flatten
  | [], t => by simp
  | x :: l, t => by
    rw [List.foldl_cons, fold_lines l, tl_append, tl_append, tl_nl]
    simp
/-- the program's text is the law's -/
theorem text_eq {s : Nat} {rs : List (List Stp)} : Txt.join (cS "") (((headS s) :: rs.map lineS).map fun x => x ++ cS "\n") = textS s rs := by
  rw [join_lines]
  refine ext_tl ?_
  unfold textS
  rw [fold_lines, tl_append, tl_nl]
  simp
theorem join_end : ∀ (l : List Str), l ≠ [] → (l.map fun x => tl x ++ [10]).flatten = tl (Txt.join (cS "\n") (l ++ [cS ""]))
  | [], h => absurd rfl h
  | [x], _ => by
    rw [join_eq]
    show _ = tl (x ++ cS "\n" ++ cS "")
    rw [tl_append, tl_append, tl_nl]
    have e : tl (cS "") = [] := by decide +kernel
    rw [e]
    simp
  | x :: y :: l, _ => by
    have ih := join_end (y :: l) (by simp)
    rw [join_eq] at ih ⊢
    show _ = tl (x ++ cS "\n" ++ Str.join (cS "\n") ((y :: l) ++ [cS ""]))
    rw [tl_append, tl_append, tl_nl, ← ih]
    simp
theorem step_free {st : Stp} {s : Nat} (h : s ≠ 45 ∧ (s < 48 ∨ 57 < s) ∧ s ≠ 47 ∧ s ≠ 58) : s ∉ tl (stepS st) := by
  unfold stepS
  rw [tl_append, tl_append, tl_append, tl_append, tl_sl, tl_co]
  simp only [List.mem_append, List.mem_singleton, not_or]
  exact ⟨⟨⟨⟨dec_free ⟨h.1, h.2.1⟩, h.2.2.1⟩, dec_free ⟨h.1, h.2.1⟩⟩, h.2.2.2⟩, dec_free ⟨h.1, h.2.1⟩⟩
theorem joinL_free {S : List Nat} {s : Nat} (hS : s ∉ S) : ∀ {ps : List (List Nat)}, (∀ p ∈ ps, s ∉ p) → s ∉ joinL S ps
  | [], _ => by simp [joinL]
  | [p], h => h p (by simp)
  | p :: q :: r, h => by
    show s ∉ p ++ (S ++ joinL S (q :: r))
    simp only [List.mem_append, not_or]
    exact ⟨h p (by simp), hS, joinL_free hS fun z hz => h z (List.mem_cons_of_mem _ hz)⟩
theorem line_free {r : List Stp} : 10 ∉ tl (lineS r) := by
  unfold lineS
  rw [join_eq, tl_join, tl_sp]
  refine joinL_free (by decide) fun p hp => ?_
  obtain ⟨z, hz, rfl⟩ := List.mem_map.mp hp
  obtain ⟨st, _, rfl⟩ := List.mem_map.mp hz
  exact step_free (by decide)
theorem head_free {s : Nat} : 10 ∉ tl (headS s) := by
  unfold headS
  rw [tl_append, tl_size]
  simp only [List.mem_append, not_or]
  exact ⟨by decide, dec_free (by decide)⟩
/-- a machine's text, split -/
theorem split_text {s : Nat} {rs : List (List Stp)} : Txt.split (textS s rs) (cS "\n") = headS s :: rs.map lineS ++ [cS ""] := by
  have e : textS s rs = Txt.join (cS "\n") (headS s :: rs.map lineS ++ [cS ""]) := by
    refine ext_tl ?_
    rw [← text_eq, join_lines]
    exact join_end _ (by simp)
  rw [e]
  refine split_join (s := 10) (S := []) tl_nl (by decide +kernel) (by simp) fun p hp => ?_
  rcases List.mem_append.mp hp with hp | hp
  · rcases List.mem_cons.mp hp with rfl | hp
    · exact head_free
    · obtain ⟨r, _, rfl⟩ := List.mem_map.mp hp
      exact line_free
  · rw [List.mem_singleton.mp hp]
    decide +kernel
theorem split_head {s : Nat} : Txt.split (headS s) (cS " ") = [cS "size", decS (s : Nat)] := by
  have e : headS s = Txt.join (cS " ") [cS "size", decS (s : Nat)] := by
    rw [join_eq]
    refine ext_tl ?_
    show tl (cS "size " ++ decS (s : Nat)) = tl (cS "size" ++ cS " " ++ decS (s : Nat))
    rw [tl_append, tl_append, tl_append, tl_size, tl_sp]
    have : tl (cS "size") = [115, 105, 122, 101] := by decide +kernel
    rw [this]
    rfl
  rw [e]
  refine split_join (s := 32) (S := []) tl_sp (by decide +kernel) (by simp) fun p hp => ?_
  simp only [List.mem_cons, List.not_mem_nil, or_false] at hp
  rcases hp with rfl | rfl
  · decide +kernel
  · exact dec_free (by decide)
theorem split_line {r : List Stp} (hr : r ≠ []) : Txt.split (lineS r) (cS " ") = r.map stepS := by
  refine split_join (s := 32) (S := []) tl_sp (by decide +kernel) (fun e => hr (List.map_eq_nil_iff.mp e)) fun p hp => ?_
  obtain ⟨st, _, rfl⟩ := List.mem_map.mp hp
  exact step_free (by decide)
def allowS (st : Stp) : Str := decS st.1.1 ++ cS "/" ++ decS st.1.2
theorem split_step {st : Stp} : Txt.split (stepS st) (cS ":") = [allowS st, decS (st.2 : Nat)] := by
  have e : stepS st = Txt.join (cS ":") [allowS st, decS (st.2 : Nat)] := by
    rw [join_eq]
    rfl
  rw [e]
  refine split_join (s := 58) (S := []) tl_co (by decide +kernel) (by simp) fun p hp => ?_
  simp only [List.mem_cons, List.not_mem_nil, or_false] at hp
  rcases hp with rfl | rfl
  · unfold allowS
    rw [tl_append, tl_append, tl_sl]
    simp only [List.mem_append, List.mem_singleton, not_or]
    exact ⟨⟨dec_free (by decide), by decide⟩, dec_free (by decide)⟩
  · exact dec_free (by decide)
theorem split_allow {st : Stp} : Txt.split (allowS st) (cS "/") = [decS st.1.1, decS st.1.2] := by
  have e : allowS st = Txt.join (cS "/") [decS st.1.1, decS st.1.2] := by
    rw [join_eq]
    rfl
  rw [e]
  refine split_join (s := 47) (S := []) tl_sl (by decide +kernel) (by simp) fun p hp => ?_
  simp only [List.mem_cons, List.not_mem_nil, or_false] at hp
  rcases hp with rfl | rfl <;> exact dec_free (by decide)
end PK

set_option Elab.async false
set_option linter.all false
set_option maxRecDepth 100000
set_option maxHeartbeats 4000000
set_option exponentiation.threshold 5000
/-! PK05b: words read. -/
namespace PK
open PySem MP L2 TL
def b5_number_of : List S := [.ifS (.or_ [.not_ (.chain .le .le (.con (.int 1)) (.bi .len [.slot 0]) (.gl (Str.ofString "MOST_DIGITS"))), .not_ (.bi .all [.lc (.inT (.slot 1) (.con (.str (Str.ofString "0123456789")))) (.nm 1) .val [.slot 0] [] [1]])]) [.ret (.con .non)] [], .ret (.ife (.or_ [.cmp .eq (.slot 0) (.con (.str (Str.ofString "0"))), .cmp .ne (.subS (.slot 0) (.con (.int 0))) (.con (.str (Str.ofString "0")))]) (.bi .int [.slot 0]) (.con .non))]
def b5_signed : List S := [.ifS (.cmp .ne (.slcS (.slot 0) (.con .non) (.con (.int 1))) (.con (.str (Str.ofString "-")))) [.ret (.cl (Str.ofString "number_of") [.slot 0])] [], .asg 1 (.cl (Str.ofString "number_of") [.slcS (.slot 0) (.con (.int 1)) (.con .non)]), .ret (.ife (.or_ [.cmp .is (.slot 1) (.con .non), .cmp .eq (.slot 1) (.con (.int 0))]) (.con .non) (.neg (.slot 1)))]
def b5_parted : List S := [.asg 2 (.smth false (.slot 0) (.slot 1)), .ret (.ife (.cmp .eq (.bi .len [.slot 2]) (.con (.int 2))) (.tup [.sub (.slot 2) (.con (.int 0)), .sub (.slot 2) (.con (.int 1))]) (.tup [.con (.str (Str.ofString "")), .con (.str (Str.ofString ""))]))]
def b5_read_step : List S := [.asgT [.nm 1, .nm 2] (.cl (Str.ofString "parted") [.slot 0, .con (.str (Str.ofString ":"))]), .asgT [.nm 3, .nm 4] (.cl (Str.ofString "parted") [.slot 1, .con (.str (Str.ofString "/"))]), .ret (.tup [.tup [.cl (Str.ofString "signed") [.slot 3], .cl (Str.ofString "number_of") [.slot 4]], .cl (Str.ofString "number_of") [.slot 2]])]
class Nt (P : Prog) : Prop where
  MD : P.cT "MOST_DIGITS" = some (.int 7)
  number_of : Has P "number_of" 1 2 b5_number_of
  signed : Has P "signed" 1 2 b5_signed
  parted : Has P "parted" 2 3 b5_parted
  read_step : Has P "read_step" 1 5 b5_read_step
variable {P : Prog} {k : Nat} {h h' : PH} {E : Str → PH → Prop} {v : PV} {Q : PV → PH → Prop} {x : Str}
theorem boolsP_bls : ∀ bs : List Bool, boolsP (bs.map PV.bl) = some bs
  | [] => rfl
  | b :: bs => by
    show (boolsP (bs.map PV.bl)).map (b :: ·) = _
    rw [boolsP_bls bs]
    rfl
theorem str_zero : tl (Str.ofString "0") = [48] := by decide +kernel
theorem is_zero {x : Str} : x = Str.ofString "0" ↔ tl x = [48] := ⟨fun e => by rw [e, str_zero], fun e => ext_tl (by rw [e, str_zero])⟩
theorem sign_zero {c : Nat} : eqP h (signV c) (.str (Str.ofString "0")) = some (decide (c = 48)) := by
  unfold signV
  rw [eqStr]
  congr 1
  have : ((⟨#[c]⟩ : Str) = Str.ofString "0") ↔ c = 48 := by
    rw [is_zero]
    show [c] = [48] ↔ _
    simp
  exact decide_eq_decide.mpr this
/-- the flags of a text's signs -/
theorem lc_signs {G : Glob} {env : Env'} {i : Nat} {src elt : MP.E} {p : Nat → Bool} {R : List Bool → PH → Prop} (hs : ∀ (R : PV → PH → Prop), R (.str x) h → wp (evalE G src env) h R E) (hl : x.length ≤ 1000000)
    (body : ∀ c ∈ tl x, ∀ h1, wp (evalE G elt ((wipeE env [i]).set i (some (signV c)))) h1 (fun v h2 => v = .bl (p c) ∧ Gr h1 h2) fun _ _ => False) (q : ∀ h1, Gr h h1 → R ((tl x).map p) h1) : wp (evalE G (.lc elt (.nm i) .val [src] [] [i]) env) h (fun v h1 => ∃ bs, (lstP h1 v).bind boolsP = some bs ∧ R bs h1) E := by
  rw [x_lc]
  simp only [x_cons, x_nil]
  refine hs _ ?_
  simp only [p_itS]
  have hlen : (tl x).length ≤ 1000000 := by rw [← len_tl]; exact hl
  refine wp_lc (xs := (tl x).map signV) (fun j acc h1 => Gr h h1 ∧ acc = ((tl x).take j).map fun c => .bl (p c)) (fun _ _ _ _ => rfl) ?_ ?_ ((tl x).map signV).length 0 [] h (by simp) ⟨.refl, by simp⟩
  · rintro j v acc h1 hv ⟨g, rfl⟩
    rw [List.getElem?_map] at hv
    cases hc : (tl x)[j]? with
    | none => rw [hc] at hv; cases hv
    | some c =>
      rw [hc] at hv
      cases hv
      have hj : j < (tl x).length := (List.getElem?_eq_some_iff.mp hc).1
      simp [putT]
      refine wp_mono (body c (List.mem_of_getElem? hc) h1) (fun r h2 z => ?_) fun _ _ z => z
      obtain ⟨rfl, g2⟩ := z
      refine ⟨by rw [sizeLine_eq]; omega, g.trans g2, ?_⟩
      rw [List.take_add_one, List.getElem?_map, hc]
      rfl
  · rintro acc h1 ⟨g, rfl⟩
    rw [List.length_map, List.take_length]
    have e : ((tl x).map fun c => PV.bl (p c)) = ((tl x).map p).map PV.bl := by simp
    exact ⟨_, by rw [lstP_app, e]; exact (by
      exact boolsP_bls _), q _ (g.trans .app)⟩
theorem number_of_wp [Nt P] (hl : x.length ≤ 1000000) (q : ∀ h', Gr h h' → Q (nV (nOf (tl x))) h') : wp (callF P (k + 1) "number_of" [.str x]) h Q E := by
  rw [wp_call Nt.number_of rfl]
  unfold b5_number_of
  simp [-List.append_assoc, -List.length_append, slot, Con.pv, Nt.MD]
  rw [p_len]
  have hsz : x.length ≤ sizeLine := by rw [sizeLine_eq]; omega
  refine ⟨x.length, if_pos hsz, ?_⟩
  have hlen : x.length = (tl x).length := len_tl x
  have no : ¬ ((1 ≤ (tl x).length ∧ (tl x).length ≤ 7) ∧ (tl x).all isDg = true ∧ (tl x = [48] ∨ (tl x).head? ≠ some 48)) → ∀ h', Gr h h' → Q .non h' := fun z h' g => by
    have := q h' g
    unfold nOf at this
    rw [if_neg z] at this
    exact this
  simp
  by_cases c1 : 1 ≤ x.length
  case neg => exact .inl ⟨by omega, no (fun z => c1 (by omega)) h .refl⟩
  refine .inr ⟨by omega, ?_⟩
  by_cases c2 : x.length ≤ 7
  case neg => exact .inl ⟨by omega, no (fun z => c2 (by omega)) h .refl⟩
  refine .inr ⟨by omega, ?_⟩
  refine lc_signs (x := x) (p := isDg) (fun R r => by simpa [slot] using r) hl (fun c _ h1 => by
    simp only [x_inT, x_slot, x_con]
    refine ⟨_, rfl, ?_⟩
    exact ⟨rfl, .refl⟩) fun h1 g => ?_
  by_cases c3 : (tl x).all isDg = true
  case neg =>
    refine .inl ⟨?_, no (fun z => c3 z.2.1) h1 g⟩
    have c3 : (tl x).all isDg = false := by simpa using c3
    obtain ⟨c, hc, hd⟩ := List.all_eq_false.mp c3
    exact List.mem_map.mpr ⟨c, hc, by simpa using hd⟩
  refine .inr ⟨fun z => ?_, ?_⟩
  · obtain ⟨c, hc, hd⟩ := List.mem_map.mp z
    rw [List.all_eq_true.mp c3 c hc] at hd
    cases hd
  have hd : NumText.AllDigits (tl x) := fun c hc => isDg_iff.mp (List.all_eq_true.mp c3 c hc)
  have hne : tl x ≠ [] := fun z => by rw [z] at hlen; simp at hlen; omega
  have hn := PySem.intText_digits (x := x) hd hne (by omega)
  have yes : (tl x = [48] ∨ (tl x).head? ≠ some 48) → Q (.int ((NumText.digitsVal (tl x) : Nat) : Int)) h1 := fun z => by
    have := q h1 g
    unfold nOf at this
    rw [if_pos ⟨⟨by omega, by omega⟩, c3, z⟩] at this
    exact this
  rw [eqStr]
  by_cases c4 : x = Str.ofString "0"
  · exact .inr ⟨by simp [c4], by omega, _, hn, yes (.inl (is_zero.mp c4))⟩
  · refine .inl ⟨by simp [c4], hsz, ?_⟩
    obtain ⟨c, r, ec⟩ := List.exists_cons_of_ne_nil hne
    refine ⟨c, by rw [show x.cps.toList = c :: r from ec]; simp [atI, ixN], ?_⟩
    rw [sign_zero]
    by_cases c5 : c = 48
    · refine .inr ⟨by simp [c5], no (fun z => ?_) h1 g⟩
      rcases z.2.2 with z | z
      · exact c4 (is_zero.mpr z)
      · rw [ec, c5] at z
        exact z rfl
    · exact .inl ⟨by simp [c5], by omega, _, hn, yes (.inr (by rw [ec]; simpa using c5))⟩
/-! ### parts -/
theorem cut_head : tl (cutS x none (some 1)) = (tl x).take 1 := by
  have e : cutS x none (some ((1 : Nat) : Int)) = cutS x none (some 1) := rfl
  rw [← e]
  unfold cutS
  rw [tl_mk, HT.sIx_nat, HT.sIx_none, len_tl]
  simp only [Nat.sub_zero, List.drop_zero]
  by_cases z : (tl x).length ≤ 1
  · rw [Nat.min_eq_right z, List.take_of_length_le (Nat.le_refl _), List.take_of_length_le z]
  · rw [Nat.min_eq_left (by omega)]
theorem cut_tail : tl (cutS x (some 1) none) = (tl x).drop 1 := by
  have e : cutS x (some ((1 : Nat) : Int)) none = cutS x (some 1) none := rfl
  rw [← e]
  unfold cutS
  rw [tl_mk, HT.sIx_nat, HT.sIx_none, len_tl]
  by_cases z : (tl x).length ≤ 1
  · rw [Nat.min_eq_right z, List.drop_of_length_le (Nat.le_refl _), List.drop_of_length_le z]
    simp
  · rw [Nat.min_eq_left (by omega), List.take_of_length_le (by simp)]
theorem str_minus : tl (Str.ofString "-") = [45] := by decide +kernel
theorem signed_wp [Nt P] (hl : x.length ≤ 1000000) (q : ∀ h', Gr h h' → Q (zV (zOf (tl x))) h') : wp (callF P (k + 2) "signed" [.str x]) h Q E := by
  rw [wp_call Nt.signed rfl]
  unfold b5_signed
  have hsz : x.length ≤ sizeLine := by rw [sizeLine_eq]; omega
  simp [-List.append_assoc, -List.length_append, slot, Con.pv, hsz, eqStr]
  have e1 : cutS x none (some 1) = Str.ofString "-" ↔ ∃ r, tl x = 45 :: r := by
    rw [show (cutS x none (some 1) = Str.ofString "-") ↔ (tl (cutS x none (some 1)) = tl (Str.ofString "-")) from ⟨fun e => by rw [e], ext_tl⟩, cut_head, str_minus]
    cases tl x with
    | nil => simp
    | cons c r => simp
  by_cases c1 : ∃ r, tl x = 45 :: r
  · refine .inr ⟨e1.mpr c1, ?_⟩
    obtain ⟨r, er⟩ := c1
    have ec : tl (cutS x (some 1) none) = r := by rw [cut_tail, er]; rfl
    refine number_of_wp (k := k) (by rw [len_tl, ec]; have := len_tl x; rw [er] at this; simp at this; omega) fun h1 g => ?_
    rw [ec]
    have q' := q h1 g
    rw [er] at q'
    have ez : zOf (45 :: r) = (match nOf r with
      | some 0 => none
      | some n => some (-(n : Int))
      | none => none) := rfl
    rw [ez] at q'
    cases en : nOf r with
    | none =>
      rw [en] at q'
      exact .inr ⟨rfl, q'⟩
    | some n =>
      rw [en] at q'
      refine .inl ⟨rfl, ?_⟩
      cases n with
      | zero => exact .inr ⟨rfl, q'⟩
      | succ n =>
        refine .inl ⟨?_, _, rfl, q'⟩
        show eqP h1 (.int ((n + 1 : Nat) : Int)) (.int 0) = some false
        rw [eqP_int]
        congr 1
  · refine .inl ⟨fun z => c1 (e1.mp z), number_of_wp (k := k) hl fun h1 g => ?_⟩
    have q' := q h1 g
    have ez : zOf (tl x) = (nOf (tl x)).map fun n => (n : Int) := by
      unfold zOf
      split
      · rename_i r e; exact absurd ⟨r, e⟩ c1
      · rfl
    rw [ez] at q'
    cases en : nOf (tl x) with
    | none => rw [en] at q'; exact q'
    | some n => rw [en] at q'; exact q'
def prt (x m : Str) : Str × Str := match Txt.split x m with
  | [a, b] => (a, b)
  | _ => (Str.ofString "", Str.ofString "")
theorem parted_wp [Nt P] {m : Str} (hm : (m.length == 0) = false) (hl : x.length ≤ 1000000) (q : ∀ h', Gr h h' → Q (.tup [.str (prt x m).1, .str (prt x m).2]) h') : wp (callF P (k + 1) "parted" [.str x, .str m]) h Q E := by
  rw [wp_call Nt.parted rfl]
  unfold b5_parted
  have hsz : x.length + 2 ≤ sizeLine := by rw [sizeLine_eq]; omega
  simp [-List.append_assoc, -List.length_append, slot, Con.pv, hsz, hm]
  have g := Gr.app (h := h) (o := .lst .own ((Txt.split x m).map .str))
  have q' := q _ g
  unfold prt at q'
  match e : Txt.split x m with
  | [a, b] =>
    rw [e] at q'
    exact .inr ⟨rfl, .str a, by simp [atI, ixN], .str b, by simp [atI, ixN], q'⟩
  | [] => rw [e] at q'; exact .inl ⟨by simp, q'⟩
  | [_] => rw [e] at q'; exact .inl ⟨by simp, q'⟩
  | _ :: _ :: _ :: r => rw [e] at q'; exact .inl ⟨by simp; omega, q'⟩
theorem joinL_le {S : List Nat} : ∀ {ps : List (List Nat)} {p : List Nat}, p ∈ ps → p.length ≤ (joinL S ps).length
  | [p], q, h => by rw [List.mem_singleton.mp h]; exact Nat.le_refl _
  | p :: p' :: r, q, h => by
    show q.length ≤ (p ++ (S ++ joinL S (p' :: r))).length
    simp only [List.length_append]
    rcases List.mem_cons.mp h with rfl | h
    · omega
    · have := joinL_le (S := S) h
      omega
theorem part_le {m p : Str} (h : p ∈ Txt.split x m) : p.length ≤ x.length := by
  have e : Str.join m (Txt.split x m) = x := StrLaws.join_split x m
  have := joinL_le (S := tl m) (List.mem_map.mpr ⟨p, h, rfl⟩ : tl p ∈ (Txt.split x m).map tl)
  rw [← tl_join, e] at this
  rw [len_tl, len_tl x]
  exact this
theorem prt_le {m : Str} : (prt x m).1.length ≤ x.length ∧ (prt x m).2.length ≤ x.length := by
  unfold prt
  have z : (Str.ofString "").length = 0 := by decide +kernel
  match e : Txt.split x m with
  | [a, b] => exact ⟨part_le (m := m) (by rw [e]; simp), part_le (m := m) (by rw [e]; simp)⟩
  | [] => exact ⟨by show (Str.ofString "").length ≤ _; omega, by show (Str.ofString "").length ≤ _; omega⟩
  | [_] => exact ⟨by show (Str.ofString "").length ≤ _; omega, by show (Str.ofString "").length ≤ _; omega⟩
  | _ :: _ :: _ :: r => exact ⟨by show (Str.ofString "").length ≤ _; omega, by show (Str.ofString "").length ≤ _; omega⟩
/-- a step's word, read -/
def stR (x : Str) : PV := .tup [.tup [zV (zOf (tl (prt (prt x (cS ":")).1 (cS "/")).1)), nV (nOf (tl (prt (prt x (cS ":")).1 (cS "/")).2))], nV (nOf (tl (prt x (cS ":")).2))]
theorem read_step_wp [Nt P] (hl : x.length ≤ 1000000) (q : ∀ h', Gr h h' → Q (stR x) h') : wp (callF P (k + 3) "read_step" [.str x]) h Q E := by
  rw [wp_call Nt.read_step rfl]
  unfold b5_read_step
  simp [-List.append_assoc, -List.length_append, slot, Con.pv]
  have h1 := prt_le (x := x) (m := cS ":")
  have h2 := prt_le (x := (prt x (cS ":")).1) (m := cS "/")
  refine parted_wp (P := P) (k := k + 1) (m := cS ":") (by decide +kernel) hl fun g1 x1 => ?_
  refine ⟨_, rfl, _, rfl, ?_⟩
  refine parted_wp (P := P) (k := k + 1) (m := cS "/") (by decide +kernel) (by omega) fun g2 x2 => ?_
  refine ⟨_, rfl, _, rfl, ?_⟩
  refine signed_wp (P := P) (k := k) (by omega) fun g3 x3 => ?_
  refine ⟨_, rfl, ?_⟩
  refine number_of_wp (P := P) (k := k + 1) (by omega) fun g4 x4 => ?_
  refine ⟨_, rfl, ?_⟩
  refine number_of_wp (P := P) (k := k + 1) (by omega) fun g5 x5 => ?_
  exact q g5 ((((x1.trans x2).trans x3).trans x4).trans x5)
theorem stR_step {st : Stp} (a : AllowOk st.1) (hs : st.2 < 12) : stR (stepS st) = stepV st := by
  have a1 := a.top
  have a2 := a.bot
  have a3 := a.pos
  have e1 : prt (stepS st) (cS ":") = (allowS st, decS (st.2 : Nat)) := by unfold prt; rw [split_step]
  have e2 : prt (allowS st) (cS "/") = (decS st.1.1, decS st.1.2) := by unfold prt; rw [split_allow]
  obtain ⟨b, hb⟩ : ∃ b : Nat, st.1.2 = (b : Int) := ⟨st.1.2.toNat, by omega⟩
  unfold stR stepV frV
  rw [e1]
  dsimp only
  rw [e2]
  dsimp only
  rw [zOf_dec (by omega), hb, nOf_dec (by omega), nOf_dec (by omega)]
  rfl
end PK

set_option Elab.async false
set_option linter.all false
set_option maxRecDepth 100000
set_option maxHeartbeats 4000000
set_option exponentiation.threshold 5000
/-! PK05c: read_machine of any text. -/
namespace PK
open PySem MP L2 TL
def b5_read_machine : List S := [.ifS (.not_ (.isi (.slot 0) .str)) [.ret (.con .non)] [], .asg 1 (.smth false (.slot 0) (.con (.str (Str.ofString "\n")))), .asg 2 (.smth false (.sub (.slot 1) (.con (.int 0))) (.con (.str (Str.ofString " ")))), .asg 3 (.ife (.and_ [.cmp .eq (.bi .len [.slot 2]) (.con (.int 2)), .cmp .eq (.sub (.slot 2) (.con (.int 0))) (.con (.str (Str.ofString "size")))]) (.cl (Str.ofString "number_of") [.sub (.slot 2) (.con (.int 1))]) (.con .non)), .ifS (.or_ [.cmp .is (.slot 3) (.con .non), .cmp .ne (.sub (.slot 1) (.neg (.con (.int 1)))) (.con (.str (Str.ofString "")))]) [.ret (.con .non)] [], .asg 4 (.tup [.slot 3, .bi .tuple [.lc (.bi .tuple [.lc (.cl (Str.ofString "read_step") [.slot 6]) (.nm 6) .val [.smth false (.slot 5) (.con (.str (Str.ofString " ")))] [] [6]]) (.nm 5) .val [.slc (.slot 1) (.con (.int 1)) (.neg (.con (.int 1)))] [] [5]]]), .ret (.ife (.cl (Str.ofString "is_machine") [.slot 4]) (.slot 4) (.con .non))]
class Rm (P : Prog) : Prop where
  read_machine : Has P "read_machine" 1 7 b5_read_machine
variable {P : Prog} {k : Nat} {h h' : PH} {E : Str → PH → Prop} {v : PV} {Q : PV → PH → Prop} {x f : Str} {ls : List Str}
theorem spl_ne {S : List Nat} : ∀ (l : List Nat) (n : Nat) (acc : List Nat), spl S n acc l ≠ []
  | [], n, acc => by rw [spl_nil]; simp
  | c :: r, 0, acc => by
    unfold spl
    split
    · simp
    · exact spl_ne r 0 _
  | c :: r, n + 1, acc => by
    unfold spl
    exact spl_ne r n acc
theorem split_ne {m : Str} (hm : tl m ≠ []) (hk : m.cps.all (· < 256) = true) : Txt.split x m ≠ [] := fun e => by
  have := split_spl x m hm (kind_ok hk)
  rw [e] at this
  exact spl_ne _ _ _ this.symm
def rowR (line : Str) : PV := .tup ((Txt.split line (cS " ")).map stR)
def sizeR (first : Str) : Option Nat := match Txt.split first (cS " ") with
  | [a, b] => if a = Str.ofString "size" then nOf (tl b) else none
  | _ => none
def foundR (n : Nat) (ls : List Str) : PV := .tup [.int (n : Nat), .tup (ls.dropLast.map rowR)]
/-- a text's machine, or none: told its lines -/
def rdR (f : Str) (ls : List Str) : PV := match sizeR f with
  | none => .non
  | some n => if (f :: ls).getLast? = some (Str.ofString "") then (if isMachine (foundR n ls) then foundR n ls else .non) else .non
theorem cut_mids {a : PV} {xs : List PV} : cutP (a :: xs) (some 1) (some (-1)) = xs.dropLast := by
  unfold cutP
  have e1 : HT.sIx (a :: xs).length 0 (some 1) = 1 := by
    have := HT.sIx_nat (a :: xs).length 0 1
    rw [show ((1 : Nat) : Int) = 1 from rfl] at this
    rw [this]
    simp
  have e2 : HT.sIx (a :: xs).length (a :: xs).length (some (-1)) = xs.length := by
    unfold HT.sIx
    simp
    omega
  rw [e1, e2, List.dropLast_eq_take]
  rfl
theorem lc_objs {α : Type} {G : Glob} {env : Env'} {i : Nat} {src elt : MP.E} {ys : List α} {g f : α → PV} {R : PV → PH → Prop} (hs : ∀ (R : PV → PH → Prop), (∀ h1 j, Gr h h1 → lstP h1 (.obj j) = some (ys.map g) → R (.obj j) h1) → wp (evalE G src env) h R E) (hl : ys.length ≤ 1000010)
    (body : ∀ a ∈ ys, ∀ h1, Gr h h1 → wp (evalE G elt ((wipeE env [i]).set i (some (g a)))) h1 (fun v h2 => v = f a ∧ Gr h1 h2) fun _ _ => False) (q : ∀ h1 j, Gr h h1 → lstP h1 (.obj j) = some (ys.map f) → R (.obj j) h1) : wp (evalE G (.lc elt (.nm i) .val [src] [] [i]) env) h R E := by
  rw [x_lc]
  simp only [x_cons, x_nil]
  refine hs _ fun h0 j g0 e0 => ?_
  rw [p_itO]
  refine ⟨⟨_, e0⟩, ?_⟩
  have sz : (Itr.lst j).size h0 = (ys.map g).length := by
    show ((lstP h0 (.obj j)).getD []).length = _
    rw [e0]
    rfl
  rw [sz]
  refine wp_lc (xs := ys.map g) (fun n acc h1 => Gr h0 h1 ∧ acc = (ys.take n).map f) (fun n acc h1 ⟨g1, _⟩ => ?_) ?_ ?_ (ys.map g).length 0 [] h0 (by simp) ⟨.refl, by simp⟩
  · show (lstP h1 (.obj j)).map (fun xs => xs[n]?) = _
    rw [g1.lst e0]
    rfl
  · rintro n v acc h1 hv ⟨g1, rfl⟩
    rw [List.getElem?_map] at hv
    cases hc : ys[n]? with
    | none => rw [hc] at hv; cases hv
    | some a =>
      rw [hc] at hv
      cases hv
      have hj : n < ys.length := (List.getElem?_eq_some_iff.mp hc).1
      simp [putT]
      refine wp_mono (body a (List.mem_of_getElem? hc) h1 (g0.trans g1)) (fun r h2 z => ?_) fun _ _ z => z
      obtain ⟨rfl, g2⟩ := z
      refine ⟨by rw [sizeLine_eq]; omega, g1.trans g2, ?_⟩
      rw [List.take_add_one, List.getElem?_map, hc]
      rfl
  · rintro acc h1 ⟨g1, rfl⟩
    rw [List.length_map, List.take_length]
    exact q _ _ ((g0.trans g1).trans .app) lstP_app
theorem ok_nV {o : Option Nat} : Ok h (nV o) := by cases o <;> first | exact .int _ | exact .non
theorem ok_zV {o : Option Int} : Ok h (zV o) := by cases o <;> first | exact .int _ | exact .non
theorem ok_two {x y : PV} (a : Ok h x) (b : Ok h y) : Ok h (.tup [x, y]) := .tup _ fun z hz => by
  simp at hz
  rcases hz with rfl | rfl
  · exact a
  · exact b
theorem ok_stR {x : Str} : Ok h (stR x) := ok_two (ok_two ok_zV ok_nV) ok_nV
theorem ok_found {n : Nat} : Ok h (foundR n ls) := ok_two (.int _) (.tup _ fun z hz => by
  obtain ⟨l, _, rfl⟩ := List.mem_map.mp hz
  exact .tup _ fun z hz => by
    obtain ⟨w, _, rfl⟩ := List.mem_map.mp hz
    exact ok_stR)
theorem read_machine_wp [Ck P] [Mm P] [Nt P] [Rm P] (hl : x.length ≤ 1000000) (e : Txt.split x (cS "\n") = f :: ls) (q : ∀ h', Gr h h' → Q (rdR f ls) h') : wp (callF P (k + 7) "read_machine" [.str x]) h Q E := by
  rw [wp_call Rm.read_machine rfl]
  unfold b5_read_machine
  have hsz : x.length + 2 ≤ sizeLine := by rw [sizeLine_eq]; omega
  have hm : ((Str.ofString "\n").length == 0) = false := by decide +kernel
  have hm2 : ((Str.ofString " ").length == 0) = false := by decide +kernel
  have e' : Txt.split x (Str.ofString "\n") = f :: ls := e
  simp [-List.append_assoc, -List.length_append, slot, Con.pv, hsz, hm, hm2, e']
  rw [if_pos (show PTy.str.sub PTy.str = true from rfl)]
  have ez : Str.ofString "" = cS "" := rfl
  have G1 := Gr.app (h := h) (o := .lst .own (PV.str f :: ls.map PV.str))
  have no : rdR f ls = .non → ∀ h', Gr h h' → Q .non h' := fun z h' g => by have := q h' g; rw [z] at this; exact this
  have fl : f.length ≤ 1000000 := Nat.le_trans (part_le (m := cS "\n") (by rw [e]; simp)) hl
  have szf : f.length + 2 ≤ sizeLine := by rw [sizeLine_eq]; omega
  refine ⟨.str f, by simp [atI, ixN], ⟨f, rfl⟩, ?_⟩
  rw [p_split]
  refine ⟨⟨hm2, szf⟩, ?_⟩
  have G2 := G1.trans (Gr.app (o := .lst .own ((Txt.split f (Str.ofString " ")).map .str)))
  rw [p_lenO]
  refine ⟨_, lstP_app, ?_⟩
  rw [eqP_int]
  have hrd : rdR f ls = (match sizeR f with
    | none => PV.non
    | some n => if (f :: ls).getLast? = some (Str.ofString "") then (if isMachine (foundR n ls) then foundR n ls else .non) else .non) := rfl
  by_cases c1 : ∃ a b, Txt.split f (cS " ") = [a, b]
  case neg =>
    have hn : ¬ ((((Txt.split f (Str.ofString " ")).map PV.str).length : Int) = 2) := fun z => c1 (by
      rw [List.length_map] at z
      have z3 : (Txt.split f (cS " ")).length = 2 := by exact_mod_cast z
      match z4 : Txt.split f (cS " "), z3 with
      | [a, b], _ => exact ⟨a, b, rfl⟩)
    have hs : sizeR f = none := by
      unfold sizeR
      split
      · rename_i a b z; exact absurd ⟨a, b, z⟩ c1
      · rfl
    refine .inl ⟨by rw [beq_eq_false_iff_ne.mpr hn], no (by rw [hrd, hs]) _ G2⟩
  obtain ⟨a, b, eab⟩ := c1
  have eab' : Txt.split f (Str.ofString " ") = [a, b] := eab
  rw [eab'] at G2 ⊢
  refine .inr ⟨rfl, ?_⟩
  rw [p_ixO]
  refine ⟨_, lstP_app, .str a, by simp [atI, ixN], ?_⟩
  rw [eqStr]
  by_cases ha : a = Str.ofString "size"
  case neg =>
    refine .inl ⟨by simp [ha], no (by rw [hrd]; unfold sizeR; rw [eab]; simp [ha]) _ G2⟩
  refine .inr ⟨by simp [ha], ?_⟩
  have eS : sizeR f = nOf (tl b) := by unfold sizeR; rw [eab]; simp [ha]
  rw [p_ixO]
  refine ⟨_, lstP_app, .str b, by simp [atI, ixN], ?_⟩
  have bl : b.length ≤ 1000000 := Nat.le_trans (part_le (m := cS " ") (by rw [eab]; simp)) fl
  refine number_of_wp (P := P) (k := k + 5) bl fun h3 g3 => ?_
  rw [eS] at hrd
  cases en : nOf (tl b) with
  | none =>
    rw [en] at hrd
    exact .inr ⟨rfl, no hrd _ (G2.trans g3)⟩
  | some n =>
    rw [en] at hrd
    have l1 : lstP h3 (.obj h.length) = some (PV.str f :: ls.map PV.str) := (Gr.app.trans g3).lst lstP_app
    obtain ⟨ini, la, hla⟩ : ∃ ini la, f :: ls = ini ++ [la] := ⟨(f :: ls).dropLast, (f :: ls).getLast (by simp), (List.dropLast_concat_getLast (by simp)).symm⟩
    have e2 : PV.str f :: ls.map PV.str = ini.map PV.str ++ [.str la] := by
      have := congrArg (List.map PV.str) hla
      simpa using this
    refine .inl ⟨rfl, _, l1, .str la, by rw [e2]; exact atI_last, ?_⟩
    rw [eqStr]
    have e3 : (f :: ls).getLast? = some la := by rw [hla]; simp
    rw [e3] at hrd
    by_cases hl0 : la = Str.ofString ""
    case neg => exact .inl ⟨by simp [hl0], no (by rw [hrd]; simp [hl0]) _ (G2.trans g3)⟩
    refine .inr ⟨by simp [hl0], ?_⟩
    have hrd2 : rdR f ls = if isMachine (foundR n ls) then foundR n ls else .non := by rw [hrd]; simp [hl0]
    have lb : ∀ y ∈ ls, y.length ≤ 1000000 := fun y hy => Nat.le_trans (part_le (m := cS "\n") (by rw [e]; exact List.mem_cons_of_mem _ hy)) hl
    have ln : ls.length ≤ 1000001 := by
      have := PyProof.Rows.split_le x (cS "\n")
      rw [e] at this
      simp at this
      omega
    refine lc_objs (ys := ls.dropLast) (g := PV.str) (f := rowR) (fun R hR => ?_) (by simp; omega) (fun a ha h4 g4 => ?_) fun h4 j g4 e4 => ?_
    · simp [-List.append_assoc, -List.length_append, slot, Con.pv, l1]
      refine hR _ _ Gr.app ?_
      rw [lstP_app]
      congr 1
      rw [cut_mids, List.map_dropLast]
    · have al : a.length ≤ 1000000 := lb a (List.dropLast_subset _ ha)
      have sza : a.length + 2 ≤ sizeLine := by rw [sizeLine_eq]; omega
      simp only [x_bi, x_cons, x_nil]
      refine lc_objs (ys := Txt.split a (cS " ")) (g := PV.str) (f := stR) (fun R hR => ?_) ?_ (fun w hw h5 g5 => ?_) fun h5 j g5 e5 => ?_
      · simp [-List.append_assoc, -List.length_append, slot, Con.pv, wipeE, hm2, sza]
        exact hR _ _ Gr.app lstP_app
      · have := PyProof.Rows.split_le a (cS " ")
        omega
      · have wl : w.length ≤ 1000000 := Nat.le_trans (part_le hw) al
        simp [-List.append_assoc, -List.length_append, slot, Con.pv, wipeE]
        refine read_step_wp (P := P) (k := k + 3) wl fun h6 g6 => ?_
        exact ⟨rfl, g6⟩
      · rw [p_tupleO]
        exact ⟨_, e5, rfl, g5⟩
    · rw [p_tupleO]
      refine ⟨_, e4, ?_⟩
      refine is_machine_wp (P := P) (k := k) (v := foundR n ls) ok_found fun h5 g5 => ?_
      have q5 := q h5 (((G2.trans g3).trans g4).trans g5)
      rw [hrd2] at q5
      cases hm : isMachine (foundR n ls) with
      | true => rw [hm] at q5; exact .inr ⟨rfl, q5⟩
      | false => rw [hm] at q5; exact .inl ⟨rfl, q5⟩
/-- a machine's text, read -/
theorem rdR_text {s : Nat} {rs : List (List Stp)} (m : MachOk s rs) : rdR (headS s) (rs.map lineS ++ [cS ""]) = machV s rs := by
  have s2 := m.s2
  have s4 := m.s4
  have e1 : sizeR (headS s) = some s := by
    unfold sizeR
    rw [split_head]
    show (if cS "size" = Str.ofString "size" then nOf (tl (decS (s : Nat))) else none) = _
    rw [if_pos (show cS "size" = Str.ofString "size" from rfl), nOf_dec (by omega)]
  have e2 : foundR s (rs.map lineS ++ [cS ""]) = machV s rs := by
    unfold foundR machV
    rw [List.dropLast_concat, List.map_map]
    have : rs.map (rowR ∘ lineS) = rs.map ruleV := List.map_congr_left fun r hr => by
      have hl := m.len r hr
      show rowR (lineS r) = ruleV r
      unfold rowR ruleV
      rw [split_line (by intro z; rw [z] at hl; simp at hl; omega), List.map_map]
      congr 1
      exact List.map_congr_left fun st hst => by
        obtain ⟨o1, o2⟩ := m.ok r hr st hst
        have := m.r12
        exact stR_step o1 (by omega)
    rw [this]
  unfold rdR
  rw [e1]
  have e3 : (headS s :: (rs.map lineS ++ [cS ""])).getLast? = some (Str.ofString "") := by
    rw [← List.cons_append, List.getLast?_append]
    rfl
  show (if _ then _ else _) = _
  rw [if_pos e3, e2, if_pos (isMachine_ok m)]
end PK

set_option Elab.async false
set_option linter.all false
set_option maxRecDepth 100000
set_option maxHeartbeats 4000000
set_option exponentiation.threshold 5000
/-! PK05d: a machine's text, written. -/
namespace PK
open PySem MP L2 TL
def b5_step_text : List S := [.asgT [.tp [.nm 2, .nm 3], .nm 1] (.slot 0), .ret (.bin .add (.bin .add (.bin .add (.bin .add (.bi .str [.slot 2]) (.con (.str (Str.ofString "/")))) (.bi .str [.slot 3])) (.con (.str (Str.ofString ":")))) (.bi .str [.slot 1]))]
def b5_machine_text : List S := [.expr (.cl (Str.ofString "check_machine") [.slot 0]), .asg 1 (.lst [.bin .add (.con (.str (Str.ofString "size "))) (.bi .str [.sub (.slot 0) (.gl (Str.ofString "SIZE"))])]), .for_ (.nm 2) .val [.sub (.slot 0) (.gl (Str.ofString "RULES"))] [.expr (.mth .append (.slot 1) [.smth true (.con (.str (Str.ofString " "))) (.lc (.cl (Str.ofString "step_text") [.slot 4]) (.nm 4) .val [.slot 2] [] [4])])], .ret (.smth true (.con (.str (Str.ofString ""))) (.lc (.bin .add (.slot 3) (.con (.str (Str.ofString "\n")))) (.nm 3) .val [.slot 1] [] [3]))]
def b5_law_machine_text : List S := [.asg 1 (.bin .add (.bin .add (.con (.str (Str.ofString "size "))) (.bi .str [.sub (.slot 0) (.con (.int 0))])) (.con (.str (Str.ofString "\n")))), .for_ (.nm 2) .val [.sub (.slot 0) (.con (.int 1))] [.asg 3 (.lc (.bin .add (.bin .add (.bin .add (.bin .add (.bi .str [.sub (.sub (.slot 4) (.con (.int 0))) (.con (.int 0))]) (.con (.str (Str.ofString "/")))) (.bi .str [.sub (.sub (.slot 4) (.con (.int 0))) (.con (.int 1))])) (.con (.str (Str.ofString ":")))) (.bi .str [.sub (.slot 4) (.con (.int 1))])) (.nm 4) .val [.slot 2] [] [4]), .asg 1 (.bin .add (.bin .add (.slot 1) (.smth true (.con (.str (Str.ofString " "))) (.slot 3))) (.con (.str (Str.ofString "\n"))))], .ret (.slot 1)]
def b5_law_told : List S := [.asg 1 (.tup [.con (.str (Str.ofString "other")), .con .non]), .tryS [.asg 1 (.tup [.con (.str (Str.ofString "told")), .cl (Str.ofString "machine_text") [.slot 0]])] [((Str.ofString "NoMachine"), [.asg 1 (.tup [.con (.str (Str.ofString "machine")), .con .non])]), ((Str.ofString "MissError"), [.asg 1 (.tup [.con (.str (Str.ofString "other")), .con .non])])], .ret (.slot 1)]
class Mt (P : Prog) : Prop where
  step_text : Has P "step_text" 1 4 b5_step_text
  machine_text : Has P "machine_text" 1 5 b5_machine_text
class Lm (P : Prog) : Prop where
  l_machine_text : Has P "_law_machine_text" 1 5 b5_law_machine_text
variable {P : Prog} {k : Nat} {h h' : PH} {E : Str → PH → Prop} {v : PV} {Q : PV → PH → Prop} {s : Nat} {rs : List (List Stp)}
theorem log_small {i : Int} (hi : i.natAbs < 10 ^ 7) : i.natAbs.log2 < 1920 := by
  by_cases z : i.natAbs = 0
  · rw [z]; decide
  · have := (Nat.log2_lt z).mpr (Nat.lt_of_lt_of_le hi (show 10 ^ 7 ≤ 2 ^ 24 by decide))
    omega
theorem len_c : (cS "/").length = 1 ∧ (cS ":").length = 1 ∧ (cS " ").length = 1 ∧ (cS "\n").length = 1 ∧ (cS "size ").length = 5 ∧ (cS "").length = 0 := by decide +kernel
theorem step_len {st : Stp} (a : AllowOk st.1) (hs : st.2 < 12) : (stepS st).length ≤ 26 := by
  have a1 := a.top
  have a2 := a.bot
  have a3 := a.pos
  obtain ⟨c1, c2, _⟩ := len_c
  have d1 := dec_len (i := st.1.1) (by omega)
  have d2 := dec_len (i := st.1.2) (by omega)
  have d3 := dec_len (i := (st.2 : Nat)) (by omega)
  unfold stepS
  simp only [strLen_append]
  omega
theorem p_addS {x y : Str} : wp (binM .add (.str x) (.str y)) h Q E ↔ x.length + y.length ≤ sizeLine ∧ Q (.str (x ++ y)) h := by
  show wp (if x.length + y.length ≤ sizeLine then pure (.str (x ++ y)) else M.stop) h Q E ↔ _
  simp only [wp_iteM, wp_pure]
theorem ix_s0 {st : Stp} : wp (ixM (stepV st) (.int 0)) h Q E ↔ Q (frV st.1) h := by unfold stepV; simp [atI, ixN]
theorem ix_s1 {st : Stp} : wp (ixM (stepV st) (.int 1)) h Q E ↔ Q (.int (st.2 : Nat)) h := by unfold stepV; simp [atI, ixN]
theorem ix_f0 {x : Int × Int} : wp (ixM (frV x) (.int 0)) h Q E ↔ Q (.int x.1) h := by unfold frV; simp [atI, ixN]
theorem ix_f1 {x : Int × Int} : wp (ixM (frV x) (.int 1)) h Q E ↔ Q (.int x.2) h := by unfold frV; simp [atI, ixN]
theorem step_chain {st : Stp} (a : AllowOk st.1) (hs : st.2 < 12) (q : Q (.str (stepS st)) h) : wp (biM .str [.int st.1.1]) h (fun x h1 => wp (binM .add x (.str (Str.ofString "/"))) h1 (fun x h1 => wp (biM .str [.int st.1.2]) h1 (fun y h2 => wp (binM .add x y) h2 (fun x h1 =>
    wp (binM .add x (.str (Str.ofString ":"))) h1 (fun x h1 => wp (biM .str [.int (st.2 : Nat)]) h1 (fun y h2 => wp (binM .add x y) h2 Q E) E) E) E) E) E) E := by
  have a1 := a.top
  have a2 := a.bot
  have a3 := a.pos
  obtain ⟨c1, c2, _⟩ := len_c
  have c1 : (Str.ofString "/").length = 1 := c1
  have c2 : (Str.ofString ":").length = 1 := c2
  have d1 : (Str.ofString (toString st.1.1)).length ≤ 8 := dec_len (i := st.1.1) (by omega)
  have d2 : (Str.ofString (toString st.1.2)).length ≤ 8 := dec_len (i := st.1.2) (by omega)
  have d3 : (Str.ofString (toString ((st.2 : Nat) : Int))).length ≤ 8 := dec_len (i := (st.2 : Nat)) (by omega)
  rw [p_strI]
  refine ⟨log_small (by omega), ?_⟩
  rw [p_addS]
  refine ⟨by rw [sizeLine_eq]; omega, ?_⟩
  rw [p_strI]
  refine ⟨log_small (by omega), ?_⟩
  rw [p_addS]
  refine ⟨by rw [sizeLine_eq, strLen_append]; omega, ?_⟩
  rw [p_addS]
  refine ⟨by rw [sizeLine_eq, strLen_append, strLen_append]; omega, ?_⟩
  rw [p_strI]
  refine ⟨log_small (by omega), ?_⟩
  rw [p_addS]
  refine ⟨by rw [sizeLine_eq, strLen_append, strLen_append, strLen_append]; omega, ?_⟩
  exact q
theorem step_text_wp [Mt P] {st : Stp} (a : AllowOk st.1) (hs : st.2 < 12) (q : Q (.str (stepS st)) h) : wp (callF P (k + 1) "step_text" [stepV st]) h Q E := by
  rw [wp_call Mt.step_text rfl]
  unfold b5_step_text
  simp [-List.append_assoc, -List.length_append, slot, Con.pv]
  have a1 := a.top
  have a2 := a.bot
  have a3 := a.pos
  obtain ⟨c1, c2, _⟩ := len_c
  have c1 : (Str.ofString "/").length = 1 := c1
  have c2 : (Str.ofString ":").length = 1 := c2
  have d1 : (Str.ofString (toString st.1.1)).length ≤ 8 := dec_len (i := st.1.1) (by omega)
  have d2 : (Str.ofString (toString st.1.2)).length ≤ 8 := dec_len (i := st.1.2) (by omega)
  have d3 : (Str.ofString (toString ((st.2 : Nat) : Int))).length ≤ 8 := dec_len (i := (st.2 : Nat)) (by omega)
  refine ⟨_, rfl, _, rfl, ?_⟩
  rw [p_strI]
  refine ⟨log_small (by omega), ?_⟩
  rw [p_addS]
  refine ⟨by rw [sizeLine_eq]; omega, _, rfl, ?_⟩
  rw [p_strI]
  refine ⟨log_small (by omega), ?_⟩
  rw [p_addS]
  refine ⟨by rw [sizeLine_eq, strLen_append]; omega, ?_⟩
  rw [p_addS]
  refine ⟨by rw [sizeLine_eq, strLen_append, strLen_append]; omega, _, rfl, ?_⟩
  rw [p_strI]
  refine ⟨log_small (by omega), ?_⟩
  rw [p_addS]
  refine ⟨by rw [sizeLine_eq, strLen_append, strLen_append, strLen_append]; omega, ?_⟩
  exact q
theorem lc_tups {α : Type} {G : Glob} {env : Env'} {i : Nat} {src elt : MP.E} {ys : List α} {g f : α → PV} {R : PV → PH → Prop} (hs : ∀ (R : PV → PH → Prop), R (.tup (ys.map g)) h → wp (evalE G src env) h R E) (hl : ys.length ≤ 1000010)
    (body : ∀ a ∈ ys, ∀ h1, Gr h h1 → wp (evalE G elt ((wipeE env [i]).set i (some (g a)))) h1 (fun v h2 => v = f a ∧ Gr h1 h2) fun _ _ => False) (q : ∀ h1 j, Gr h h1 → lstP h1 (.obj j) = some (ys.map f) → R (.obj j) h1) : wp (evalE G (.lc elt (.nm i) .val [src] [] [i]) env) h R E := by
  rw [x_lc]
  simp only [x_cons, x_nil]
  refine hs _ ?_
  rw [p_itT]
  refine wp_lc (xs := ys.map g) (fun n acc h1 => Gr h h1 ∧ acc = (ys.take n).map f) (fun n acc h1 _ => rfl) ?_ ?_ (ys.map g).length 0 [] h (by simp) ⟨.refl, by simp⟩
  · rintro n v acc h1 hv ⟨g1, rfl⟩
    rw [List.getElem?_map] at hv
    cases hc : ys[n]? with
    | none => rw [hc] at hv; cases hv
    | some a =>
      rw [hc] at hv
      cases hv
      have hj : n < ys.length := (List.getElem?_eq_some_iff.mp hc).1
      simp [putT]
      refine wp_mono (body a (List.mem_of_getElem? hc) h1 g1) (fun r h2 z => ?_) fun _ _ z => z
      obtain ⟨rfl, g2⟩ := z
      refine ⟨by rw [sizeLine_eq]; omega, g1.trans g2, ?_⟩
      rw [List.take_add_one, List.getElem?_map, hc]
      rfl
  · rintro acc h1 ⟨g1, rfl⟩
    rw [List.length_map, List.take_length]
    exact q _ _ (g1.trans .app) lstP_app
theorem Gr.setN {hh : PH} (g : Gr h hh) {o : Nat} (ho : h.length ≤ o) {p : PO} : Gr h (hh.set o p) := ⟨by rw [List.length_set]; exact g.len, fun j hj => by rw [List.getElem?_set_ne (by omega)]; exact g.keep j hj⟩
theorem sum_le_len {l : List Str} {b : Nat} (hb : ∀ x ∈ l, x.length ≤ b) : (l.map (·.length)).sum ≤ l.length * b := by
  induction l with
  | nil => simp
  | cons x l ih =>
    have h1 := hb x (by simp)
    have h2 := ih fun y hy => hb y (List.mem_cons_of_mem _ hy)
    rw [List.map_cons, List.sum_cons, List.length_cons, Nat.add_mul]
    omega
theorem join_len {y : Str} {l : List Str} {b : Nat} (hb : ∀ x ∈ l, x.length ≤ b) (hy : y.length ≤ 1) : (Txt.join y l).length ≤ l.length * (b + 1) := by
  rw [join_eq]
  induction l with
  | nil => simp [Str.join, Str.empty, Str.length]
  | cons x l ih =>
    have h1 := hb x (by simp)
    have h2 := ih fun y hy => hb y (List.mem_cons_of_mem _ hy)
    cases l with
    | nil => show x.length ≤ _; simp; omega
    | cons z l =>
      show (x ++ y ++ Str.join y (z :: l)).length ≤ _
      rw [strLen_append, strLen_append, List.length_cons, Nat.add_mul]
      omega
/-- the words of a rule, joined -/
theorem line_ok {r : List Stp} {n : Nat} (hr : r.length ≤ 4) (ok : ∀ st ∈ r, AllowOk st.1 ∧ st.2 < n) (hn : n ≤ 12) : ((r.map stepS).map (·.length)).sum + (r.map stepS).length * (Str.ofString " ").length ≤ 16777216 ∧ (lineS r).length ≤ 108 := by
  have h0 : ∀ x ∈ r.map stepS, x.length ≤ 26 := fun x hx => by
    obtain ⟨st, hst, rfl⟩ := List.mem_map.mp hx
    exact step_len (ok st hst).1 (by have := (ok st hst).2; omega)
  have h1 := sum_le_len h0
  have e : (Str.ofString " ").length = 1 := len_c.2.2.1
  rw [List.length_map] at h1
  have h2 : r.length * 26 ≤ 4 * 26 := Nat.mul_le_mul_right _ hr
  refine ⟨by rw [List.length_map, e]; omega, ?_⟩
  have h3 := join_len (y := cS " ") h0 (Nat.le_of_eq e)
  rw [List.length_map] at h3
  show (Txt.join (cS " ") (r.map stepS)).length ≤ _
  have h4 : r.length * (26 + 1) ≤ 4 * 27 := Nat.mul_le_mul_right _ hr
  omega
theorem head_len (hs : s ≤ 4) : (headS s).length ≤ 13 := by
  have d1 := dec_len (i := (s : Nat)) (by omega)
  have e : (cS "size ").length = 5 := len_c.2.2.2.2.1
  unfold headS
  rw [strLen_append]
  omega
theorem machine_text_wp [Ck P] [Mm P] [Am P] [Mt P] (m : MachOk s rs) (q : ∀ h', Gr h h' → Q (.str (textS s rs)) h') : wp (callF P (k + 8) "machine_text" [machV s rs]) h Q E := by
  rw [wp_call Mt.machine_text rfl]
  unfold b5_machine_text
  have s4 := m.s4
  have r12 := m.r12
  simp [-List.append_assoc, -List.length_append, slot, Con.pv, Mm.SIZE, Mm.RULES]
  refine check_machine_ok (k := k) ok_mach (isMachine_ok m) fun h1 g1 => ?_
  rw [ix_mach0]
  rw [p_strI]
  refine ⟨log_small (by omega), ?_⟩
  rw [p_addS]
  have d1 : (Str.ofString (toString ((s : Nat) : Int))).length ≤ 8 := dec_len (i := (s : Nat)) (by omega)
  have e5 : (Str.ofString "size ").length = 5 := len_c.2.2.2.2.1
  refine ⟨by rw [sizeLine_eq]; omega, ?_⟩
  have hh : Str.ofString "size " ++ Str.ofString (toString ((s : Nat) : Int)) = headS s := rfl
  rw [hh]
  have hlen := head_len s4
  rw [s_for]
  simp [-List.append_assoc, -List.length_append, slot, Con.pv, Mm.RULES]
  rw [ix_mach1, p_itT]
  have hsp : (Str.ofString " ") = cS " " := rfl
  refine wp_for_vals (xs := rs.map ruleV) (fun i env hh => Gr h hh ∧ h1.length < hh.length ∧ ∃ e2 e3 e4, env = [some (machV s rs), some (.obj h1.length), e2, e3, e4] ∧ ownL hh h1.length = some ((headS s :: (rs.take i).map lineS).map PV.str)) ?_ ?_ _ 0 _ _ (by show 0 + (rs.map ruleV).length = _; simp) ⟨g1.trans .app, by simp, none, none, none, rfl, by simp⟩
  · rintro i v env hh hv ⟨g, hlt, e2, e3, e4, rfl, ho⟩
    rw [List.getElem?_map] at hv
    cases hc : rs[i]? with
    | none => rw [hc] at hv; cases hv
    | some r =>
      rw [hc] at hv
      cases hv
      have hr := List.mem_of_getElem? hc
      have hil : i < rs.length := (List.getElem?_eq_some_iff.mp hc).1
      refine ⟨_, rfl, ?_⟩
      obtain ⟨w1, w2⟩ := line_ok (by rw [m.len r hr]; exact s4) (m.ok r hr) r12
      have l0 := lstP_own ho
      simp [-List.append_assoc, -List.length_append, slot, Con.pv]
      refine ⟨⟨_, l0⟩, ?_⟩
      refine lc_tups (ys := r) (g := stepV) (f := fun st => .str (stepS st)) (fun R hR => ?_) (by rw [m.len r hr]; omega) (fun st hst h5 g5 => ?_) fun h5 j g5 e5 => ?_
      · simp only [x_slot]
        exact ⟨_, rfl, hR⟩
      · obtain ⟨o1, o2⟩ := m.ok r hr st hst
        simp only [x_cl, x_cons, x_nil, x_slot]
        refine ⟨_, rfl, step_text_wp (P := P) (k := k + 6) o1 (by omega) ⟨rfl, .refl⟩⟩
      · have e6 : r.map (fun st => PV.str (stepS st)) = (r.map stepS).map PV.str := by rw [List.map_map]; rfl
        rw [e6] at e5
        have ho5 := g5.own ho
        have hlt5 : h1.length < h5.length := Nat.lt_of_lt_of_le hlt g5.len
        refine ⟨_, e5, _, strsP_map _, w1, _, ho5, ?_, ?_, hlt5, ?_⟩
        · rw [List.length_map, List.length_cons, List.length_map, List.length_take, sizeLine_eq]
          omega
        · exact (g.trans g5).setN (Nat.le_trans g1.len (Nat.le_refl _))
        · rw [ownL_set hlt5]
          have : (Txt.join (Str.ofString " ") (r.map stepS)) = lineS r := rfl
          rw [this, ← List.map_take, List.take_add_one, hc]
          simp
  · rintro env hh ⟨g, hlt, e2, e3, e4, rfl, ho⟩
    rw [List.length_map, List.take_length] at ho
    have l0 := lstP_own ho
    have e1 : (Str.ofString "\n").length = 1 := len_c.2.2.2.1
    have e0 : (Str.ofString "").length = 0 := len_c.2.2.2.2.2
    have hb : ∀ x ∈ headS s :: rs.map lineS, x.length ≤ 108 := fun x hx => by
      rcases List.mem_cons.mp hx with rfl | hx
      · omega
      · obtain ⟨r, hr, rfl⟩ := List.mem_map.mp hx
        exact (line_ok (by rw [m.len r hr]; exact s4) (m.ok r hr) r12).2
    show wp (evalE _ (.lc _ _ _ _ _ _) _) hh _ _
    refine lc_objs (ys := headS s :: rs.map lineS) (g := PV.str) (f := fun x => .str (x ++ cS "\n")) (fun R hR => ?_) (by simp; omega) (fun x hx h5 g5 => ?_) fun h5 j g5 e5 => ?_
    · simp only [x_slot]
      exact ⟨_, rfl, hR _ _ .refl l0⟩
    · have := hb x hx
      simp only [x_bin, x_slot, x_con, Con.pv]
      refine ⟨_, rfl, ?_⟩
      rw [p_addS]
      exact ⟨by rw [sizeLine_eq]; omega, rfl, .refl⟩
    · have e6 : (headS s :: rs.map lineS).map (fun x => PV.str (x ++ cS "\n")) = ((headS s :: rs.map lineS).map fun x => x ++ cS "\n").map PV.str := by rw [List.map_map]; rfl
      rw [e6] at e5
      refine ⟨_, e5, _, strsP_map _, ?_, ?_⟩
      · have := sum_le_len (l := (headS s :: rs.map lineS).map fun x => x ++ cS "\n") (b := 109) fun x hx => by
          obtain ⟨y, hy, rfl⟩ := List.mem_map.mp hx
          have := hb y hy
          rw [strLen_append]
          have e1 : (cS "\n").length = 1 := e1
          omega
        rw [List.length_map, List.length_cons, List.length_map] at this
        rw [e0]
        omega
      · have := text_eq (s := s) (rs := rs)
        rw [show Txt.join (Str.ofString "") ((headS s :: rs.map lineS).map fun x => x ++ cS "\n") = textS s rs from this]
        exact q h5 (g.trans g5)
theorem fold_len {l : List Str} {b : Nat} (hb : ∀ x ∈ l, x.length ≤ b) : ∀ t : Str, (l.foldl (fun t x => t ++ x ++ cS "\n") t).length ≤ t.length + l.length * (b + 1) := by
  induction l with
  | nil => intro t; simp
  | cons x l ih =>
    intro t
    have h1 := hb x (by simp)
    have h2 := ih (fun y hy => hb y (List.mem_cons_of_mem _ hy)) (t ++ x ++ cS "\n")
    have e1 : (cS "\n").length = 1 := len_c.2.2.2.1
    rw [strLen_append, strLen_append] at h2
    rw [List.foldl_cons, List.length_cons, Nat.add_mul]
    omega
theorem l_machine_text_wp [Lm P] (m : MachOk s rs) (q : ∀ h', Gr h h' → Q (.str (textS s rs)) h') : wp (callF P (k + 1) "_law_machine_text" [machV s rs]) h Q E := by
  rw [wp_call Lm.l_machine_text rfl]
  unfold b5_law_machine_text
  have s4 := m.s4
  have r12 := m.r12
  simp [-List.append_assoc, -List.length_append, slot, Con.pv]
  rw [ix_mach0]
  rw [p_strI]
  refine ⟨log_small (by omega), ?_⟩
  rw [p_addS]
  have d1 : (Str.ofString (toString ((s : Nat) : Int))).length ≤ 8 := dec_len (i := (s : Nat)) (by omega)
  have e5 : (Str.ofString "size ").length = 5 := len_c.2.2.2.2.1
  have e1 : (Str.ofString "\n").length = 1 := len_c.2.2.2.1
  refine ⟨by rw [sizeLine_eq]; omega, ?_⟩
  have hh : Str.ofString "size " ++ Str.ofString (toString ((s : Nat) : Int)) = headS s := rfl
  rw [hh]
  have hlen := head_len s4
  rw [p_addS]
  refine ⟨by rw [sizeLine_eq]; omega, ?_⟩
  have hn : headS s ++ Str.ofString "\n" = headS s ++ cS "\n" := rfl
  rw [hn]
  rw [s_for]
  simp [-List.append_assoc, -List.length_append, slot, Con.pv]
  rw [ix_mach1, p_itT]
  have hb : ∀ x ∈ rs.map lineS, x.length ≤ 108 := fun x hx => by
    obtain ⟨r, hr, rfl⟩ := List.mem_map.mp hx
    exact (line_ok (by rw [m.len r hr]; exact s4) (m.ok r hr) r12).2
  refine wp_for_vals (xs := rs.map ruleV) (fun i env hh => Gr h hh ∧ ∃ e2 e3 e4, env = [some (machV s rs), some (.str (((rs.take i).map lineS).foldl (fun t x => t ++ x ++ cS "\n") (headS s ++ cS "\n"))), e2, e3, e4]) ?_ ?_ _ 0 _ _ (by show 0 + (rs.map ruleV).length = _; simp) ⟨.refl, none, none, none, rfl⟩
  · rintro i v env hh hv ⟨g, e2, e3, e4, rfl⟩
    rw [List.getElem?_map] at hv
    cases hc : rs[i]? with
    | none => rw [hc] at hv; cases hv
    | some r =>
      rw [hc] at hv
      cases hv
      have hr := List.mem_of_getElem? hc
      refine ⟨_, rfl, ?_⟩
      obtain ⟨w1, w2⟩ := line_ok (by rw [m.len r hr]; exact s4) (m.ok r hr) r12
      generalize ht : ((rs.take i).map lineS).foldl (fun t x => t ++ x ++ cS "\n") (headS s ++ cS "\n") = t
      have tl0 : t.length ≤ 14 + 12 * 109 := by
        have := fold_len (l := (rs.take i).map lineS) (b := 108) (fun x hx => hb x (List.map_subset _ (List.take_subset _ _) hx)) (headS s ++ cS "\n")
        rw [ht, strLen_append, List.length_map, List.length_take] at this
        have e1 : (cS "\n").length = 1 := e1
        have : min i rs.length * (108 + 1) ≤ 12 * 109 := Nat.mul_le_mul_right _ (by omega)
        omega
      have hfold : ((rs.take (i + 1)).map lineS).foldl (fun t x => t ++ x ++ cS "\n") (headS s ++ cS "\n") = t ++ lineS r ++ cS "\n" := by
        rw [List.take_add_one, hc, List.map_append, List.foldl_append, ht]
        rfl
      rw [hfold]
      clear hfold ht
      simp [-List.append_assoc, -List.length_append, slot, Con.pv]
      refine lc_tups (ys := r) (g := stepV) (f := fun st => .str (stepS st)) (fun R hR => ?_) (by rw [m.len r hr]; omega) (fun st hst h5 g5 => ?_) fun h5 j g5 e5 => ?_
      · simp only [x_slot]
        exact ⟨_, rfl, hR⟩
      · obtain ⟨o1, o2⟩ := m.ok r hr st hst
        have o2 : st.2 < 12 := by omega
        have a1 := o1.top
        have a2 := o1.bot
        have a3 := o1.pos
        obtain ⟨c1, c2, _⟩ := len_c
        have c1 : (Str.ofString "/").length = 1 := c1
        have c2 : (Str.ofString ":").length = 1 := c2
        have d1 : (Str.ofString (toString st.1.1)).length ≤ 8 := dec_len (i := st.1.1) (by omega)
        have d2 : (Str.ofString (toString st.1.2)).length ≤ 8 := dec_len (i := st.1.2) (by omega)
        have d3 : (Str.ofString (toString ((st.2 : Nat) : Int))).length ≤ 8 := dec_len (i := (st.2 : Nat)) (by omega)
        simp only [x_bin, x_bi, x_sub, x_slot, x_con, x_cons, x_nil, Con.pv]
        refine ⟨stepV st, rfl, ?_⟩
        rw [ix_s0, ix_f0, p_strI]
        refine ⟨log_small (by omega), ?_⟩
        rw [p_addS]
        refine ⟨by rw [sizeLine_eq]; omega, stepV st, rfl, ?_⟩
        rw [ix_s0, ix_f1, p_strI]
        refine ⟨log_small (by omega), ?_⟩
        rw [p_addS]
        refine ⟨by rw [sizeLine_eq, strLen_append]; omega, ?_⟩
        rw [p_addS]
        refine ⟨by rw [sizeLine_eq, strLen_append, strLen_append]; omega, stepV st, rfl, ?_⟩
        rw [ix_s1, p_strI]
        refine ⟨log_small (by omega), ?_⟩
        rw [p_addS]
        exact ⟨by rw [sizeLine_eq, strLen_append, strLen_append, strLen_append]; omega, rfl, .refl⟩
      · have e6 : r.map (fun st => PV.str (stepS st)) = (r.map stepS).map PV.str := by rw [List.map_map]; rfl
        rw [e6] at e5
        refine ⟨_, e5, _, strsP_map _, w1, ?_⟩
        have : Txt.join (Str.ofString " ") (r.map stepS) = lineS r := rfl
        rw [this, p_addS]
        refine ⟨by rw [sizeLine_eq]; omega, ?_⟩
        rw [p_addS]
        exact ⟨by rw [sizeLine_eq, strLen_append]; omega, g.trans g5, rfl⟩
  · rintro env hh ⟨g, e2, e3, e4, rfl⟩
    rw [List.length_map, List.take_length]
    exact ⟨_, rfl, q hh g⟩
end PK

set_option Elab.async false
set_option linter.all false
set_option maxRecDepth 100000
set_option maxHeartbeats 4000000
set_option exponentiation.threshold 5000
/-! PK05e: one machine written, read, and kept by its text. -/
namespace PK
open PySem MP L2 TL
def b5_one_tail : List S := [.ifS (.cmp .eq (.cl (Str.ofString "_law_draw") [.slot 0, .con (.int 8)]) (.con (.int 0))) [.asg 3 (.cl (Str.ofString "_law_any") [.slot 0, .con (.int 3)])] [], .asg 5 (.bi .repr [.slot 3]), .asg 6 (.cl (Str.ofString "_law_told") [.slot 3]), .ifS (.not_ (.cl (Str.ofString "_law_machine_fits") [.slot 3])) [.ret (.and_ [.cmp .eq (.slot 6) (.tup [.con (.str (Str.ofString "machine")), .con .non]), .cmp .eq (.bi .repr [.slot 3]) (.slot 5)])] [], .ifS (.or_ [.cmp .ne (.slot 6) (.tup [.con (.str (Str.ofString "told")), .cl (Str.ofString "_law_machine_text") [.slot 3]]), .not_ (.isi (.sub (.slot 6) (.con (.int 1))) .str)]) [.ret (.con (.bl false))] [], .ifS (.or_ [.cmp .ne (.bi .repr [.cl (Str.ofString "read_machine") [.sub (.slot 6) (.con (.int 1))]]) (.slot 5), .cmp .ne (.dgetD (.slot 1) (.sub (.slot 6) (.con (.int 1))) (.slot 5)) (.slot 5)]) [.ret (.con (.bl false))] [], .dput (.slot 1) (.sub (.slot 6) (.con (.int 1))) (.slot 5), .ret (.cmp .eq (.bi .repr [.slot 3]) (.slot 5))]
def b5_law_one : List S := .asg 2 (.cl (Str.ofString "_law_machine") [.slot 0]) :: .asg 3 (.slot 2) :: .for_ (.nm 4) .range [.sub (.lst [.con (.int 0), .con (.int 0), .con (.int 1), .con (.int 2)]) (.cl (Str.ofString "_law_draw") [.slot 0, .con (.int 4)])] [.asg 3 (.cl (Str.ofString "_law_spoilt") [.slot 3, .cl (Str.ofString "_law_draw") [.slot 0, .cl (Str.ofString "_law_nodes") [.slot 3]], .slot 0])] :: b5_one_tail
class On5 (P : Prog) : Prop where
  told : Has P "_law_told" 1 2 b5_law_told
  one : Has P "_law_one" 2 7 b5_law_one
  mm : P.sub "NoMachine" "NoMachine" = some true
variable {P : Prog} {k : Nat} {h h' : PH} {E : Str → PH → Prop} {v : PV} {Q : PV → PH → Prop} {s : Nat} {rs : List (List Stp)} {w c : Nat}
/-! ### signs of texts are small -/
def Smal (l : List Nat) : Prop := ∀ c ∈ l, c < 200
theorem Smal.app {a b : List Nat} (x : Smal a) (y : Smal b) : Smal (a ++ b) := fun c hc => (List.mem_append.mp hc).elim (x c) (y c)
theorem smal_dec {i : Int} : Smal (tl (decS i)) := fun c hc => by
  rw [tl_dec] at hc
  split at hc
  · rcases List.mem_cons.mp hc with rfl | hc
    · decide
    · have := numL_digits _ c hc; omega
  · have := numL_digits _ c hc; omega
theorem smal_step {st : Stp} : Smal (tl (stepS st)) := by
  unfold stepS
  rw [tl_append, tl_append, tl_append, tl_append, tl_sl, tl_co]
  exact (((smal_dec.app (by intro c hc; simp at hc; omega)).app smal_dec).app (by intro c hc; simp at hc; omega)).app smal_dec
theorem smal_join {S : List Nat} (hS : Smal S) : ∀ {ps : List (List Nat)}, (∀ p ∈ ps, Smal p) → Smal (joinL S ps)
  | [], _ => fun c hc => by simp [joinL] at hc
  | [p], hp => hp p (by simp)
  | p :: q :: r, hp => (hp p (by simp)).app (hS.app (smal_join hS fun z hz => hp z (List.mem_cons_of_mem _ hz)))
theorem smal_line {r : List Stp} : Smal (tl (lineS r)) := by
  unfold lineS
  rw [join_eq, tl_join, tl_sp]
  refine smal_join (by intro c hc; simp at hc; omega) fun p hp => ?_
  obtain ⟨z, hz, rfl⟩ := List.mem_map.mp hp
  obtain ⟨st, _, rfl⟩ := List.mem_map.mp hz
  exact smal_step
theorem smal_text : Smal (tl (textS s rs)) := by
  unfold textS
  rw [fold_lines, tl_append, tl_nl]
  refine Smal.app (Smal.app ?_ (by intro c hc; simp at hc; omega)) fun c hc => ?_
  · unfold headS
    rw [tl_append, tl_size]
    exact Smal.app (by intro c hc; simp at hc; omega) smal_dec
  · obtain ⟨l, hl, hc⟩ := List.mem_flatten.mp hc
    obtain ⟨y, hy, rfl⟩ := List.mem_map.mp hl
    obtain ⟨r, _, rfl⟩ := List.mem_map.mp hy
    exact smal_line.app (by intro c hc; simp at hc; omega) c hc
theorem strOk_text : PyData.strOk (textS s rs) = true := by
  unfold PyData.strOk
  rw [Array.all_eq_true_iff_forall_mem]
  intro c hc
  have := smal_text (s := s) (rs := rs) c (Array.mem_toList_iff.mpr hc)
  simp
  omega
theorem text_len (m : MachOk s rs) : (textS s rs).length ≤ 1400 := by
  have h1 := fold_len (l := rs.map lineS) (b := 108) (fun x hx => by
    obtain ⟨r, hr, rfl⟩ := List.mem_map.mp hx
    exact (line_ok (by rw [m.len r hr]; exact m.s4) (m.ok r hr) m.r12).2) (headS s ++ cS "\n")
  have e1 : (cS "\n").length = 1 := len_c.2.2.2.1
  have := head_len m.s4
  have r12 := m.r12
  rw [strLen_append, List.length_map] at h1
  have : rs.length * (108 + 1) ≤ 12 * 109 := Nat.mul_le_mul_right _ r12
  unfold textS
  omega
theorem eqToldT : eqP h (strV "told" (.str (textS s rs))) (strV "told" (.str (textS s rs))) = some true := by
  refine eq_told (d := .str (textS s rs)) rfl ?_ (by simp [PyData.eqv])
  have := strOk_text (s := s) (rs := rs)
  simp [SeqAt.shaped, PyData.canLay0, PyData.canLayAll0, PyData.depth, PyData.depthAll, this]
  decide +kernel
theorem eqMach : eqP h (strV "machine" .non) (.tup [.str "machine", .non]) = some true := eq_told (x := "machine") (y := .non) (d := .none) rfl (by decide +kernel) rfl
/-- a machine's repr, wherever -/
theorem mach_rep (m : MachOk s rs) : ∃ t, ∀ h', repP h' (machV s rs) = some t := by
  obtain ⟨t, ht⟩ := (rpr_mach (h := []) (w := 0) m).rep (by omega) (by omega)
  exact ⟨t, fun h' => ht h' ⟨Nat.zero_le _, fun j hj => nomatch hj⟩⟩
/-- machines of one text are one -/
theorem text_inj {s' : Nat} {rs' : List (List Stp)} (m : MachOk s rs) (m' : MachOk s' rs') (e : textS s rs = textS s' rs') : machV s rs = machV s' rs' := by
  have h1 := split_text (s := s) (rs := rs)
  have h2 := split_text (s := s') (rs := rs')
  rw [e, h2] at h1
  have e1 : headS s' = headS s ∧ rs'.map lineS ++ [cS ""] = rs.map lineS ++ [cS ""] := by
    rw [List.cons_append, List.cons_append] at h1
    exact List.cons.inj h1
  rw [← rdR_text m, ← rdR_text m', e1.1, e1.2]
theorem read_text_wp [Ck P] [Mm P] [Nt P] [Rm P] (m : MachOk s rs) (q : ∀ h', Gr h h' → Q (machV s rs) h') : wp (callF P (k + 7) "read_machine" [.str (textS s rs)]) h Q E := by
  have hl := text_len m
  refine read_machine_wp (f := headS s) (ls := rs.map lineS ++ [cS ""]) (by omega) ?_ fun h' g => ?_
  · rw [split_text]
    rfl
  · rw [rdR_text m]
    exact q h' g
theorem told5_no [Ck P] [Mm P] [Am P] [Mt P] [On5 P] (o : Ok h v) (hm : isMachine v = false) (q : ∀ h', Gr h h' → Q (strV "machine" .non) h') : wp (callF P (k + 9) "_law_told" [v]) h Q E := by
  rw [wp_call On5.told rfl]
  unfold b5_law_told
  rw [s_cons]
  simp [slot, Con.pv]
  refine s_try ?_
  simp [slot, Con.pv]
  rw [wp_call Mt.machine_text rfl]
  unfold b5_machine_text
  rw [s_cons]
  simp [slot, Con.pv]
  refine check_machine_wp (k := k) o (fun z => by rw [hm] at z; cases z) fun _ h1 g1 vs => ?_
  rw [hs_yes (by exact On5.mm)]
  simp [slot, Con.pv]
  exact q h1 g1
theorem told5_yes [Ck P] [Mm P] [Am P] [Mt P] [On5 P] (m : MachOk s rs) (q : ∀ h', Gr h h' → Q (strV "told" (.str (textS s rs))) h') : wp (callF P (k + 9) "_law_told" [machV s rs]) h Q E := by
  rw [wp_call On5.told rfl]
  unfold b5_law_told
  rw [s_cons]
  simp [slot, Con.pv]
  refine s_try ?_
  simp [slot, Con.pv]
  refine machine_text_wp (k := k) m fun h1 g1 => ?_
  exact q h1 g1
end PK

set_option Elab.async false
set_option linter.all false
set_option maxRecDepth 100000
set_option maxHeartbeats 4000000
set_option exponentiation.threshold 5000
/-! PK05f: one machine of the law. -/
namespace PK
open PySem MP L2 TL
variable {P : Prog} {k : Nat} {h h' : PH} {E : Str → PH → Prop} {u mV : PV} {Q : PV → PH → Prop} {w c d n : Nat}
/-- the texts kept, each with its machine's repr -/
def Bk (h : PH) (d n : Nat) : Prop := ∃ kvs, h[d]? = some (.dK kvs) ∧ kvs.length ≤ n ∧ ∀ p ∈ kvs, ∃ s rs t, MachOk s rs ∧ p.1 = (Sum.inr (textS s rs) : L2.Key) ∧ p.2 = PV.str t ∧ ∀ h', repP h' (machV s rs) = some t
theorem Bk.st (b : Bk h d n) (hd : d ≠ w) (s : Stw w h h') : Bk h' d n := by
  obtain ⟨kvs, h1, h2, h3⟩ := b
  exact ⟨kvs, s.get hd h1, h2, h3⟩
theorem mem_putP {kvs : List (L2.Key × PV)} {k : L2.Key} {v : PV} {p : L2.Key × PV} (h : p ∈ putP kvs k v) : p ∈ kvs ∨ p = (k, v) := by
  unfold putP at h
  split at h
  · obtain ⟨q, hq, e⟩ := List.mem_map.mp h
    split at e
    · rename_i z; rw [← e, z]; exact .inr rfl
    · rw [← e]; exact .inl hq
  · rcases List.mem_append.mp h with h | h
    · exact .inl h
    · exact .inr (List.mem_singleton.mp h)
theorem len_putP {kvs : List (L2.Key × PV)} {k : L2.Key} {v : PV} : (putP kvs k v).length ≤ kvs.length + 1 := by
  unfold putP
  split <;> simp
theorem val_mem {kvs : List (L2.Key × PV)} {k : L2.Key} {v : PV} (h : valP kvs k = some v) : (k, v) ∈ kvs := by
  unfold valP at h
  cases e : kvs.find? fun kv => decide (kv.1 = k) with
  | none => rw [e] at h; cases h
  | some p =>
    rw [e] at h
    cases h
    have h1 := List.mem_of_find?_eq_some e
    have h2 := List.find?_some e
    have h3 : p.1 = k := of_decide_eq_true h2
    rw [← h3]
    exact h1
def b5_one_rest : List S := b5_one_tail.drop 1
theorem one_rest [Dr P] [Vs P] [Ck P] [Mm P] [Am P] [Fs P] [Jl P] [Jf P] [Jm P] [Nt P] [Rm P] [Mt P] [Lm P] [On5 P] {e4 e5 e6 : Option PV} (hw : Well h w c) (hd : d ≠ w) (hc : d ≠ c) (bk : Bk h d n) (hn : n ≤ 1000) (a : Val h (3 * 2 ^ 100) 1612 u) (b : Rpr h w 10 201320 u) (q : ∀ h', Well h' w c → Bk h' d (n + 1) → Q (.bl true) h') :
    wpS (execSs (globOf P (k + 40)) b5_one_rest [some (.obj w), some (.obj d), some mV, some u, e4, e5, e6] h) (.fn Q E) := by
  obtain ⟨t, ht⟩ := b.rep (by omega) (by omega)
  unfold b5_one_rest b5_one_tail
  simp only [List.drop_succ_cons, List.drop_zero]
  simp [-List.append_assoc, -List.length_append, slot, Con.pv]
  rw [p_repr]
  refine ⟨t, ht h .refl, ?_⟩
  have hp : 3 * 2 ^ 100 ≤ 10 ^ 40 := by decide
  cases hm : isMachine u with
  | false =>
    refine told5_no (k := k + 31) a.ok hm fun h1 g1 => ?_
    have av := a.gr g1
    refine l_machine_fits_wp (k := k + 36) hp av fun h2 g2 => ?_
    rw [hm]
    refine .inl ⟨rfl, .inr ⟨eqMach, ?_⟩⟩
    have s2 : Stw w h h2 := g1.stw.trans g2.stw
    rw [p_repr]
    refine ⟨t, ht h2 s2, .inr ⟨by rw [eqStr]; simp, ?_⟩⟩
    obtain ⟨kvs, b1, b2, b3⟩ := bk.st hd s2
    exact q h2 ((g1.trans g2).well hw) ⟨kvs, b1, by omega, b3⟩
  | true =>
    obtain ⟨s, rs, rfl, m⟩ := mach_of hm
    have htm : ∀ h', repP h' (machV s rs) = some t := fun h' => by
      obtain ⟨t', ht'⟩ := mach_rep m
      have := (ht' h).symm.trans (ht h .refl)
      rw [ht', ← this]
    refine told5_yes (k := k + 31) m fun h1 g1 => ?_
    refine l_machine_fits_wp (k := k + 36) hp (a.gr g1) fun h2 g2 => ?_
    rw [hm]
    refine .inr ⟨rfl, ?_⟩
    refine l_machine_text_wp (k := k + 39) m fun h3 g3 => ?_
    refine .inr ⟨eqToldT, ?_⟩
    have i1 : ∀ {h : PH} {Q : PV → PH → Prop} {E : Str → PH → Prop}, wp (ixM (strV (Str.ofString "told") (.str (textS s rs))) (.int 1)) h Q E ↔ Q (.str (textS s rs)) h := by
      intro h Q E
      unfold strV
      simp [atI, ixN]
    rw [i1]
    refine ⟨_, rfl, ?_⟩
    rw [if_pos (show PTy.str.sub PTy.str = true from rfl), i1]
    refine read_text_wp (k := k + 33) m fun h4 g4 => ?_
    rw [p_repr]
    refine ⟨t, htm h4, .inr ⟨by rw [eqStr]; simp, ?_⟩⟩
    have G := ((g1.trans g2).trans g3).trans g4
    obtain ⟨kvs, b1, b2, b3⟩ := bk.st hd (G.stw (w := w))
    have ed : dctP h4 (.obj d) = some kvs := by
      show (match h4[d]? with | some (PO.dK kvs) => some kvs | _ => none) = _
      rw [b1]
    refine ⟨⟨kvs, ed⟩, ?_⟩
    rw [i1]
    refine ⟨kvs, ed, _, rfl, .inr ⟨?_, ?_⟩⟩
    · cases e : valP kvs (Sum.inr (textS s rs)) with
      | none =>
        show eqP h4 (.str t) (.str t) = _
        rw [eqStr]; simp
      | some v =>
        obtain ⟨s', rs', t', m', k1, k2, k3⟩ := b3 _ (val_mem e)
        have ks : textS s rs = textS s' rs' := Sum.inr.inj k1
        have em := text_inj m m' ks
        have et : t' = t := by
          have := k3 h4
          rw [← em, htm h4] at this
          exact (Option.some.inj this).symm
        have k2 : v = .str t' := k2
        rw [k2, et]
        show eqP h4 (.str t) (.str t) = _
        rw [eqStr]; simp
    · rw [i1]
      refine ⟨kvs, ed, _, rfl, by rw [sizeLine_eq]; omega, ?_⟩
      rw [p_repr]
      refine ⟨t, htm _, .inr ⟨by rw [eqStr]; simp, ?_⟩⟩
      have hdl : d < h4.length := (List.getElem?_eq_some_iff.mp b1).1
      refine q _ ?_ ⟨_, List.getElem?_set_self hdl, Nat.le_trans len_putP (by omega), fun p hp => ?_⟩
      · obtain ⟨cells, a', b', d', w1, w2, w3, w4, w5⟩ := G.well hw
        exact ⟨cells, a', b', d', by rw [List.getElem?_set_ne hd]; exact w1, by rw [List.getElem?_set_ne hc]; exact w2, w3, w4, w5⟩
      · rcases mem_putP hp with hp | rfl
        · exact b3 p hp
        · exact ⟨s, rs, t, m, rfl, rfl, htm⟩
end PK

set_option Elab.async false
set_option linter.all false
set_option maxRecDepth 100000
set_option maxHeartbeats 4000000
set_option exponentiation.threshold 5000
/-! PK05g: the def of one machine. -/
namespace PK
open PySem MP L2 TL
variable {P : Prog} {k : Nat} {h h' : PH} {E : Str → PH → Prop} {u mV : PV} {Q : PV → PH → Prop} {w c d n : Nat}
theorem one_tail [Dr P] [Vs P] [Ck P] [Mm P] [Am P] [Fs P] [Jl P] [Jf P] [Jm P] [Nt P] [Rm P] [Mt P] [Lm P] [On5 P] {e4 e5 e6 : Option PV} (hw : Well h w c) (hd : d ≠ w) (hc : d ≠ c) (bk : Bk h d n) (hn : n ≤ 1000) (a : Val h (3 * 2 ^ 100) 1612 u) (b : Rpr h w 10 201320 u) (q : ∀ h', Well h' w c → Bk h' d (n + 1) → Q (.bl true) h') :
    wpS (execSs (globOf P (k + 40)) b5_one_tail [some (.obj w), some (.obj d), some mV, some u, e4, e5, e6] h) (.fn Q E) := by
  have K := fun (u : PV) (h1 : PH) (x : Hx w c h h1) (a : Val h1 (3 * 2 ^ 100) 1612 u) (b : Rpr h1 w 10 201320 u) => one_rest (P := P) (k := k) (mV := mV) (e4 := e4) (e5 := e5) (e6 := e6) (Q := Q) (E := E) x.well hd hc (bk.st hd x.stw) hn a b q
  have et : b5_one_tail = .ifS (.cmp .eq (.cl (Str.ofString "_law_draw") [.slot 0, .con (.int 8)]) (.con (.int 0))) [.asg 3 (.cl (Str.ofString "_law_any") [.slot 0, .con (.int 3)])] [] :: b5_one_rest := rfl
  rw [et]
  generalize b5_one_rest = T at K ⊢
  simp [-List.append_assoc, -List.length_append, slot, Con.pv]
  refine draw_wp (k := k + 37) hw (by omega) (by omega) fun r h1 r0 r1 x1 => ?_
  simp [-List.append_assoc, -List.length_append, slot, Con.pv]
  by_cases e0 : r = 0
  · refine .inr ⟨e0, any_wpR (k := k + 33) 3 x1.well fun v' h2 av dv rv x2 => ?_⟩
    exact K v' h2 (x1.trans x2) (av.mono (by omega) (by omega)) (rv.mono (by omega) (by decide))
  · exact .inl ⟨e0, K u h1 x1 (a.hx hw x1) (b.st x1.stw)⟩
theorem one_wp [Dr P] [Vs P] [Mw P] [Ck P] [Mm P] [Am P] [Fs P] [Jl P] [Jf P] [Jm P] [Nt P] [Rm P] [Mt P] [Lm P] [On5 P] (hw : Well h w c) (hd : d ≠ w) (hc : d ≠ c) (bk : Bk h d n) (hn : n ≤ 1000) (q : ∀ h', Well h' w c → Bk h' d (n + 1) → Q (.bl true) h') :
    wp (callF P (k + 41) "_law_one" [.obj w, .obj d]) h Q E := by
  rw [wp_call On5.one rfl]
  unfold b5_law_one
  have K := fun (e4 : Option PV) (mV u : PV) (h1 : PH) (x : Hx w c h h1) (a : Val h1 (3 * 2 ^ 100) 1612 u) (b : Rpr h1 w 10 201320 u) => one_tail (P := P) (k := k) (mV := mV) (e4 := e4) (e5 := none) (e6 := none) (Q := Q) (E := E) x.well hd hc (bk.st hd x.stw) hn a b q
  generalize b5_one_tail = T at K ⊢
  simp [-List.append_assoc, -List.length_append, slot, Con.pv]
  refine machine_wp (k := k + 35) hw fun s rs h1 mk x1 => ?_
  have a1 : Val h1 (2 ^ 100) 400 (machV s rs) := (val_mach mk).mono (by decide) (by omega)
  have b1 : Rpr h1 w 6 50000 (machV s rs) := rpr_mach mk
  generalize machV s rs = mV at a1 b1 ⊢
  rw [s_for]
  simp [-List.append_assoc, -List.length_append, slot, Con.pv]
  refine pick_wp (k := k + 37) (m := 4) x1.well (by rfl) (by omega) (by omega) fun x hx h2 x2 => ?_
  obtain ⟨r, hr, hr2⟩ : ∃ r : Nat, x = .int (r : Nat) ∧ r ≤ 2 := by
    simp at hx
    rcases hx with rfl | rfl | rfl
    · exact ⟨0, rfl, by omega⟩
    · exact ⟨1, rfl, by omega⟩
    · exact ⟨2, rfl, by omega⟩
  subst hr
  have hsm : smallI (r : Nat) = true := by simp [smallI]; omega
  simp [-List.append_assoc, -List.length_append, hsm]
  refine wp_for_rng (fun i env hh => Hx w c h hh ∧ ∃ (u : PV) (e4 : Option PV), env = [some (.obj w), some (.obj d), some mV, some u, e4, none, none] ∧ Val hh ((i + 1) * 2 ^ 100) (404 * 2 ^ i - 4) u ∧ Rpr hh w (6 + 2 * i) (50440 * 2 ^ i - 440) u) ?_ ?_ r 0 _ _ (by simp) ⟨x1.trans x2, mV, none, rfl, (a1.hx x1.well x2).mono (by omega) (by omega), (b1.st x2.stw).mono (by omega) (by omega)⟩
  · rintro i env hh hi ⟨X, u, e4, rfl, av, rv⟩
    refine ⟨_, rfl, ?_⟩
    have i1 : i ≤ 1 := by omega
    have ip : 2 ^ i ≤ 2 := by
      rcases (show i = 0 ∨ i = 1 by omega) with rfl | rfl <;> decide
    have i0 : 1 ≤ 2 ^ i := Nat.pow_pos (by decide)
    have is : 2 ^ (i + 1) = 2 * 2 ^ i := by rw [Nat.pow_succ]; omega
    have dp := rv.dep
    have nd := rv.nodes
    simp [-List.append_assoc, -List.length_append, slot, Con.pv]
    refine nodes_wp (k := k + 29) (n := 11) (by omega) av (by omega) fun h3 g3 => ?_
    have X3 := X.trans (g3.hx X.well)
    have np := nodes_pos (v := u)
    refine draw_wp (k := k + 37) X3.well (by omega) (by omega) fun t h4 t0 t1 x4 => ?_
    have X4 := X3.trans x4
    have av4 := (av.gr g3).hx X3.well x4
    have rv4 := rv.st (g3.stw.trans x4.stw)
    have hBB : (i + 1) * 2 ^ 100 < 2 ^ 103 := by
      have : (i + 1) * 2 ^ 100 ≤ 2 * 2 ^ 100 := Nat.mul_le_mul_right _ (by omega)
      exact Nat.lt_of_le_of_lt this (by decide)
    refine spoilt_wpR (k := k + 21) (by omega) hBB 11 X4.well av4 rv4 (by omega) t0 t1 fun v' h5 av5 rv5 x5 => ?_
    refine ⟨X4.trans x5, av5.mono ?_ (by omega), rv5.mono (by omega) (by omega)⟩
    rw [Nat.add_mul (i + 1) 1]
    omega
  · rintro env hh ⟨X, u, e4, rfl, av, rv⟩
    have ip : 2 ^ r ≤ 4 := by
      rcases (show r = 0 ∨ r = 1 ∨ r = 2 by omega) with rfl | rfl | rfl <;> decide
    exact K e4 mV u hh X (av.mono (Nat.mul_le_mul_right _ (by omega)) (by omega)) (rv.mono (by omega) (by omega))
end PK

set_option Elab.async false
set_option linter.all false
set_option maxRecDepth 100000
set_option maxHeartbeats 4000000
/-! tables, printed by gen.py -/
namespace K05
open PySem MP L2
def sT (i : Nat) : Stmt := (PySem.Challenge.pw_keptmisses_k05_machines_as_texts.main.body[i]?).getD (.Pass ⟨0, 0, 0, 0⟩)
def d_law : FD := { ps := [(Str.ofString "_law_script")], ns := 4, body := [.asg 1 (.cl (Str.ofString "_law_well") [.slot 0]), .asg 2 (.dct [] []), .for_ (.nm 3) .range [.bin .add (.con (.int 1)) (.cl (Str.ofString "_law_draw") [.slot 1, .con (.int 3)])] [.ifS (.not_ (.cl (Str.ofString "_law_one") [.slot 1, .slot 2])) [.ret (.con (.bl false))] []], .ret (.con (.bl true))] }
abbrev N_law : List Str := [(Str.ofString "_law_script"), (Str.ofString "_law_well_here"), (Str.ofString "_law_texts"), (Str.ofString "_law_turn")]
def d__law_well : FD := { ps := [(Str.ofString "_law_script")], ns := 2, body := [.ret (.lst [.lc (.bi .int [.slot 1]) (.nm 1) .val [.slc (.slot 0) (.con .non) (.con (.int 63))] [] [1], .con (.int 0), .con (.int 0), .con (.int 1)])] }
abbrev N__law_well : List Str := [(Str.ofString "_law_script"), (Str.ofString "_law_cell")]
def d__law_draw : FD := { ps := [(Str.ofString "_law_well_here"), (Str.ofString "_law_many")], ns := 3, body := [.ifS (.cmp .eq (.sub (.slot 0) (.con (.int 2))) (.con (.int 0))) [.setIx (.slot 0) (.con (.int 2)) (.cl (Str.ofString "_law_filled") [.slot 0])] [], .asg 2 (.bin .mod (.bi .int [.sub (.slot 0) (.con (.int 2))]) (.slot 1)), .setIx (.slot 0) (.con (.int 2)) (.bin .fdiv (.bi .int [.sub (.slot 0) (.con (.int 2))]) (.slot 1)), .ret (.slot 2)] }
abbrev N__law_draw : List Str := [(Str.ofString "_law_well_here"), (Str.ofString "_law_many"), (Str.ofString "_law_told_here")]
def d__law_one : FD := { ps := [(Str.ofString "_law_well_here"), (Str.ofString "_law_texts")], ns := 7, body := [.asg 2 (.cl (Str.ofString "_law_machine") [.slot 0]), .asg 3 (.slot 2), .for_ (.nm 4) .range [.sub (.lst [.con (.int 0), .con (.int 0), .con (.int 1), .con (.int 2)]) (.cl (Str.ofString "_law_draw") [.slot 0, .con (.int 4)])] [.asg 3 (.cl (Str.ofString "_law_spoilt") [.slot 3, .cl (Str.ofString "_law_draw") [.slot 0, .cl (Str.ofString "_law_nodes") [.slot 3]], .slot 0])], .ifS (.cmp .eq (.cl (Str.ofString "_law_draw") [.slot 0, .con (.int 8)]) (.con (.int 0))) [.asg 3 (.cl (Str.ofString "_law_any") [.slot 0, .con (.int 3)])] [], .asg 5 (.bi .repr [.slot 3]), .asg 6 (.cl (Str.ofString "_law_told") [.slot 3]), .ifS (.not_ (.cl (Str.ofString "_law_machine_fits") [.slot 3])) [.ret (.and_ [.cmp .eq (.slot 6) (.tup [.con (.str (Str.ofString "machine")), .con .non]), .cmp .eq (.bi .repr [.slot 3]) (.slot 5)])] [], .ifS (.or_ [.cmp .ne (.slot 6) (.tup [.con (.str (Str.ofString "told")), .cl (Str.ofString "_law_machine_text") [.slot 3]]), .not_ (.isi (.sub (.slot 6) (.con (.int 1))) .str)]) [.ret (.con (.bl false))] [], .ifS (.or_ [.cmp .ne (.bi .repr [.cl (Str.ofString "read_machine") [.sub (.slot 6) (.con (.int 1))]]) (.slot 5), .cmp .ne (.dgetD (.slot 1) (.sub (.slot 6) (.con (.int 1))) (.slot 5)) (.slot 5)]) [.ret (.con (.bl false))] [], .dput (.slot 1) (.sub (.slot 6) (.con (.int 1))) (.slot 5), .ret (.cmp .eq (.bi .repr [.slot 3]) (.slot 5))] }
abbrev N__law_one : List Str := [(Str.ofString "_law_well_here"), (Str.ofString "_law_texts"), (Str.ofString "_law_machine_here"), (Str.ofString "_law_thing"), (Str.ofString "_law_k"), (Str.ofString "_law_before"), (Str.ofString "_law_told_here")]
def d__law_filled : FD := { ps := [(Str.ofString "_law_well_here")], ns := 2, body := [.setIx (.slot 0) (.con (.int 1)) (.bin .add (.sub (.slot 0) (.con (.int 1))) (.con (.int 1))), .ifS (.cmp .le (.sub (.slot 0) (.con (.int 1))) (.bi .len [.sub (.slot 0) (.con (.int 0))])) [.asg 1 (.sub (.sub (.slot 0) (.con (.int 0))) (.bin .sub (.sub (.slot 0) (.con (.int 1))) (.con (.int 1)))), .setIx (.slot 0) (.con (.int 3)) (.bin .mod (.bi .int [.bin .add (.bin .add (.bin .mul (.sub (.slot 0) (.con (.int 3))) (.con (.int 69069))) (.slot 1)) (.con (.int 1))]) (.con (.int 2147483629))), .ifS (.cmp .ge (.slot 1) (.bin .pow (.con (.int 10)) (.con (.int 18)))) [.ret (.slot 1)] [], .ret (.cl (Str.ofString "_law_mixed") [.bin .add (.slot 1) (.bin .mul (.con (.int 7919)) (.sub (.slot 0) (.con (.int 1))))])] [], .ret (.cl (Str.ofString "_law_mixed") [.bin .add (.sub (.slot 0) (.con (.int 3))) (.bin .mul (.con (.int 7919)) (.sub (.slot 0) (.con (.int 1))))])] }
abbrev N__law_filled : List Str := [(Str.ofString "_law_well_here"), (Str.ofString "_law_cell")]
def d__law_machine : FD := { ps := [(Str.ofString "_law_well_here")], ns := 8, body := [.asg 1 (.bin .add (.con (.int 2)) (.cl (Str.ofString "_law_draw") [.slot 0, .con (.int 3)])), .asg 2 (.lst [.bin .add (.con (.int 1)) (.cl (Str.ofString "_law_draw") [.slot 0, .con (.int 3)]), .bin .add (.con (.int 1)) (.cl (Str.ofString "_law_draw") [.slot 0, .con (.int 6)]), .bin .sub (.con (.int 12)) (.cl (Str.ofString "_law_draw") [.slot 0, .con (.int 2)])]), .asg 3 (.sub (.slot 2) (.sub (.lst [.con (.int 0), .con (.int 0), .con (.int 1), .con (.int 1), .con (.int 2)]) (.cl (Str.ofString "_law_draw") [.slot 0, .con (.int 5)]))), .asg 4 (.lst []), .for_ (.nm 5) .range [.slot 3] [.asg 6 (.bin .add (.con (.int 1)) (.cl (Str.ofString "_law_draw") [.slot 0, .slot 3])), .expr (.mth .append (.slot 4) [.bi .tuple [.lc (.tup [.cl (Str.ofString "_law_allowance") [.slot 0], .cl (Str.ofString "_law_draw") [.slot 0, .slot 6]]) (.nm 7) .range [.slot 1] [] [7]]])], .ret (.tup [.slot 1, .bi .tuple [.slot 4]])] }
abbrev N__law_machine : List Str := [(Str.ofString "_law_well_here"), (Str.ofString "_law_size"), (Str.ofString "_law_some"), (Str.ofString "_law_states"), (Str.ofString "_law_rules"), (Str.ofString "_law_state"), (Str.ofString "_law_few"), (Str.ofString "_law_letter")]
def d__law_spoilt : FD := { ps := [(Str.ofString "_law_thing"), (Str.ofString "_law_at"), (Str.ofString "_law_well_here")], ns := 5, body := [.ifS (.cmp .eq (.slot 1) (.con (.int 0))) [.ret (.cl (Str.ofString "_law_changed") [.slot 0, .slot 2])] [], .asg 1 (.bin .sub (.slot 1) (.con (.int 1))), .for_ (.nm 3) .range [.bi .len [.slot 0]] [.asg 4 (.cl (Str.ofString "_law_nodes") [.sub (.slot 0) (.slot 3)]), .ifS (.cmp .lt (.slot 1) (.slot 4)) [.ret (.bin .add (.bin .add (.slc (.slot 0) (.con .non) (.slot 3)) (.tup [.cl (Str.ofString "_law_spoilt") [.sub (.slot 0) (.slot 3), .slot 1, .slot 2]])) (.slc (.slot 0) (.bin .add (.slot 3) (.con (.int 1))) (.con .non)))] [], .asg 1 (.bin .sub (.slot 1) (.slot 4))], .ret (.slot 0)] }
abbrev N__law_spoilt : List Str := [(Str.ofString "_law_thing"), (Str.ofString "_law_at"), (Str.ofString "_law_well_here"), (Str.ofString "_law_k"), (Str.ofString "_law_size")]
def d__law_nodes : FD := { ps := [(Str.ofString "_law_thing")], ns := 2, body := [.ifS (.isi (.slot 0) .tuple) [.ret (.bin .add (.con (.int 1)) (.bi .sum [.lc (.cl (Str.ofString "_law_nodes") [.slot 1]) (.nm 1) .val [.slot 0] [] [1]]))] [], .ret (.con (.int 1))] }
abbrev N__law_nodes : List Str := [(Str.ofString "_law_thing"), (Str.ofString "_law_item")]
def d__law_any : FD := { ps := [(Str.ofString "_law_well_here"), (Str.ofString "_law_deep")], ns := 5, body := [.asg 2 (.cl (Str.ofString "_law_draw") [.slot 0, .con (.int 11)]), .ifS (.cmp .eq (.slot 1) (.con (.int 0))) [.asg 2 (.bin .mod (.bi .int [.slot 2]) (.con (.int 6)))] [], .ifS (.cmp .eq (.slot 2) (.con (.int 0))) [.ret (.bin .sub (.cl (Str.ofString "_law_draw") [.slot 0, .con (.int 30)]) (.con (.int 6)))] [], .ifS (.cmp .eq (.slot 2) (.con (.int 1))) [.ret (.sub (.lst [.neg (.bin .pow (.con (.int 10)) (.con (.int 29))), .bin .pow (.con (.int 10)) (.con (.int 29)), .con (.int 1000001), .con (.int 1001), .con (.int 13), .con (.int 401)]) (.cl (Str.ofString "_law_draw") [.slot 0, .con (.int 6)]))] [], .ifS (.cmp .eq (.slot 2) (.con (.int 2))) [.ret (.cmp .eq (.cl (Str.ofString "_law_draw") [.slot 0, .con (.int 2)]) (.con (.int 1)))] [], .ifS (.cmp .eq (.slot 2) (.con (.int 3))) [.ret (.con .non)] [], .ifS (.cmp .le (.slot 2) (.con (.int 5))) [.ret (.sub (.lst [.con (.str (Str.ofString "")), .con (.str (Str.ofString "0")), .con (.str (Str.ofString "1/2:0")), .con (.str (Str.ofString "size 2\n")), .con (.str (Str.ofString "-")), .con (.str (Str.ofString " \n"))]) (.cl (Str.ofString "_law_draw") [.slot 0, .con (.int 6)]))] [], .asg 3 (.lc (.cl (Str.ofString "_law_any") [.slot 0, .bin .sub (.slot 1) (.con (.int 1))]) (.nm 4) .range [.cl (Str.ofString "_law_draw") [.slot 0, .con (.int 4)]] [] [4]), .ifS (.cmp .le (.slot 2) (.con (.int 8))) [.ret (.bi .tuple [.slot 3])] [], .ifS (.cmp .eq (.slot 2) (.con (.int 9))) [.ret (.slot 3)] [], .ret (.dct [.inr (Str.ofString "a"), .inl 1] [.slot 3, .con .non])] }
abbrev N__law_any : List Str := [(Str.ofString "_law_well_here"), (Str.ofString "_law_deep"), (Str.ofString "_law_kind"), (Str.ofString "_law_items"), (Str.ofString "_law_k")]
def d__law_told : FD := { ps := [(Str.ofString "_law_thing")], ns := 2, body := [.asg 1 (.tup [.con (.str (Str.ofString "other")), .con .non]), .tryS [.asg 1 (.tup [.con (.str (Str.ofString "told")), .cl (Str.ofString "machine_text") [.slot 0]])] [((Str.ofString "NoMachine"), [.asg 1 (.tup [.con (.str (Str.ofString "machine")), .con .non])]), ((Str.ofString "MissError"), [.asg 1 (.tup [.con (.str (Str.ofString "other")), .con .non])])], .ret (.slot 1)] }
abbrev N__law_told : List Str := [(Str.ofString "_law_thing"), (Str.ofString "_law_told_here")]
def d__law_machine_fits : FD := { ps := [(Str.ofString "_law_thing")], ns := 4, body := [.ifS (.or_ [.not_ (.cl (Str.ofString "_law_long") [.slot 0, .con (.int 2)]), .not_ (.cl (Str.ofString "_law_is_int") [.sub (.slot 0) (.con (.int 0)), .con (.int 2), .con (.int 4)]), .not_ (.isi (.sub (.slot 0) (.con (.int 1))) .tuple)]) [.ret (.con (.bl false))] [], .asg 1 (.bi .len [.sub (.slot 0) (.con (.int 1))]), .ifS (.or_ [.cmp .lt (.slot 1) (.con (.int 1)), .cmp .gt (.slot 1) (.con (.int 12)), .not_ (.bi .all [.lc (.cl (Str.ofString "_law_long") [.slot 2, .sub (.slot 0) (.con (.int 0))]) (.nm 2) .val [.sub (.slot 0) (.con (.int 1))] [] [2]])]) [.ret (.con (.bl false))] [], .ret (.bi .all [.lc (.bi .all [.lc (.cl (Str.ofString "_law_step_fits") [.slot 3, .slot 1]) (.nm 3) .val [.slot 2] [] [3]]) (.nm 2) .val [.sub (.slot 0) (.con (.int 1))] [] [2]])] }
abbrev N__law_machine_fits : List Str := [(Str.ofString "_law_thing"), (Str.ofString "_law_states"), (Str.ofString "_law_rule"), (Str.ofString "_law_step")]
def d__law_machine_text : FD := { ps := [(Str.ofString "_law_machine_here")], ns := 5, body := [.asg 1 (.bin .add (.bin .add (.con (.str (Str.ofString "size "))) (.bi .str [.sub (.slot 0) (.con (.int 0))])) (.con (.str (Str.ofString "\n")))), .for_ (.nm 2) .val [.sub (.slot 0) (.con (.int 1))] [.asg 3 (.lc (.bin .add (.bin .add (.bin .add (.bin .add (.bi .str [.sub (.sub (.slot 4) (.con (.int 0))) (.con (.int 0))]) (.con (.str (Str.ofString "/")))) (.bi .str [.sub (.sub (.slot 4) (.con (.int 0))) (.con (.int 1))])) (.con (.str (Str.ofString ":")))) (.bi .str [.sub (.slot 4) (.con (.int 1))])) (.nm 4) .val [.slot 2] [] [4]), .asg 1 (.bin .add (.bin .add (.slot 1) (.smth true (.con (.str (Str.ofString " "))) (.slot 3))) (.con (.str (Str.ofString "\n"))))], .ret (.slot 1)] }
abbrev N__law_machine_text : List Str := [(Str.ofString "_law_machine_here"), (Str.ofString "_law_text"), (Str.ofString "_law_rule"), (Str.ofString "_law_words"), (Str.ofString "_law_step")]
def d_read_machine : FD := { ps := [(Str.ofString "text")], ns := 7, body := [.ifS (.not_ (.isi (.slot 0) .str)) [.ret (.con .non)] [], .asg 1 (.smth false (.slot 0) (.con (.str (Str.ofString "\n")))), .asg 2 (.smth false (.sub (.slot 1) (.con (.int 0))) (.con (.str (Str.ofString " ")))), .asg 3 (.ife (.and_ [.cmp .eq (.bi .len [.slot 2]) (.con (.int 2)), .cmp .eq (.sub (.slot 2) (.con (.int 0))) (.con (.str (Str.ofString "size")))]) (.cl (Str.ofString "number_of") [.sub (.slot 2) (.con (.int 1))]) (.con .non)), .ifS (.or_ [.cmp .is (.slot 3) (.con .non), .cmp .ne (.sub (.slot 1) (.neg (.con (.int 1)))) (.con (.str (Str.ofString "")))]) [.ret (.con .non)] [], .asg 4 (.tup [.slot 3, .bi .tuple [.lc (.bi .tuple [.lc (.cl (Str.ofString "read_step") [.slot 6]) (.nm 6) .val [.smth false (.slot 5) (.con (.str (Str.ofString " ")))] [] [6]]) (.nm 5) .val [.slc (.slot 1) (.con (.int 1)) (.neg (.con (.int 1)))] [] [5]]]), .ret (.ife (.cl (Str.ofString "is_machine") [.slot 4]) (.slot 4) (.con .non))] }
abbrev N_read_machine : List Str := [(Str.ofString "text"), (Str.ofString "lines"), (Str.ofString "head"), (Str.ofString "size"), (Str.ofString "found"), (Str.ofString "line"), (Str.ofString "word")]
def d__law_mixed : FD := { ps := [(Str.ofString "_law_number")], ns := 1, body := [.asg 0 (.bin .mod (.bi .int [.bin .add (.bin .mul (.slot 0) (.con (.int 48271))) (.con (.int 11))]) (.con (.int 2147483647))), .asg 0 (.bin .mod (.bi .int [.bin .add (.bin .mul (.slot 0) (.bin .add (.bin .fdiv (.slot 0) (.con (.int 1009))) (.con (.int 69621)))) (.con (.int 7919))]) (.con (.int 2147483647))), .ret (.bin .add (.bin .mul (.slot 0) (.con (.int 2147483399))) (.bin .mod (.bi .int [.bin .add (.bin .mul (.slot 0) (.bin .add (.bin .fdiv (.slot 0) (.con (.int 2003))) (.con (.int 40692)))) (.con (.int 104729))]) (.con (.int 2147483399))))] }
abbrev N__law_mixed : List Str := [(Str.ofString "_law_number")]
def d__law_allowance : FD := { ps := [(Str.ofString "_law_well_here")], ns := 2, body := [.asg 1 (.cl (Str.ofString "_law_draw") [.slot 0, .con (.int 8)]), .ifS (.cmp .eq (.slot 1) (.con (.int 0))) [.ret (.cl (Str.ofString "_law_part") [.bin .sub (.cl (Str.ofString "_law_draw") [.slot 0, .con (.int 2000001)]) (.con (.int 1000000)), .bin .add (.con (.int 1)) (.cl (Str.ofString "_law_draw") [.slot 0, .con (.int 1000)])])] [], .ifS (.cmp .eq (.slot 1) (.con (.int 1))) [.ret (.sub (.lst [.tup [.con (.int 1000000), .con (.int 1)], .tup [.neg (.con (.int 1000000)), .con (.int 1)], .tup [.con (.int 1), .con (.int 1000)], .tup [.con (.int 999999), .con (.int 1000)], .tup [.con (.int 0), .con (.int 1)]]) (.cl (Str.ofString "_law_draw") [.slot 0, .con (.int 5)]))] [], .ret (.cl (Str.ofString "_law_part") [.bin .sub (.cl (Str.ofString "_law_draw") [.slot 0, .con (.int 9)]) (.con (.int 2)), .bin .add (.con (.int 1)) (.cl (Str.ofString "_law_draw") [.slot 0, .con (.int 6)])])] }
abbrev N__law_allowance : List Str := [(Str.ofString "_law_well_here"), (Str.ofString "_law_kind")]
def d__law_changed : FD := { ps := [(Str.ofString "_law_thing"), (Str.ofString "_law_well_here")], ns := 4, body := [.asg 2 (.cl (Str.ofString "_law_draw") [.slot 1, .con (.int 9)]), .ifS (.or_ [.cmp .eq (.slot 2) (.con (.int 0)), .not_ (.isi2 (.slot 0) [.tuple, .int]), .isi (.slot 0) .bool]) [.ret (.cl (Str.ofString "_law_any") [.slot 1, .con (.int 1)])] [], .ifS (.isi (.slot 0) .int) [.ret (.sub (.lst [.bin .add (.slot 0) (.con (.int 1)), .bin .sub (.slot 0) (.con (.int 1)), .neg (.slot 0), .cmp .ge (.slot 0) (.con (.int 1)), .con (.int 0), .con (.int 1000001), .con .non, .tup [.slot 0]]) (.bin .sub (.slot 2) (.con (.int 1))))] [], .asg 3 (.lst [.slc (.slot 0) (.con (.int 1)) (.con .non), .slc (.slot 0) (.con .non) (.neg (.con (.int 1))), .bin .add (.slc (.slot 0) (.con (.int 1)) (.con .non)) (.slc (.slot 0) (.con .non) (.con (.int 1))), .bin .add (.slc (.slot 0) (.con .non) (.con (.int 1))) (.slot 0), .bin .add (.slot 0) (.tup [.con (.int 0)]), .bi .list [.slot 0]]), .ret (.sub (.bin .add (.slot 3) (.lst [.con .non, .bin .mul (.slot 0) (.con (.int 2))])) (.bin .sub (.slot 2) (.con (.int 1))))] }
abbrev N__law_changed : List Str := [(Str.ofString "_law_thing"), (Str.ofString "_law_well_here"), (Str.ofString "_law_kind"), (Str.ofString "_law_turned")]
def d_machine_text : FD := { ps := [(Str.ofString "machine")], ns := 5, body := [.expr (.cl (Str.ofString "check_machine") [.slot 0]), .asg 1 (.lst [.bin .add (.con (.str (Str.ofString "size "))) (.bi .str [.sub (.slot 0) (.gl (Str.ofString "SIZE"))])]), .for_ (.nm 2) .val [.sub (.slot 0) (.gl (Str.ofString "RULES"))] [.expr (.mth .append (.slot 1) [.smth true (.con (.str (Str.ofString " "))) (.lc (.cl (Str.ofString "step_text") [.slot 4]) (.nm 4) .val [.slot 2] [] [4])])], .ret (.smth true (.con (.str (Str.ofString ""))) (.lc (.bin .add (.slot 3) (.con (.str (Str.ofString "\n")))) (.nm 3) .val [.slot 1] [] [3]))] }
abbrev N_machine_text : List Str := [(Str.ofString "machine"), (Str.ofString "lines"), (Str.ofString "rule"), (Str.ofString "line"), (Str.ofString "step")]
def d__law_long : FD := { ps := [(Str.ofString "_law_thing"), (Str.ofString "_law_many")], ns := 2, body := [.ret (.and_ [.isi (.slot 0) .tuple, .cmp .eq (.bi .len [.slot 0]) (.slot 1)])] }
abbrev N__law_long : List Str := [(Str.ofString "_law_thing"), (Str.ofString "_law_many")]
def d__law_is_int : FD := { ps := [(Str.ofString "_law_thing"), (Str.ofString "_law_least"), (Str.ofString "_law_most")], ns := 3, body := [.ret (.and_ [.isi (.slot 0) .int, .not_ (.isi (.slot 0) .bool), .cmp .le (.slot 1) (.slot 0), .cmp .le (.slot 0) (.slot 2)])] }
abbrev N__law_is_int : List Str := [(Str.ofString "_law_thing"), (Str.ofString "_law_least"), (Str.ofString "_law_most")]
def d__law_step_fits : FD := { ps := [(Str.ofString "_law_thing"), (Str.ofString "_law_states")], ns := 2, body := [.ifS (.or_ [.not_ (.cl (Str.ofString "_law_long") [.slot 0, .con (.int 2)]), .not_ (.cl (Str.ofString "_law_fraction_fits") [.sub (.slot 0) (.con (.int 0))]), .not_ (.cl (Str.ofString "_law_is_int") [.sub (.slot 0) (.con (.int 1)), .con (.int 0), .bin .sub (.slot 1) (.con (.int 1))])]) [.ret (.con (.bl false))] [], .ret (.and_ [.cmp .le (.neg (.con (.int 1000000))) (.sub (.sub (.slot 0) (.con (.int 0))) (.con (.int 0))), .cmp .le (.sub (.sub (.slot 0) (.con (.int 0))) (.con (.int 0))) (.con (.int 1000000)), .cmp .le (.sub (.sub (.slot 0) (.con (.int 0))) (.con (.int 1))) (.con (.int 1000))])] }
abbrev N__law_step_fits : List Str := [(Str.ofString "_law_thing"), (Str.ofString "_law_states")]
def d_number_of : FD := { ps := [(Str.ofString "word")], ns := 2, body := [.ifS (.or_ [.not_ (.chain .le .le (.con (.int 1)) (.bi .len [.slot 0]) (.gl (Str.ofString "MOST_DIGITS"))), .not_ (.bi .all [.lc (.inT (.slot 1) (.con (.str (Str.ofString "0123456789")))) (.nm 1) .val [.slot 0] [] [1]])]) [.ret (.con .non)] [], .ret (.ife (.or_ [.cmp .eq (.slot 0) (.con (.str (Str.ofString "0"))), .cmp .ne (.subS (.slot 0) (.con (.int 0))) (.con (.str (Str.ofString "0")))]) (.bi .int [.slot 0]) (.con .non))] }
abbrev N_number_of : List Str := [(Str.ofString "word"), (Str.ofString "sign")]
def d_read_step : FD := { ps := [(Str.ofString "word")], ns := 5, body := [.asgT [.nm 1, .nm 2] (.cl (Str.ofString "parted") [.slot 0, .con (.str (Str.ofString ":"))]), .asgT [.nm 3, .nm 4] (.cl (Str.ofString "parted") [.slot 1, .con (.str (Str.ofString "/"))]), .ret (.tup [.tup [.cl (Str.ofString "signed") [.slot 3], .cl (Str.ofString "number_of") [.slot 4]], .cl (Str.ofString "number_of") [.slot 2]])] }
abbrev N_read_step : List Str := [(Str.ofString "word"), (Str.ofString "allowance"), (Str.ofString "later"), (Str.ofString "top"), (Str.ofString "bottom")]
def d_is_machine : FD := { ps := [(Str.ofString "thing")], ns := 3, body := [.ifS (.or_ [.not_ (.cl (Str.ofString "is_tuple_of") [.slot 0, .con (.int 2)]), .not_ (.cl (Str.ofString "is_size") [.sub (.slot 0) (.gl (Str.ofString "SIZE"))]), .not_ (.isi (.sub (.slot 0) (.gl (Str.ofString "RULES"))) .tuple)]) [.ret (.con (.bl false))] [], .asg 1 (.bi .len [.sub (.slot 0) (.gl (Str.ofString "RULES"))]), .ret (.and_ [.chain .le .le (.con (.int 1)) (.slot 1) (.gl (Str.ofString "MOST_STATES")), .bi .all [.lc (.cl (Str.ofString "is_rule") [.slot 2, .sub (.slot 0) (.gl (Str.ofString "SIZE")), .slot 1]) (.nm 2) .val [.sub (.slot 0) (.gl (Str.ofString "RULES"))] [] [2]]])] }
abbrev N_is_machine : List Str := [(Str.ofString "thing"), (Str.ofString "states"), (Str.ofString "rule")]
def d__law_part : FD := { ps := [(Str.ofString "_law_top"), (Str.ofString "_law_bottom")], ns := 3, body := [.asg 2 (.cl (Str.ofString "_law_shared") [.slot 0, .slot 1]), .ret (.tup [.bin .fdiv (.slot 0) (.slot 2), .bin .fdiv (.slot 1) (.slot 2)])] }
abbrev N__law_part : List Str := [(Str.ofString "_law_top"), (Str.ofString "_law_bottom"), (Str.ofString "_law_shared_here")]
def d_check_machine : FD := { ps := [(Str.ofString "thing")], ns := 1, body := [.ifS (.not_ (.cl (Str.ofString "is_machine") [.slot 0])) [.raise (Str.ofString "NoMachine")] []] }
abbrev N_check_machine : List Str := [(Str.ofString "thing")]
def d_step_text : FD := { ps := [(Str.ofString "step")], ns := 4, body := [.asgT [.tp [.nm 2, .nm 3], .nm 1] (.slot 0), .ret (.bin .add (.bin .add (.bin .add (.bin .add (.bi .str [.slot 2]) (.con (.str (Str.ofString "/")))) (.bi .str [.slot 3])) (.con (.str (Str.ofString ":")))) (.bi .str [.slot 1]))] }
abbrev N_step_text : List Str := [(Str.ofString "step"), (Str.ofString "later"), (Str.ofString "top"), (Str.ofString "bottom")]
def d__law_fraction_fits : FD := { ps := [(Str.ofString "_law_thing")], ns := 1, body := [.ifS (.or_ [.not_ (.cl (Str.ofString "_law_long") [.slot 0, .con (.int 2)]), .not_ (.cl (Str.ofString "_law_is_int") [.sub (.slot 0) (.con (.int 0)), .neg (.bin .pow (.con (.int 10)) (.con (.int 40))), .bin .pow (.con (.int 10)) (.con (.int 40))])]) [.ret (.con (.bl false))] [], .ret (.and_ [.cl (Str.ofString "_law_is_int") [.sub (.slot 0) (.con (.int 1)), .con (.int 1), .bin .pow (.con (.int 10)) (.con (.int 40))], .cmp .eq (.cl (Str.ofString "_law_shared") [.sub (.slot 0) (.con (.int 0)), .sub (.slot 0) (.con (.int 1))]) (.con (.int 1))])] }
abbrev N__law_fraction_fits : List Str := [(Str.ofString "_law_thing")]
def d_parted : FD := { ps := [(Str.ofString "word"), (Str.ofString "mark")], ns := 3, body := [.asg 2 (.smth false (.slot 0) (.slot 1)), .ret (.ife (.cmp .eq (.bi .len [.slot 2]) (.con (.int 2))) (.tup [.sub (.slot 2) (.con (.int 0)), .sub (.slot 2) (.con (.int 1))]) (.tup [.con (.str (Str.ofString "")), .con (.str (Str.ofString ""))]))] }
abbrev N_parted : List Str := [(Str.ofString "word"), (Str.ofString "mark"), (Str.ofString "parts")]
def d_signed : FD := { ps := [(Str.ofString "word")], ns := 2, body := [.ifS (.cmp .ne (.slcS (.slot 0) (.con .non) (.con (.int 1))) (.con (.str (Str.ofString "-")))) [.ret (.cl (Str.ofString "number_of") [.slot 0])] [], .asg 1 (.cl (Str.ofString "number_of") [.slcS (.slot 0) (.con (.int 1)) (.con .non)]), .ret (.ife (.or_ [.cmp .is (.slot 1) (.con .non), .cmp .eq (.slot 1) (.con (.int 0))]) (.con .non) (.neg (.slot 1)))] }
abbrev N_signed : List Str := [(Str.ofString "word"), (Str.ofString "found")]
def d_is_tuple_of : FD := { ps := [(Str.ofString "thing"), (Str.ofString "many")], ns := 2, body := [.ret (.and_ [.isi (.slot 0) .tuple, .cmp .eq (.bi .len [.slot 0]) (.slot 1)])] }
abbrev N_is_tuple_of : List Str := [(Str.ofString "thing"), (Str.ofString "many")]
def d_is_size : FD := { ps := [(Str.ofString "thing")], ns := 1, body := [.ret (.cl (Str.ofString "is_between") [.slot 0, .con (.int 2), .gl (Str.ofString "MOST_SIZE")])] }
abbrev N_is_size : List Str := [(Str.ofString "thing")]
def d_is_rule : FD := { ps := [(Str.ofString "thing"), (Str.ofString "size"), (Str.ofString "states")], ns := 4, body := [.ret (.and_ [.cl (Str.ofString "is_tuple_of") [.slot 0, .slot 1], .bi .all [.lc (.cl (Str.ofString "is_step") [.slot 3, .slot 2]) (.nm 3) .val [.slot 0] [] [3]]])] }
abbrev N_is_rule : List Str := [(Str.ofString "thing"), (Str.ofString "size"), (Str.ofString "states"), (Str.ofString "step")]
def d__law_shared : FD := { ps := [(Str.ofString "_law_one_here"), (Str.ofString "_law_other")], ns := 4, body := [.asg 0 (.bi .abs [.slot 0]), .for_ (.nm 2) .range [.con (.int 4000)] [.ifS (.cmp .eq (.slot 1) (.con (.int 0))) [.ret (.slot 0)] [], .asg 3 (.bin .mod (.bi .int [.slot 0]) (.slot 1)), .asg 0 (.slot 1), .asg 1 (.slot 3)], .ret (.slot 0)] }
abbrev N__law_shared : List Str := [(Str.ofString "_law_one_here"), (Str.ofString "_law_other"), (Str.ofString "_law_turn"), (Str.ofString "_law_later")]
def d_is_between : FD := { ps := [(Str.ofString "thing"), (Str.ofString "least"), (Str.ofString "most")], ns := 3, body := [.ret (.and_ [.cl (Str.ofString "is_integer") [.slot 0], .chain .le .le (.slot 1) (.slot 0) (.slot 2)])] }
abbrev N_is_between : List Str := [(Str.ofString "thing"), (Str.ofString "least"), (Str.ofString "most")]
def d_is_step : FD := { ps := [(Str.ofString "thing"), (Str.ofString "states")], ns := 2, body := [.ret (.and_ [.cl (Str.ofString "is_tuple_of") [.slot 0, .con (.int 2)], .cl (Str.ofString "is_allowance") [.sub (.slot 0) (.con (.int 0))], .cl (Str.ofString "is_index") [.sub (.slot 0) (.con (.int 1)), .slot 1]])] }
abbrev N_is_step : List Str := [(Str.ofString "thing"), (Str.ofString "states")]
def d_is_integer : FD := { ps := [(Str.ofString "thing")], ns := 1, body := [.ret (.and_ [.isi (.slot 0) .int, .not_ (.isi (.slot 0) .bool)])] }
abbrev N_is_integer : List Str := [(Str.ofString "thing")]
def d_is_allowance : FD := { ps := [(Str.ofString "thing")], ns := 1, body := [.ret (.and_ [.cl (Str.ofString "is_fraction") [.slot 0], .cl (Str.ofString "is_between") [.sub (.slot 0) (.con (.int 0)), .neg (.gl (Str.ofString "MOST_TOP")), .gl (Str.ofString "MOST_TOP")], .cmp .le (.sub (.slot 0) (.con (.int 1))) (.gl (Str.ofString "MOST_BOTTOM"))])] }
abbrev N_is_allowance : List Str := [(Str.ofString "thing")]
def d_is_index : FD := { ps := [(Str.ofString "thing"), (Str.ofString "many")], ns := 2, body := [.ret (.cl (Str.ofString "is_between") [.slot 0, .con (.int 0), .bin .sub (.slot 1) (.con (.int 1))])] }
abbrev N_is_index : List Str := [(Str.ofString "thing"), (Str.ofString "many")]
def d_is_fraction : FD := { ps := [(Str.ofString "thing")], ns := 1, body := [.ifS (.or_ [.not_ (.cl (Str.ofString "is_tuple_of") [.slot 0, .con (.int 2)]), .not_ (.cl (Str.ofString "is_integer") [.sub (.slot 0) (.con (.int 0))]), .not_ (.cl (Str.ofString "is_integer") [.sub (.slot 0) (.con (.int 1))]), .cmp .lt (.sub (.slot 0) (.con (.int 1))) (.con (.int 1))]) [.ret (.con (.bl false))] [], .ret (.cmp .eq (.bi .gcd [.sub (.slot 0) (.con (.int 0)), .sub (.slot 0) (.con (.int 1))]) (.con (.int 1)))] }
abbrev N_is_fraction : List Str := [(Str.ofString "thing")]
def T : Tabs := { fs := [((Str.ofString "law"), d_law), ((Str.ofString "_law_well"), d__law_well), ((Str.ofString "_law_draw"), d__law_draw), ((Str.ofString "_law_one"), d__law_one), ((Str.ofString "_law_filled"), d__law_filled), ((Str.ofString "_law_machine"), d__law_machine), ((Str.ofString "_law_spoilt"), d__law_spoilt), ((Str.ofString "_law_nodes"), d__law_nodes), ((Str.ofString "_law_any"), d__law_any), ((Str.ofString "_law_told"), d__law_told), ((Str.ofString "_law_machine_fits"), d__law_machine_fits), ((Str.ofString "_law_machine_text"), d__law_machine_text), ((Str.ofString "read_machine"), d_read_machine), ((Str.ofString "_law_mixed"), d__law_mixed), ((Str.ofString "_law_allowance"), d__law_allowance), ((Str.ofString "_law_changed"), d__law_changed), ((Str.ofString "machine_text"), d_machine_text), ((Str.ofString "_law_long"), d__law_long), ((Str.ofString "_law_is_int"), d__law_is_int), ((Str.ofString "_law_step_fits"), d__law_step_fits), ((Str.ofString "number_of"), d_number_of), ((Str.ofString "read_step"), d_read_step), ((Str.ofString "is_machine"), d_is_machine), ((Str.ofString "_law_part"), d__law_part), ((Str.ofString "check_machine"), d_check_machine), ((Str.ofString "step_text"), d_step_text), ((Str.ofString "_law_fraction_fits"), d__law_fraction_fits), ((Str.ofString "parted"), d_parted), ((Str.ofString "signed"), d_signed), ((Str.ofString "is_tuple_of"), d_is_tuple_of), ((Str.ofString "is_size"), d_is_size), ((Str.ofString "is_rule"), d_is_rule), ((Str.ofString "_law_shared"), d__law_shared), ((Str.ofString "is_between"), d_is_between), ((Str.ofString "is_step"), d_is_step), ((Str.ofString "is_integer"), d_is_integer), ((Str.ofString "is_allowance"), d_is_allowance), ((Str.ofString "is_index"), d_is_index), ((Str.ofString "is_fraction"), d_is_fraction)], cs := [((Str.ofString "SIZE"), .int 0), ((Str.ofString "RULES"), .int 1), ((Str.ofString "MOST_DIGITS"), .int 7), ((Str.ofString "MOST_STATES"), .int 12), ((Str.ofString "MOST_SIZE"), .int 4), ((Str.ofString "MOST_TOP"), .int 1000000), ((Str.ofString "MOST_BOTTOM"), .int 1000)], subs := [(((Str.ofString "NoMachine"), (Str.ofString "NoMachine")), true), (((Str.ofString "NoMachine"), (Str.ofString "MissError")), true)], wf := 100, bl := [(Str.ofString "range"), (Str.ofString "int"), (Str.ofString "repr"), (Str.ofString "isinstance"), (Str.ofString "str"), (Str.ofString "len"), (Str.ofString "tuple"), (Str.ofString "sum"), (Str.ofString "all"), (Str.ofString "bool"), (Str.ofString "list"), (Str.ofString "abs")], gcd := true, exc := [(Str.ofString "NoMachine")], hdl := [(Str.ofString "NoMachine"), (Str.ofString "MissError")], rep := true }
abbrev P : Prog := T.prog
end K05

set_option Elab.async false
set_option linter.all false
set_option maxRecDepth 100000
set_option maxHeartbeats 4000000
/-! checks, printed by gen.py -/
namespace K05
open PySem MP L2
theorem ck_law : chkSs P ⟨N_law, defScope (sT 59), false, false⟩ d_law.body (defBody (sT 59)) = true := by decide +kernel
theorem sc_law : FnScope N_law d_law.ps (defScope (sT 59)) := ⟨by kernel_rfl, by kernel_rfl, by kernel_rfl, by decide +kernel, rfl, by decide +kernel, by decide +kernel⟩
theorem bd_law : ∀ (kV doc pm : Value) (an : Option Addr) (cdv ct : Value) (us : List Value), us.length = d_law.ps.length → bindArgs (PySem.W.fnOf (Str.ofString "law") (Str.ofString "law") (defArgs (sT 59)) (defBody (sT 59)) (defScope (sT 59)) .none kV doc pm an cdv ct) ⟨us, []⟩ = pure (d_law.ps.zip us) := fun _ _ _ _ _ _ us hl => match us, hl with | [_], _ => by kernel_rfl
theorem ck__law_well : chkSs P ⟨N__law_well, defScope (sT 35), false, false⟩ d__law_well.body (defBody (sT 35)) = true := by decide +kernel
theorem sc__law_well : FnScope N__law_well d__law_well.ps (defScope (sT 35)) := ⟨by kernel_rfl, by kernel_rfl, by kernel_rfl, by decide +kernel, rfl, by decide +kernel, by decide +kernel⟩
theorem bd__law_well : ∀ (kV doc pm : Value) (an : Option Addr) (cdv ct : Value) (us : List Value), us.length = d__law_well.ps.length → bindArgs (PySem.W.fnOf (Str.ofString "_law_well") (Str.ofString "_law_well") (defArgs (sT 35)) (defBody (sT 35)) (defScope (sT 35)) .none kV doc pm an cdv ct) ⟨us, []⟩ = pure (d__law_well.ps.zip us) := fun _ _ _ _ _ _ us hl => match us, hl with | [_], _ => by kernel_rfl
theorem ck__law_draw : chkSs P ⟨N__law_draw, defScope (sT 37), false, false⟩ d__law_draw.body (defBody (sT 37)) = true := by decide +kernel
theorem sc__law_draw : FnScope N__law_draw d__law_draw.ps (defScope (sT 37)) := ⟨by kernel_rfl, by kernel_rfl, by kernel_rfl, by decide +kernel, rfl, by decide +kernel, by decide +kernel⟩
theorem bd__law_draw : ∀ (kV doc pm : Value) (an : Option Addr) (cdv ct : Value) (us : List Value), us.length = d__law_draw.ps.length → bindArgs (PySem.W.fnOf (Str.ofString "_law_draw") (Str.ofString "_law_draw") (defArgs (sT 37)) (defBody (sT 37)) (defScope (sT 37)) .none kV doc pm an cdv ct) ⟨us, []⟩ = pure (d__law_draw.ps.zip us) := fun _ _ _ _ _ _ us hl => match us, hl with | [_, _], _ => by kernel_rfl
theorem ck__law_one : chkSs P ⟨N__law_one, defScope (sT 58), false, false⟩ d__law_one.body (defBody (sT 58)) = true := by decide +kernel
theorem sc__law_one : FnScope N__law_one d__law_one.ps (defScope (sT 58)) := ⟨by kernel_rfl, by kernel_rfl, by kernel_rfl, by decide +kernel, rfl, by decide +kernel, by decide +kernel⟩
theorem bd__law_one : ∀ (kV doc pm : Value) (an : Option Addr) (cdv ct : Value) (us : List Value), us.length = d__law_one.ps.length → bindArgs (PySem.W.fnOf (Str.ofString "_law_one") (Str.ofString "_law_one") (defArgs (sT 58)) (defBody (sT 58)) (defScope (sT 58)) .none kV doc pm an cdv ct) ⟨us, []⟩ = pure (d__law_one.ps.zip us) := fun _ _ _ _ _ _ us hl => match us, hl with | [_, _], _ => by kernel_rfl
theorem ck__law_filled : chkSs P ⟨N__law_filled, defScope (sT 36), false, false⟩ d__law_filled.body (defBody (sT 36)) = true := by decide +kernel
theorem sc__law_filled : FnScope N__law_filled d__law_filled.ps (defScope (sT 36)) := ⟨by kernel_rfl, by kernel_rfl, by kernel_rfl, by decide +kernel, rfl, by decide +kernel, by decide +kernel⟩
theorem bd__law_filled : ∀ (kV doc pm : Value) (an : Option Addr) (cdv ct : Value) (us : List Value), us.length = d__law_filled.ps.length → bindArgs (PySem.W.fnOf (Str.ofString "_law_filled") (Str.ofString "_law_filled") (defArgs (sT 36)) (defBody (sT 36)) (defScope (sT 36)) .none kV doc pm an cdv ct) ⟨us, []⟩ = pure (d__law_filled.ps.zip us) := fun _ _ _ _ _ _ us hl => match us, hl with | [_], _ => by kernel_rfl
theorem ck__law_machine : chkSs P ⟨N__law_machine, defScope (sT 47), false, false⟩ d__law_machine.body (defBody (sT 47)) = true := by decide +kernel
theorem sc__law_machine : FnScope N__law_machine d__law_machine.ps (defScope (sT 47)) := ⟨by kernel_rfl, by kernel_rfl, by kernel_rfl, by decide +kernel, rfl, by decide +kernel, by decide +kernel⟩
theorem bd__law_machine : ∀ (kV doc pm : Value) (an : Option Addr) (cdv ct : Value) (us : List Value), us.length = d__law_machine.ps.length → bindArgs (PySem.W.fnOf (Str.ofString "_law_machine") (Str.ofString "_law_machine") (defArgs (sT 47)) (defBody (sT 47)) (defScope (sT 47)) .none kV doc pm an cdv ct) ⟨us, []⟩ = pure (d__law_machine.ps.zip us) := fun _ _ _ _ _ _ us hl => match us, hl with | [_], _ => by kernel_rfl
theorem ck__law_spoilt : chkSs P ⟨N__law_spoilt, defScope (sT 41), false, false⟩ d__law_spoilt.body (defBody (sT 41)) = true := by decide +kernel
theorem sc__law_spoilt : FnScope N__law_spoilt d__law_spoilt.ps (defScope (sT 41)) := ⟨by kernel_rfl, by kernel_rfl, by kernel_rfl, by decide +kernel, rfl, by decide +kernel, by decide +kernel⟩
theorem bd__law_spoilt : ∀ (kV doc pm : Value) (an : Option Addr) (cdv ct : Value) (us : List Value), us.length = d__law_spoilt.ps.length → bindArgs (PySem.W.fnOf (Str.ofString "_law_spoilt") (Str.ofString "_law_spoilt") (defArgs (sT 41)) (defBody (sT 41)) (defScope (sT 41)) .none kV doc pm an cdv ct) ⟨us, []⟩ = pure (d__law_spoilt.ps.zip us) := fun _ _ _ _ _ _ us hl => match us, hl with | [_, _, _], _ => by kernel_rfl
theorem ck__law_nodes : chkSs P ⟨N__law_nodes, defScope (sT 39), false, false⟩ d__law_nodes.body (defBody (sT 39)) = true := by decide +kernel
theorem sc__law_nodes : FnScope N__law_nodes d__law_nodes.ps (defScope (sT 39)) := ⟨by kernel_rfl, by kernel_rfl, by kernel_rfl, by decide +kernel, rfl, by decide +kernel, by decide +kernel⟩
theorem bd__law_nodes : ∀ (kV doc pm : Value) (an : Option Addr) (cdv ct : Value) (us : List Value), us.length = d__law_nodes.ps.length → bindArgs (PySem.W.fnOf (Str.ofString "_law_nodes") (Str.ofString "_law_nodes") (defArgs (sT 39)) (defBody (sT 39)) (defScope (sT 39)) .none kV doc pm an cdv ct) ⟨us, []⟩ = pure (d__law_nodes.ps.zip us) := fun _ _ _ _ _ _ us hl => match us, hl with | [_], _ => by kernel_rfl
theorem ck__law_any : chkSs P ⟨N__law_any, defScope (sT 38), false, false⟩ d__law_any.body (defBody (sT 38)) = true := by decide +kernel
theorem sc__law_any : FnScope N__law_any d__law_any.ps (defScope (sT 38)) := ⟨by kernel_rfl, by kernel_rfl, by kernel_rfl, by decide +kernel, rfl, by decide +kernel, by decide +kernel⟩
theorem bd__law_any : ∀ (kV doc pm : Value) (an : Option Addr) (cdv ct : Value) (us : List Value), us.length = d__law_any.ps.length → bindArgs (PySem.W.fnOf (Str.ofString "_law_any") (Str.ofString "_law_any") (defArgs (sT 38)) (defBody (sT 38)) (defScope (sT 38)) .none kV doc pm an cdv ct) ⟨us, []⟩ = pure (d__law_any.ps.zip us) := fun _ _ _ _ _ _ us hl => match us, hl with | [_, _], _ => by kernel_rfl
theorem ck__law_told : chkSs P ⟨N__law_told, defScope (sT 57), false, false⟩ d__law_told.body (defBody (sT 57)) = true := by decide +kernel
theorem sc__law_told : FnScope N__law_told d__law_told.ps (defScope (sT 57)) := ⟨by kernel_rfl, by kernel_rfl, by kernel_rfl, by decide +kernel, rfl, by decide +kernel, by decide +kernel⟩
theorem bd__law_told : ∀ (kV doc pm : Value) (an : Option Addr) (cdv ct : Value) (us : List Value), us.length = d__law_told.ps.length → bindArgs (PySem.W.fnOf (Str.ofString "_law_told") (Str.ofString "_law_told") (defArgs (sT 57)) (defBody (sT 57)) (defScope (sT 57)) .none kV doc pm an cdv ct) ⟨us, []⟩ = pure (d__law_told.ps.zip us) := fun _ _ _ _ _ _ us hl => match us, hl with | [_], _ => by kernel_rfl
theorem ck__law_machine_fits : chkSs P ⟨N__law_machine_fits, defScope (sT 53), false, false⟩ d__law_machine_fits.body (defBody (sT 53)) = true := by decide +kernel
theorem sc__law_machine_fits : FnScope N__law_machine_fits d__law_machine_fits.ps (defScope (sT 53)) := ⟨by kernel_rfl, by kernel_rfl, by kernel_rfl, by decide +kernel, rfl, by decide +kernel, by decide +kernel⟩
theorem bd__law_machine_fits : ∀ (kV doc pm : Value) (an : Option Addr) (cdv ct : Value) (us : List Value), us.length = d__law_machine_fits.ps.length → bindArgs (PySem.W.fnOf (Str.ofString "_law_machine_fits") (Str.ofString "_law_machine_fits") (defArgs (sT 53)) (defBody (sT 53)) (defScope (sT 53)) .none kV doc pm an cdv ct) ⟨us, []⟩ = pure (d__law_machine_fits.ps.zip us) := fun _ _ _ _ _ _ us hl => match us, hl with | [_], _ => by kernel_rfl
theorem ck__law_machine_text : chkSs P ⟨N__law_machine_text, defScope (sT 56), false, false⟩ d__law_machine_text.body (defBody (sT 56)) = true := by decide +kernel
theorem sc__law_machine_text : FnScope N__law_machine_text d__law_machine_text.ps (defScope (sT 56)) := ⟨by kernel_rfl, by kernel_rfl, by kernel_rfl, by decide +kernel, rfl, by decide +kernel, by decide +kernel⟩
theorem bd__law_machine_text : ∀ (kV doc pm : Value) (an : Option Addr) (cdv ct : Value) (us : List Value), us.length = d__law_machine_text.ps.length → bindArgs (PySem.W.fnOf (Str.ofString "_law_machine_text") (Str.ofString "_law_machine_text") (defArgs (sT 56)) (defBody (sT 56)) (defScope (sT 56)) .none kV doc pm an cdv ct) ⟨us, []⟩ = pure (d__law_machine_text.ps.zip us) := fun _ _ _ _ _ _ us hl => match us, hl with | [_], _ => by kernel_rfl
theorem ck_read_machine : chkSs P ⟨N_read_machine, defScope (sT 32), false, false⟩ d_read_machine.body (defBody (sT 32)) = true := by decide +kernel
theorem sc_read_machine : FnScope N_read_machine d_read_machine.ps (defScope (sT 32)) := ⟨by kernel_rfl, by kernel_rfl, by kernel_rfl, by decide +kernel, rfl, by decide +kernel, by decide +kernel⟩
theorem bd_read_machine : ∀ (kV doc pm : Value) (an : Option Addr) (cdv ct : Value) (us : List Value), us.length = d_read_machine.ps.length → bindArgs (PySem.W.fnOf (Str.ofString "read_machine") (Str.ofString "read_machine") (defArgs (sT 32)) (defBody (sT 32)) (defScope (sT 32)) .none kV doc pm an cdv ct) ⟨us, []⟩ = pure (d_read_machine.ps.zip us) := fun _ _ _ _ _ _ us hl => match us, hl with | [_], _ => by kernel_rfl
theorem ck__law_mixed : chkSs P ⟨N__law_mixed, defScope (sT 34), false, false⟩ d__law_mixed.body (defBody (sT 34)) = true := by decide +kernel
theorem sc__law_mixed : FnScope N__law_mixed d__law_mixed.ps (defScope (sT 34)) := ⟨by kernel_rfl, by kernel_rfl, by kernel_rfl, by decide +kernel, rfl, by decide +kernel, by decide +kernel⟩
theorem bd__law_mixed : ∀ (kV doc pm : Value) (an : Option Addr) (cdv ct : Value) (us : List Value), us.length = d__law_mixed.ps.length → bindArgs (PySem.W.fnOf (Str.ofString "_law_mixed") (Str.ofString "_law_mixed") (defArgs (sT 34)) (defBody (sT 34)) (defScope (sT 34)) .none kV doc pm an cdv ct) ⟨us, []⟩ = pure (d__law_mixed.ps.zip us) := fun _ _ _ _ _ _ us hl => match us, hl with | [_], _ => by kernel_rfl
theorem ck__law_allowance : chkSs P ⟨N__law_allowance, defScope (sT 46), false, false⟩ d__law_allowance.body (defBody (sT 46)) = true := by decide +kernel
theorem sc__law_allowance : FnScope N__law_allowance d__law_allowance.ps (defScope (sT 46)) := ⟨by kernel_rfl, by kernel_rfl, by kernel_rfl, by decide +kernel, rfl, by decide +kernel, by decide +kernel⟩
theorem bd__law_allowance : ∀ (kV doc pm : Value) (an : Option Addr) (cdv ct : Value) (us : List Value), us.length = d__law_allowance.ps.length → bindArgs (PySem.W.fnOf (Str.ofString "_law_allowance") (Str.ofString "_law_allowance") (defArgs (sT 46)) (defBody (sT 46)) (defScope (sT 46)) .none kV doc pm an cdv ct) ⟨us, []⟩ = pure (d__law_allowance.ps.zip us) := fun _ _ _ _ _ _ us hl => match us, hl with | [_], _ => by kernel_rfl
theorem ck__law_changed : chkSs P ⟨N__law_changed, defScope (sT 40), false, false⟩ d__law_changed.body (defBody (sT 40)) = true := by decide +kernel
theorem sc__law_changed : FnScope N__law_changed d__law_changed.ps (defScope (sT 40)) := ⟨by kernel_rfl, by kernel_rfl, by kernel_rfl, by decide +kernel, rfl, by decide +kernel, by decide +kernel⟩
theorem bd__law_changed : ∀ (kV doc pm : Value) (an : Option Addr) (cdv ct : Value) (us : List Value), us.length = d__law_changed.ps.length → bindArgs (PySem.W.fnOf (Str.ofString "_law_changed") (Str.ofString "_law_changed") (defArgs (sT 40)) (defBody (sT 40)) (defScope (sT 40)) .none kV doc pm an cdv ct) ⟨us, []⟩ = pure (d__law_changed.ps.zip us) := fun _ _ _ _ _ _ us hl => match us, hl with | [_, _], _ => by kernel_rfl
theorem ck_machine_text : chkSs P ⟨N_machine_text, defScope (sT 27), false, false⟩ d_machine_text.body (defBody (sT 27)) = true := by decide +kernel
theorem sc_machine_text : FnScope N_machine_text d_machine_text.ps (defScope (sT 27)) := ⟨by kernel_rfl, by kernel_rfl, by kernel_rfl, by decide +kernel, rfl, by decide +kernel, by decide +kernel⟩
theorem bd_machine_text : ∀ (kV doc pm : Value) (an : Option Addr) (cdv ct : Value) (us : List Value), us.length = d_machine_text.ps.length → bindArgs (PySem.W.fnOf (Str.ofString "machine_text") (Str.ofString "machine_text") (defArgs (sT 27)) (defBody (sT 27)) (defScope (sT 27)) .none kV doc pm an cdv ct) ⟨us, []⟩ = pure (d_machine_text.ps.zip us) := fun _ _ _ _ _ _ us hl => match us, hl with | [_], _ => by kernel_rfl
theorem ck__law_long : chkSs P ⟨N__law_long, defScope (sT 50), false, false⟩ d__law_long.body (defBody (sT 50)) = true := by decide +kernel
theorem sc__law_long : FnScope N__law_long d__law_long.ps (defScope (sT 50)) := ⟨by kernel_rfl, by kernel_rfl, by kernel_rfl, by decide +kernel, rfl, by decide +kernel, by decide +kernel⟩
theorem bd__law_long : ∀ (kV doc pm : Value) (an : Option Addr) (cdv ct : Value) (us : List Value), us.length = d__law_long.ps.length → bindArgs (PySem.W.fnOf (Str.ofString "_law_long") (Str.ofString "_law_long") (defArgs (sT 50)) (defBody (sT 50)) (defScope (sT 50)) .none kV doc pm an cdv ct) ⟨us, []⟩ = pure (d__law_long.ps.zip us) := fun _ _ _ _ _ _ us hl => match us, hl with | [_, _], _ => by kernel_rfl
theorem ck__law_is_int : chkSs P ⟨N__law_is_int, defScope (sT 49), false, false⟩ d__law_is_int.body (defBody (sT 49)) = true := by decide +kernel
theorem sc__law_is_int : FnScope N__law_is_int d__law_is_int.ps (defScope (sT 49)) := ⟨by kernel_rfl, by kernel_rfl, by kernel_rfl, by decide +kernel, rfl, by decide +kernel, by decide +kernel⟩
theorem bd__law_is_int : ∀ (kV doc pm : Value) (an : Option Addr) (cdv ct : Value) (us : List Value), us.length = d__law_is_int.ps.length → bindArgs (PySem.W.fnOf (Str.ofString "_law_is_int") (Str.ofString "_law_is_int") (defArgs (sT 49)) (defBody (sT 49)) (defScope (sT 49)) .none kV doc pm an cdv ct) ⟨us, []⟩ = pure (d__law_is_int.ps.zip us) := fun _ _ _ _ _ _ us hl => match us, hl with | [_, _, _], _ => by kernel_rfl
theorem ck__law_step_fits : chkSs P ⟨N__law_step_fits, defScope (sT 52), false, false⟩ d__law_step_fits.body (defBody (sT 52)) = true := by decide +kernel
theorem sc__law_step_fits : FnScope N__law_step_fits d__law_step_fits.ps (defScope (sT 52)) := ⟨by kernel_rfl, by kernel_rfl, by kernel_rfl, by decide +kernel, rfl, by decide +kernel, by decide +kernel⟩
theorem bd__law_step_fits : ∀ (kV doc pm : Value) (an : Option Addr) (cdv ct : Value) (us : List Value), us.length = d__law_step_fits.ps.length → bindArgs (PySem.W.fnOf (Str.ofString "_law_step_fits") (Str.ofString "_law_step_fits") (defArgs (sT 52)) (defBody (sT 52)) (defScope (sT 52)) .none kV doc pm an cdv ct) ⟨us, []⟩ = pure (d__law_step_fits.ps.zip us) := fun _ _ _ _ _ _ us hl => match us, hl with | [_, _], _ => by kernel_rfl
theorem ck_number_of : chkSs P ⟨N_number_of, defScope (sT 28), false, false⟩ d_number_of.body (defBody (sT 28)) = true := by decide +kernel
theorem sc_number_of : FnScope N_number_of d_number_of.ps (defScope (sT 28)) := ⟨by kernel_rfl, by kernel_rfl, by kernel_rfl, by decide +kernel, rfl, by decide +kernel, by decide +kernel⟩
theorem bd_number_of : ∀ (kV doc pm : Value) (an : Option Addr) (cdv ct : Value) (us : List Value), us.length = d_number_of.ps.length → bindArgs (PySem.W.fnOf (Str.ofString "number_of") (Str.ofString "number_of") (defArgs (sT 28)) (defBody (sT 28)) (defScope (sT 28)) .none kV doc pm an cdv ct) ⟨us, []⟩ = pure (d_number_of.ps.zip us) := fun _ _ _ _ _ _ us hl => match us, hl with | [_], _ => by kernel_rfl
theorem ck_read_step : chkSs P ⟨N_read_step, defScope (sT 31), false, false⟩ d_read_step.body (defBody (sT 31)) = true := by decide +kernel
theorem sc_read_step : FnScope N_read_step d_read_step.ps (defScope (sT 31)) := ⟨by kernel_rfl, by kernel_rfl, by kernel_rfl, by decide +kernel, rfl, by decide +kernel, by decide +kernel⟩
theorem bd_read_step : ∀ (kV doc pm : Value) (an : Option Addr) (cdv ct : Value) (us : List Value), us.length = d_read_step.ps.length → bindArgs (PySem.W.fnOf (Str.ofString "read_step") (Str.ofString "read_step") (defArgs (sT 31)) (defBody (sT 31)) (defScope (sT 31)) .none kV doc pm an cdv ct) ⟨us, []⟩ = pure (d_read_step.ps.zip us) := fun _ _ _ _ _ _ us hl => match us, hl with | [_], _ => by kernel_rfl
theorem ck_is_machine : chkSs P ⟨N_is_machine, defScope (sT 22), false, false⟩ d_is_machine.body (defBody (sT 22)) = true := by decide +kernel
theorem sc_is_machine : FnScope N_is_machine d_is_machine.ps (defScope (sT 22)) := ⟨by kernel_rfl, by kernel_rfl, by kernel_rfl, by decide +kernel, rfl, by decide +kernel, by decide +kernel⟩
theorem bd_is_machine : ∀ (kV doc pm : Value) (an : Option Addr) (cdv ct : Value) (us : List Value), us.length = d_is_machine.ps.length → bindArgs (PySem.W.fnOf (Str.ofString "is_machine") (Str.ofString "is_machine") (defArgs (sT 22)) (defBody (sT 22)) (defScope (sT 22)) .none kV doc pm an cdv ct) ⟨us, []⟩ = pure (d_is_machine.ps.zip us) := fun _ _ _ _ _ _ us hl => match us, hl with | [_], _ => by kernel_rfl
theorem ck__law_part : chkSs P ⟨N__law_part, defScope (sT 43), false, false⟩ d__law_part.body (defBody (sT 43)) = true := by decide +kernel
theorem sc__law_part : FnScope N__law_part d__law_part.ps (defScope (sT 43)) := ⟨by kernel_rfl, by kernel_rfl, by kernel_rfl, by decide +kernel, rfl, by decide +kernel, by decide +kernel⟩
theorem bd__law_part : ∀ (kV doc pm : Value) (an : Option Addr) (cdv ct : Value) (us : List Value), us.length = d__law_part.ps.length → bindArgs (PySem.W.fnOf (Str.ofString "_law_part") (Str.ofString "_law_part") (defArgs (sT 43)) (defBody (sT 43)) (defScope (sT 43)) .none kV doc pm an cdv ct) ⟨us, []⟩ = pure (d__law_part.ps.zip us) := fun _ _ _ _ _ _ us hl => match us, hl with | [_, _], _ => by kernel_rfl
theorem ck_check_machine : chkSs P ⟨N_check_machine, defScope (sT 23), false, false⟩ d_check_machine.body (defBody (sT 23)) = true := by decide +kernel
theorem sc_check_machine : FnScope N_check_machine d_check_machine.ps (defScope (sT 23)) := ⟨by kernel_rfl, by kernel_rfl, by kernel_rfl, by decide +kernel, rfl, by decide +kernel, by decide +kernel⟩
theorem bd_check_machine : ∀ (kV doc pm : Value) (an : Option Addr) (cdv ct : Value) (us : List Value), us.length = d_check_machine.ps.length → bindArgs (PySem.W.fnOf (Str.ofString "check_machine") (Str.ofString "check_machine") (defArgs (sT 23)) (defBody (sT 23)) (defScope (sT 23)) .none kV doc pm an cdv ct) ⟨us, []⟩ = pure (d_check_machine.ps.zip us) := fun _ _ _ _ _ _ us hl => match us, hl with | [_], _ => by kernel_rfl
theorem ck_step_text : chkSs P ⟨N_step_text, defScope (sT 26), false, false⟩ d_step_text.body (defBody (sT 26)) = true := by decide +kernel
theorem sc_step_text : FnScope N_step_text d_step_text.ps (defScope (sT 26)) := ⟨by kernel_rfl, by kernel_rfl, by kernel_rfl, by decide +kernel, rfl, by decide +kernel, by decide +kernel⟩
theorem bd_step_text : ∀ (kV doc pm : Value) (an : Option Addr) (cdv ct : Value) (us : List Value), us.length = d_step_text.ps.length → bindArgs (PySem.W.fnOf (Str.ofString "step_text") (Str.ofString "step_text") (defArgs (sT 26)) (defBody (sT 26)) (defScope (sT 26)) .none kV doc pm an cdv ct) ⟨us, []⟩ = pure (d_step_text.ps.zip us) := fun _ _ _ _ _ _ us hl => match us, hl with | [_], _ => by kernel_rfl
theorem ck__law_fraction_fits : chkSs P ⟨N__law_fraction_fits, defScope (sT 51), false, false⟩ d__law_fraction_fits.body (defBody (sT 51)) = true := by decide +kernel
theorem sc__law_fraction_fits : FnScope N__law_fraction_fits d__law_fraction_fits.ps (defScope (sT 51)) := ⟨by kernel_rfl, by kernel_rfl, by kernel_rfl, by decide +kernel, rfl, by decide +kernel, by decide +kernel⟩
theorem bd__law_fraction_fits : ∀ (kV doc pm : Value) (an : Option Addr) (cdv ct : Value) (us : List Value), us.length = d__law_fraction_fits.ps.length → bindArgs (PySem.W.fnOf (Str.ofString "_law_fraction_fits") (Str.ofString "_law_fraction_fits") (defArgs (sT 51)) (defBody (sT 51)) (defScope (sT 51)) .none kV doc pm an cdv ct) ⟨us, []⟩ = pure (d__law_fraction_fits.ps.zip us) := fun _ _ _ _ _ _ us hl => match us, hl with | [_], _ => by kernel_rfl
theorem ck_parted : chkSs P ⟨N_parted, defScope (sT 30), false, false⟩ d_parted.body (defBody (sT 30)) = true := by decide +kernel
theorem sc_parted : FnScope N_parted d_parted.ps (defScope (sT 30)) := ⟨by kernel_rfl, by kernel_rfl, by kernel_rfl, by decide +kernel, rfl, by decide +kernel, by decide +kernel⟩
theorem bd_parted : ∀ (kV doc pm : Value) (an : Option Addr) (cdv ct : Value) (us : List Value), us.length = d_parted.ps.length → bindArgs (PySem.W.fnOf (Str.ofString "parted") (Str.ofString "parted") (defArgs (sT 30)) (defBody (sT 30)) (defScope (sT 30)) .none kV doc pm an cdv ct) ⟨us, []⟩ = pure (d_parted.ps.zip us) := fun _ _ _ _ _ _ us hl => match us, hl with | [_, _], _ => by kernel_rfl
theorem ck_signed : chkSs P ⟨N_signed, defScope (sT 29), false, false⟩ d_signed.body (defBody (sT 29)) = true := by decide +kernel
theorem sc_signed : FnScope N_signed d_signed.ps (defScope (sT 29)) := ⟨by kernel_rfl, by kernel_rfl, by kernel_rfl, by decide +kernel, rfl, by decide +kernel, by decide +kernel⟩
theorem bd_signed : ∀ (kV doc pm : Value) (an : Option Addr) (cdv ct : Value) (us : List Value), us.length = d_signed.ps.length → bindArgs (PySem.W.fnOf (Str.ofString "signed") (Str.ofString "signed") (defArgs (sT 29)) (defBody (sT 29)) (defScope (sT 29)) .none kV doc pm an cdv ct) ⟨us, []⟩ = pure (d_signed.ps.zip us) := fun _ _ _ _ _ _ us hl => match us, hl with | [_], _ => by kernel_rfl
theorem ck_is_tuple_of : chkSs P ⟨N_is_tuple_of, defScope (sT 8), false, false⟩ d_is_tuple_of.body (defBody (sT 8)) = true := by decide +kernel
theorem sc_is_tuple_of : FnScope N_is_tuple_of d_is_tuple_of.ps (defScope (sT 8)) := ⟨by kernel_rfl, by kernel_rfl, by kernel_rfl, by decide +kernel, rfl, by decide +kernel, by decide +kernel⟩
theorem bd_is_tuple_of : ∀ (kV doc pm : Value) (an : Option Addr) (cdv ct : Value) (us : List Value), us.length = d_is_tuple_of.ps.length → bindArgs (PySem.W.fnOf (Str.ofString "is_tuple_of") (Str.ofString "is_tuple_of") (defArgs (sT 8)) (defBody (sT 8)) (defScope (sT 8)) .none kV doc pm an cdv ct) ⟨us, []⟩ = pure (d_is_tuple_of.ps.zip us) := fun _ _ _ _ _ _ us hl => match us, hl with | [_, _], _ => by kernel_rfl
theorem ck_is_size : chkSs P ⟨N_is_size, defScope (sT 18), false, false⟩ d_is_size.body (defBody (sT 18)) = true := by decide +kernel
theorem sc_is_size : FnScope N_is_size d_is_size.ps (defScope (sT 18)) := ⟨by kernel_rfl, by kernel_rfl, by kernel_rfl, by decide +kernel, rfl, by decide +kernel, by decide +kernel⟩
theorem bd_is_size : ∀ (kV doc pm : Value) (an : Option Addr) (cdv ct : Value) (us : List Value), us.length = d_is_size.ps.length → bindArgs (PySem.W.fnOf (Str.ofString "is_size") (Str.ofString "is_size") (defArgs (sT 18)) (defBody (sT 18)) (defScope (sT 18)) .none kV doc pm an cdv ct) ⟨us, []⟩ = pure (d_is_size.ps.zip us) := fun _ _ _ _ _ _ us hl => match us, hl with | [_], _ => by kernel_rfl
theorem ck_is_rule : chkSs P ⟨N_is_rule, defScope (sT 21), false, false⟩ d_is_rule.body (defBody (sT 21)) = true := by decide +kernel
theorem sc_is_rule : FnScope N_is_rule d_is_rule.ps (defScope (sT 21)) := ⟨by kernel_rfl, by kernel_rfl, by kernel_rfl, by decide +kernel, rfl, by decide +kernel, by decide +kernel⟩
theorem bd_is_rule : ∀ (kV doc pm : Value) (an : Option Addr) (cdv ct : Value) (us : List Value), us.length = d_is_rule.ps.length → bindArgs (PySem.W.fnOf (Str.ofString "is_rule") (Str.ofString "is_rule") (defArgs (sT 21)) (defBody (sT 21)) (defScope (sT 21)) .none kV doc pm an cdv ct) ⟨us, []⟩ = pure (d_is_rule.ps.zip us) := fun _ _ _ _ _ _ us hl => match us, hl with | [_, _, _], _ => by kernel_rfl
theorem ck__law_shared : chkSs P ⟨N__law_shared, defScope (sT 42), false, false⟩ d__law_shared.body (defBody (sT 42)) = true := by decide +kernel
theorem sc__law_shared : FnScope N__law_shared d__law_shared.ps (defScope (sT 42)) := ⟨by kernel_rfl, by kernel_rfl, by kernel_rfl, by decide +kernel, rfl, by decide +kernel, by decide +kernel⟩
theorem bd__law_shared : ∀ (kV doc pm : Value) (an : Option Addr) (cdv ct : Value) (us : List Value), us.length = d__law_shared.ps.length → bindArgs (PySem.W.fnOf (Str.ofString "_law_shared") (Str.ofString "_law_shared") (defArgs (sT 42)) (defBody (sT 42)) (defScope (sT 42)) .none kV doc pm an cdv ct) ⟨us, []⟩ = pure (d__law_shared.ps.zip us) := fun _ _ _ _ _ _ us hl => match us, hl with | [_, _], _ => by kernel_rfl
theorem ck_is_between : chkSs P ⟨N_is_between, defScope (sT 6), false, false⟩ d_is_between.body (defBody (sT 6)) = true := by decide +kernel
theorem sc_is_between : FnScope N_is_between d_is_between.ps (defScope (sT 6)) := ⟨by kernel_rfl, by kernel_rfl, by kernel_rfl, by decide +kernel, rfl, by decide +kernel, by decide +kernel⟩
theorem bd_is_between : ∀ (kV doc pm : Value) (an : Option Addr) (cdv ct : Value) (us : List Value), us.length = d_is_between.ps.length → bindArgs (PySem.W.fnOf (Str.ofString "is_between") (Str.ofString "is_between") (defArgs (sT 6)) (defBody (sT 6)) (defScope (sT 6)) .none kV doc pm an cdv ct) ⟨us, []⟩ = pure (d_is_between.ps.zip us) := fun _ _ _ _ _ _ us hl => match us, hl with | [_, _, _], _ => by kernel_rfl
theorem ck_is_step : chkSs P ⟨N_is_step, defScope (sT 20), false, false⟩ d_is_step.body (defBody (sT 20)) = true := by decide +kernel
theorem sc_is_step : FnScope N_is_step d_is_step.ps (defScope (sT 20)) := ⟨by kernel_rfl, by kernel_rfl, by kernel_rfl, by decide +kernel, rfl, by decide +kernel, by decide +kernel⟩
theorem bd_is_step : ∀ (kV doc pm : Value) (an : Option Addr) (cdv ct : Value) (us : List Value), us.length = d_is_step.ps.length → bindArgs (PySem.W.fnOf (Str.ofString "is_step") (Str.ofString "is_step") (defArgs (sT 20)) (defBody (sT 20)) (defScope (sT 20)) .none kV doc pm an cdv ct) ⟨us, []⟩ = pure (d_is_step.ps.zip us) := fun _ _ _ _ _ _ us hl => match us, hl with | [_, _], _ => by kernel_rfl
theorem ck_is_integer : chkSs P ⟨N_is_integer, defScope (sT 5), false, false⟩ d_is_integer.body (defBody (sT 5)) = true := by decide +kernel
theorem sc_is_integer : FnScope N_is_integer d_is_integer.ps (defScope (sT 5)) := ⟨by kernel_rfl, by kernel_rfl, by kernel_rfl, by decide +kernel, rfl, by decide +kernel, by decide +kernel⟩
theorem bd_is_integer : ∀ (kV doc pm : Value) (an : Option Addr) (cdv ct : Value) (us : List Value), us.length = d_is_integer.ps.length → bindArgs (PySem.W.fnOf (Str.ofString "is_integer") (Str.ofString "is_integer") (defArgs (sT 5)) (defBody (sT 5)) (defScope (sT 5)) .none kV doc pm an cdv ct) ⟨us, []⟩ = pure (d_is_integer.ps.zip us) := fun _ _ _ _ _ _ us hl => match us, hl with | [_], _ => by kernel_rfl
theorem ck_is_allowance : chkSs P ⟨N_is_allowance, defScope (sT 19), false, false⟩ d_is_allowance.body (defBody (sT 19)) = true := by decide +kernel
theorem sc_is_allowance : FnScope N_is_allowance d_is_allowance.ps (defScope (sT 19)) := ⟨by kernel_rfl, by kernel_rfl, by kernel_rfl, by decide +kernel, rfl, by decide +kernel, by decide +kernel⟩
theorem bd_is_allowance : ∀ (kV doc pm : Value) (an : Option Addr) (cdv ct : Value) (us : List Value), us.length = d_is_allowance.ps.length → bindArgs (PySem.W.fnOf (Str.ofString "is_allowance") (Str.ofString "is_allowance") (defArgs (sT 19)) (defBody (sT 19)) (defScope (sT 19)) .none kV doc pm an cdv ct) ⟨us, []⟩ = pure (d_is_allowance.ps.zip us) := fun _ _ _ _ _ _ us hl => match us, hl with | [_], _ => by kernel_rfl
theorem ck_is_index : chkSs P ⟨N_is_index, defScope (sT 7), false, false⟩ d_is_index.body (defBody (sT 7)) = true := by decide +kernel
theorem sc_is_index : FnScope N_is_index d_is_index.ps (defScope (sT 7)) := ⟨by kernel_rfl, by kernel_rfl, by kernel_rfl, by decide +kernel, rfl, by decide +kernel, by decide +kernel⟩
theorem bd_is_index : ∀ (kV doc pm : Value) (an : Option Addr) (cdv ct : Value) (us : List Value), us.length = d_is_index.ps.length → bindArgs (PySem.W.fnOf (Str.ofString "is_index") (Str.ofString "is_index") (defArgs (sT 7)) (defBody (sT 7)) (defScope (sT 7)) .none kV doc pm an cdv ct) ⟨us, []⟩ = pure (d_is_index.ps.zip us) := fun _ _ _ _ _ _ us hl => match us, hl with | [_, _], _ => by kernel_rfl
theorem ck_is_fraction : chkSs P ⟨N_is_fraction, defScope (sT 10), false, false⟩ d_is_fraction.body (defBody (sT 10)) = true := by decide +kernel
theorem sc_is_fraction : FnScope N_is_fraction d_is_fraction.ps (defScope (sT 10)) := ⟨by kernel_rfl, by kernel_rfl, by kernel_rfl, by decide +kernel, rfl, by decide +kernel, by decide +kernel⟩
theorem bd_is_fraction : ∀ (kV doc pm : Value) (an : Option Addr) (cdv ct : Value) (us : List Value), us.length = d_is_fraction.ps.length → bindArgs (PySem.W.fnOf (Str.ofString "is_fraction") (Str.ofString "is_fraction") (defArgs (sT 10)) (defBody (sT 10)) (defScope (sT 10)) .none kV doc pm an cdv ct) ⟨us, []⟩ = pure (d_is_fraction.ps.zip us) := fun _ _ _ _ _ _ us hl => match us, hl with | [_], _ => by kernel_rfl
end K05

set_option Elab.async false
set_option linter.all false
set_option maxRecDepth 100000
set_option maxHeartbeats 4000000
set_option exponentiation.threshold 5000
/-! K05_p: the law, pure. -/
namespace K05
open PySem MP L2 PK
theorem law_gen {P : Prog} [Lw P] [Dr P] [Vs P] [Mw P] [Ck P] [Mm P] [Am P] [Fs P] [Jl P] [Jf P] [Jm P] [Nt P] [Rm P] [Mt P] [Lm P] [On5 P]
    (lh : Has P "law" 1 4 d_law.body) {k : Nat} {ns : List Int} {h : PH} {v : PV} (hl : ns.length ≤ 63) (sc : Script h v ns) : wp (callF P (k + 100) "law" [v]) h (fun r _ => r = .bl true) fun _ _ => False := by
  rw [wp_call lh rfl]
  unfold d_law
  simp [-List.append_assoc, -List.length_append, slot, Con.pv]
  refine well_wp (k := k + 98) hl sc fun w c h1 hw => ?_
  rw [s_for]
  simp [-List.append_assoc, -List.length_append, slot, Con.pv]
  have hn : (h1 ++ [PO.dK []])[h1.length]? = some (PO.dK []) := by simp
  refine draw_wp (k := k + 96) ((Gr.app (o := .dK [])).well hw) (by omega) (by omega) fun r h2 r0 r1 x2 => ?_
  have hd : h1.length ≠ w := by have := hw.lt; omega
  have hc : h1.length ≠ c := by have := hw.lt; omega
  have b0 : Bk h2 h1.length 0 := Bk.st (h := h1 ++ [.dK []]) ⟨[], hn, Nat.le_refl _, fun p hp => by cases hp⟩ hd x2.stw
  obtain ⟨N, hN⟩ : ∃ N : Nat, 1 + r = (N : Int) := ⟨(1 + r).toNat, by omega⟩
  have hsm : smallI (N : Nat) = true := by simp [smallI]; omega
  simp [-List.append_assoc, -List.length_append, hN, hsm]
  generalize h1.length = d at hd hc b0 hn ⊢
  refine wp_for_rng (fun i env h' => Well h' w c ∧ Bk h' d i ∧ ∃ e, env = [some v, some (.obj w), some (.obj d), e]) ?_ ?_ N 0 _ _ (by simp) ⟨x2.well, b0, none, rfl⟩
  · rintro i env h' hi ⟨X, bk, e, rfl⟩
    refine ⟨_, rfl, ?_⟩
    simp [-List.append_assoc, -List.length_append, slot, Con.pv]
    refine one_wp (k := k + 58) X hd hc bk (by omega) fun h3 w3 b3 => ?_
    simp [-List.append_assoc, -List.length_append, slot, Con.pv]
    exact ⟨w3, b3⟩
  · rintro env h' ⟨X, bk, e, rfl⟩
    simp [-List.append_assoc, -List.length_append, slot, Con.pv]
instance : PK.Lw P := ⟨⟨_, rfl, rfl, rfl, rfl⟩⟩
instance : PK.Dr P := ⟨⟨_, rfl, rfl, rfl, rfl⟩, ⟨_, rfl, rfl, rfl, rfl⟩, ⟨_, rfl, rfl, rfl, rfl⟩⟩
instance : PK.Fs P := ⟨⟨_, rfl, rfl, rfl, rfl⟩, ⟨_, rfl, rfl, rfl, rfl⟩⟩
instance : PK.Ck P := ⟨⟨_, rfl, rfl, rfl, rfl⟩, ⟨_, rfl, rfl, rfl, rfl⟩, ⟨_, rfl, rfl, rfl, rfl⟩, ⟨_, rfl, rfl, rfl, rfl⟩⟩
instance : PK.Mf P := ⟨⟨_, rfl, rfl, rfl, rfl⟩⟩
instance : PK.Mz P := ⟨⟨_, rfl, rfl, rfl, rfl⟩, rfl⟩
instance : PK.Mm P := ⟨⟨_, rfl, rfl, rfl, rfl⟩, ⟨_, rfl, rfl, rfl, rfl⟩, ⟨_, rfl, rfl, rfl, rfl⟩, ⟨_, rfl, rfl, rfl, rfl⟩, rfl, rfl, rfl, rfl, rfl⟩
instance : PK.Am P := ⟨⟨_, rfl, rfl, rfl, rfl⟩⟩
instance : PK.Vs P := ⟨⟨_, rfl, rfl, rfl, rfl⟩, ⟨_, rfl, rfl, rfl, rfl⟩, ⟨_, rfl, rfl, rfl, rfl⟩, ⟨_, rfl, rfl, rfl, rfl⟩⟩
instance : PK.Mw P := ⟨⟨_, rfl, rfl, rfl, rfl⟩, ⟨_, rfl, rfl, rfl, rfl⟩⟩
instance : PK.Jl P := ⟨⟨_, rfl, rfl, rfl, rfl⟩, ⟨_, rfl, rfl, rfl, rfl⟩⟩
instance : PK.Jf P := ⟨⟨_, rfl, rfl, rfl, rfl⟩⟩
instance : PK.Jm P := ⟨⟨_, rfl, rfl, rfl, rfl⟩, ⟨_, rfl, rfl, rfl, rfl⟩⟩
instance : PK.Nt P := ⟨rfl, ⟨_, rfl, rfl, rfl, rfl⟩, ⟨_, rfl, rfl, rfl, rfl⟩, ⟨_, rfl, rfl, rfl, rfl⟩, ⟨_, rfl, rfl, rfl, rfl⟩⟩
instance : PK.Rm P := ⟨⟨_, rfl, rfl, rfl, rfl⟩⟩
instance : PK.Mt P := ⟨⟨_, rfl, rfl, rfl, rfl⟩, ⟨_, rfl, rfl, rfl, rfl⟩⟩
instance : PK.Lm P := ⟨⟨_, rfl, rfl, rfl, rfl⟩⟩
instance : PK.On5 P := ⟨⟨_, rfl, rfl, rfl, rfl⟩, ⟨_, rfl, rfl, rfl, rfl⟩, rfl⟩
theorem law_has : Has P "law" 1 4 d_law.body := ⟨_, rfl, rfl, rfl, rfl⟩
theorem law_pure : ∀ (ns : List Int) (h : PH) (v : PV), ns.length ≤ 63 → Script h v ns → ∃ h', callF P 100 "law" [v] h = .ok (.bl true) h' := by
  intro ns h v hl sc
  have key := law_gen (P := P) (k := 0) law_has hl sc
  rw [Nat.zero_add] at key
  obtain ⟨a, h', e1, e2⟩ := wp_ok key
  exact ⟨h', by rw [e1, e2]⟩
end K05

open PySem PySem.W PyProof.Rows
set_option maxHeartbeats 0
theorem PySem.Challenge.cw_keptmisses_k05_machines_as_texts_holds : PySem.Challenge.rw_keptmisses_k05_machines_as_texts.Holds := by
  w_on; o_law; k_head; (case hw => w_witness2)
  k_fill
  refine MP.law_walk (l := PySem.Challenge.rw_keptmisses_k05_machines_as_texts) (P := K05.P) (k := 100) (x := "_law_script") (law := "law") (fd := K05.d_law) rfl rfl ⟨rfl, by decide, by decide⟩ (fun w h Y => PySem.W.kIn_of Y) ?nm (by kernel_rfl) rfl ?S rfl ?hi ?no ?hp
  case hi => exact fun _ => by kernel_rfl
  case nm => kernel_rfl
  case hp => exact K05.law_pure
  case no =>
    intro w mg h KX G
    intro x hx
    rcases List.mem_cons.1 hx with e | hx
    · subst e; exact PySem.W.mg_none_of KX G (by k_is)
    rcases List.mem_cons.1 hx with e | hx
    · subst e; exact PySem.W.mg_none_of KX G (by k_is)
    cases hx
  case S =>
    intro w mg h KX G
    refine MP.stat_mk (T := K05.T) ?cs ?bl ?gcd ?exc ?hdl ?subs ?fs rfl ?no
    case no =>
      intro x hx
      rcases List.mem_cons.1 hx with e | hx
      · subst e; exact PySem.W.mg_none_of KX G (by k_is)
      rcases List.mem_cons.1 hx with e | hx
      · subst e; exact PySem.W.mg_none_of KX G (by k_is)
      cases hx
    case cs =>
      refine .cons (MP.kv_int KX G (by k_is)) ?_
      refine .cons (MP.kv_int KX G (by k_is)) ?_
      refine .cons (MP.kv_int KX G (by k_is)) ?_
      refine .cons (MP.kv_int KX G (by k_is)) ?_
      refine .cons (MP.kv_int KX G (by k_is)) ?_
      refine .cons (MP.kv_int KX G (by k_is)) ?_
      refine .cons (MP.kv_int KX G (by k_is)) ?_
      exact .nil
    case bl =>
      refine .cons (PySem.W.mg_none_of KX G (by k_is)) ?_
      refine .cons (PySem.W.mg_none_of KX G (by k_is)) ?_
      refine .cons (PySem.W.mg_none_of KX G (by k_is)) ?_
      refine .cons (PySem.W.mg_none_of KX G (by k_is)) ?_
      refine .cons (PySem.W.mg_none_of KX G (by k_is)) ?_
      refine .cons (PySem.W.mg_none_of KX G (by k_is)) ?_
      refine .cons (PySem.W.mg_none_of KX G (by k_is)) ?_
      refine .cons (PySem.W.mg_none_of KX G (by k_is)) ?_
      refine .cons (PySem.W.mg_none_of KX G (by k_is)) ?_
      refine .cons (PySem.W.mg_none_of KX G (by k_is)) ?_
      refine .cons (PySem.W.mg_none_of KX G (by k_is)) ?_
      refine .cons (PySem.W.mg_none_of KX G (by k_is)) ?_
      exact .nil
    case gcd => exact fun _ => PySem.W.mg_of KX G (by k_is)
    case exc =>
      refine .cons (MP.exc_mk KX G (by k_is) (by k_is) (by k_exc) (by k_is) (by k_is)) ?_
      exact .nil
    case hdl =>
      refine .cons (MP.hdl_mk KX G (by k_is)) ?_
      refine .cons (MP.hdl_mk KX G (by k_is)) ?_
      exact .nil
    case subs =>
      refine .cons (MP.sub_mk KX G (by k_is) (by k_is) (by k_is) (by k_is) (by k_is) (by k_is)) ?_
      refine .cons (MP.sub_mk KX G (by k_is) (by k_is) (by k_is) (by k_is) (by k_is) (by k_is)) ?_
      exact .nil
    case fs =>
      refine .cons (MP.funOk_mk (st := K05.sT 59) KX G (by k_is) (by k_is) (by k_is) (by k_is) K05.bd_law K05.sc_law rfl K05.ck_law) ?_
      refine .cons (MP.funOk_mk (st := K05.sT 35) KX G (by k_is) (by k_is) (by k_is) (by k_is) K05.bd__law_well K05.sc__law_well rfl K05.ck__law_well) ?_
      refine .cons (MP.funOk_mk (st := K05.sT 37) KX G (by k_is) (by k_is) (by k_is) (by k_is) K05.bd__law_draw K05.sc__law_draw rfl K05.ck__law_draw) ?_
      refine .cons (MP.funOk_mk (st := K05.sT 58) KX G (by k_is) (by k_is) (by k_is) (by k_is) K05.bd__law_one K05.sc__law_one rfl K05.ck__law_one) ?_
      refine .cons (MP.funOk_mk (st := K05.sT 36) KX G (by k_is) (by k_is) (by k_is) (by k_is) K05.bd__law_filled K05.sc__law_filled rfl K05.ck__law_filled) ?_
      refine .cons (MP.funOk_mk (st := K05.sT 47) KX G (by k_is) (by k_is) (by k_is) (by k_is) K05.bd__law_machine K05.sc__law_machine rfl K05.ck__law_machine) ?_
      refine .cons (MP.funOk_mk (st := K05.sT 41) KX G (by k_is) (by k_is) (by k_is) (by k_is) K05.bd__law_spoilt K05.sc__law_spoilt rfl K05.ck__law_spoilt) ?_
      refine .cons (MP.funOk_mk (st := K05.sT 39) KX G (by k_is) (by k_is) (by k_is) (by k_is) K05.bd__law_nodes K05.sc__law_nodes rfl K05.ck__law_nodes) ?_
      refine .cons (MP.funOk_mk (st := K05.sT 38) KX G (by k_is) (by k_is) (by k_is) (by k_is) K05.bd__law_any K05.sc__law_any rfl K05.ck__law_any) ?_
      refine .cons (MP.funOk_mk (st := K05.sT 57) KX G (by k_is) (by k_is) (by k_is) (by k_is) K05.bd__law_told K05.sc__law_told rfl K05.ck__law_told) ?_
      refine .cons (MP.funOk_mk (st := K05.sT 53) KX G (by k_is) (by k_is) (by k_is) (by k_is) K05.bd__law_machine_fits K05.sc__law_machine_fits rfl K05.ck__law_machine_fits) ?_
      refine .cons (MP.funOk_mk (st := K05.sT 56) KX G (by k_is) (by k_is) (by k_is) (by k_is) K05.bd__law_machine_text K05.sc__law_machine_text rfl K05.ck__law_machine_text) ?_
      refine .cons (MP.funOk_mk (st := K05.sT 32) KX G (by k_is) (by k_is) (by k_is) (by k_is) K05.bd_read_machine K05.sc_read_machine rfl K05.ck_read_machine) ?_
      refine .cons (MP.funOk_mk (st := K05.sT 34) KX G (by k_is) (by k_is) (by k_is) (by k_is) K05.bd__law_mixed K05.sc__law_mixed rfl K05.ck__law_mixed) ?_
      refine .cons (MP.funOk_mk (st := K05.sT 46) KX G (by k_is) (by k_is) (by k_is) (by k_is) K05.bd__law_allowance K05.sc__law_allowance rfl K05.ck__law_allowance) ?_
      refine .cons (MP.funOk_mk (st := K05.sT 40) KX G (by k_is) (by k_is) (by k_is) (by k_is) K05.bd__law_changed K05.sc__law_changed rfl K05.ck__law_changed) ?_
      refine .cons (MP.funOk_mk (st := K05.sT 27) KX G (by k_is) (by k_is) (by k_is) (by k_is) K05.bd_machine_text K05.sc_machine_text rfl K05.ck_machine_text) ?_
      refine .cons (MP.funOk_mk (st := K05.sT 50) KX G (by k_is) (by k_is) (by k_is) (by k_is) K05.bd__law_long K05.sc__law_long rfl K05.ck__law_long) ?_
      refine .cons (MP.funOk_mk (st := K05.sT 49) KX G (by k_is) (by k_is) (by k_is) (by k_is) K05.bd__law_is_int K05.sc__law_is_int rfl K05.ck__law_is_int) ?_
      refine .cons (MP.funOk_mk (st := K05.sT 52) KX G (by k_is) (by k_is) (by k_is) (by k_is) K05.bd__law_step_fits K05.sc__law_step_fits rfl K05.ck__law_step_fits) ?_
      refine .cons (MP.funOk_mk (st := K05.sT 28) KX G (by k_is) (by k_is) (by k_is) (by k_is) K05.bd_number_of K05.sc_number_of rfl K05.ck_number_of) ?_
      refine .cons (MP.funOk_mk (st := K05.sT 31) KX G (by k_is) (by k_is) (by k_is) (by k_is) K05.bd_read_step K05.sc_read_step rfl K05.ck_read_step) ?_
      refine .cons (MP.funOk_mk (st := K05.sT 22) KX G (by k_is) (by k_is) (by k_is) (by k_is) K05.bd_is_machine K05.sc_is_machine rfl K05.ck_is_machine) ?_
      refine .cons (MP.funOk_mk (st := K05.sT 43) KX G (by k_is) (by k_is) (by k_is) (by k_is) K05.bd__law_part K05.sc__law_part rfl K05.ck__law_part) ?_
      refine .cons (MP.funOk_mk (st := K05.sT 23) KX G (by k_is) (by k_is) (by k_is) (by k_is) K05.bd_check_machine K05.sc_check_machine rfl K05.ck_check_machine) ?_
      refine .cons (MP.funOk_mk (st := K05.sT 26) KX G (by k_is) (by k_is) (by k_is) (by k_is) K05.bd_step_text K05.sc_step_text rfl K05.ck_step_text) ?_
      refine .cons (MP.funOk_mk (st := K05.sT 51) KX G (by k_is) (by k_is) (by k_is) (by k_is) K05.bd__law_fraction_fits K05.sc__law_fraction_fits rfl K05.ck__law_fraction_fits) ?_
      refine .cons (MP.funOk_mk (st := K05.sT 30) KX G (by k_is) (by k_is) (by k_is) (by k_is) K05.bd_parted K05.sc_parted rfl K05.ck_parted) ?_
      refine .cons (MP.funOk_mk (st := K05.sT 29) KX G (by k_is) (by k_is) (by k_is) (by k_is) K05.bd_signed K05.sc_signed rfl K05.ck_signed) ?_
      refine .cons (MP.funOk_mk (st := K05.sT 8) KX G (by k_is) (by k_is) (by k_is) (by k_is) K05.bd_is_tuple_of K05.sc_is_tuple_of rfl K05.ck_is_tuple_of) ?_
      refine .cons (MP.funOk_mk (st := K05.sT 18) KX G (by k_is) (by k_is) (by k_is) (by k_is) K05.bd_is_size K05.sc_is_size rfl K05.ck_is_size) ?_
      refine .cons (MP.funOk_mk (st := K05.sT 21) KX G (by k_is) (by k_is) (by k_is) (by k_is) K05.bd_is_rule K05.sc_is_rule rfl K05.ck_is_rule) ?_
      refine .cons (MP.funOk_mk (st := K05.sT 42) KX G (by k_is) (by k_is) (by k_is) (by k_is) K05.bd__law_shared K05.sc__law_shared rfl K05.ck__law_shared) ?_
      refine .cons (MP.funOk_mk (st := K05.sT 6) KX G (by k_is) (by k_is) (by k_is) (by k_is) K05.bd_is_between K05.sc_is_between rfl K05.ck_is_between) ?_
      refine .cons (MP.funOk_mk (st := K05.sT 20) KX G (by k_is) (by k_is) (by k_is) (by k_is) K05.bd_is_step K05.sc_is_step rfl K05.ck_is_step) ?_
      refine .cons (MP.funOk_mk (st := K05.sT 5) KX G (by k_is) (by k_is) (by k_is) (by k_is) K05.bd_is_integer K05.sc_is_integer rfl K05.ck_is_integer) ?_
      refine .cons (MP.funOk_mk (st := K05.sT 19) KX G (by k_is) (by k_is) (by k_is) (by k_is) K05.bd_is_allowance K05.sc_is_allowance rfl K05.ck_is_allowance) ?_
      refine .cons (MP.funOk_mk (st := K05.sT 7) KX G (by k_is) (by k_is) (by k_is) (by k_is) K05.bd_is_index K05.sc_is_index rfl K05.ck_is_index) ?_
      refine .cons (MP.funOk_mk (st := K05.sT 10) KX G (by k_is) (by k_is) (by k_is) (by k_is) K05.bd_is_fraction K05.sc_is_fraction rfl K05.ck_is_fraction) ?_
      exact .nil
