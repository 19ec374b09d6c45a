import PyProof.Rows.All
import Wide.All
import OpenK.AllK
import Wide.FinOn
import HandS.ForMost
import HandS.ForExc
import HandS.Zip
import HandS.Wide
import HandS.WideBits
import HandS.IsInst
import HandS.SortInts
import HandS.SortKw
import HandS.Style
import HandS.ExcInit
import HandS.ExcCtx
import PyProof.ReprRoads
import PyProof.ReprLen
import HandS.EndBits
import HandS.HotCalls
import HandS.ExcIs
import PySem.Challenge.RW_spillmirror_k29_fives_refused
set_option Elab.async false
set_option linter.all false
set_option maxRecDepth 100000
/-! A functional layer over HandS: each expression computes a tree (PyData); the slots are trees, with who owns the list in them. -/
namespace FS
open PySem PySem.Spec PyProof.Rows L2
abbrev St := L2.St

/-- who owns what a slot holds: shared; an own list of this call; a list handed in by one who owns it; an exception of a class -/
inductive Own where
  | sh | top | par (k : Nat) | ex (x : Str)
  deriving DecidableEq
def Own.own : Own → Bool
  | .top => true
  | .par _ => true
  | _ => false

def Own.isPar : Own → Bool
  | .par _ => true
  | _ => false

def kD : Key → PyData
  | .inl i => .int i
  | .inr x => .str x

/-- the script: read alone, never a list of ours (by a key that no dict has) -/
def scrD (ns : List Int) : PyData := .dict [(.none, .list (ns.map PyData.int))]
/-! ### trees in the heap -/
mutual
inductive Sh (K : PySem.W.Frag) (H : Hp) : V → PyData → Prop
  | non : Sh K H .non .none
  | bl (b : Bool) : Sh K H (.bl b) (.bool b)
  | int (i : Int) : Sh K H (.int i) (.int i)
  | str (x : Str) : Sh K H (.str x) (.str x)
  | lst {a : Addr} {xs : List V} {ds : List PyData} : H a = some (.lst xs) → ShAll K H xs ds → Sh K H (.ref a) (.list ds)
  | tup {a : Addr} {xs : List V} {ds : List PyData} : H a = some (.tup xs) → ShAll K H xs ds → Sh K H (.ref a) (.tuple ds)
  | dic {a : Addr} {kv : List (Key × V)} {ds : List (PyData × PyData)} : H a = some (.dK kv) → ShKv K H kv ds → Sh K H (.ref a) (.dict ds)
  | scr {a : Addr} {ns : List Int} : SqL K H a (ns.map V.int) → Sh K H (.ref a) (scrD ns)
inductive ShAll (K : PySem.W.Frag) (H : Hp) : List V → List PyData → Prop
  | nil : ShAll K H [] []
  | cons {v : V} {vs : List V} {d : PyData} {ds : List PyData} : Sh K H v d → ShAll K H vs ds → ShAll K H (v :: vs) (d :: ds)
inductive ShKv (K : PySem.W.Frag) (H : Hp) : List (Key × V) → List (PyData × PyData) → Prop
  | nil : ShKv K H [] []
  | cons {k : Key} {v : V} {kv : List (Key × V)} {d : PyData} {ds : List (PyData × PyData)} : Sh K H v d → ShKv K H kv ds → ShKv K H ((k, v) :: kv) ((kD k, d) :: ds)
end

theorem Same.seqT {K : PySem.W.Frag} {H H' : Hp} {a : Addr} {xs : List V} (e : Same H H') (h : SqT K H a xs) : SqT K H' a xs := by
  rcases h with (h | ⟨o, h⟩) | h
  · exact .inl (.inl (e _ _ h))
  · exact .inl (.inr ⟨o, e _ _ h⟩)
  · exact .inr h

mutual
theorem Sh.mono {K : PySem.W.Frag} {H H' : Hp} (e : Same H H') : ∀ {v : V} {d : PyData}, Sh K H v d → Sh K H' v d
  | _, _, .non => .non
  | _, _, .bl b => .bl b
  | _, _, .int i => .int i
  | _, _, .str x => .str x
  | _, _, .lst h r => .lst (e _ _ h) (ShAll.mono e r)
  | _, _, .tup h r => .tup (e _ _ h) (ShAll.mono e r)
  | _, _, .dic h r => .dic (e _ _ h) (ShKv.mono e r)
  | _, _, .scr h => .scr (e.seq h)
theorem ShAll.mono {K : PySem.W.Frag} {H H' : Hp} (e : Same H H') : ∀ {vs : List V} {ds : List PyData}, ShAll K H vs ds → ShAll K H' vs ds
  | _, _, .nil => .nil
  | _, _, .cons h r => .cons (Sh.mono e h) (ShAll.mono e r)
theorem ShKv.mono {K : PySem.W.Frag} {H H' : Hp} (e : Same H H') : ∀ {kv : List (Key × V)} {ds : List (PyData × PyData)}, ShKv K H kv ds → ShKv K H' kv ds
  | _, _, .nil => .nil
  | _, _, .cons h r => .cons (Sh.mono e h) (ShKv.mono e r)
end

theorem ShAll.length {K : PySem.W.Frag} {H : Hp} : ∀ {vs : List V} {ds : List PyData}, ShAll K H vs ds → vs.length = ds.length
  | _, _, .nil => rfl
  | _, _, .cons _ r => by rw [List.length_cons, List.length_cons, ShAll.length r]
theorem ShAll.append {K : PySem.W.Frag} {H : Hp} : ∀ {vs ws : List V} {ds es : List PyData}, ShAll K H vs ds → ShAll K H ws es → ShAll K H (vs ++ ws) (ds ++ es)
  | _, _, _, _, .nil, s => s
  | _, _, _, _, .cons h r, s => .cons h (ShAll.append r s)
theorem ShAll.get {K : PySem.W.Frag} {H : Hp} : ∀ {vs : List V} {ds : List PyData} {i : Nat} {d : PyData}, ShAll K H vs ds → ds[i]? = some d → ∃ v, vs[i]? = some v ∧ Sh K H v d
  | _, _, _, _, .nil, e => by simp at e
  | _, _, 0, _, .cons h _, e => by
    have e' : _ = _ := Option.some.inj e
    subst e'
    exact ⟨_, rfl, h⟩
  | _, _, i + 1, d, .cons _ r, e => by
    obtain ⟨v, h1, h2⟩ := ShAll.get (i := i) (d := d) r (by simpa using e)
    exact ⟨v, by simpa using h1, h2⟩
theorem ShAll.at {K : PySem.W.Frag} {H : Hp} : ∀ {vs : List V} {ds : List PyData} {i : Nat} {v : V}, ShAll K H vs ds → vs[i]? = some v → ∃ d, ds[i]? = some d ∧ Sh K H v d
  | _, _, _, _, .nil, e => by simp at e
  | _, _, 0, _, .cons h _, e => by
    have e' : _ = _ := Option.some.inj e
    subst e'
    exact ⟨_, rfl, h⟩
  | _, _, i + 1, v, .cons _ r, e => by
    obtain ⟨d, h1, h2⟩ := ShAll.at (i := i) (v := v) r (by simpa using e)
    exact ⟨d, by simpa using h1, h2⟩
theorem ShAll.set {K : PySem.W.Frag} {H : Hp} {v : V} {d : PyData} (h : Sh K H v d) : ∀ {vs : List V} {ds : List PyData} (i : Nat), ShAll K H vs ds → ShAll K H (vs.set i v) (ds.set i d)
  | _, _, _, .nil => .nil
  | _, _, 0, .cons _ r => .cons h r
  | _, _, i + 1, .cons q r => .cons q (ShAll.set h i r)
theorem ShAll.take {K : PySem.W.Frag} {H : Hp} : ∀ {vs : List V} {ds : List PyData} (n : Nat), ShAll K H vs ds → ShAll K H (vs.take n) (ds.take n)
  | _, _, 0, _ => .nil
  | _, _, _ + 1, .nil => .nil
  | _, _, n + 1, .cons h r => .cons h (ShAll.take n r)
theorem ShAll.drop {K : PySem.W.Frag} {H : Hp} : ∀ {vs : List V} {ds : List PyData} (n : Nat), ShAll K H vs ds → ShAll K H (vs.drop n) (ds.drop n)
  | _, _, 0, r => r
  | _, _, _ + 1, .nil => .nil
  | _, _, n + 1, .cons _ r => ShAll.drop n r
theorem ShAll.reverse {K : PySem.W.Frag} {H : Hp} : ∀ {vs : List V} {ds : List PyData}, ShAll K H vs ds → ShAll K H vs.reverse ds.reverse
  | _, _, .nil => .nil
  | _, _, .cons h r => by
    rw [List.reverse_cons, List.reverse_cons]
    exact (ShAll.reverse r).append (.cons h .nil)
theorem ShAll.rep {K : PySem.W.Frag} {H : Hp} {vs : List V} {ds : List PyData} (h : ShAll K H vs ds) : ∀ k : Nat, ShAll K H (List.replicate k vs).flatten (List.replicate k ds).flatten
  | 0 => .nil
  | k + 1 => by
    rw [List.replicate_succ, List.replicate_succ, List.flatten_cons, List.flatten_cons]
    exact h.append (ShAll.rep h k)
theorem shAll_ints {K : PySem.W.Frag} {H : Hp} : ∀ {vs : List V} {ns : List Int}, ShAll K H vs (ns.map PyData.int) → vs = ns.map V.int
  | _, [], h => by cases h; rfl
  | _, n :: ns, h => by
    cases h with
    | cons h1 h2 =>
      cases h1
      rw [shAll_ints h2]
      rfl
theorem shAll_of_ints {K : PySem.W.Frag} {H : Hp} : ∀ (ns : List Int), ShAll K H (ns.map V.int) (ns.map PyData.int)
  | [] => .nil
  | n :: ns => .cons (.int n) (shAll_of_ints ns)
theorem shAll_bools {K : PySem.W.Frag} {H : Hp} : ∀ {vs : List V} {ns : List Bool}, ShAll K H vs (ns.map PyData.bool) → vs = ns.map V.bl
  | _, [], h => by cases h; rfl
  | _, n :: ns, h => by
    cases h with
    | cons h1 h2 =>
      cases h1
      rw [shAll_bools h2]
      rfl
theorem shAll_strs {K : PySem.W.Frag} {H : Hp} : ∀ {vs : List V} {ns : List Str}, ShAll K H vs (ns.map PyData.str) → vs = ns.map V.str
  | _, [], h => by cases h; rfl
  | _, n :: ns, h => by
    cases h with
    | cons h1 h2 =>
      cases h1
      rw [shAll_strs h2]
      rfl

/-- shallowly: what stands at the top may be in H alone, what is within stands in the frozen part Hf -/
inductive Sv (K : PySem.W.Frag) (Hf H : Hp) : V → PyData → Prop
  | non : Sv K Hf H .non .none
  | bl (b : Bool) : Sv K Hf H (.bl b) (.bool b)
  | int (i : Int) : Sv K Hf H (.int i) (.int i)
  | str (x : Str) : Sv K Hf H (.str x) (.str x)
  | lst {a : Addr} {xs : List V} {ds : List PyData} : H a = some (.lst xs) → ShAll K Hf xs ds → Sv K Hf H (.ref a) (.list ds)
  | tup {a : Addr} {xs : List V} {ds : List PyData} : H a = some (.tup xs) → ShAll K Hf xs ds → Sv K Hf H (.ref a) (.tuple ds)
  | dic {a : Addr} {kv : List (Key × V)} {ds : List (PyData × PyData)} : H a = some (.dK kv) → ShKv K Hf kv ds → Sv K Hf H (.ref a) (.dict ds)
  | scr {a : Addr} {ns : List Int} : SqL K H a (ns.map V.int) → Sv K Hf H (.ref a) (scrD ns)
theorem Sh.sv {K : PySem.W.Frag} {Hf H : Hp} (e : Same Hf H) {v : V} {d : PyData} (h : Sh K Hf v d) : Sv K Hf H v d := by
  cases h with
  | non => exact .non
  | bl b => exact .bl b
  | int i => exact .int i
  | str x => exact .str x
  | lst h r => exact .lst (e _ _ h) r
  | tup h r => exact .tup (e _ _ h) r
  | dic h r => exact .dic (e _ _ h) r
  | scr h => exact .scr (e.seq h)
theorem Sv.sh {K : PySem.W.Frag} {Hf H : Hp} (e : Same Hf H) {v : V} {d : PyData} (h : Sv K Hf H v d) : Sh K H v d := by
  cases h with
  | non => exact .non
  | bl b => exact .bl b
  | int i => exact .int i
  | str x => exact .str x
  | lst h r => exact .lst h (r.mono e)
  | tup h r => exact .tup h (r.mono e)
  | dic h r => exact .dic h (r.mono e)
  | scr h => exact .scr h
inductive Svs (K : PySem.W.Frag) (Hf H : Hp) : List V → List PyData → Prop
  | nil : Svs K Hf H [] []
  | cons {v : V} {vs : List V} {d : PyData} {ds : List PyData} : Sv K Hf H v d → Svs K Hf H vs ds → Svs K Hf H (v :: vs) (d :: ds)

/-! ### the state of a call -/
/-- at the entry: the module's part and names, the heap, its frozen part, the lists handed in by one who owns them -/
structure Md where
  K : PySem.W.Frag
  mg : Str → Option Value
  /-- the exception that is handled, and its class's name -/
  hx : Option (Addr × Str)
structure Ent where
  M : Md
  H0 : Hp
  F0 : Hp
  OP : List Addr
abbrev Ent.K (B : Ent) : PySem.W.Frag := B.M.K
abbrev Ent.mg (B : Ent) : Str → Option Value := B.M.mg
abbrev Fe := List (Option (Own × PyData))
def Cont (K : PySem.W.Frag) (Hf H : Hp) (a : Addr) : PyData → Prop
  | .list ds => ∃ xs, H a = some (.lst xs) ∧ ShAll K Hf xs ds
  | .dict kvs => ∃ kv, H a = some (.dK kv) ∧ ShKv K Hf kv kvs
  | _ => False
/-- an exception object that is held as a value -/
def ExV (mg : Str → Option Value) (Hf : Hp) (x : Str) (v : V) : Prop :=
  ∃ a C, v = .ref a ∧ mg x = some (.ref C) ∧ ∃ φ : Heap → Prop, Hf a = some (.ext φ) ∧ ∀ h, φ h → ∃ (oe : Obj) (vs : Array Value), h.get? a = some oe ∧ Zc (.ref C) none oe ∧ oe.data = .fields vs
def Rt (B : Ent) (Hf H : Hp) (v : V) : Own → PyData → Prop
  | .sh, d => Sh B.K Hf v d
  | .top, d => ∃ a, v = .ref a ∧ Hf a = none ∧ B.H0 a = none ∧ Cont B.K Hf H a d
  | .par k, d => ∃ a, v = .ref a ∧ Hf a = none ∧ B.OP[k]? = some a ∧ Cont B.K Hf H a d
  | .ex x, .bool _ => ∃ a, v = .ref a ∧ B.M.hx = some (a, x)
  | .ex x, _ => ExV B.mg Hf x v
structure Rl (B : Ent) (Hf : Hp) (σ : St) (ε : Fe) (H : Hp) (tm : List (V × PyData)) : Prop where
  le : Same Hf H
  f0 : Same B.F0 Hf
  fn : ∀ b o, B.H0 b = some o → Hf b = B.F0 b
  al : ∀ b o, B.H0 b = some o → ∃ u, H b = some u
  kp : ∀ b o, B.H0 b = some o → b ∉ B.OP → H b = some o
  op : ∀ b ∈ B.OP, ∃ o, B.H0 b = some o
  ln : ε.length = σ.length
  sl : ∀ (i : Nat) o d, ε[i]? = some (some (o, d)) → ∃ v, σ[i]? = some (some v) ∧ Rt B Hf H v o d
  dj : ∀ (i j : Nat) v o d o' d', i ≠ j → ε[i]? = some (some (o, d)) → ε[j]? = some (some (o', d')) → o.own = true → o'.own = true → σ[i]? = some (some v) → σ[j]? = some (some v) → False
  tm : ∀ p ∈ tm, Sh B.K Hf p.1 p.2
def Rel (B : Ent) (σ : St) (ε : Fe) (H : Hp) (tm : List (V × PyData)) : Prop := ∃ Hf, Rl B Hf σ ε H tm
/-- no slot owns it -/
def Free (σ : St) (ε : Fe) (v : V) : Prop := ∀ (i : Nat) o d, ε[i]? = some (some (o, d)) → o.own = true → σ[i]? ≠ some (some v)
/-- .. with the value in hand -/
def Rel1 (B : Ent) (σ : St) (ε : Fe) (H : Hp) (tm : List (V × PyData)) (v : V) (o : Own) (d : PyData) : Prop :=
  ∃ Hf, Rl B Hf σ ε H tm ∧ Rt B Hf H v o d ∧ (o.own = true → Free σ ε v) ∧ o.isPar = false

theorem Cont.at {K : PySem.W.Frag} {Hf H : Hp} {a : Addr} {d : PyData} (h : Cont K Hf H a d) : ∃ o, H a = some o ∧ ((∃ xs, o = .lst xs) ∨ ∃ kv, o = .dK kv) := by
  cases d with
  | list ds => obtain ⟨xs, e, _⟩ := h; exact ⟨_, e, .inl ⟨_, rfl⟩⟩
  | dict ds => obtain ⟨xs, e, _⟩ := h; exact ⟨_, e, .inr ⟨_, rfl⟩⟩
  | none => exact h.elim
  | bool _ => exact h.elim
  | int _ => exact h.elim
  | str _ => exact h.elim
  | tuple _ => exact h.elim
theorem Cont.sv {K : PySem.W.Frag} {Hf H : Hp} {a : Addr} {d : PyData} (h : Cont K Hf H a d) : Sv K Hf H (.ref a) d := by
  cases d with
  | list ds => obtain ⟨xs, e, r⟩ := h; exact .lst e r
  | dict ds => obtain ⟨xs, e, r⟩ := h; exact .dic e r
  | none => exact h.elim
  | bool _ => exact h.elim
  | int _ => exact h.elim
  | str _ => exact h.elim
  | tuple _ => exact h.elim
theorem Cont.mono {K : PySem.W.Frag} {Hf Hf' H H' : Hp} {a : Addr} {d : PyData} (e : Same Hf Hf') (k : ∀ o, H a = some o → H' a = some o) (h : Cont K Hf H a d) : Cont K Hf' H' a d := by
  cases d with
  | list ds => obtain ⟨xs, q, r⟩ := h; exact ⟨xs, k _ q, r.mono e⟩
  | dict ds => obtain ⟨xs, q, r⟩ := h; exact ⟨xs, k _ q, r.mono e⟩
  | none => exact h.elim
  | bool _ => exact h.elim
  | int _ => exact h.elim
  | str _ => exact h.elim
  | tuple _ => exact h.elim
theorem ExV.mono {mg : Str → Option Value} {Hf Hf' : Hp} {x : Str} {v : V} (e : Same Hf Hf') (h : ExV mg Hf x v) : ExV mg Hf' x v := by
  obtain ⟨a, C, e1, e2, φ, e3, e4⟩ := h
  exact ⟨a, C, e1, e2, φ, e _ _ e3, e4⟩
theorem Rt.mono {B : Ent} {Hf Hf' H H' : Hp} {v : V} {o : Own} {d : PyData} (e : Same Hf Hf') (n : ∀ a, o.own = true → v = .ref a → Hf' a = none) (k : ∀ a u, o.own = true → v = .ref a → H a = some u → H' a = some u) (h : Rt B Hf H v o d) : Rt B Hf' H' v o d := by
  cases o with
  | sh => exact Sh.mono e h
  | top =>
    obtain ⟨a, e1, e2, e3, c⟩ := h
    exact ⟨a, e1, n a rfl e1, e3, c.mono e fun u => k a u rfl e1⟩
  | par j =>
    obtain ⟨a, e1, e2, e3, c⟩ := h
    exact ⟨a, e1, n a rfl e1, e3, c.mono e fun u => k a u rfl e1⟩
  | ex x =>
    cases d with
    | bool _ => exact h
    | none => exact ExV.mono e h
    | int _ => exact ExV.mono e h
    | str _ => exact ExV.mono e h
    | list _ => exact ExV.mono e h
    | tuple _ => exact ExV.mono e h
    | dict _ => exact ExV.mono e h
theorem Rt.nof {B : Ent} {Hf H : Hp} {v : V} {o : Own} {d : PyData} {a : Addr} (h : Rt B Hf H v o d) (w : o.own = true) (e : v = .ref a) : Hf a = none ∧ ∃ u, H a = some u := by
  cases o with
  | sh => cases w
  | top =>
    obtain ⟨b, e1, e2, e3, c⟩ := h
    rw [e] at e1; cases e1
    obtain ⟨u, q, _⟩ := c.at
    exact ⟨e2, u, q⟩
  | par k =>
    obtain ⟨b, e1, e2, e3, c⟩ := h
    rw [e] at e1; cases e1
    obtain ⟨u, q, _⟩ := c.at
    exact ⟨e2, u, q⟩
  | ex x => cases w
theorem Rt.ref {B : Ent} {Hf H : Hp} {v : V} {o : Own} {d : PyData} (h : Rt B Hf H v o d) (w : o.own = true) : ∃ a, v = .ref a ∧ Hf a = none ∧ (B.H0 a = none ∨ a ∈ B.OP) ∧ Cont B.K Hf H a d := by
  cases o with
  | sh => cases w
  | top =>
    obtain ⟨b, e1, e2, e3, c⟩ := h
    exact ⟨b, e1, e2, .inl e3, c⟩
  | par k =>
    obtain ⟨b, e1, e2, e3, c⟩ := h
    exact ⟨b, e1, e2, .inr (List.mem_of_getElem? e3), c⟩
  | ex x => cases w
theorem Rt.sv {B : Ent} {Hf H : Hp} {v : V} {o : Own} {d : PyData} (le : Same Hf H) (h : Rt B Hf H v o d) (w : ∀ x, o ≠ .ex x) : Sv B.K Hf H v d := by
  cases o with
  | sh => exact Sh.sv le h
  | top =>
    obtain ⟨b, rfl, e2, e3, c⟩ := h
    exact c.sv
  | par k =>
    obtain ⟨b, rfl, e2, e3, c⟩ := h
    exact c.sv
  | ex x => exact absurd rfl (w x)

section
variable {B : Ent} {Hf : Hp} {σ : St} {ε : Fe} {H : Hp} {tm : List (V × PyData)} {v : V} {o : Own} {d : PyData}

/-- the heap grows: a new object, or more of it frozen -/
theorem Rl.grow {Hf' H' : Hp} (R : Rl B Hf σ ε H tm) (e : Same Hf Hf') (le : Same Hf' H') (k : Same H H') (n : ∀ b u, H b = some u → Hf' b = Hf b) : Rl B Hf' σ ε H' tm where
  le := le
  f0 := R.f0.trans e
  fn := fun b u q => by
    obtain ⟨w, z⟩ := R.al b u q
    rw [n b w z]
    exact R.fn b u q
  al := fun b u q => by
    obtain ⟨w, z⟩ := R.al b u q
    exact ⟨w, k _ _ z⟩
  kp := fun b u q hb => k _ _ (R.kp b u q hb)
  op := R.op
  ln := R.ln
  sl := fun i o d q => by
    obtain ⟨v, h1, h2⟩ := R.sl i o d q
    refine ⟨v, h1, h2.mono e (fun a w ev => ?_) fun a u _ _ => k a u⟩
    obtain ⟨z, u, y⟩ := h2.nof w ev
    rw [n a u y]
    exact z
  dj := R.dj
  tm := fun p hp => Sh.mono e (R.tm p hp)
theorem same_new {H : Hp} {p : Addr} {o : HO} (h : H p = none) : Same H (upd H p o) := fun b x e => by
  rw [upd_ne (ne_of_none e h)]
  exact e
theorem Rl.nof (R : Rl B Hf σ ε H tm) {p : Addr} (h : H p = none) : Hf p = none := R.le.free h
/-- a new object, not frozen -/
theorem Rl.new (R : Rl B Hf σ ε H tm) {p : Addr} {u : HO} (h : H p = none) : Rl B Hf σ ε (upd H p u) tm :=
  R.grow (Same.refl _) (R.le.trans (same_new h)) (same_new h) fun _ _ _ => rfl
/-- a new object, frozen -/
theorem Rl.newF (R : Rl B Hf σ ε H tm) {p : Addr} {u : HO} (h : H p = none) : Rl B (upd Hf p u) σ ε (upd H p u) tm :=
  R.grow (same_new (R.nof h)) (fun b x e => by
    by_cases hb : b = p
    · subst hb
      rw [upd_same] at e ⊢
      exact e
    · rw [upd_ne hb] at e ⊢
      exact R.le _ _ e) (same_new h) fun b x e => upd_ne (ne_of_none e h)
theorem Rl.h0 (R : Rl B Hf σ ε H tm) {p : Addr} (h : H p = none) : B.H0 p = none := by
  cases q : B.H0 p with
  | none => rfl
  | some o =>
    obtain ⟨u, z⟩ := R.al p o q
    rw [h] at z; cases z
theorem Rl.free (R : Rl B Hf σ ε H tm) {p : Addr} (h : H p = none) : Free σ ε (.ref p) := fun i o d e w z => by
  obtain ⟨v, h1, h2⟩ := R.sl i o d e
  rw [z] at h1
  cases h1
  obtain ⟨_, u, y⟩ := h2.nof w rfl
  rw [h] at y; cases y
/-- freeze an own list -/
theorem Rl.freeze (R : Rl B Hf σ ε H tm) {a : Addr} {u : HO} (h : H a = some u) (h0 : B.H0 a = none) (n : Hf a = none) (fr : Free σ ε (.ref a)) : Rl B (upd Hf a u) σ ε H tm where
  le := fun b x e => by
    by_cases hb : b = a
    · subst hb
      rw [upd_same] at e
      cases e
      exact h
    · rw [upd_ne hb] at e
      exact R.le _ _ e
  f0 := R.f0.trans (same_new n)
  fn := fun b x q => by
    rw [upd_ne (ne_of_none q h0)]
    exact R.fn b x q
  al := R.al
  kp := R.kp
  op := R.op
  ln := R.ln
  sl := fun i o d q => by
    obtain ⟨v, h1, h2⟩ := R.sl i o d q
    refine ⟨v, h1, h2.mono (same_new n) (fun b w ev => ?_) fun _ _ _ _ z => z⟩
    have hb : b ≠ a := fun z => by
      subst z
      exact fr i o d q w (ev ▸ h1)
    rw [upd_ne hb]
    exact (h2.nof w ev).1
  dj := R.dj
  tm := fun p hp => Sh.mono (same_new n) (R.tm p hp)
theorem Rl.drop {tm' : List (V × PyData)} (R : Rl B Hf σ ε H tm) (h : ∀ p ∈ tm', p ∈ tm) : Rl B Hf σ ε H tm' :=
  ⟨R.le, R.f0, R.fn, R.al, R.kp, R.op, R.ln, R.sl, R.dj, fun p hp => R.tm p (h p hp)⟩
theorem Rl.push (R : Rl B Hf σ ε H tm) (h : Sh B.K Hf v d) : Rl B Hf σ ε H ((v, d) :: tm) :=
  ⟨R.le, R.f0, R.fn, R.al, R.kp, R.op, R.ln, R.sl, R.dj, fun p hp => by
    rcases List.mem_cons.mp hp with e | e
    · rw [e]; exact h
    · exact R.tm p e⟩
/-- a slot is forgotten, or weakened to shared -/
theorem Rl.forget (R : Rl B Hf σ ε H tm) (i : Nat) : Rl B Hf σ (ε.set i none) H tm := by
  have sub : ∀ {j : Nat} {o : Own} {d : PyData}, (ε.set i none)[j]? = some (some (o, d)) → j ≠ i ∧ ε[j]? = some (some (o, d)) := fun {j o d} e => by
    by_cases hj : i = j
    · subst hj
      rw [List.getElem?_set] at e
      simp only [if_true] at e
      split at e <;> cases e
    · rw [List.getElem?_set_ne hj] at e
      exact ⟨fun z => hj z.symm, e⟩
  exact ⟨R.le, R.f0, R.fn, R.al, R.kp, R.op, by rw [List.length_set]; exact R.ln, fun j o d e => R.sl j o d (sub e).2, fun j k v o d o' d' n e1 e2 => R.dj j k v o d o' d' n (sub e1).2 (sub e2).2, R.tm⟩
/-- a slot is stored -/
theorem Rl.store (R : Rl B Hf σ ε H tm) (i : Nat) (hi : i < ε.length) (h : Rt B Hf H v o d) (fr : o.own = true → Free (σ.set i none) (ε.set i none) v) : Rl B Hf (σ.set i (some v)) (ε.set i (some (o, d))) H tm := by
  have hσ : i < σ.length := by rw [← R.ln]; exact hi
  have sub : ∀ {j : Nat} {o' : Own} {d' : PyData}, (ε.set i (some (o, d)))[j]? = some (some (o', d')) → (j = i ∧ o' = o ∧ d' = d) ∨ (j ≠ i ∧ ε[j]? = some (some (o', d'))) := fun {j o' d'} e => by
    by_cases hj : i = j
    · subst hj
      rw [List.getElem?_set_self hi] at e
      cases e
      exact .inl ⟨rfl, rfl, rfl⟩
    · rw [List.getElem?_set_ne hj] at e
      exact .inr ⟨fun z => hj z.symm, e⟩
  refine ⟨R.le, R.f0, R.fn, R.al, R.kp, R.op, by rw [List.length_set, List.length_set]; exact R.ln, fun j o' d' e => ?_, fun j k v' o1 d1 o2 d2 n e1 e2 w1 w2 s1 s2 => ?_, R.tm⟩
  · rcases sub e with ⟨rfl, rfl, rfl⟩ | ⟨hj, e⟩
    · exact ⟨v, List.getElem?_set_self hσ, h⟩
    · rw [List.getElem?_set_ne (Ne.symm hj)]
      exact R.sl j o' d' e
  · rcases sub e1 with ⟨rfl, rfl, rfl⟩ | ⟨hj, f1⟩
    · rcases sub e2 with ⟨rfl, rfl, rfl⟩ | ⟨hk, f2⟩
      · exact n rfl
      · rw [List.getElem?_set_self hσ] at s1
        cases s1
        refine fr w1 k o2 d2 ?_ w2 ?_
        · rw [List.getElem?_set_ne n]; exact f2
        · rw [List.getElem?_set_ne n] at s2 ⊢; exact s2
    · rcases sub e2 with ⟨rfl, rfl, rfl⟩ | ⟨hk, f2⟩
      · rw [List.getElem?_set_self hσ] at s2
        cases s2
        refine fr w2 j o1 d1 ?_ w1 ?_
        · rw [List.getElem?_set_ne (Ne.symm n)]; exact f1
        · rw [List.getElem?_set_ne (Ne.symm n)] at s1 ⊢; exact s1
      · rw [List.getElem?_set_ne (Ne.symm hj)] at s1
        rw [List.getElem?_set_ne (Ne.symm hk)] at s2
        exact R.dj j k v' o1 d1 o2 d2 n f1 f2 w1 w2 s1 s2
theorem Free.forget {i : Nat} (h : Free σ ε v) : Free (σ.set i none) (ε.set i none) v := fun j o d e w s => by
  by_cases hj : i = j
  · subst hj
    rw [List.getElem?_set] at e
    simp only [if_true] at e
    split at e <;> cases e
  · rw [List.getElem?_set_ne hj] at e s
    exact h j o d e w s
/-- the list that a slot owns is written -/
theorem Rl.write (R : Rl B Hf σ ε H tm) {i : Nat} {a : Addr} {u : HO} {d' : PyData} (e : ε[i]? = some (some (o, d))) (w : o.own = true) (s : σ[i]? = some (some (.ref a))) (c : Cont B.K Hf (upd H a u) a d') : Rl B Hf σ (ε.set i (some (o, d'))) (upd H a u) tm := by
  obtain ⟨v0, s0, r0⟩ := R.sl i o d e
  rw [s] at s0
  cases s0
  obtain ⟨a', ea, na, wh, c0⟩ := r0.ref w
  cases ea
  have hi : i < ε.length := (List.getElem?_eq_some_iff.mp e).1
  have sub : ∀ {j : Nat} {o' : Own} {d'' : PyData}, (ε.set i (some (o, d')))[j]? = some (some (o', d'')) → (j = i ∧ o' = o ∧ d'' = d') ∨ (j ≠ i ∧ ε[j]? = some (some (o', d''))) := fun {j o' d''} e => by
    by_cases hj : i = j
    · subst hj
      rw [List.getElem?_set_self hi] at e
      cases e
      exact .inl ⟨rfl, rfl, rfl⟩
    · rw [List.getElem?_set_ne hj] at e
      exact .inr ⟨fun z => hj z.symm, e⟩
  have nOP : ∀ b x, B.H0 b = some x → b ∉ B.OP → b ≠ a := fun b x q hb z => by
    subst z
    rcases wh with z | z
    · rw [z] at q; cases q
    · exact hb z
  refine ⟨fun b x q => ?_, R.f0, R.fn, fun b x q => ?_, fun b x q hb => ?_, R.op, by rw [List.length_set]; exact R.ln, fun j o' d'' e' => ?_, fun j k v' o1 d1 o2 d2 n e1 e2 w1 w2 => ?_, R.tm⟩
  · rw [upd_ne (ne_of_none q na)]
    exact R.le _ _ q
  · by_cases hb : b = a
    · subst hb; exact ⟨u, upd_same⟩
    · obtain ⟨y, z⟩ := R.al b x q
      exact ⟨y, by rw [upd_ne hb]; exact z⟩
  · rw [upd_ne (nOP b x q hb)]
    exact R.kp b x q hb
  · rcases sub e' with ⟨rfl, rfl, rfl⟩ | ⟨hj, e'⟩
    · refine ⟨_, s, ?_⟩
      cases o' with
      | sh => cases w
      | top =>
        obtain ⟨b, e1, e2, e3, _⟩ := r0
        cases e1
        exact ⟨a, rfl, na, e3, c⟩
      | par k =>
        obtain ⟨b, e1, e2, e3, _⟩ := r0
        cases e1
        exact ⟨a, rfl, na, e3, c⟩
      | ex x => cases w
    · obtain ⟨v, h1, h2⟩ := R.sl j o' d'' e'
      refine ⟨v, h1, h2.mono (Same.refl _) (fun b w' ev => (h2.nof w' ev).1) fun b x w' ev q => ?_⟩
      have hb : b ≠ a := fun z => by
        subst z
        subst ev
        exact R.dj j i _ _ _ _ _ hj e' e w' w h1 s
      rw [upd_ne hb]
      exact q
  · rcases sub e1 with ⟨rfl, rfl, rfl⟩ | ⟨hj, f1⟩
    · rcases sub e2 with ⟨rfl, rfl, rfl⟩ | ⟨hk, f2⟩
      · exact absurd rfl n
      · exact R.dj _ k v' _ _ o2 d2 n e f2 w w2
    · rcases sub e2 with ⟨rfl, rfl, rfl⟩ | ⟨hk, f2⟩
      · exact R.dj j _ v' o1 d1 _ _ n f1 e w1 w
      · exact R.dj j k v' o1 d1 o2 d2 n f1 f2 w1 w2
end
end FS
/-! The functional layer, part 2: results, expressions, arguments, tests, statements, loops. -/
namespace FS
open PySem PySem.Spec PyProof.Rows L2

inductive Res (α : Type) where
  | ok (a : α) (ε : Fe) | exc (x : Str) (ε : Fe) | stuck
def Res.bind {α β : Type} (r : Res α) (f : α → Fe → Res β) : Res β :=
  match r with
  | .ok a ε => f a ε
  | .exc x ε => .exc x ε
  | .stuck => .stuck
@[simp] theorem Res.bind_ok {α β : Type} (a : α) (ε : Fe) (f : α → Fe → Res β) : (Res.ok a ε).bind f = f a ε := rfl
@[simp] theorem Res.bind_exc {α β : Type} (x : Str) (ε : Fe) (f : α → Fe → Res β) : (Res.exc (α := α) x ε).bind f = .exc x ε := rfl
@[simp] theorem Res.bind_stuck {α β : Type} (f : α → Fe → Res β) : (Res.stuck (α := α)).bind f = .stuck := rfl
theorem Res.bind_assoc {α β γ : Type} (r : Res α) (f : α → Fe → Res β) (g : β → Fe → Res γ) : (r.bind f).bind g = r.bind fun a ε => (f a ε).bind g := by
  cases r <;> rfl

abbrev Ev := Fe → Res (Own × PyData)
abbrev Tv := Fe → Res Bool
inductive Fl where
  | nx | rt (o : Own) (d : PyData) | bk | ct
abbrev Sm := Fe → Res Fl
def Own.isEx : Own → Bool
  | .ex _ => true
  | _ => false
@[simp] theorem isEx_sh : Own.isEx .sh = false := rfl
@[simp] theorem isEx_top : Own.isEx .top = false := rfl
@[simp] theorem isEx_par (k : Nat) : Own.isEx (.par k) = false := rfl
@[simp] theorem isEx_ex (x : Str) : Own.isEx (.ex x) = true := rfl
@[simp] theorem own_sh : Own.own .sh = false := rfl
@[simp] theorem own_top : Own.own .top = true := rfl
@[simp] theorem own_par (k : Nat) : Own.own (.par k) = true := rfl
@[simp] theorem own_ex (x : Str) : Own.own (.ex x) = false := rfl

/-! ### what a result asks -/
def XP (B : Ent) (W : WX) (σ : St) (tm : List (V × PyData)) (x : Str) (ε : Fe) : Prop := ∀ C H', B.mg x = some (.ref C) → Rel B σ ε H' tm → W (.ref C) none σ H'
def EPost (B : Ent) (W : WX) (σ : St) (tm : List (V × PyData)) (Q : VK) : Res (Own × PyData) → Prop
  | .ok p ε => ∀ v H', Rel1 B σ ε H' tm v p.1 p.2 → Q v H'
  | .exc x ε => XP B W σ tm x ε
  | .stuck => False
def ES (M : Md) (W : WX) (te : TE) (f : Ev) : Prop := ∀ B : Ent, B.M = M → ∀ σ H ε tm Q, Rel B σ ε H tm → EPost B W σ tm Q (f ε) → te σ H Q
def BPost (B : Ent) (W : WX) (σ : St) (tm : List (V × PyData)) (Q : Bool → Hp → Prop) : Res Bool → Prop
  | .ok b ε => ∀ H', Rel B σ ε H' tm → Q b H'
  | .exc x ε => XP B W σ tm x ε
  | .stuck => False
def TSm (M : Md) (W : WX) (tt : TT) (f : Tv) : Prop := ∀ B : Ent, B.M = M → ∀ σ H ε tm Q, Rel B σ ε H tm → BPost B W σ tm Q (f ε) → tt σ H Q
def FPost (B : Ent) (W : WX) (tm : List (V × PyData)) (D : Ends) : Res Fl → Prop
  | .ok .nx ε => ∀ σ' H', Rel B σ' ε H' tm → D.nx σ' H'
  | .ok (.rt o d) ε => ∀ v σ' H', Rel1 B σ' ε H' tm v o d → D.rt v H'
  | .ok .bk ε => ∀ σ' H', Rel B σ' ε H' tm → D.bk σ' H'
  | .ok .ct ε => ∀ σ' H', Rel B σ' ε H' tm → D.ct σ' H'
  | .exc x ε => ∀ σ', XP B W σ' tm x ε
  | .stuck => False
def SS (M : Md) (W : WX) (ts : TS) (f : Sm) : Prop := ∀ B : Ent, B.M = M → ∀ σ H ε tm D, Rel B σ ε H tm → FPost B W tm D (f ε) → ts D σ H

section
variable {M : Md} {B : Ent} {W : WX} {σ : St} {ε : Fe} {H : Hp} {tm : List (V × PyData)} {v : V} {o : Own} {d : PyData}

theorem Rel.drop {tm' : List (V × PyData)} (R : Rel B σ ε H tm) (h : ∀ p ∈ tm', p ∈ tm) : Rel B σ ε H tm' := let ⟨Hf, r⟩ := R; ⟨Hf, r.drop h⟩
theorem Rel1.rel (R : Rel1 B σ ε H tm v o d) : Rel B σ ε H tm := let ⟨Hf, r, _⟩ := R; ⟨Hf, r⟩
/-- the value in hand is frozen and laid by -/
theorem Rel1.freeze (R : Rel1 B σ ε H tm v o d) (hx : o.isEx = false) : Rel B σ ε H ((v, d) :: tm) := by
  obtain ⟨Hf, r, t, fr, np⟩ := R
  cases o with
  | sh => exact ⟨Hf, r.push t⟩
  | top =>
    obtain ⟨a, rfl, n, h0, c⟩ := t
    cases d with
    | list ds =>
      obtain ⟨xs, e, s⟩ := c
      exact ⟨_, (r.freeze e h0 n (fr rfl)).push (.lst upd_same (s.mono (same_new n)))⟩
    | dict ds =>
      obtain ⟨xs, e, s⟩ := c
      exact ⟨_, (r.freeze e h0 n (fr rfl)).push (.dic upd_same (s.mono (same_new n)))⟩
    | none => exact c.elim
    | bool _ => exact c.elim
    | int _ => exact c.elim
    | str _ => exact c.elim
    | tuple _ => exact c.elim
  | par k => cases np
  | ex x => cases hx
/-- what is laid by comes into the hand -/
theorem Rel.take (R : Rel B σ ε H ((v, d) :: tm)) : Rel1 B σ ε H tm v .sh d := by
  obtain ⟨Hf, r⟩ := R
  exact ⟨Hf, r.drop fun p hp => List.mem_cons_of_mem _ hp, r.tm _ List.mem_cons_self, (fun z => by cases z), rfl⟩
theorem Rel1.sh (R : Rel1 B σ ε H tm v o d) (hx : o.isEx = false) : Rel1 B σ ε H tm v .sh d := (R.freeze hx).take
/-- a flat value -/
theorem Rel.flat (R : Rel B σ ε H tm) (h : ∀ Hf, Sh B.K Hf v d) : Rel1 B σ ε H tm v .sh d := let ⟨Hf, r⟩ := R; ⟨Hf, r, h Hf, (fun z => by cases z), rfl⟩
/-- .. into a slot -/
theorem Rel1.store (R : Rel1 B σ ε H tm v o d) {i : Nat} (hi : i < ε.length) : Rel B (σ.set i (some v)) (ε.set i (some (o, d))) H tm := by
  obtain ⟨Hf, r, t, fr, np⟩ := R
  exact ⟨Hf, r.store i hi t fun w => (fr w).forget⟩
theorem Rel.sub (R : Rel B σ ε H tm) {σ' : St} {ε' : Fe} (hl : ε'.length = σ'.length) (h : ∀ (i : Nat) p, ε'[i]? = some (some p) → ε[i]? = some (some p) ∧ σ'[i]? = σ[i]?) : Rel B σ' ε' H tm := by
  obtain ⟨Hf, r⟩ := R
  refine ⟨Hf, r.le, r.f0, r.fn, r.al, r.kp, r.op, hl, fun i o d e => ?_, fun i j v o d o' d' n e1 e2 w1 w2 s1 s2 => ?_, r.tm⟩
  · obtain ⟨e1, e2⟩ := h i _ e
    rw [e2]
    exact r.sl i o d e1
  · obtain ⟨a1, a2⟩ := h i _ e1
    obtain ⟨b1, b2⟩ := h j _ e2
    rw [a2] at s1
    rw [b2] at s2
    exact r.dj i j v o d o' d' n a1 b1 w1 w2 s1 s2

/-! ### constants, names -/
def eC (d : PyData) : Ev := fun ε => .ok (.sh, d) ε
theorem es_int (i : Int) : ES M W (tC (.int i)) (eC (.int i)) := fun B hB σ H ε tm Q R h => h _ _ (R.flat fun _ => .int i)
theorem es_bl (b : Bool) : ES M W (tC (.bl b)) (eC (.bool b)) := fun B hB σ H ε tm Q R h => h _ _ (R.flat fun _ => .bl b)
theorem es_str (x : Str) : ES M W (tC (.str x)) (eC (.str x)) := fun B hB σ H ε tm Q R h => h _ _ (R.flat fun _ => .str x)
theorem es_non : ES M W (tC .non) (eC .none) := fun B hB σ H ε tm Q R h => h _ _ (R.flat fun _ => .non)
/-- a name, shared from then on -/
def eVar (i : Nat) : Ev := fun ε => match ε[i]? with
  | some (some (o, d)) => match o with
    | .sh => .ok (.sh, d) ε
    | .top => .ok (.sh, d) (ε.set i (some (.sh, d)))
    | .ex x => .ok (.ex x, d) ε
    | .par _ => .stuck
  | _ => .stuck
/-- a name whose own list is handed on -/
def eMv (i : Nat) : Ev := fun ε => match ε[i]? with
  | some (some (o, d)) => match o with
    | .sh => .ok (.sh, d) ε
    | .top => .ok (.top, d) (ε.set i none)
    | .ex x => .ok (.ex x, d) ε
    | .par _ => .stuck
  | _ => .stuck
theorem es_mv (i : Nat) : ES M W (tVar i) (eMv i) := fun B hB σ H ε tm Q R h => by
  subst hB
  obtain ⟨Hf, r⟩ := R
  unfold eMv at h
  cases e : ε[i]? with
  | none => rw [e] at h; exact h.elim
  | some p =>
    cases p with
    | none => rw [e] at h; exact h.elim
    | some p =>
      obtain ⟨o, d⟩ := p
      rw [e] at h
      obtain ⟨v, s, t⟩ := r.sl i o d e
      cases o with
      | sh => exact ⟨v, s, h _ _ ⟨Hf, r, t, (fun z => by cases z), rfl⟩⟩
      | ex x => exact ⟨v, s, h _ _ ⟨Hf, r, t, (fun z => by cases z), rfl⟩⟩
      | par k => exact h.elim
      | top =>
        refine ⟨v, s, h _ _ ⟨Hf, r.forget i, t, fun _ j o' d' e' w' s' => ?_, rfl⟩⟩
        by_cases hj : i = j
        · subst hj
          rw [List.getElem?_set] at e'
          simp only [if_true] at e'
          split at e' <;> cases e'
        · rw [List.getElem?_set_ne hj] at e'
          exact r.dj i j v _ _ _ _ hj e e' rfl w' s s'
theorem es_var (i : Nat) : ES M W (tVar i) (eVar i) := fun B hB σ H ε tm Q R h => by
  subst hB
  obtain ⟨Hf, r⟩ := R
  unfold eVar at h
  cases e : ε[i]? with
  | none => rw [e] at h; exact h.elim
  | some p =>
    cases p with
    | none => rw [e] at h; exact h.elim
    | some p =>
      obtain ⟨o, d⟩ := p
      rw [e] at h
      obtain ⟨v, s, t⟩ := r.sl i o d e
      cases o with
      | sh => exact ⟨v, s, h _ _ ⟨Hf, r, t, (fun z => by cases z), rfl⟩⟩
      | ex x => exact ⟨v, s, h _ _ ⟨Hf, r, t, (fun z => by cases z), rfl⟩⟩
      | par k => exact h.elim
      | top =>
        have R1 : Rel1 B σ (ε.set i none) H tm v .top d := ⟨Hf, r.forget i, t, fun _ j o' d' e' w' s' => by
          by_cases hj : i = j
          · subst hj
            rw [List.getElem?_set] at e'
            simp only [if_true] at e'
            split at e' <;> cases e'
          · rw [List.getElem?_set_ne hj] at e'
            exact r.dj i j v _ _ _ _ hj e e' rfl w' s s', rfl⟩
        have hi : i < ε.length := (List.getElem?_eq_some_iff.mp e).1
        obtain ⟨Hf2, r2, t2, _⟩ := R1.sh rfl
        have r3 : Rl B Hf2 (σ.set i (some v)) ((ε.set i none).set i (some (.sh, d))) H tm := r2.store i (by rw [List.length_set]; exact hi) (o := .sh) t2 (fun z => by cases z)
        rw [List.set_set] at r3
        have es : σ.set i (some v) = σ := by
          refine List.ext_getElem? fun j => ?_
          by_cases hj : i = j
          · subst hj
            rw [List.getElem?_set_self (List.getElem?_eq_some_iff.mp s).1, s]
          · rw [List.getElem?_set_ne hj]
        rw [es] at r3
        exact ⟨v, s, h _ _ ⟨Hf2, r3, t2, (fun z => by cases z), rfl⟩⟩

/-! ### arguments: values, or names that are lent -/
inductive Arg where
  | v (f : Ev) | b (i : Nat)
def evL : List Arg → Fe → Res (List PyData)
  | [], ε => .ok [] ε
  | .v f :: as, ε => (f ε).bind fun p ε1 => if p.1.isEx then .stuck else (evL as ε1).bind fun ds ε2 => .ok (p.2 :: ds) ε2
  | .b i :: as, ε => match ε[i]? with
    | some (some _) => (evL as ε).bind fun ds ε2 => match ε2[i]? with
      | some (some (o, d)) => if o.isEx then .stuck else .ok (d :: ds) ε2
      | _ => .stuck
    | _ => .stuck
inductive Av (K : PySem.W.Frag) (σ : St) (ε : Fe) (Hf : Hp) : List Arg → List V → List PyData → Prop
  | nil : Av K σ ε Hf [] [] []
  | v {f : Ev} {as : List Arg} {v : V} {vs : List V} {d : PyData} {ds : List PyData} : Sh K Hf v d → Av K σ ε Hf as vs ds → Av K σ ε Hf (.v f :: as) (v :: vs) (d :: ds)
  | b {i : Nat} {o : Own} {as : List Arg} {v : V} {vs : List V} {d : PyData} {ds : List PyData} : σ[i]? = some (some v) → ε[i]? = some (some (o, d)) → o.isEx = false → Av K σ ε Hf as vs ds → Av K σ ε Hf (.b i :: as) (v :: vs) (d :: ds)
theorem Av.svs {Hf : Hp} (r : Rl B Hf σ ε H tm) : ∀ {as : List Arg} {vs : List V} {ds : List PyData}, Av B.K σ ε Hf as vs ds → Svs B.K Hf H vs ds
  | _, _, _, .nil => .nil
  | _, _, _, .v h t => .cons (h.sv r.le) (Av.svs r t)
  | _, _, _, .b s e x t => by
    obtain ⟨v, s', rt⟩ := r.sl _ _ _ e
    rw [s] at s'
    cases s'
    exact .cons (rt.sv r.le fun y z => by rw [z] at x; cases x) (Av.svs r t)
def LPost (B : Ent) (W : WX) (σ : St) (tm : List (V × PyData)) (as : List Arg) (Q : List V → Hp → Prop) : Res (List PyData) → Prop
  | .ok ds ε => ∀ vs H' Hf, Rl B Hf σ ε H' tm → Av B.K σ ε Hf as vs ds → Q vs H'
  | .exc x ε => XP B W σ tm x ε
  | .stuck => False
def LS (M : Md) (W : WX) (ta : TA) (as : List Arg) : Prop := ∀ B : Ent, B.M = M → ∀ σ H ε tm Q, Rel B σ ε H tm → LPost B W σ tm as Q (evL as ε) → ta σ H Q
theorem ls_nil : LS M W tNil [] := fun B hB σ H ε tm Q R h => let ⟨Hf, r⟩ := R; h _ _ Hf r .nil
theorem XP.drop {tm' : List (V × PyData)} {x : Str} (h : ∀ p ∈ tm, p ∈ tm') (q : XP B W σ tm x ε) : XP B W σ tm' x ε := fun C H' e R => q C H' e (R.drop h)
theorem ls_v {te : TE} {f : Ev} {ta : TA} {as : List Arg} (he : ES M W te f) (hl : LS M W ta as) : LS M W (tCons te ta) (.v f :: as) := fun B hB σ H ε tm Q R h => by
  subst hB
  refine he B rfl σ H ε tm _ R ?_
  unfold evL at h
  cases e : f ε with
  | stuck => rw [e] at h; exact h.elim
  | exc x ε1 => rw [e] at h; exact h
  | ok p ε1 =>
    rw [e, Res.bind_ok] at h
    intro v H1 R1
    by_cases hx : p.1.isEx = true
    · rw [if_pos hx] at h; exact h.elim
    · rw [if_neg hx] at h
      have R2 := R1.freeze (by simpa using hx)
      refine hl B rfl σ H1 ε1 _ _ R2 ?_
      cases e2 : evL as ε1 with
      | stuck => rw [e2] at h; exact h.elim
      | exc x ε2 =>
        rw [e2] at h
        exact XP.drop (fun q hq => List.mem_cons_of_mem _ hq) h
      | ok ds ε2 =>
        rw [e2, Res.bind_ok] at h
        intro vs H2 Hf r a
        exact h _ _ Hf (r.drop fun q hq => List.mem_cons_of_mem _ hq) (.v (r.tm _ List.mem_cons_self) a)
theorem ls_b {i : Nat} {ta : TA} {as : List Arg} (hl : LS M W ta as) : LS M W (tCons (tVar i) ta) (.b i :: as) := fun B hB σ H ε tm Q R h => by
  subst hB
  unfold evL at h
  cases e : ε[i]? with
  | none => rw [e] at h; exact h.elim
  | some p =>
    cases p with
    | none => rw [e] at h; exact h.elim
    | some p =>
      rw [e] at h
      obtain ⟨Hf0, r0⟩ := id R
      obtain ⟨v, s, _⟩ := r0.sl i p.1 p.2 e
      refine ⟨v, s, hl B rfl σ H ε tm _ R ?_⟩
      dsimp only at h
      cases e2 : evL as ε with
      | stuck => rw [e2] at h; exact h.elim
      | exc x ε2 => rw [e2] at h; exact h
      | ok ds ε2 =>
        rw [e2, Res.bind_ok] at h
        intro vs H2 Hf r a
        cases e3 : ε2[i]? with
        | none => rw [e3] at h; exact h.elim
        | some q =>
          cases q with
          | none => rw [e3] at h; exact h.elim
          | some q =>
            obtain ⟨o, d⟩ := q
            rw [e3] at h
            dsimp only at h
            by_cases hx : o.isEx = true
            · rw [if_pos hx] at h; exact h.elim
            · rw [if_neg hx] at h
              exact h _ _ Hf r (.b s e3 (by simpa using hx) a)

/-! ### operations on data -/
abbrev G := List PyData → Option (Own × PyData)
def eOp (g : G) (as : List Arg) : Ev := fun ε => (evL as ε).bind fun ds ε' => match g ds with
  | some p => .ok p ε'
  | none => .stuck
def GPost (B : Ent) (σ : St) (ε : Fe) (tm : List (V × PyData)) (Q : VK) : Option (Own × PyData) → Prop
  | some p => ∀ v H', Rel1 B σ ε H' tm v p.1 p.2 → Q v H'
  | none => False
/-- r does what g says -/
def PR (M : Md) (r : List V → Hp → VK → Prop) (g : G) : Prop := ∀ B : Ent, B.M = M → ∀ (Hf : Hp) (σ : St) (ε : Fe) (H : Hp) (tm : List (V × PyData)) (vs : List V) (ds : List PyData) (Q : VK),
  Rl B Hf σ ε H tm → Svs B.K Hf H vs ds → GPost B σ ε tm Q (g ds) → r vs H Q
theorem es_op {ta : TA} {r : List V → Hp → VK → Prop} {g : G} {as : List Arg} (hl : LS M W ta as) (hp : PR M r g) : ES M W (fun σ H Q => ta σ H fun vs H1 => r vs H1 Q) (eOp g as) := fun B hB σ H ε tm Q R h => by
  subst hB
  refine hl B rfl σ H ε tm _ R ?_
  unfold eOp at h
  cases e : evL as ε with
  | stuck => rw [e] at h; exact h.elim
  | exc x ε1 => rw [e] at h; exact h
  | ok ds ε1 =>
    rw [e, Res.bind_ok] at h
    intro vs H1 Hf r a
    refine hp B rfl Hf σ ε1 H1 tm vs ds Q r (a.svs r) ?_
    cases eg : g ds with
    | none => rw [eg] at h; exact h.elim
    | some p => rw [eg] at h; exact h
def l2 (r : R2) : List V → Hp → VK → Prop := fun vs H Q => match vs with
  | [x, y] => r x y H Q
  | _ => False
def l1 (r : V → Hp → VK → Prop) : List V → Hp → VK → Prop := fun vs H Q => match vs with
  | [x] => r x H Q
  | _ => False
theorem es_bin {ta tb : TE} {r : R2} {g : G} {a b : Arg} (hl : LS M W (tCons ta (tCons tb tNil)) [a, b]) (hp : PR M (l2 r) g) : ES M W (tOp r ta tb) (eOp g [a, b]) :=
  fun B hB σ H ε tm Q R h => es_op (r := l2 r) hl hp B hB σ H ε tm Q R h
theorem es_un {ta : TE} {r : V → Hp → VK → Prop} {g : G} {a : Arg} (hl : LS M W (tCons ta tNil) [a]) (hp : PR M (l1 r) g) : ES M W (tUn r ta) (eOp g [a]) :=
  fun B hB σ H ε tm Q R h => es_op (r := l1 r) hl hp B hB σ H ε tm Q R h
theorem es_cb {ta : TA} {r : List V → Hp → VK → Prop} {g : G} {as : List Arg} (hl : LS M W ta as) (hp : PR M r g) : ES M W (tCB r ta) (eOp g as) :=
  fun B hB σ H ε tm Q R h => es_op (r := r) hl hp B hB σ H ε tm Q R h

/-! ### displays -/
def dLst : G := fun ds => if ds.length ≤ sizeLine then some (.top, .list ds) else none
def dTup : G := fun ds => if ds.length ≤ sizeLine then some (.sh, .tuple ds) else none
theorem Av.shs {Hf : Hp} : ∀ {as : List Arg} {vs : List V} {ds : List PyData}, (∀ a ∈ as, ∃ f, a = .v f) → Av B.K σ ε Hf as vs ds → ShAll B.K Hf vs ds
  | _, _, _, _, .nil => .nil
  | _, _, _, h, .v q t => .cons q (Av.shs (fun a ha => h a (List.mem_cons_of_mem _ ha)) t)
  | _, _, _, h, .b _ _ _ _ => by
    obtain ⟨f, e⟩ := h _ List.mem_cons_self
    cases e
def allV : List Arg → Bool
  | [] => true
  | .v _ :: as => allV as
  | .b _ :: _ => false
theorem allV_mem : ∀ {as : List Arg}, allV as = true → ∀ a ∈ as, ∃ f, a = .v f
  | [], _, a, h => by cases h
  | .v f :: as, h, a, ha => by
    rcases List.mem_cons.mp ha with e | ha
    · exact ⟨f, e⟩
    · exact allV_mem (as := as) h a ha
  | .b _ :: _, h, _, _ => by cases h
theorem Rl.newTop {Hf : Hp} (r : Rl B Hf σ ε H tm) {p : Addr} {xs : List V} {ds : List PyData} (n : H p = none) (s : ShAll B.K Hf xs ds) : Rel1 B σ ε (upd H p (.lst xs)) tm (.ref p) .top (.list ds) :=
  ⟨Hf, r.new n, ⟨p, rfl, r.nof n, r.h0 n, xs, upd_same, s⟩, fun _ => r.free n, rfl⟩
theorem Rl.newTup {Hf : Hp} (r : Rl B Hf σ ε H tm) {p : Addr} {xs : List V} {ds : List PyData} (n : H p = none) (s : ShAll B.K Hf xs ds) : Rel1 B σ ε (upd H p (.tup xs)) tm (.ref p) .sh (.tuple ds) :=
  ⟨_, r.newF n, .tup upd_same (s.mono (same_new (r.nof n))), (fun z => by cases z), rfl⟩
theorem Rl.newDic {Hf : Hp} (r : Rl B Hf σ ε H tm) {p : Addr} {kv : List (Key × V)} {ds : List (PyData × PyData)} (n : H p = none) (s : ShKv B.K Hf kv ds) : Rel1 B σ ε (upd H p (.dK kv)) tm (.ref p) .top (.dict ds) :=
  ⟨Hf, r.new n, ⟨p, rfl, r.nof n, r.h0 n, kv, upd_same, s⟩, fun _ => r.free n, rfl⟩
theorem Rl.flat1 {Hf : Hp} (r : Rl B Hf σ ε H tm) (h : Sh B.K Hf v d) : Rel1 B σ ε H tm v .sh d := ⟨Hf, r, h, (fun z => by cases z), rfl⟩
theorem es_lst {ta : TA} {as : List Arg} (hl : LS M W ta as) (hv : allV as = true := by rfl) : ES M W (tLst ta) (eOp dLst as) := fun B hB σ H ε tm Q R h => by
  subst hB
  refine hl B rfl σ H ε tm _ R ?_
  unfold eOp at h
  cases e : evL as ε with
  | stuck => rw [e] at h; exact h.elim
  | exc x ε1 => rw [e] at h; exact h
  | ok ds ε1 =>
    rw [e, Res.bind_ok] at h
    intro vs H1 Hf r a
    have s := a.shs (allV_mem hv)
    unfold dLst at h
    by_cases hz : ds.length ≤ sizeLine
    · rw [if_pos hz] at h
      exact ⟨by rw [s.length]; exact hz, fun p n => h _ _ (r.newTop n s)⟩
    · rw [if_neg hz] at h; exact h.elim
theorem es_tup {ta : TA} {as : List Arg} (hl : LS M W ta as) (hv : allV as = true := by rfl) : ES M W (tTup ta) (eOp dTup as) := fun B hB σ H ε tm Q R h => by
  subst hB
  refine hl B rfl σ H ε tm _ R ?_
  unfold eOp at h
  cases e : evL as ε with
  | stuck => rw [e] at h; exact h.elim
  | exc x ε1 => rw [e] at h; exact h
  | ok ds ε1 =>
    rw [e, Res.bind_ok] at h
    intro vs H1 Hf r a
    have s := a.shs (allV_mem hv)
    unfold dTup at h
    by_cases hz : ds.length ≤ sizeLine
    · rw [if_pos hz] at h
      exact ⟨by rw [s.length]; exact hz, fun p n => h _ _ (r.newTup n s)⟩
    · rw [if_neg hz] at h; exact h.elim

/-! ### tests -/
def tOf (f : Ev) : Tv := fun ε => (f ε).bind fun p ε' => match p.2 with
  | .bool b => if p.1.isEx then .stuck else .ok b ε'
  | _ => .stuck
theorem ts_val {te : TE} {f : Ev} (he : ES M W te f) : TSm M W (tB te) (tOf f) := fun B hB σ H ε tm Q R h => by
  subst hB
  refine he B rfl σ H ε tm _ R ?_
  unfold tOf at h
  cases e : f ε with
  | stuck => rw [e] at h; exact h.elim
  | exc x ε1 => rw [e] at h; exact h
  | ok p ε1 =>
    rw [e, Res.bind_ok] at h
    intro v H1 R1
    obtain ⟨o, d⟩ := p
    cases d with
    | bool b =>
      dsimp only at h R1
      by_cases hx : o.isEx = true
      · rw [if_pos hx] at h; exact h.elim
      · rw [if_neg hx] at h
        have R2 := R1.sh (by simpa using hx)
        obtain ⟨Hf, r, t, _⟩ := R2
        cases (show Sh B.K Hf v (.bool b) from t)
        exact ⟨b, rfl, h _ ⟨Hf, r⟩⟩
    | none => exact h.elim
    | int _ => exact h.elim
    | str _ => exact h.elim
    | list _ => exact h.elim
    | tuple _ => exact h.elim
    | dict _ => exact h.elim
theorem ts_test {te : TE} {f : Ev} (he : ES M W te f) : TSm M W (tTest te) (tOf f) := ts_val he
def tAndF (f g : Tv) : Tv := fun ε => (f ε).bind fun b ε' => if b = true then g ε' else .ok false ε'
def tOrF (f g : Tv) : Tv := fun ε => (f ε).bind fun b ε' => if b = true then .ok true ε' else g ε'
def tNotF (f : Tv) : Tv := fun ε => (f ε).bind fun b ε' => .ok (!b) ε'
theorem ts_and {ta tb : TT} {f g : Tv} (ha : TSm M W ta f) (hb : TSm M W tb g) : TSm M W (tAnd ta tb) (tAndF f g) := fun B hB σ H ε tm Q R h => by
  subst hB
  refine ha B rfl σ H ε tm _ R ?_
  unfold tAndF at h
  cases e : f ε with
  | stuck => rw [e] at h; exact h.elim
  | exc x ε1 => rw [e] at h; exact h
  | ok b ε1 =>
    rw [e, Res.bind_ok] at h
    intro H1 R1
    cases b with
    | true => rw [if_pos rfl] at h ⊢; exact hb B rfl σ H1 ε1 tm Q R1 h
    | false => rw [if_neg Bool.false_ne_true] at h ⊢; exact h _ R1
theorem ts_or {ta tb : TT} {f g : Tv} (ha : TSm M W ta f) (hb : TSm M W tb g) : TSm M W (tOr ta tb) (tOrF f g) := fun B hB σ H ε tm Q R h => by
  subst hB
  refine ha B rfl σ H ε tm _ R ?_
  unfold tOrF at h
  cases e : f ε with
  | stuck => rw [e] at h; exact h.elim
  | exc x ε1 => rw [e] at h; exact h
  | ok b ε1 =>
    rw [e, Res.bind_ok] at h
    intro H1 R1
    cases b with
    | true => rw [if_pos rfl] at h ⊢; exact h _ R1
    | false => rw [if_neg Bool.false_ne_true] at h ⊢; exact hb B rfl σ H1 ε1 tm Q R1 h
theorem ts_not {ta : TT} {f : Tv} (ha : TSm M W ta f) : TSm M W (tNot ta) (tNotF f) := fun B hB σ H ε tm Q R h => by
  subst hB
  refine ha B rfl σ H ε tm _ R ?_
  unfold tNotF at h
  cases e : f ε with
  | stuck => rw [e] at h; exact h.elim
  | exc x ε1 => rw [e] at h; exact h
  | ok b ε1 =>
    rw [e, Res.bind_ok] at h
    exact fun H1 R1 => h _ R1
/-- .. as values -/
def eAndF (f g : Ev) : Ev := fun ε => (tOf f ε).bind fun b ε' => if b = true then g ε' else .ok (.sh, .bool false) ε'
def eOrF (f g : Ev) : Ev := fun ε => (tOf f ε).bind fun b ε' => if b = true then .ok (.sh, .bool true) ε' else g ε'
def eNotF (f : Ev) : Ev := fun ε => (tOf f ε).bind fun b ε' => .ok (.sh, .bool (!b)) ε'
theorem es_and {ta tb : TE} {f g : Ev} (ha : ES M W ta f) (hb : ES M W tb g) : ES M W (tAndV ta tb) (eAndF f g) := fun B hB σ H ε tm Q R h => by
  subst hB
  refine ts_val ha B rfl σ H ε tm (fun c H1 => if c = true then tb σ H1 Q else Q (.bl false) H1) R ?_
  unfold eAndF at h
  cases e : tOf f ε with
  | stuck => rw [e] at h; exact h.elim
  | exc x ε1 => rw [e] at h; exact h
  | ok b ε1 =>
    rw [e, Res.bind_ok] at h
    intro H1 R1
    cases b with
    | true => rw [if_pos rfl] at h ⊢; exact hb B rfl σ H1 ε1 tm Q R1 h
    | false => rw [if_neg Bool.false_ne_true] at h ⊢; exact h _ _ (R1.flat fun _ => .bl false)
theorem es_or {ta tb : TE} {f g : Ev} (ha : ES M W ta f) (hb : ES M W tb g) : ES M W (tOrV ta tb) (eOrF f g) := fun B hB σ H ε tm Q R h => by
  subst hB
  refine ts_val ha B rfl σ H ε tm (fun c H1 => if c = true then Q (.bl true) H1 else tb σ H1 Q) R ?_
  unfold eOrF at h
  cases e : tOf f ε with
  | stuck => rw [e] at h; exact h.elim
  | exc x ε1 => rw [e] at h; exact h
  | ok b ε1 =>
    rw [e, Res.bind_ok] at h
    intro H1 R1
    cases b with
    | true => rw [if_pos rfl] at h ⊢; exact h _ _ (R1.flat fun _ => .bl true)
    | false => rw [if_neg Bool.false_ne_true] at h ⊢; exact hb B rfl σ H1 ε1 tm Q R1 h
theorem es_not {ta : TE} {f : Ev} (ha : ES M W ta f) : ES M W (tNotV ta) (eNotF f) := fun B hB σ H ε tm Q R h => by
  subst hB
  refine ts_val ha B rfl σ H ε tm (fun c H1 => Q (.bl (!c)) H1) R ?_
  unfold eNotF at h
  cases e : tOf f ε with
  | stuck => rw [e] at h; exact h.elim
  | exc x ε1 => rw [e] at h; exact h
  | ok b ε1 =>
    rw [e, Res.bind_ok] at h
    exact fun H1 R1 => h _ _ (R1.flat fun _ => .bl (!b))
def eIfF (c : Tv) (f g : Ev) : Ev := fun ε => (c ε).bind fun b ε' => if b = true then f ε' else g ε'
theorem es_if {tc : TT} {ta tb : TE} {c : Tv} {f g : Ev} (hc : TSm M W tc c) (ha : ES M W ta f) (hb : ES M W tb g) : ES M W (tIf tc ta tb) (eIfF c f g) := fun B hB σ H ε tm Q R h => by
  subst hB
  refine hc B rfl σ H ε tm _ R ?_
  unfold eIfF at h
  cases e : c ε with
  | stuck => rw [e] at h; exact h.elim
  | exc x ε1 => rw [e] at h; exact h
  | ok b ε1 =>
    rw [e, Res.bind_ok] at h
    intro H1 R1
    cases b with
    | true => rw [if_pos rfl] at h ⊢; exact ha B rfl σ H1 ε1 tm Q R1 h
    | false => rw [if_neg Bool.false_ne_true] at h ⊢; exact hb B rfl σ H1 ε1 tm Q R1 h

/-! ### statements -/
def sNx : Sm := fun ε => .ok .nx ε
def sSeq (f g : Sm) : Sm := fun ε => (f ε).bind fun fl ε' => match fl with
  | .nx => g ε'
  | fl => .ok fl ε'
theorem ss_nil : SS M W tNext sNx := fun B hB σ H ε tm D R h => h _ _ R
theorem ss_cons {t u : TS} {f g : Sm} (h1 : SS M W t f) (h2 : SS M W u g) : SS M W (tSeq t u) (sSeq f g) := fun B hB σ H ε tm D R h => by
  subst hB
  refine h1 B rfl σ H ε tm _ R ?_
  unfold sSeq at h
  cases e : f ε with
  | stuck => rw [e] at h; exact h.elim
  | exc x ε1 => rw [e] at h; exact h
  | ok fl ε1 =>
    rw [e, Res.bind_ok] at h
    cases fl with
    | nx => exact fun σ' H' R' => h2 B rfl σ' H' ε1 tm D R' h
    | rt o d => exact h
    | bk => exact h
    | ct => exact h
def sBk : Sm := fun ε => .ok .bk ε
def sCt : Sm := fun ε => .ok .ct ε
theorem ss_bk : SS M W tBreak sBk := fun B hB σ H ε tm D R h => h _ _ R
theorem ss_ct : SS M W tCont sCt := fun B hB σ H ε tm D R h => h _ _ R
def sRt (f : Ev) : Sm := fun ε => (f ε).bind fun p ε' => .ok (.rt p.1 p.2) ε'
theorem ss_rt {te : TE} {f : Ev} (he : ES M W te f) : SS M W (tRet te) (sRt f) := fun B hB σ H ε tm D R h => by
  subst hB
  refine he B rfl σ H ε tm _ R ?_
  unfold sRt at h
  cases e : f ε with
  | stuck => rw [e] at h; exact h.elim
  | exc x ε1 => rw [e] at h; exact h σ
  | ok p ε1 =>
    rw [e, Res.bind_ok] at h
    exact fun v H' R' => h v σ H' R'
def sRtN : Sm := fun ε => .ok (.rt .sh .none) ε
theorem ss_rtN : SS M W tRetN sRtN := fun B hB σ H ε tm D R h => h _ σ _ (R.flat fun _ => .non)
def sEx (f : Ev) : Sm := fun ε => (f ε).bind fun _ ε' => .ok .nx ε'
theorem ss_ex {te : TE} {f : Ev} (he : ES M W te f) : SS M W (tDrop te) (sEx f) := fun B hB σ H ε tm D R h => by
  subst hB
  refine he B rfl σ H ε tm _ R ?_
  unfold sEx at h
  cases e : f ε with
  | stuck => rw [e] at h; exact h.elim
  | exc x ε1 => rw [e] at h; exact h σ
  | ok p ε1 =>
    rw [e, Res.bind_ok] at h
    exact fun v H' R' => h σ H' R'.rel
def sIf (c : Tv) (f g : Sm) : Sm := fun ε => (c ε).bind fun b ε' => if b = true then f ε' else g ε'
theorem ss_if {tc : TT} {t u : TS} {c : Tv} {f g : Sm} (hc : TSm M W tc c) (h1 : SS M W t f) (h2 : SS M W u g) : SS M W (tIfS tc t u) (sIf c f g) := fun B hB σ H ε tm D R h => by
  subst hB
  refine hc B rfl σ H ε tm _ R ?_
  unfold sIf at h
  cases e : c ε with
  | stuck => rw [e] at h; exact h.elim
  | exc x ε1 => rw [e] at h; exact h σ
  | ok b ε1 =>
    rw [e, Res.bind_ok] at h
    intro H1 R1
    cases b with
    | true => rw [if_pos rfl] at h ⊢; exact h1 B rfl σ H1 ε1 tm D R1 h
    | false => rw [if_neg Bool.false_ne_true] at h ⊢; exact h2 B rfl σ H1 ε1 tm D R1 h
/-- name = e -/
def sSet (i : Nat) (f : Ev) : Sm := fun ε => (f ε).bind fun p ε' => if i < ε'.length then .ok .nx (ε'.set i (some p)) else .stuck
theorem ss_set {i : Nat} {te : TE} {f : Ev} (he : ES M W te f) : SS M W (tAsg te (gName i)) (sSet i f) := fun B hB σ H ε tm D R h => by
  subst hB
  refine he B rfl σ H ε tm _ R ?_
  unfold sSet at h
  cases e : f ε with
  | stuck => rw [e] at h; exact h.elim
  | exc x ε1 => rw [e] at h; exact h σ
  | ok p ε1 =>
    rw [e, Res.bind_ok] at h
    intro v H' R'
    by_cases hi : i < ε1.length
    · rw [if_pos hi] at h
      exact h _ _ (R'.store hi)
    · rw [if_neg hi] at h; exact h.elim

/-! ### targets: the value in hand goes into slots -/
abbrev Tg := Own → PyData → Fe → Option Fe
def TPost (B : Ent) (tm : List (V × PyData)) (Q : St → Hp → Prop) : Option Fe → Prop
  | some ε => ∀ σ' H', Rel B σ' ε H' tm → Q σ' H'
  | none => False
def GS (M : Md) (g : TG) (f : Tg) : Prop := ∀ B : Ent, B.M = M → ∀ σ H ε tm v o d Q, Rel1 B σ ε H tm v o d → TPost B tm Q (f o d ε) → g v σ H Q
def gtName (i : Nat) : Tg := fun o d ε => if i < ε.length then some (ε.set i (some (o, d))) else none
theorem gs_name (i : Nat) : GS M (gName i) (gtName i) := fun B hB σ H ε tm v o d Q R h => by
  subst hB
  unfold gtName at h
  by_cases hi : i < ε.length
  · rw [if_pos hi] at h
    exact h _ _ (R.store hi)
  · rw [if_neg hi] at h; exact h.elim
abbrev Tgs := List PyData → Fe → Option Fe
/-- several targets, shared values -/
def GSs (M : Md) (g : TGs) (f : Tgs) : Prop := ∀ B : Ent, B.M = M → ∀ σ H ε tm vs ds Q, (∃ Hf, Rl B Hf σ ε H tm ∧ ShAll B.K Hf vs ds) → TPost B tm Q (f ds ε) → g vs σ H Q
def gtNil : Tgs := fun ds ε => match ds with
  | [] => some ε
  | _ => none
def gtCons (f : Tg) (g : Tgs) : Tgs := fun ds ε => match ds with
  | d :: ds => (f .sh d ε).bind fun ε' => g ds ε'
  | [] => none
theorem gss_nil : GSs M gNil gtNil := fun B hB σ H ε tm vs ds Q R h => by
  subst hB
  obtain ⟨Hf, r, s⟩ := R
  cases s with
  | nil => exact ⟨rfl, h _ _ ⟨Hf, r⟩⟩
  | cons _ _ => exact h.elim
theorem shAll_tm {Hf : Hp} {K : PySem.W.Frag} : ∀ {vs : List V} {ds : List PyData}, ShAll K Hf vs ds → ∀ p ∈ vs.zip ds, Sh K Hf p.1 p.2
  | _, _, .nil, p, hp => by cases hp
  | _, _, .cons h t, p, hp => by
    rw [List.zip_cons_cons] at hp
    rcases List.mem_cons.mp hp with e | hp
    · rw [e]; exact h
    · exact shAll_tm t p hp
theorem tm_shAll {Hf : Hp} {K : PySem.W.Frag} : ∀ {vs : List V} {ds : List PyData}, vs.length = ds.length → (∀ p ∈ vs.zip ds, Sh K Hf p.1 p.2) → ShAll K Hf vs ds
  | [], [], _, _ => .nil
  | v :: vs, d :: ds, e, h => .cons (h (v, d) (by rw [List.zip_cons_cons]; exact List.mem_cons_self)) (tm_shAll (by simpa using e) fun p hp => h p (by rw [List.zip_cons_cons]; exact List.mem_cons_of_mem _ hp))
  | [], _ :: _, e, _ => by cases e
  | _ :: _, [], e, _ => by cases e
theorem Rl.pushAll {Hf : Hp} (r : Rl B Hf σ ε H tm) {ps : List (V × PyData)} (h : ∀ p ∈ ps, Sh B.K Hf p.1 p.2) : Rl B Hf σ ε H (ps ++ tm) :=
  ⟨r.le, r.f0, r.fn, r.al, r.kp, r.op, r.ln, r.sl, r.dj, fun p hp => by
    rcases List.mem_append.mp hp with e | e
    · exact h p e
    · exact r.tm p e⟩
theorem gss_cons {g : TG} {gs : TGs} {f : Tg} {fs : Tgs} (h1 : GS M g f) (h2 : GSs M gs fs) : GSs M (gCons g gs) (gtCons f fs) := fun B hB σ H ε tm vs ds Q R h => by
  subst hB
  obtain ⟨Hf, r, s⟩ := R
  cases s with
  | nil => exact h.elim
  | cons s t =>
    rename_i v vr d dr
    refine ⟨_, _, rfl, ?_⟩
    have r2 := r.pushAll (shAll_tm t)
    have len := t.length
    refine h1 B rfl σ H ε (vr.zip dr ++ tm) _ .sh d _ ⟨Hf, r2, s, (fun z => by cases z), rfl⟩ ?_
    have h' : TPost B tm Q ((f .sh d ε).bind fun ε' => fs dr ε') := h
    cases e : f .sh d ε with
    | none => rw [e] at h'; exact h'.elim
    | some ε1 =>
      rw [e, Option.bind_some] at h'
      intro σ' H' R'
      obtain ⟨Hf', r'⟩ := R'
      exact h2 B rfl σ' H' ε1 tm vr dr Q ⟨Hf', r'.drop fun p hp => List.mem_append_right _ hp, tm_shAll len fun p hp => r'.tm p (List.mem_append_left _ hp)⟩ h'
/-- a, b, .. = a tuple (or, with the layer's other rule, a list) -/
def gtTup (n : Nat) (f : Tgs) : Tg := fun o d ε => match d with
  | .tuple ds => if o.isEx then none else if ds.length = n then f ds ε else none
  | _ => none
def gtLst (n : Nat) (f : Tgs) : Tg := fun o d ε => match d with
  | .list ds => if o.isEx then none else if ds.length = n then f ds ε else none
  | _ => none
theorem gs_tup {n : Nat} {gs : TGs} {fs : Tgs} (h : GSs M gs fs) : GS M (L2.gTup M.K n gs) (gtTup n fs) := fun B hB σ H ε tm v o d Q R q => by
  subst hB
  unfold gtTup at q
  cases d with
  | tuple ds =>
    dsimp only at q
    by_cases hx : o.isEx = true
    · rw [if_pos hx] at q; exact q.elim
    · rw [if_neg hx] at q
      by_cases hn : ds.length = n
      · rw [if_pos hn] at q
        obtain ⟨Hf, r, t, _⟩ := R.sh (by simpa using hx)
        cases (show Sh B.K Hf v (.tuple ds) from t) with
        | tup ht hs => exact ⟨_, _, rfl, .of (r.le _ _ ht), by rw [hs.length]; exact hn, h B rfl σ H ε tm _ ds Q ⟨Hf, r, hs⟩ q⟩
      · rw [if_neg hn] at q; exact q.elim
  | none => exact q.elim
  | bool _ => exact q.elim
  | int _ => exact q.elim
  | str _ => exact q.elim
  | list _ => exact q.elim
  | dict _ => exact q.elim
theorem gs_lst {n : Nat} {gs : TGs} {fs : Tgs} (h : GSs M gs fs) : GS M (L2.gLst M.K n gs) (gtLst n fs) := fun B hB σ H ε tm v o d Q R q => by
  subst hB
  unfold gtLst at q
  cases d with
  | list ds =>
    dsimp only at q
    by_cases hx : o.isEx = true
    · rw [if_pos hx] at q; exact q.elim
    · rw [if_neg hx] at q
      by_cases hn : ds.length = n
      · rw [if_pos hn] at q
        obtain ⟨Hf, r, t, _⟩ := R.sh (by simpa using hx)
        cases (show Sh B.K Hf v (.list ds) from t) with
        | lst ht hs => exact ⟨_, _, rfl, .of (r.le _ _ ht), by rw [hs.length]; exact hn, h B rfl σ H ε tm _ ds Q ⟨Hf, r, hs⟩ q⟩
      · rw [if_neg hn] at q; exact q.elim
  | none => exact q.elim
  | bool _ => exact q.elim
  | int _ => exact q.elim
  | str _ => exact q.elim
  | tuple _ => exact q.elim
  | dict _ => exact q.elim
/-- target = e -/
def sAsg (f : Ev) (g : Tg) : Sm := fun ε => (f ε).bind fun p ε' => match g p.1 p.2 ε' with
  | some ε'' => .ok .nx ε''
  | none => .stuck
theorem ss_asg {te : TE} {f : Ev} {g : TG} {gf : Tg} (he : ES M W te f) (hg : GS M g gf) : SS M W (tAsg te g) (sAsg f gf) := fun B hB σ H ε tm D R h => by
  subst hB
  refine he B rfl σ H ε tm _ R ?_
  unfold sAsg at h
  cases e : f ε with
  | stuck => rw [e] at h; exact h.elim
  | exc x ε1 => rw [e] at h; exact h σ
  | ok p ε1 =>
    rw [e, Res.bind_ok] at h
    intro v H1 R1
    refine hg B rfl σ H1 ε1 tm v _ _ _ R1 ?_
    cases e2 : gf p.1 p.2 ε1 with
    | none => rw [e2] at h; exact h.elim
    | some ε2 =>
      rw [e2] at h
      exact fun σ' H' R' => h σ' H' R'
end
end FS
/-! The functional layer, part 3: what is walked, for, while, list comprehensions. -/
namespace FS
open PySem PySem.Spec PyProof.Rows L2 RZ
section
variable {M : Md} {B : Ent} {W : WX} {σ : St} {ε : Fe} {H : Hp} {tm : List (V × PyData)} {v : V} {o : Own} {d : PyData}

/-! ### what is walked -/
/-- J yields ds, as long as src is laid by -/
def IT (M : Md) (J : It) (ds : List PyData) (src : List (V × PyData)) : Prop :=
  ∀ B : Ent, B.M = M → ∀ (i : Nat) σ ε H tm, Rel B σ ε H tm → (∀ p ∈ src, p ∈ tm) →
    (∀ d, ds[i]? = some d → J.go i H ∧ ∀ x H', J.yld i H x H' → Rel B σ ε H' ((x, d) :: tm)) ∧ (ds.length ≤ i → J.stop i H)
abbrev Fi := Fe → Res (List PyData)
def IPost (B : Ent) (W : WX) (σ : St) (tm : List (V × PyData)) (R : It → Hp → Prop) : Res (List PyData) → Prop
  | .ok ds ε => ∀ J H' src, Rel B σ ε H' (src ++ tm) → IT B.M J ds src → R J H'
  | .exc x ε => XP B W σ tm x ε
  | .stuck => False
def IS (M : Md) (W : WX) (wi : TI) (fi : Fi) : Prop := ∀ B : Ent, B.M = M → ∀ σ H ε tm R, Rel B σ ε H tm → IPost B W σ tm R (fi ε) → wi σ H R

theorem Rl.sqL {Hf : Hp} (r : Rl B Hf σ ε H tm) {a : Addr} {ds : List PyData} (h : (V.ref a, PyData.list ds) ∈ tm) : ∃ xs, SqL B.K H a xs ∧ ShAll B.K Hf xs ds := by
  have t := r.tm _ h
  cases (show Sh B.K Hf (.ref a) (.list ds) from t) with
  | lst q s => exact ⟨_, SqL.of (r.le _ _ q), s⟩
theorem Rl.sqT {Hf : Hp} (r : Rl B Hf σ ε H tm) {a : Addr} {ds : List PyData} (h : (V.ref a, PyData.tuple ds) ∈ tm) : ∃ xs, SqT B.K H a xs ∧ ShAll B.K Hf xs ds := by
  have t := r.tm _ h
  cases (show Sh B.K Hf (.ref a) (.tuple ds) from t) with
  | tup q s => exact ⟨_, SqT.of (r.le _ _ q), s⟩
theorem it_list {a : Addr} {ds : List PyData} : IT M (Itl M.K a) ds [(.ref a, .list ds)] := fun B hB i σ ε H tm R hs => by
  subst hB
  obtain ⟨Hf, r⟩ := R
  obtain ⟨xs, q, s⟩ := r.sqL (hs _ List.mem_cons_self)
  refine ⟨fun d e => ?_, fun hl => ⟨xs, q, by rw [s.length]; exact hl⟩⟩
  obtain ⟨v, e1, e2⟩ := s.get e
  refine ⟨⟨xs, v, q, e1⟩, fun x H' y => ?_⟩
  obtain ⟨rfl, y⟩ := y
  have ex : x = v := Option.some.inj ((y xs q).symm.trans e1)
  subst ex
  exact ⟨Hf, r.push e2⟩
theorem it_tup {a : Addr} {ds : List PyData} : IT M (Itt M.K a) ds [(.ref a, .tuple ds)] := fun B hB i σ ε H tm R hs => by
  subst hB
  obtain ⟨Hf, r⟩ := R
  obtain ⟨xs, q, s⟩ := r.sqT (hs _ List.mem_cons_self)
  refine ⟨fun d e => ?_, fun hl => ⟨xs, q, by rw [s.length]; exact hl⟩⟩
  obtain ⟨v, e1, e2⟩ := s.get e
  refine ⟨⟨xs, v, q, e1⟩, fun x H' y => ?_⟩
  obtain ⟨rfl, y⟩ := y
  have ex : x = v := Option.some.inj ((y xs q).symm.trans e1)
  subst ex
  exact ⟨Hf, r.push e2⟩
def rngD (lo : Int) (n : Nat) : List PyData := (List.range n).map fun i => PyData.int (lo + (i : Nat))
@[simp] theorem rngD_length (lo : Int) (n : Nat) : (rngD lo n).length = n := by unfold rngD; rw [List.length_map, List.length_range]
theorem rngD_at {lo : Int} {n i : Nat} {d : PyData} (h : (rngD lo n)[i]? = some d) : i < n ∧ d = .int (lo + (i : Nat)) := by
  unfold rngD at h
  rw [List.getElem?_map] at h
  cases e : (List.range n)[i]? with
  | none => rw [e] at h; cases h
  | some j =>
    rw [e] at h
    obtain ⟨h1, h2⟩ := List.getElem?_eq_some_iff.mp e
    rw [List.getElem_range] at h2
    subst h2
    rw [List.length_range] at h1
    exact ⟨h1, (Option.some.inj h).symm⟩
theorem it_rng {lo : Int} {n : Nat} : IT M (Itr lo n) (rngD lo n) [] := fun B hB i σ ε H tm R hs => by
  refine ⟨fun d e => ?_, fun hl => by rw [rngD_length] at hl; exact hl⟩
  obtain ⟨h1, rfl⟩ := rngD_at e
  refine ⟨h1, fun x H' y => ?_⟩
  obtain ⟨rfl, rfl⟩ := y
  obtain ⟨Hf, r⟩ := R
  exact ⟨Hf, r.push (.int _)⟩
def rngC (lo c : Int) (n : Nat) : List PyData := (List.range n).map fun i => PyData.int (lo + (i : Nat) * c)
@[simp] theorem rngC_length (lo c : Int) (n : Nat) : (rngC lo c n).length = n := by unfold rngC; rw [List.length_map, List.length_range]
theorem it_rngC {lo c : Int} {n : Nat} : IT M (Itc lo c n) (rngC lo c n) [] := fun B hB i σ ε H tm R hs => by
  refine ⟨fun d e => ?_, fun hl => by rw [rngC_length] at hl; exact hl⟩
  unfold rngC at e
  rw [List.getElem?_map] at e
  cases e1 : (List.range n)[i]? with
  | none => rw [e1] at e; cases e
  | some j =>
    rw [e1] at e
    obtain ⟨h1, h2⟩ := List.getElem?_eq_some_iff.mp e1
    rw [List.getElem_range] at h2
    subst h2
    rw [List.length_range] at h1
    cases (Option.some.inj e)
    refine ⟨h1, fun x H' y => ?_⟩
    obtain ⟨rfl, rfl⟩ := y
    obtain ⟨Hf, r⟩ := R
    exact ⟨Hf, r.push (.int _)⟩
def enD : Nat → List PyData → List PyData
  | _, [] => []
  | i, d :: ds => .tuple [.int (i : Nat), d] :: enD (i + 1) ds
@[simp] theorem enD_length : ∀ (i : Nat) (ds : List PyData), (enD i ds).length = ds.length
  | _, [] => rfl
  | i, d :: ds => by unfold enD; rw [List.length_cons, List.length_cons, enD_length]
theorem enD_at : ∀ {k : Nat} {ds : List PyData} {i : Nat} {d : PyData}, (enD k ds)[i]? = some d → ∃ x, ds[i]? = some x ∧ d = .tuple [.int ((k + i : Nat) : Int), x]
  | k, [], i, d, h => by simp [enD] at h
  | k, x :: ds, 0, d, h => by
    unfold enD at h
    exact ⟨x, rfl, (Option.some.inj h).symm⟩
  | k, x :: ds, i + 1, d, h => by
    unfold enD at h
    rw [List.getElem?_cons_succ] at h
    obtain ⟨y, e1, e2⟩ := enD_at h
    refine ⟨y, by rw [List.getElem?_cons_succ]; exact e1, ?_⟩
    rw [e2, show k + 1 + i = k + (i + 1) by omega]
theorem it_enum {a : Addr} {ds : List PyData} : IT M (Ite M.K a) (enD 0 ds) [(.ref a, .list ds)] := fun B hB i σ ε H tm R hs => by
  subst hB
  obtain ⟨Hf, r⟩ := R
  obtain ⟨xs, q, s⟩ := r.sqL (hs _ List.mem_cons_self)
  refine ⟨fun d e => ?_, fun hl => ⟨xs, q, by rw [s.length]; rw [enD_length] at hl; exact hl⟩⟩
  obtain ⟨w, e1, rfl⟩ := enD_at e
  obtain ⟨v, e2, e3⟩ := s.get e1
  refine ⟨⟨xs, v, q, e2⟩, fun x H' y => ?_⟩
  obtain ⟨T, y, rfl, n, rfl, hy⟩ := y
  have ey : y = v := Option.some.inj ((hy xs q).symm.trans e2)
  subst ey
  obtain ⟨Hf', r', t', _⟩ := r.newTup n (.cons (.int ((0 + i : Nat) : Int)) (.cons e3 .nil))
  rw [Nat.zero_add] at r' t'
  refine ⟨Hf', r'.push ?_⟩
  rw [Nat.zero_add]
  exact t'
def zipD (as bs : List PyData) : List PyData := List.zipWith (fun a b => PyData.tuple [a, b]) as bs
theorem it_zip {a b : Addr} {as bs : List PyData} : IT M (Itz M.K a b) (zipD as bs) [(.ref a, .list as), (.ref b, .list bs)] := fun B hB i σ ε H tm R hs => by
  subst hB
  obtain ⟨Hf, r⟩ := R
  obtain ⟨xs, q, s⟩ := r.sqL (hs _ List.mem_cons_self)
  obtain ⟨ys, q', s'⟩ := r.sqL (hs _ (List.mem_cons_of_mem _ List.mem_cons_self))
  refine ⟨fun d e => ?_, fun hl => ⟨xs, ys, q, q', ?_⟩⟩
  · unfold zipD at e
    obtain ⟨x, y, e1, e2, rfl⟩ := List.getElem?_zipWith_eq_some.mp e
    obtain ⟨v, f1, f2⟩ := s.get e1
    obtain ⟨w, g1, g2⟩ := s'.get e2
    refine ⟨⟨xs, ys, v, w, q, q', f1, g1⟩, fun z H' y => ?_⟩
    obtain ⟨T, x1, y1, rfl, n, rfl, hx, hy⟩ := y
    have ex : x1 = v := Option.some.inj ((hx xs q).symm.trans f1)
    have ey : y1 = w := Option.some.inj ((hy ys q').symm.trans g1)
    subst ex ey
    obtain ⟨Hf', r', t', _⟩ := r.newTup n (.cons f2 (.cons g2 .nil))
    exact ⟨Hf', r'.push t'⟩
  · unfold zipD at hl
    rw [List.length_zipWith] at hl
    rw [s.length, s'.length]
    omega
theorem it_zipT {a b : Addr} {as bs : List PyData} : IT M (ItzT M.K a b) (zipD as bs) [(.ref a, .tuple as), (.ref b, .tuple bs)] := fun B hB i σ ε H tm R hs => by
  subst hB
  obtain ⟨Hf, r⟩ := R
  obtain ⟨xs, q, s⟩ := r.sqT (hs _ List.mem_cons_self)
  obtain ⟨ys, q', s'⟩ := r.sqT (hs _ (List.mem_cons_of_mem _ List.mem_cons_self))
  refine ⟨fun d e => ?_, fun hl => ⟨xs, ys, q, q', ?_⟩⟩
  · unfold zipD at e
    obtain ⟨x, y, e1, e2, rfl⟩ := List.getElem?_zipWith_eq_some.mp e
    obtain ⟨v, f1, f2⟩ := s.get e1
    obtain ⟨w, g1, g2⟩ := s'.get e2
    refine ⟨⟨xs, ys, v, w, q, q', f1, g1⟩, fun z H' y => ?_⟩
    obtain ⟨T, x1, y1, rfl, n, rfl, hx, hy⟩ := y
    have ex : x1 = v := Option.some.inj ((hx xs q).symm.trans f1)
    have ey : y1 = w := Option.some.inj ((hy ys q').symm.trans g1)
    subst ex ey
    obtain ⟨Hf', r', t', _⟩ := r.newTup n (.cons f2 (.cons g2 .nil))
    exact ⟨Hf', r'.push t'⟩
  · unfold zipD at hl
    rw [List.length_zipWith] at hl
    rw [s.length, s'.length]
    omega
def strD (x : Str) : List PyData := x.cps.toList.map fun c => PyData.str ⟨#[c]⟩
theorem it_str {x : Str} : IT M (Its x) (strD x) [] := fun B hB i σ ε H tm R hs => by
  obtain ⟨Hf, r⟩ := R
  unfold strD
  refine ⟨fun d e => ?_, fun hl => by rw [List.length_map, Array.length_toList] at hl; exact hl⟩
  rw [List.getElem?_map] at e
  cases e1 : x.cps.toList[i]? with
  | none => rw [e1] at e; cases e
  | some c =>
    rw [e1] at e
    cases (Option.some.inj e)
    have e2 : x.cps[i]? = some c := by rw [← Array.getElem?_toList]; exact e1
    refine ⟨(Array.getElem?_eq_some_iff.mp e2).1, fun z H' y => ?_⟩
    obtain ⟨rfl, c', y1, rfl⟩ := y
    rw [e2] at y1
    cases y1
    exact ⟨Hf, r.push (.str _)⟩

/-- a list, a tuple or a text is walked -/
def iSeq (K : PySem.W.Frag) (tl : TE) : TI := fun σ H R => tl σ H fun x H1 => (∃ a, x = .ref a ∧ (∃ xs, SqL K H1 a xs) ∧ R (Itl K a) H1) ∨ (∃ a, x = .ref a ∧ (∃ xs, SqT K H1 a xs) ∧ R (Itt K a) H1) ∨ (∃ z, x = .str z ∧ R (Its z) H1)
theorem pi_seq {X : Cx} {tg l : Expr} {tl : TE} (hl : PE X l tl) : PI X tg l (iSeq X.K tl) := by
  refine ⟨fun pins s σ H R I h => ?_⟩
  refine thn (hl.run pins s σ H _ I h) fun v s1 ⟨x, H1, I1, r1, q1⟩ => ?_
  rcases q1 with ⟨a, e, ⟨xs, hq⟩, q⟩ | ⟨a, e, ⟨xs, hq⟩, q⟩ | ⟨z, e, q⟩
  · subst e
    cases r1
    obtain ⟨its, rv, p, hz⟩ := I1.list hq
    refine wpAny_pyIter_list p.isList ?_
    refine ⟨s1.heap.objs.size, [s1.heap.objs.size], _, _, H1, rfl, I1.kept (t' := s1.toks) fun b o e => Heap.get?_push_of_some _ e, turn_list a _, ⟨_, Heap.get?_push_size _ rfl, rfl, rfl⟩, fun b hb => ?_, q⟩
    have e : b = s1.heap.objs.size := by simpa using hb
    subst e
    exact I1.fpOk (Nat.le_refl _) (I1.hok.fresh (Nat.le_refl _))
  · subst e
    cases r1
    obtain ⟨its, rv, p, hz⟩ := I1.tuple hq
    refine wpAny_pyIter_tuple (show s1.heap.IsTuple a its.toArray from p) ?_
    refine ⟨s1.heap.objs.size, [s1.heap.objs.size], _, _, H1, rfl, I1.kept (t' := s1.toks) fun b o e => Heap.get?_push_of_some _ e, turn_tuple a _, ⟨_, Heap.get?_push_size _ rfl, rfl, rfl⟩, fun b hb => ?_, q⟩
    have e : b = s1.heap.objs.size := by simpa using hb
    subst e
    exact I1.fpOk (Nat.le_refl _) (I1.hok.fresh (Nat.le_refl _))
  · subst e
    obtain ⟨t, rfl⟩ := r1
    cases ha : z.cps.all (· < 128)
    · exact wpAny_pyIter_wide ha (pi_one (tk := s1.toks) I1 _ (turn_str _ z t "str_iterator" (.inr rfl)) ⟨_, Heap.get?_push_size _ rfl, rfl, rfl⟩ q)
    · exact wpAny_pyIter_ascii ha (pi_one (tk := s1.toks) I1 _ (turn_str _ z t "str_ascii_iterator" (.inl rfl)) ⟨_, Heap.get?_push_size _ rfl, rfl, rfl⟩ q)
def fiSeq (f : Ev) : Fi := fun ε => (f ε).bind fun p ε' => if p.1.isEx then .stuck else match p.2 with
  | .list ds => .ok ds ε'
  | .tuple ds => .ok ds ε'
  | .str x => .ok (strD x) ε'
  | _ => .stuck
theorem is_seq {te : TE} {f : Ev} (he : ES M W te f) : IS M W (iSeq M.K te) (fiSeq f) := fun B hB σ H ε tm R r h => by
  subst hB
  refine he B rfl σ H ε tm _ r ?_
  unfold fiSeq at h
  cases e : f ε with
  | stuck => rw [e] at h; exact h.elim
  | exc x ε1 => rw [e] at h; exact h
  | ok p ε1 =>
    rw [e, Res.bind_ok] at h
    obtain ⟨o, d⟩ := p
    dsimp only at h
    by_cases hx : o.isEx = true
    · rw [if_pos hx] at h; exact h.elim
    · rw [if_neg hx] at h
      intro v H' R'
      have R2 := R'.freeze (by simpa using hx)
      cases d with
      | list ds =>
        obtain ⟨Hf, r2⟩ := id R2
        have t := r2.tm _ List.mem_cons_self
        cases (show Sh B.K Hf v (.list ds) from t) with
        | lst q s => exact .inl ⟨_, rfl, ⟨_, SqL.of (r2.le _ _ q)⟩, h _ _ [_] R2 it_list⟩
      | tuple ds =>
        obtain ⟨Hf, r2⟩ := id R2
        have t := r2.tm _ List.mem_cons_self
        cases (show Sh B.K Hf v (.tuple ds) from t) with
        | tup q s => exact .inr (.inl ⟨_, rfl, ⟨_, SqT.of (r2.le _ _ q)⟩, h _ _ [_] R2 it_tup⟩)
      | str x =>
        obtain ⟨Hf, r2⟩ := id R2
        have t := r2.tm _ List.mem_cons_self
        cases (show Sh B.K Hf v (.str x) from t)
        exact .inr (.inr ⟨_, rfl, h _ _ [] R'.rel it_str⟩)
      | none => exact h.elim
      | bool _ => exact h.elim
      | int _ => exact h.elim
      | dict _ => exact h.elim
def fiRng1 (a : Arg) : Fi := fun ε => (evL [a] ε).bind fun ds ε' => match ds with
  | [.int j] => if -(2 ^ 62) ≤ j ∧ j < 2 ^ 62 then .ok (rngD 0 j.toNat) ε' else .stuck
  | _ => .stuck
theorem is_rng1 {ta : TA} {a : Arg} (hl : LS M W ta [a]) : IS M W (iRng1 ta) (fiRng1 a) := fun B hB σ H ε tm R r h => by
  subst hB
  refine hl B rfl σ H ε tm _ r ?_
  unfold fiRng1 at h
  cases e : evL [a] ε with
  | stuck => rw [e] at h; exact h.elim
  | exc x ε1 => rw [e] at h; exact h
  | ok ds ε1 =>
    rw [e, Res.bind_ok] at h
    intro vs H1 Hf r1 av
    have sv := av.svs r1
    split at h
    · rename_i j
      by_cases hj : -(2 ^ 62) ≤ j ∧ j < 2 ^ 62
      · rw [if_pos hj] at h
        cases sv with
        | cons s1 s2 =>
          cases s2
          cases s1
          exact ⟨j, rfl, hj.1, hj.2, h _ _ [] ⟨Hf, r1⟩ it_rng⟩
      · rw [if_neg hj] at h; exact h.elim
    · exact h.elim
def fiRng2 (a b : Arg) : Fi := fun ε => (evL [a, b] ε).bind fun ds ε' => match ds with
  | [.int i, .int j] => if -(2 ^ 62) ≤ i ∧ i < 2 ^ 62 ∧ -(2 ^ 62) ≤ j ∧ j < 2 ^ 62 then .ok (rngD i (j - i).toNat) ε' else .stuck
  | _ => .stuck
theorem is_rng2 {ta : TA} {a b : Arg} (hl : LS M W ta [a, b]) : IS M W (iRng2 ta) (fiRng2 a b) := fun B hB σ H ε tm R r h => by
  subst hB
  refine hl B rfl σ H ε tm _ r ?_
  unfold fiRng2 at h
  cases e : evL [a, b] ε with
  | stuck => rw [e] at h; exact h.elim
  | exc x ε1 => rw [e] at h; exact h
  | ok ds ε1 =>
    rw [e, Res.bind_ok] at h
    intro vs H1 Hf r1 av
    have sv := av.svs r1
    split at h
    · rename_i i j
      by_cases hj : -(2 ^ 62) ≤ i ∧ i < 2 ^ 62 ∧ -(2 ^ 62) ≤ j ∧ j < 2 ^ 62
      · rw [if_pos hj] at h
        cases sv with
        | cons s1 s2 =>
          cases s2 with
          | cons s2 s3 =>
            cases s3
            cases s1
            cases s2
            exact ⟨i, j, rfl, hj, h _ _ [] ⟨Hf, r1⟩ it_rng⟩
      · rw [if_neg hj] at h; exact h.elim
    · exact h.elim
/-- range(a, b, -1) -/
def fiRng3 (a b c : Arg) : Fi := fun ε => (evL [a, b, c] ε).bind fun ds ε' => match ds with
  | [.int i, .int j, .int (-1)] => if -(2 ^ 62) ≤ i ∧ i < 2 ^ 62 ∧ -(2 ^ 62) ≤ j ∧ j < 2 ^ 62 then .ok (rngC i (-1) (i - j).toNat) ε' else .stuck
  | _ => .stuck
theorem is_rng3 {ta : TA} {a b c : Arg} (hl : LS M W ta [a, b, c]) : IS M W (iRng3 ta) (fiRng3 a b c) := fun B hB σ H ε tm R r h => by
  subst hB
  refine hl B rfl σ H ε tm _ r ?_
  unfold fiRng3 at h
  cases e : evL [a, b, c] ε with
  | stuck => rw [e] at h; exact h.elim
  | exc x ε1 => rw [e] at h; exact h
  | ok ds ε1 =>
    rw [e, Res.bind_ok] at h
    intro vs H1 Hf r1 av
    have sv := av.svs r1
    split at h
    · rename_i i j
      by_cases hj : -(2 ^ 62) ≤ i ∧ i < 2 ^ 62 ∧ -(2 ^ 62) ≤ j ∧ j < 2 ^ 62
      · rw [if_pos hj] at h
        cases sv with
        | cons s1 s2 =>
          cases s2 with
          | cons s2 s3 =>
            cases s3 with
            | cons s3 s4 =>
              cases s4
              cases s1
              cases s2
              cases s3
              exact ⟨i, j, -1, _, rfl, RgC.neg hj.1 hj.2.1 hj.2.2.1 hj.2.2.2, h _ _ [] ⟨Hf, r1⟩ it_rngC⟩
      · rw [if_neg hj] at h; exact h.elim
    · exact h.elim
/-- enumerate(list), zip(list, list): shared lists -/
def fiEn (f : Ev) : Fi := fun ε => (f ε).bind fun p ε' => if p.1.isEx then .stuck else match p.2 with
  | .list ds => .ok (enD 0 ds) ε'
  | _ => .stuck
theorem is_enum {te : TE} {f : Ev} (he : ES M W te f) : IS M W (iEnum M.K (tCons te tNil)) (fiEn f) := fun B hB σ H ε tm R r h => by
  subst hB
  refine he B rfl σ H ε tm _ r ?_
  unfold fiEn at h
  cases e : f ε with
  | stuck => rw [e] at h; exact h.elim
  | exc x ε1 => rw [e] at h; exact h
  | ok p ε1 =>
    rw [e, Res.bind_ok] at h
    obtain ⟨o, d⟩ := p
    dsimp only at h
    by_cases hx : o.isEx = true
    · rw [if_pos hx] at h; exact h.elim
    · rw [if_neg hx] at h
      intro v H' R'
      have R2 := R'.freeze (by simpa using hx)
      cases d with
      | list ds =>
        obtain ⟨Hf, r2⟩ := id R2
        have t := r2.tm _ List.mem_cons_self
        cases (show Sh B.K Hf v (.list ds) from t) with
        | lst q s => exact ⟨_, _, rfl, SqL.of (r2.le _ _ q), h _ _ [_] R2 it_enum⟩
      | tuple ds => exact h.elim
      | str x => exact h.elim
      | none => exact h.elim
      | bool _ => exact h.elim
      | int _ => exact h.elim
      | dict _ => exact h.elim
def fiZip (f g : Ev) : Fi := fun ε => (f ε).bind fun p ε' => if p.1.isEx then .stuck else (g ε').bind fun q ε'' => if q.1.isEx then .stuck else match p.2, q.2 with
  | .list as, .list bs => .ok (zipD as bs) ε''
  | .tuple as, .tuple bs => .ok (zipD as bs) ε''
  | _, _ => .stuck
theorem is_zip {ta tb : TE} {f g : Ev} (ha : ES M W ta f) (hb : ES M W tb g) : IS M W (iZipA M.K (tCons ta (tCons tb tNil))) (fiZip f g) := fun B hB σ H ε tm R r h => by
  subst hB
  refine ha B rfl σ H ε tm _ r ?_
  unfold fiZip at h
  cases e : f ε with
  | stuck => rw [e] at h; exact h.elim
  | exc x ε1 => rw [e] at h; exact h
  | ok p ε1 =>
    rw [e, Res.bind_ok] at h
    by_cases hx : p.1.isEx = true
    · rw [if_pos hx] at h; exact h.elim
    · rw [if_neg hx] at h
      intro v H' R'
      have R2 := R'.freeze (by simpa using hx)
      refine hb B rfl σ H' ε1 _ _ R2 ?_
      cases e2 : g ε1 with
      | stuck => rw [e2] at h; exact h.elim
      | exc x ε2 => rw [e2] at h; exact XP.drop (fun q hq => List.mem_cons_of_mem _ hq) h
      | ok q ε2 =>
        rw [e2, Res.bind_ok] at h
        by_cases hx2 : q.1.isEx = true
        · rw [if_pos hx2] at h; exact h.elim
        · rw [if_neg hx2] at h
          intro w H2 R3
          have R4 := R3.freeze (by simpa using hx2)
          obtain ⟨o, d⟩ := p
          obtain ⟨o2, d2⟩ := q
          dsimp only at h R4
          have R5 : Rel B σ ε2 H2 ([(v, d), (w, d2)] ++ tm) := R4.drop fun p hp => by
            rcases List.mem_cons.mp hp with e | hp
            · rw [e]; exact List.mem_cons_of_mem _ List.mem_cons_self
            · rcases List.mem_cons.mp hp with e | hp
              · rw [e]; exact List.mem_cons_self
              · exact List.mem_cons_of_mem _ (List.mem_cons_of_mem _ hp)
          obtain ⟨Hf, r4⟩ := id R5
          have t1 : Sh B.K Hf v d := r4.tm _ List.mem_cons_self
          have t2 : Sh B.K Hf w d2 := r4.tm _ (List.mem_cons_of_mem _ List.mem_cons_self)
          split at h
          · cases t1 with
            | lst q1 s1 =>
              cases t2 with
              | lst q2 s2 => exact ⟨_, _, _, _, rfl, .inl ⟨SqL.of (r4.le _ _ q1), SqL.of (r4.le _ _ q2), h _ _ [_, _] R5 it_zip⟩⟩
          · cases t1 with
            | tup q1 s1 =>
              cases t2 with
              | tup q2 s2 => exact ⟨_, _, _, _, rfl, .inr ⟨SqT.of (r4.le _ _ q1), SqT.of (r4.le _ _ q2), h _ _ [_, _] R5 it_zipT⟩⟩
          · exact h.elim

/-! ### for -/
def forL (g : Tg) (body : Sm) : List PyData → Fe → Res Fl
  | [], ε => .ok .nx ε
  | d :: ds, ε => match g .sh d ε with
    | none => .stuck
    | some ε1 => (body ε1).bind fun fl ε2 => match fl with
      | .nx => forL g body ds ε2
      | .ct => forL g body ds ε2
      | .bk => .ok .nx ε2
      | .rt o d => .ok (.rt o d) ε2
def sFor (fi : Fi) (g : Tg) (body : Sm) : Sm := fun ε => (fi ε).bind fun ds ε' => forL g body ds ε'
theorem FPost.drop {D : Ends} {tm' : List (V × PyData)} {r : Res Fl} (h : ∀ p ∈ tm, p ∈ tm') (q : FPost B W tm D r) : FPost B W tm' D r := by
  cases r with
  | stuck => exact q
  | exc x ε => exact fun σ' => XP.drop h (q σ')
  | ok fl ε =>
    cases fl with
    | nx => exact fun σ' H' R => q σ' H' (R.drop h)
    | bk => exact fun σ' H' R => q σ' H' (R.drop h)
    | ct => exact fun σ' H' R => q σ' H' (R.drop h)
    | rt o d =>
      intro v σ' H' R
      obtain ⟨Hf, r, t⟩ := R
      exact q v σ' H' ⟨Hf, r.drop h, t⟩
theorem ss_for {wi : TI} {g : TG} {tb : TS} {fi : Fi} {gf : Tg} {body : Sm} (hi : IS M W wi fi) (hg : GS M g gf) (hb : SS M W tb body) : SS M W (tFor wi g tb) (sFor fi gf body) := fun B hB σ H ε tm D R h => by
  subst hB
  refine hi B rfl σ H ε tm _ R ?_
  unfold sFor at h
  cases e : fi ε with
  | stuck => rw [e] at h; exact h.elim
  | exc x ε1 => rw [e] at h; exact h σ
  | ok ds ε1 =>
    rw [e, Res.bind_ok] at h
    intro J H1 src R1 T
    refine ⟨fun i m σ H => m = ds.length - i ∧ i ≤ ds.length ∧ ∃ ε, Rel B σ ε H (src ++ tm) ∧ FPost B W tm D (forL gf body (ds.drop i) ε), ⟨ds.length, by simp, Nat.zero_le _, ε1, R1, h⟩, ?_⟩
    rintro i m σ2 H2 ⟨rfl, hi2, ε2, R2, h2⟩
    have hT := T B rfl i σ2 ε2 H2 _ R2 fun p hp => List.mem_append_left _ hp
    by_cases hlt : i < ds.length
    · have ed : ds.drop i = ds[i] :: ds.drop (i + 1) := List.drop_eq_getElem_cons hlt
      obtain ⟨go, yl⟩ := hT.1 ds[i] (List.getElem?_eq_getElem hlt)
      rw [ed] at h2
      refine .inr ⟨go, fun σ' H' => ∃ ε, Rel B σ' ε H' (src ++ tm) ∧ FPost B W tm D (forL gf body (ds.drop (i + 1)) ε), fun σ' H' ⟨ε', R', h'⟩ => ⟨ds.length - (i + 1), by omega, rfl, hlt, ε', R', h'⟩, fun x H' y => ?_⟩
      refine hg B rfl σ2 H' ε2 (src ++ tm) x .sh ds[i] _ (yl x H' y).take ?_
      unfold forL at h2
      cases e3 : gf .sh ds[i] ε2 with
      | none => rw [e3] at h2; exact h2.elim
      | some ε3 =>
        rw [e3] at h2
        dsimp only at h2
        intro σ4 H4 R4
        refine hb B rfl σ4 H4 ε3 (src ++ tm) _ R4 ?_
        cases e5 : body ε3 with
        | stuck => rw [e5] at h2; exact h2.elim
        | exc x ε5 => rw [e5] at h2; exact fun σ' => XP.drop (fun p hp => List.mem_append_right _ hp) (h2 σ')
        | ok fl ε5 =>
          rw [e5, Res.bind_ok] at h2
          cases fl with
          | nx => exact fun σ' H' R' => ⟨ε5, R', h2⟩
          | ct => exact fun σ' H' R' => ⟨ε5, R', h2⟩
          | bk => exact fun σ' H' R' => h2 σ' H' (R'.drop fun p hp => List.mem_append_right _ hp)
          | rt o d =>
            intro v σ' H' R'
            obtain ⟨Hf, r, t⟩ := R'
            exact h2 v σ' H' ⟨Hf, r.drop fun p hp => List.mem_append_right _ hp, t⟩
    · have ei : i = ds.length := by omega
      subst ei
      refine .inl ⟨hT.2 (Nat.le_refl _), ?_⟩
      rw [List.drop_length] at h2
      exact h2 σ2 H2 (R2.drop fun p hp => List.mem_append_right _ hp)

/-! ### while -/
def whL (c : Tv) (body : Sm) : Nat → Fe → Res Fl
  | 0, _ => .stuck
  | n + 1, ε => (c ε).bind fun b ε1 => if b = true then (body ε1).bind fun fl ε2 => match fl with
      | .nx => whL c body n ε2
      | .ct => whL c body n ε2
      | .bk => .ok .nx ε2
      | .rt o d => .ok (.rt o d) ε2
    else .ok .nx ε1
def sWh (n : Nat) (c : Tv) (body : Sm) : Sm := fun ε => whL c body n ε
theorem ss_while {tc : TT} {tb : TS} {c : Tv} {body : Sm} (n : Nat) (hc : TSm M W tc c) (hb : SS M W tb body) : SS M W (tWhile tc tb) (sWh n c body) := fun B hB σ H ε tm D R h => by
  subst hB
  refine ⟨fun m σ H => ∃ ε, Rel B σ ε H tm ∧ FPost B W tm D (whL c body m ε), ⟨n, ε, R, h⟩, ?_⟩
  rintro m σ2 H2 ⟨ε2, R2, h2⟩
  cases m with
  | zero => exact h2.elim
  | succ m =>
    refine hc B rfl σ2 H2 ε2 tm _ R2 ?_
    unfold whL at h2
    cases e : c ε2 with
    | stuck => rw [e] at h2; exact h2.elim
    | exc x ε1 => rw [e] at h2; exact h2 σ2
    | ok b ε1 =>
      rw [e, Res.bind_ok] at h2
      intro H3 R3
      cases b with
      | false => rw [if_neg Bool.false_ne_true] at h2 ⊢; exact h2 σ2 H3 R3
      | true =>
        rw [if_pos rfl] at h2 ⊢
        refine ⟨fun σ' H' => ∃ ε, Rel B σ' ε H' tm ∧ FPost B W tm D (whL c body m ε), fun σ' H' q => ⟨m, Nat.lt_succ_self _, q⟩, ?_⟩
        refine hb B rfl σ2 H3 ε1 tm _ R3 ?_
        cases e5 : body ε1 with
        | stuck => rw [e5] at h2; exact h2.elim
        | exc x ε5 => rw [e5] at h2; exact h2
        | ok fl ε5 =>
          rw [e5, Res.bind_ok] at h2
          cases fl with
          | nx => exact fun σ' H' R' => ⟨ε5, R', h2⟩
          | ct => exact fun σ' H' R' => ⟨ε5, R', h2⟩
          | bk => exact h2
          | rt o d => exact h2

/-! ### list comprehensions -/
abbrev W0 : WX := fun _ _ _ _ => False
def wpE (ε : Fe) : List Nat → Fe
  | [] => ε
  | v :: vs => (wpE ε vs).set v none
theorem wpE_length (ε : Fe) : ∀ vs : List Nat, (wpE ε vs).length = ε.length
  | [] => rfl
  | v :: vs => by unfold wpE; rw [List.length_set, wpE_length ε vs]
theorem wpE_some {ε : Fe} {i : Nat} {p : Own × PyData} : ∀ {vs : List Nat}, (wpE ε vs)[i]? = some (some p) → ε[i]? = some (some p) ∧ i ∉ vs
  | [], h => ⟨h, by simp⟩
  | v :: vs, h => by
    unfold wpE at h
    by_cases hi : v = i
    · subst hi
      rw [List.getElem?_set] at h
      simp only [if_true] at h
      split at h <;> cases h
    · rw [List.getElem?_set_ne hi] at h
      obtain ⟨h1, h2⟩ := wpE_some h
      exact ⟨h1, by simp only [List.mem_cons, not_or]; exact ⟨fun e => hi e.symm, h2⟩⟩
/-- the slots vs forgotten, in the slots and in what is known of them -/
theorem Rel.wipe (R : Rel B σ ε H tm) (vs : List Nat) : Rel B (L2.wipe σ vs) (wpE ε vs) H tm := by
  obtain ⟨Hf, r⟩ := id R
  refine R.sub (by rw [wpE_length, wipe_length]; exact r.ln) fun i p e => ?_
  obtain ⟨h1, h2⟩ := wpE_some e
  exact ⟨h1, wipe_out h2⟩
/-- .. and back to slots that agree elsewhere -/
theorem Rel.rewipe {σ2 : St} (R : Rel B σ2 ε H tm) {vs : List Nat} (hw : L2.wipe σ2 vs = L2.wipe σ vs) : Rel B σ (wpE ε vs) H tm := by
  obtain ⟨Hf, r⟩ := id R
  have hl : σ2.length = σ.length := by
    have := congrArg List.length hw
    rw [wipe_length, wipe_length] at this
    exact this
  refine R.sub (by rw [wpE_length, r.ln, hl]) fun i p e => ?_
  obtain ⟨h1, h2⟩ := wpE_some e
  refine ⟨h1, ?_⟩
  have a := congrArg (fun l : St => l[i]?) hw
  have a' : (L2.wipe σ2 vs)[i]? = (L2.wipe σ vs)[i]? := a
  rw [wipe_out h2, wipe_out h2] at a'
  exact a'.symm
/-- the list that a comprehension fills, hidden in the entry -/
def Ent.hide (B : Ent) (D : Addr) (xs : List V) : Ent := { B with H0 := upd B.H0 D (.lst xs) }
theorem Rl.hide {Hf : Hp} (r : Rl B Hf σ ε H tm) {D : Addr} {xs : List V} (hD : H D = some (.lst xs)) (h0 : B.H0 D = none) (n : Hf D = none) (fr : Free σ ε (.ref D)) : Rl (B.hide D xs) Hf σ ε H tm := by
  have nD : ∀ b x, B.H0 b = some x → b ≠ D := fun b x q z => by subst z; rw [h0] at q; cases q
  have rt : ∀ {v o d}, Rt B Hf H v o d → (o.own = true → v ≠ .ref D) → Rt (B.hide D xs) Hf H v o d := fun {v o d} t nv => by
    cases o with
    | sh => exact t
    | top =>
      obtain ⟨a, e1, e2, e3, c⟩ := t
      refine ⟨a, e1, e2, ?_, c⟩
      show upd B.H0 D _ a = none
      rw [upd_ne fun z => nv rfl (by rw [e1, z])]
      exact e3
    | par k => exact t
    | ex x => exact (by cases d <;> exact t)
  refine ⟨r.le, r.f0, fun b o q => ?_, fun b o q => ?_, fun b o q hb => ?_, fun b hb => ?_, r.ln, fun i o d e => ?_, r.dj, r.tm⟩
  · by_cases hb : b = D
    · subst hb
      show Hf b = B.F0 b
      rw [n]
      exact (r.f0.free n).symm
    · have q' : B.H0 b = some o := by rw [← upd_ne (H := B.H0) (o := .lst xs) hb]; exact q
      exact r.fn b o q'
  · by_cases hb : b = D
    · subst hb; exact ⟨_, hD⟩
    · have q' : B.H0 b = some o := by rw [← upd_ne (H := B.H0) (o := .lst xs) hb]; exact q
      exact r.al b o q'
  · by_cases hbD : b = D
    · subst hbD
      have q' : upd B.H0 b (.lst xs) b = some o := q
      rw [upd_same] at q'
      rw [← q']; exact hD
    · have q' : B.H0 b = some o := by rw [← upd_ne (H := B.H0) (o := .lst xs) hbD]; exact q
      exact r.kp b o q' hb
  · obtain ⟨o, q⟩ := r.op b hb
    exact ⟨o, by show upd B.H0 D _ b = _; rw [upd_ne (nD b o q)]; exact q⟩
  · obtain ⟨v, h1, h2⟩ := r.sl i o d e
    exact ⟨v, h1, rt h2 fun w z => fr i o d e w (z ▸ h1)⟩
theorem Rl.unhide {Hf : Hp} {D : Addr} {xs : List V} (r : Rl (B.hide D xs) Hf σ ε H tm) (h0 : B.H0 D = none) (hop : D ∉ B.OP) : Rl B Hf σ ε H tm ∧ H D = some (.lst xs) ∧ Hf D = B.F0 D ∧ Free σ ε (.ref D) := by
  have nD : ∀ b x, B.H0 b = some x → b ≠ D := fun b x q z => by subst z; rw [h0] at q; cases q
  have up : ∀ b x, B.H0 b = some x → (B.hide D xs).H0 b = some x := fun b x q => by
    show upd B.H0 D _ b = _
    rw [upd_ne (nD b x q)]; exact q
  have atD : (B.hide D xs).H0 D = some (.lst xs) := upd_same
  have rt : ∀ {v o d}, Rt (B.hide D xs) Hf H v o d → Rt B Hf H v o d ∧ (o.own = true → v ≠ .ref D) := fun {v o d} t => by
    cases o with
    | sh => exact ⟨t, (fun z => by cases z)⟩
    | top =>
      obtain ⟨a, e1, e2, e3, c⟩ := t
      have na : a ≠ D := fun z => by subst z; rw [atD] at e3; cases e3
      refine ⟨⟨a, e1, e2, ?_, c⟩, fun _ z => na (V.ref.inj (e1.symm.trans z))⟩
      have e3' : upd B.H0 D (.lst xs) a = none := e3
      rw [upd_ne na] at e3'
      exact e3'
    | par k =>
      obtain ⟨a, e1, e2, e3, c⟩ := t
      exact ⟨⟨a, e1, e2, e3, c⟩, fun _ z => hop (V.ref.inj (e1.symm.trans z) ▸ List.mem_of_getElem? e3)⟩
    | ex x => exact ⟨(by cases d <;> exact t), (fun z => by cases z)⟩
  refine ⟨⟨r.le, r.f0, fun b o q => r.fn b o (up b o q), fun b o q => r.al b o (up b o q), fun b o q hb => r.kp b o (up b o q) hb, fun b hb => ?_, r.ln, fun i o d e => ?_, r.dj, r.tm⟩, r.kp D _ atD hop, r.fn D _ atD, fun i o d e w s => ?_⟩
  · obtain ⟨o, q⟩ := r.op b hb
    have q' : upd B.H0 D (.lst xs) b = some o := q
    by_cases hbD : b = D
    · subst hbD; exact absurd hb hop
    · rw [upd_ne hbD] at q'; exact ⟨o, q'⟩
  · obtain ⟨v, h1, h2⟩ := r.sl i o d e
    exact ⟨v, h1, (rt h2).1⟩
  · obtain ⟨v, h1, h2⟩ := r.sl i o d e
    rw [s] at h1
    cases h1
    exact (rt h2).2 w rfl

def Res.noX {α : Type} : Res α → Res α
  | .ok a ε => .ok a ε
  | _ => .stuck
@[simp] theorem Res.noX_ok {α : Type} (a : α) (ε : Fe) : (Res.ok a ε).noX = .ok a ε := rfl
@[simp] theorem Res.noX_exc {α : Type} (x : Str) (ε : Fe) : (Res.exc (α := α) x ε).noX = .stuck := rfl
@[simp] theorem Res.noX_stuck {α : Type} : (Res.stuck (α := α)).noX = .stuck := rfl
def lcL (g : Tg) (t : Tv) (e : Ev) (vs : List Nat) : List PyData → Fe → List PyData → Res (List PyData)
  | [], ε, acc => .ok acc ε
  | d :: ds, ε, acc => match g .sh d ε with
    | none => .stuck
    | some ε1 => (t ε1).noX.bind fun b ε2 => if b = true then (e ε2).noX.bind fun p ε3 => if p.1.isEx then .stuck else if acc.length < sizeLine then lcL g t e vs ds (wpE ε3 vs) (acc ++ [p.2]) else .stuck
      else lcL g t e vs ds (wpE ε2 vs) acc
def eLc (fi : Fi) (g : Tg) (t : Tv) (e : Ev) (vs : List Nat) : Ev := fun ε => (fi ε).bind fun ds ε1 => (lcL g t e vs ds (wpE ε1 vs) []).bind fun acc ε2 => .ok (.top, .list acc) ε2
theorem wipe_in {k : Nat} : ∀ {vs : List Nat} {σ : St}, k ∈ vs → (L2.wipe σ vs)[k]? = if k < σ.length then some none else none
  | [], _, h => by cases h
  | j :: vs, σ, h => by
    unfold L2.wipe
    by_cases hj : j = k
    · subst hj
      rw [List.getElem?_set, wipe_length]
      simp only [if_true]
    · rw [List.getElem?_set_ne hj]
      exact wipe_in ((List.mem_cons.mp h).elim (fun z => absurd z.symm hj) id)
theorem wipe_set {i : Nat} {v : V} {vs : List Nat} (h : i ∈ vs) : L2.wipe (σ.set i (some v)) vs = L2.wipe σ vs := by
  refine List.ext_getElem? fun k => ?_
  by_cases hk : k ∈ vs
  · rw [wipe_in hk, wipe_in hk, List.length_set]
  · rw [wipe_out hk, wipe_out hk, List.getElem?_set_ne (show i ≠ k from fun z => hk (by rw [← z]; exact h))]
theorem wipe_idem (σ : St) (vs : List Nat) : L2.wipe (L2.wipe σ vs) vs = L2.wipe σ vs := by
  refine List.ext_getElem? fun k => ?_
  by_cases hk : k ∈ vs
  · rw [wipe_in hk, wipe_in hk, wipe_length]
  · rw [wipe_out hk]
/-- a target stores into the slots vs alone -/
def GIn (g : TG) (vs : List Nat) : Prop := ∀ v σ H (Q Q' : St → Hp → Prop), (∀ σ' H', L2.wipe σ' vs = L2.wipe σ vs → Q σ' H' → Q' σ' H') → g v σ H Q → g v σ H Q'
def GsIn (g : TGs) (vs : List Nat) : Prop := ∀ xs σ H (Q Q' : St → Hp → Prop), (∀ σ' H', L2.wipe σ' vs = L2.wipe σ vs → Q σ' H' → Q' σ' H') → g xs σ H Q → g xs σ H Q'
theorem gin_name {i : Nat} {vs : List Nat} (h : i ∈ vs := by decide) : GIn (gName i) vs := fun v σ H Q Q' k q => k _ _ (wipe_set h) q
theorem gsin_nil {vs : List Nat} : GsIn gNil vs := fun xs σ H Q Q' k q => ⟨q.1, k _ _ rfl q.2⟩
theorem gsin_cons {g : TG} {gs : TGs} {vs : List Nat} (h1 : GIn g vs) (h2 : GsIn gs vs) : GsIn (gCons g gs) vs := fun xs σ H Q Q' k q => by
  obtain ⟨v, r, e, q⟩ := q
  exact ⟨v, r, e, h1 v σ H _ _ (fun σ' H' w z => h2 r σ' H' _ _ (fun σ2 H2 w2 z2 => k σ2 H2 (w2.trans w) z2) z) q⟩
theorem gin_tup {K : PySem.W.Frag} {n : Nat} {gs : TGs} {vs : List Nat} (h : GsIn gs vs) : GIn (L2.gTup K n gs) vs := fun v σ H Q Q' k q => by
  obtain ⟨a, xs, e1, e2, e3, q⟩ := q
  exact ⟨a, xs, e1, e2, e3, h xs σ H _ _ k q⟩
theorem gin_lst {K : PySem.W.Frag} {n : Nat} {gs : TGs} {vs : List Nat} (h : GsIn gs vs) : GIn (L2.gLst K n gs) vs := fun v σ H Q Q' k q => by
  obtain ⟨a, xs, e1, e2, e3, q⟩ := q
  exact ⟨a, xs, e1, e2, e3, h xs σ H _ _ k q⟩
theorem Rl.sub {Hf : Hp} (r : Rl B Hf σ ε H tm) {σ' : St} {ε' : Fe} (hl : ε'.length = σ'.length) (h : ∀ (i : Nat) p, ε'[i]? = some (some p) → ε[i]? = some (some p) ∧ σ'[i]? = σ[i]?) : Rl B Hf σ' ε' H tm := by
  refine ⟨r.le, r.f0, r.fn, r.al, r.kp, r.op, hl, fun i o d e => ?_, fun i j v o d o' d' n e1 e2 w1 w2 s1 s2 => ?_, r.tm⟩
  · obtain ⟨e1, e2⟩ := h i _ e
    rw [e2]
    exact r.sl i o d e1
  · obtain ⟨a1, a2⟩ := h i _ e1
    obtain ⟨b1, b2⟩ := h j _ e2
    rw [a2] at s1
    rw [b2] at s2
    exact r.dj i j v o d o' d' n a1 b1 w1 w2 s1 s2
/-- an object that no one sees is written -/
theorem Rl.poke {Hf : Hp} (r : Rl B Hf σ ε H tm) {D : Addr} {u w : HO} (hD : H D = some w) (n : Hf D = none) (h0 : B.H0 D = none) (fr : Free σ ε (.ref D)) : Rl B Hf σ ε (upd H D u) tm := by
  have nD : ∀ b x, B.H0 b = some x → b ≠ D := fun b x q z => by subst z; rw [h0] at q; cases q
  refine ⟨fun b x q => ?_, r.f0, r.fn, fun b x q => ?_, fun b x q hb => ?_, r.op, r.ln, fun i o d e => ?_, r.dj, r.tm⟩
  · rw [upd_ne (ne_of_none q n)]
    exact r.le _ _ q
  · obtain ⟨y, z⟩ := r.al b x q
    exact ⟨y, by rw [upd_ne (nD b x q)]; exact z⟩
  · rw [upd_ne (nD b x q)]
    exact r.kp b x q hb
  · obtain ⟨v, h1, h2⟩ := r.sl i o d e
    refine ⟨v, h1, h2.mono (Same.refl _) (fun a w' ev => (h2.nof w' ev).1) fun a y w' ev q => ?_⟩
    have ha : a ≠ D := fun z => by
      subst z
      exact fr i o d e w' (ev ▸ h1)
    rw [upd_ne ha]
    exact q
theorem es_lc {wi : TI} {g : TG} {tt : TT} {te : TE} {fi : Fi} {gf : Tg} {t : Tv} {e : Ev} {vs : List Nat} (hi : IS M W wi fi) (hg : GS M g gf) (hin : GIn g vs) (ht : TSm M W0 tt t) (he : ES M W0 te e) :
    ES M W (tLc wi g tt te vs) (eLc fi gf t e vs) := fun B hB σ H ε tm Q R h => by
  subst hB
  refine hi B rfl σ H ε tm _ R ?_
  unfold eLc at h
  cases e1 : fi ε with
  | stuck => rw [e1] at h; exact h.elim
  | exc x ε1 => rw [e1] at h; exact h
  | ok ds ε1 =>
    rw [e1, Res.bind_ok] at h
    intro J H1 src R1 T D nD
    have h0 : B.H0 D = none := let ⟨_, r⟩ := R1; r.h0 nD
    have f0 : B.F0 D = none := let ⟨_, r⟩ := R1; r.f0.free (r.nof nD)
    have hop : D ∉ B.OP := fun hm => by
      obtain ⟨_, r⟩ := R1
      obtain ⟨o, q⟩ := r.op D hm
      rw [h0] at q; cases q
    -- the state between two turns
    let Iv : List PyData → Hp → Prop := fun ds' H => ∃ ε xs acc Hf, Rl B Hf (L2.wipe σ vs) (wpE ε vs) H (src ++ tm) ∧ H D = some (.lst xs) ∧ Hf D = none ∧ ShAll B.K Hf xs acc ∧ Free (L2.wipe σ vs) (wpE ε vs) (.ref D) ∧
      EPost B W σ tm Q ((lcL gf t e vs ds' (wpE ε vs) acc).bind fun acc ε2 => .ok (.top, .list acc) ε2)
    refine ⟨fun i m H => m = ds.length - i ∧ i ≤ ds.length ∧ Iv (ds.drop i) H, ⟨ds.length, by simp, Nat.zero_le _, ?_⟩, ?_⟩
    · obtain ⟨Hf, r⟩ := R1.wipe vs
      exact ⟨ε1, [], [], Hf, r.new nD, upd_same, r.nof nD, .nil, r.free nD, h⟩
    · rintro i m H2 ⟨rfl, hi2, ε2, xs, acc, Hf, r, hD, nf, sh, fr, hq⟩
      have hT := T B rfl i _ _ H2 _ ⟨Hf, r⟩ fun p hp => List.mem_append_left _ hp
      by_cases hlt : i < ds.length
      · obtain ⟨go, _⟩ := hT.1 ds[i] (List.getElem?_eq_getElem hlt)
        refine .inr ⟨go, Iv (ds.drop (i + 1)), fun H' q => ⟨ds.length - (i + 1), by omega, rfl, hlt, q⟩, fun x H' y => ?_⟩
        -- the list is hidden while the turn runs
        have rh := (r.hide hD h0 nf fr).pushAll (shAll_tm sh)
        have len := sh.length
        have hT2 := T (B.hide D xs) rfl i _ _ H2 _ ⟨Hf, rh⟩ fun p hp => List.mem_append_right _ (List.mem_append_left _ hp)
        obtain ⟨_, yl⟩ := hT2.1 ds[i] (List.getElem?_eq_getElem hlt)
        have ed : ds.drop i = ds[i] :: ds.drop (i + 1) := List.drop_eq_getElem_cons hlt
        rw [ed] at hq
        unfold lcL at hq
        cases e3 : gf .sh ds[i] (wpE ε2 vs) with
        | none => rw [e3] at hq; exact hq.elim
        | some ε3 =>
          rw [e3] at hq
          dsimp only at hq
          refine hin x (L2.wipe σ vs) H' (fun σ' H' => Rel (B.hide D xs) σ' ε3 H' (xs.zip acc ++ (src ++ tm))) _ (fun σ4 H4 hw R4 => ⟨hw.trans (wipe_idem σ vs), ?_⟩)
            (hg (B.hide D xs) rfl _ H' (wpE ε2 vs) _ x .sh ds[i] _ (yl x H' y).take (by rw [e3]; exact fun σ' H' q => q))
          -- what is known behind the turn
          have out : ∀ {ε5 : Fe} {H5 : Hp} {tm' : List (V × PyData)}, Rel (B.hide D xs) σ4 ε5 H5 (tm' ++ (xs.zip acc ++ (src ++ tm))) →
              ∃ Hf', Rl B Hf' (L2.wipe σ vs) (wpE ε5 vs) H5 (src ++ tm) ∧ H5 D = some (.lst xs) ∧ Hf' D = none ∧ ShAll B.K Hf' xs acc ∧ Free (L2.wipe σ vs) (wpE ε5 vs) (.ref D) ∧ ∀ p ∈ tm', Sh B.K Hf' p.1 p.2 := fun {ε5 H5 tm'} R5 => by
            obtain ⟨Hf', r5⟩ := R5.rewipe hw
            obtain ⟨r6, q1, q2, q3⟩ := r5.unhide h0 hop
            refine ⟨Hf', r6.drop fun p hp => List.mem_append_right _ (List.mem_append_right _ hp), q1, q2.trans f0, ?_, q3, fun p hp => r6.tm p (List.mem_append_left _ hp)⟩
            exact tm_shAll len fun p hp => r6.tm p (List.mem_append_right _ (List.mem_append_left _ hp))
          refine ht (B.hide D xs) rfl σ4 H4 ε3 _ _ R4 ?_
          cases e4 : t ε3 with
          | stuck => rw [e4] at hq; exact hq.elim
          | exc x ε4 => rw [e4] at hq; exact hq.elim
          | ok b ε4 =>
            rw [e4, Res.noX_ok, Res.bind_ok] at hq
            intro H5 R5
            cases b with
            | false =>
              rw [if_neg Bool.false_ne_true] at hq ⊢
              obtain ⟨Hf', a1, a2, a3, a4, a5, _⟩ := out (tm' := []) R5
              exact ⟨ε4, xs, acc, Hf', a1, a2, a3, a4, a5, hq⟩
            | true =>
              rw [if_pos rfl] at hq ⊢
              refine he (B.hide D xs) rfl σ4 H5 ε4 _ _ R5 ?_
              cases e5 : e ε4 with
              | stuck => rw [e5] at hq; exact hq.elim
              | exc x ε5 => rw [e5] at hq; exact hq.elim
              | ok p ε5 =>
                rw [e5, Res.noX_ok, Res.bind_ok] at hq
                intro z H6 R6
                by_cases hx : p.1.isEx = true
                · rw [if_pos hx] at hq; exact hq.elim
                · rw [if_neg hx] at hq
                  by_cases hz : acc.length < sizeLine
                  · rw [if_pos hz] at hq
                    obtain ⟨Hf', a1, a2, a3, a4, a5, a6⟩ := out (tm' := [(z, p.2)]) (R6.freeze (by simpa using hx))
                    refine ⟨xs, a2, by rw [len]; exact hz, ε5, xs ++ [z], acc ++ [p.2], Hf', a1.poke a2 a3 h0 a5, upd_same, a3, a4.append (.cons (a6 _ List.mem_cons_self) .nil), a5, hq⟩
                  · rw [if_neg hz] at hq; exact hq.elim
      · have ei : i = ds.length := by omega
        subst ei
        refine .inl ⟨hT.2 (Nat.le_refl _), ?_⟩
        rw [List.drop_length] at hq
        unfold lcL at hq
        rw [Res.bind_ok] at hq
        have back : ∀ (i : Nat) p, (wpE ε2 vs)[i]? = some (some p) → (wpE ε2 vs)[i]? = some (some p) ∧ σ[i]? = (L2.wipe σ vs)[i]? := fun i p q => ⟨q, (wipe_out (wpE_some q).2).symm⟩
        refine hq _ _ ⟨Hf, (r.drop fun p hp => List.mem_append_right _ hp).sub (by rw [r.ln, wipe_length]) back, ⟨D, rfl, nf, h0, xs, hD, sh⟩, fun _ j o d q w s => ?_, rfl⟩
        refine fr j o d q w ?_
        rw [← (back j _ q).2]
        exact s
def tYesF : Tv := fun ε => .ok true ε
theorem ts_yes : TSm M W tYes tYesF := fun B hB σ H ε tm Q R h => h _ R
end
end FS
/-! The functional layer, part 4: operations. -/
namespace FS
open PySem PySem.Spec PyProof.Rows L2 RZ

/-! ### lists of ints -/
def intsOf : List PyData → Option (List Int)
  | [] => some []
  | .int i :: ds => (intsOf ds).map (i :: ·)
  | _ => none
@[simp] theorem intsOf_map : ∀ ns : List Int, intsOf (ns.map PyData.int) = some ns
  | [] => rfl
  | n :: ns => by
    rw [List.map_cons]
    unfold intsOf
    rw [intsOf_map ns]
    rfl
theorem intsOf_eq : ∀ {ds : List PyData} {ns : List Int}, intsOf ds = some ns → ds = ns.map PyData.int
  | [], ns, h => by cases h; rfl
  | d :: ds, ns, h => by
    cases d with
    | int i =>
      unfold intsOf at h
      cases e : intsOf ds with
      | none => rw [e] at h; cases h
      | some ms =>
        rw [e] at h
        cases h
        rw [intsOf_eq e]
        rfl
    | none => cases h
    | bool _ => cases h
    | str _ => cases h
    | list _ => cases h
    | tuple _ => cases h
    | dict _ => cases h
def boolsOf : List PyData → Option (List Bool)
  | [] => some []
  | .bool i :: ds => (boolsOf ds).map (i :: ·)
  | _ => none
@[simp] theorem boolsOf_map : ∀ ns : List Bool, boolsOf (ns.map PyData.bool) = some ns
  | [] => rfl
  | n :: ns => by
    rw [List.map_cons]
    unfold boolsOf
    rw [boolsOf_map ns]
    rfl
theorem boolsOf_eq : ∀ {ds : List PyData} {ns : List Bool}, boolsOf ds = some ns → ds = ns.map PyData.bool
  | [], ns, h => by cases h; rfl
  | d :: ds, ns, h => by
    cases d with
    | bool i =>
      unfold boolsOf at h
      cases e : boolsOf ds with
      | none => rw [e] at h; cases h
      | some ms =>
        rw [e] at h
        cases h
        rw [boolsOf_eq e]
        rfl
    | none => cases h
    | int _ => cases h
    | str _ => cases h
    | list _ => cases h
    | tuple _ => cases h
    | dict _ => cases h

section
variable {M : Md} {B : Ent} {W : WX} {σ : St} {ε : Fe} {H : Hp} {tm : List (V × PyData)} {v : V} {o : Own} {d : PyData}
theorem GPost.ok {Hf : Hp} {Q : VK} {g : Option (Own × PyData)} (r : Rl B Hf σ ε H tm) (h : GPost B σ ε tm Q g) (e : g = some (.sh, d)) (s : Sh B.K Hf v d) : Q v H := by
  rw [e] at h
  exact h _ _ (r.flat1 s)
theorem Svs.one {K : PySem.W.Frag} {Hf : Hp} {vs : List V} (h : Svs K Hf H vs [d]) : ∃ x, vs = [x] ∧ Sv K Hf H x d := by
  cases h with
  | cons a b => cases b; exact ⟨_, rfl, a⟩
theorem Svs.two {K : PySem.W.Frag} {Hf : Hp} {vs : List V} {d e : PyData} (h : Svs K Hf H vs [d, e]) : ∃ x y, vs = [x, y] ∧ Sv K Hf H x d ∧ Sv K Hf H y e := by
  cases h with
  | cons a b =>
    obtain ⟨y, rfl, c⟩ := b.one
    exact ⟨_, _, rfl, a, c⟩
theorem Sv.int' {K : PySem.W.Frag} {Hf : Hp} {i : Int} (h : Sv K Hf H v (.int i)) : v = .int i := by cases h; rfl
theorem Sv.bl' {K : PySem.W.Frag} {Hf : Hp} {i : Bool} (h : Sv K Hf H v (.bool i)) : v = .bl i := by cases h; rfl
theorem Sv.str' {K : PySem.W.Frag} {Hf : Hp} {i : Str} (h : Sv K Hf H v (.str i)) : v = .str i := by cases h; rfl
theorem Sv.non' {K : PySem.W.Frag} {Hf : Hp} (h : Sv K Hf H v .none) : v = .non := by cases h; rfl
theorem Sv.lst' {K : PySem.W.Frag} {Hf : Hp} {ds : List PyData} (h : Sv K Hf H v (.list ds)) : ∃ a xs, v = .ref a ∧ H a = some (.lst xs) ∧ ShAll K Hf xs ds := by
  cases h with
  | lst e s => exact ⟨_, _, rfl, e, s⟩
theorem Sv.tup' {K : PySem.W.Frag} {Hf : Hp} {ds : List PyData} (h : Sv K Hf H v (.tuple ds)) : ∃ a xs, v = .ref a ∧ H a = some (.tup xs) ∧ ShAll K Hf xs ds := by
  cases h with
  | tup e s => exact ⟨_, _, rfl, e, s⟩

/-! ### arithmetic -/
/-- an operation upon two ints -/
def gI2 (C : Int → Int → Bool) (f : Int → Int → PyData) : G := fun ds => match ds with
  | [.int a, .int b] => if C a b = true then some (.sh, f a b) else none
  | _ => none
theorem pr_i2 {C : Int → Int → Bool} {P : Int → Int → Prop} {f : Int → Int → PyData} {k : Int → Int → V} (hC : ∀ a b, C a b = true → P a b) (hf : ∀ K H a b, Sh K H (k a b) (f a b)) : PR M (l2 (rI P k)) (gI2 C f) := fun B hB Hf σ ε H tm vs ds Q r s h => by
  unfold gI2 at h
  split at h
  · rename_i a b
    obtain ⟨x, y, rfl, s1, s2⟩ := s.two
    rw [s1.int', s2.int']
    by_cases hc : C a b = true
    · rw [if_pos hc] at h
      exact ⟨a, b, rfl, rfl, hC a b hc, h _ _ (r.flat1 (hf _ _ a b))⟩
    · rw [if_neg hc] at h; exact h.elim
  · exact h.elim
def gI0 (f : Int → Int → PyData) : G := fun ds => match ds with
  | [.int a, .int b] => some (.sh, f a b)
  | _ => none
@[simp] theorem gI0_int (f : Int → Int → PyData) (a b : Int) : gI0 f [.int a, .int b] = some (.sh, f a b) := rfl
theorem pr_i0 {f : Int → Int → PyData} {k : Int → Int → V} (hf : ∀ K H a b, Sh K H (k a b) (f a b)) : PR M (l2 (rI0 k)) (gI0 f) := fun B hB Hf σ ε H tm vs ds Q r s h => by
  unfold gI0 at h
  split at h
  · rename_i a b
    obtain ⟨x, y, rfl, s1, s2⟩ := s.two
    rw [s1.int', s2.int']
    exact ⟨a, b, rfl, rfl, h _ _ (r.flat1 (hf _ _ a b))⟩
  · exact h.elim
abbrev gSub : G := gI0 fun a b => .int (a - b)
theorem pr_sub : PR M (l2 (rI0 fun i j => .int (i - j))) gSub := pr_i0 fun _ _ _ _ => .int _
abbrev gLt : G := gI0 fun a b => .bool (decide (a < b))
abbrev gLe : G := gI0 fun a b => .bool (decide (a ≤ b))
abbrev gGt : G := gI0 fun a b => .bool (decide (b < a))
abbrev gGe : G := gI0 fun a b => .bool (decide (b ≤ a))
theorem pr_lt : PR M (l2 (rI0 fun i j => .bl (decide (i < j)))) gLt := pr_i0 fun _ _ _ _ => .bl _
theorem pr_le : PR M (l2 (rI0 fun i j => .bl (decide (i ≤ j)))) gLe := pr_i0 fun _ _ _ _ => .bl _
theorem pr_gt : PR M (l2 (rI0 fun i j => .bl (decide (j < i)))) gGt := pr_i0 fun _ _ _ _ => .bl _
theorem pr_ge : PR M (l2 (rI0 fun i j => .bl (decide (j ≤ i)))) gGe := pr_i0 fun _ _ _ _ => .bl _
def okMod (_ b : Int) : Bool := decide (0 < b)
def okDiv (_ b : Int) : Bool := decide (0 < b) && decide (b.natAbs.log2 < 9000)
def okPow (a b : Int) : Bool := decide (0 ≤ b) && decide ((Builtin.Int.intBits a : Int) * b ≤ 2 ^ 27)
def okMul (a b : Int) : Bool := decide ((Builtin.Int.intBits a : Int) + (Builtin.Int.intBits b : Int) ≤ 134217728)
abbrev gMod : G := gI2 okMod fun a b => .int (a % b)
abbrev gDiv : G := gI2 okDiv fun a b => .int (a / b)
abbrev gPow : G := gI2 okPow fun a b => .int (a ^ b.toNat)
theorem pr_mod : PR M (l2 (rI (fun _ j => 0 < j) fun i j => .int (i % j))) gMod := pr_i2 (fun _ _ h => of_decide_eq_true h) fun _ _ _ _ => .int _
theorem pr_div : PR M (l2 (rI CDivW fun i j => .int (i / j))) gDiv := pr_i2 (fun _ _ h => by
  unfold okDiv at h
  rw [Bool.and_eq_true, decide_eq_true_eq, decide_eq_true_eq] at h
  exact h) fun _ _ _ _ => .int _
def CPowW (i j : Int) : Prop := 0 ≤ j ∧ (Builtin.Int.intBits i : Int) * j ≤ 2 ^ 27
theorem op_powW {X : Cx} : OpR X (binaryOp .Pow) (rI CPowW fun i j => .int (i ^ j.toNat)) := opI fun _ _ _ _ _ _ _ hc q => pow_int hc.1 hc.2 q
theorem pr_pow : PR M (l2 (rI CPowW fun i j => .int (i ^ j.toNat))) gPow := pr_i2 (fun _ _ h => by
  unfold okPow at h
  rw [Bool.and_eq_true, decide_eq_true_eq, decide_eq_true_eq] at h
  exact h) fun _ _ _ _ => .int _

/-! + of ints, lists, texts, tuples -/
def rAddA (K : PySem.W.Frag) : R2 := fun x y H Q => (rI0 (fun i j => .int (i + j)) x y H Q ∨ rCat x y H Q) ∨ ((∃ i j, x = .str i ∧ y = .str j ∧ i.length + j.length ≤ sizeLine ∧ Q (.str (i ++ j)) H) ∨ rCatT K x y H Q)
theorem op_addA {X : Cx} : OpR X (binaryOp .Add) (rAddA X.K) := (op_add.or op_cat).or (op_add_str.or op_catT)
def gAdd : G := fun ds => match ds with
  | [.int a, .int b] => some (.sh, .int (a + b))
  | [.list a, .list b] => if a.length + b.length ≤ sizeLine then some (.top, .list (a ++ b)) else none
  | [.str a, .str b] => if a.length + b.length ≤ sizeLine then some (.sh, .str (a ++ b)) else none
  | [.tuple (a :: r), .tuple (b :: t)] => if (a :: r).length + (b :: t).length ≤ sizeLine then some (.sh, .tuple ((a :: r) ++ (b :: t))) else none
  | _ => none
@[simp] theorem gAdd_int (a b : Int) : gAdd [.int a, .int b] = some (.sh, .int (a + b)) := rfl
theorem pr_add : PR M (l2 (rAddA M.K)) gAdd := fun B hB Hf σ ε H tm vs ds Q r s h => by
  subst hB
  unfold gAdd at h
  split at h
  · rename_i a b
    obtain ⟨x, y, rfl, s1, s2⟩ := s.two
    rw [s1.int', s2.int']
    exact .inl (.inl ⟨a, b, rfl, rfl, h _ _ (r.flat1 (.int _))⟩)
  · rename_i a b
    obtain ⟨x, y, rfl, s1, s2⟩ := s.two
    obtain ⟨p, xs, rfl, e1, t1⟩ := s1.lst'
    obtain ⟨q, ys, rfl, e2, t2⟩ := s2.lst'
    split at h
    · rename_i hz
      exact .inl (.inr ⟨p, q, xs, ys, rfl, rfl, e1, e2, by rw [t1.length, t2.length]; exact hz, fun n hn => h _ _ (r.newTop hn (t1.append t2))⟩)
    · exact h.elim
  · rename_i a b
    obtain ⟨x, y, rfl, s1, s2⟩ := s.two
    rw [s1.str', s2.str']
    split at h
    · rename_i hz
      exact .inr (.inl ⟨a, b, rfl, rfl, hz, h _ _ (r.flat1 (.str _))⟩)
    · exact h.elim
  · rename_i a ra b rb
    obtain ⟨x, y, rfl, s1, s2⟩ := s.two
    obtain ⟨p, xs, rfl, e1, t1⟩ := s1.tup'
    obtain ⟨q, ys, rfl, e2, t2⟩ := s2.tup'
    split at h
    · rename_i hz
      refine .inr (.inr ⟨p, q, xs, ys, rfl, rfl, .of e1, .of e2, fun z => ?_, by rw [t1.length, t2.length]; exact hz, fun z => ?_, fun _ n hn => h _ _ (r.newTup hn (t1.append t2))⟩)
      · rw [z] at t1; cases t1
      · rw [z] at t2; cases t2
    · exact h.elim
  · exact h.elim
/-! * of ints, of a list and an int -/
def rMulA : R2 := fun x y H Q => rI CMulX (fun i j => .int (i * j)) x y H Q ∨ rRep x y H Q
theorem op_mulA {X : Cx} : OpR X (binaryOp .Mult) rMulA := op_mulX.or op_rep
def gMul : G := fun ds => match ds with
  | [.int a, .int b] => if okMul a b = true then some (.sh, .int (a * b)) else none
  | [.list a, .int k] => if -(2 ^ 63) ≤ k ∧ k < 2 ^ 63 ∧ a.length * k.toNat ≤ sizeLine then some (.top, .list (List.replicate k.toNat a).flatten) else none
  | _ => none
theorem pr_mul : PR M (l2 rMulA) gMul := fun B hB Hf σ ε H tm vs ds Q r s h => by
  subst hB
  unfold gMul at h
  split at h
  · rename_i a b
    obtain ⟨x, y, rfl, s1, s2⟩ := s.two
    rw [s1.int', s2.int']
    split at h
    · rename_i hz
      exact .inl ⟨a, b, rfl, rfl, (show (Builtin.Int.intBits a : Int) + (Builtin.Int.intBits b : Int) ≤ 134217728 from of_decide_eq_true hz), h _ _ (r.flat1 (.int _))⟩
    · exact h.elim
  · rename_i a k
    obtain ⟨x, y, rfl, s1, s2⟩ := s.two
    obtain ⟨p, xs, rfl, e1, t1⟩ := s1.lst'
    rw [s2.int']
    split at h
    · rename_i hz
      exact .inr ⟨p, k, xs, rfl, rfl, e1, hz.1, hz.2.1, by rw [t1.length]; exact hz.2.2, fun n hn => h _ _ (r.newTop hn (t1.rep k.toNat))⟩
    · exact h.elim
  · exact h.elim
def gNeg : G := fun ds => match ds with
  | [.int a] => some (.sh, .int (-a))
  | _ => none
@[simp] theorem gNeg_int (a : Int) : gNeg [.int a] = some (.sh, .int (-a)) := rfl
theorem pr_neg : PR M (l1 (rU fun i => .int (-i))) gNeg := fun B hB Hf σ ε H tm vs ds Q r s h => by
  unfold gNeg at h
  split at h
  · rename_i a
    obtain ⟨x, rfl, s1⟩ := s.one
    rw [s1.int']
    exact ⟨a, rfl, h _ _ (r.flat1 (.int _))⟩
  · exact h.elim

/-! ### == and != of data -/
mutual
theorem Sh.dp {K : PySem.W.Frag} {H : Hp} : ∀ {v : V} {d : PyData}, Sh K H v d → d.canLay0 = true → Dp K H v d
  | _, _, .non, _ => .non
  | _, _, .bl b, _ => .bl b
  | _, _, .int i, _ => .int i
  | _, _, .str x, _ => .str x
  | _, _, .lst h r, c => .lst (.of h) (ShAll.dp r (by simpa [PyData.canLay0] using c))
  | _, _, .tup h r, c => .tup (.of h) (ShAll.dp r (by simpa [PyData.canLay0] using c))
  | _, _, .dic _ _, c => by simp [PyData.canLay0] at c
  | _, _, .scr _, c => by simp [PyData.canLay0, scrD] at c
theorem ShAll.dp {K : PySem.W.Frag} {H : Hp} : ∀ {vs : List V} {ds : List PyData}, ShAll K H vs ds → PyData.canLayAll0 ds = true → DpAll K H vs ds
  | _, _, .nil, _ => .nil
  | _ :: _, d :: ds, .cons h r, c => by
    have c' : d.canLay0 = true ∧ PyData.canLayAll0 ds = true := by simpa [PyData.canLayAll0] using c
    exact .cons (Sh.dp h c'.1) (ShAll.dp r c'.2)
end
def isS : PyData → Bool
  | .str _ => true
  | _ => false
@[simp] theorem isS_str (x : Str) : isS (.str x) = true := rfl
@[simp] theorem isS_none : isS .none = false := rfl
@[simp] theorem isS_bool (b : Bool) : isS (.bool b) = false := rfl
@[simp] theorem isS_int (i : Int) : isS (.int i) = false := rfl
@[simp] theorem isS_list (ds : List PyData) : isS (.list ds) = false := rfl
@[simp] theorem isS_tuple (ds : List PyData) : isS (.tuple ds) = false := rfl
@[simp] theorem isS_dict (ds : List (PyData × PyData)) : isS (.dict ds) = false := rfl
def rEqB (K : PySem.W.Frag) : R2 := fun x y H Q => rEqD K x y H Q ∨ rEq x y H Q
def rNeB (K : PySem.W.Frag) : R2 := fun x y H Q => rNeD K x y H Q ∨ rNe x y H Q
theorem op_eqB {X : Cx} (hu : X.A.units + 64 < cLine) : OpR X (compareOp .Eq) (rEqB X.K) := (op_eqD hu).or op_eq
theorem op_neB {X : Cx} (hu : X.A.units + 64 < cLine) : OpR X (compareOp .NotEq) (rNeB X.K) := (op_neD hu).or op_ne
def gEq : G := fun ds => match ds with
  | [a, b] => if (isS a = true ∧ isS b = true) ∨ (SeqAt.shaped a = true ∧ SeqAt.shaped b = true) then some (.sh, .bool (PyData.eqv a b)) else none
  | _ => none
def gNe : G := fun ds => match ds with
  | [a, b] => if (isS a = true ∧ isS b = true) ∨ (SeqAt.shaped a = true ∧ SeqAt.shaped b = true) then some (.sh, .bool (!PyData.eqv a b)) else none
  | _ => none
theorem isS_shape {d : PyData} (h : isS d = true) : ∃ x, d = .str x := by cases d <;> first | exact ⟨_, rfl⟩ | cases h
theorem pr_eq : PR M (l2 (rEqB M.K)) gEq := fun B hB Hf σ ε H tm vs ds Q r s h => by
  subst hB
  unfold gEq at h
  split at h
  · rename_i a b
    obtain ⟨x, y, rfl, s1, s2⟩ := s.two
    split at h
    · rename_i hz
      rcases hz with ⟨h1, h2⟩ | hz
      · obtain ⟨p, rfl⟩ := isS_shape h1
        obtain ⟨q, rfl⟩ := isS_shape h2
        rw [s1.str', s2.str']
        refine .inr ⟨rfl, ?_⟩
        rw [dec_str]
        refine h _ _ ?_
        simp only [PyData.eqv]
        exact r.flat1 (.bl _)
      · exact .inl ⟨a, b, (s1.sh r.le).dp (SeqAt.canLay_of_shaped hz.1), (s2.sh r.le).dp (SeqAt.canLay_of_shaped hz.2), hz.1, hz.2, h _ _ (r.flat1 (.bl _))⟩
    · exact h.elim
  · exact h.elim
theorem pr_ne : PR M (l2 (rNeB M.K)) gNe := fun B hB Hf σ ε H tm vs ds Q r s h => by
  subst hB
  unfold gNe at h
  split at h
  · rename_i a b
    obtain ⟨x, y, rfl, s1, s2⟩ := s.two
    split at h
    · rename_i hz
      rcases hz with ⟨h1, h2⟩ | hz
      · obtain ⟨p, rfl⟩ := isS_shape h1
        obtain ⟨q, rfl⟩ := isS_shape h2
        rw [s1.str', s2.str']
        refine .inr ⟨rfl, ?_⟩
        rw [dec_str]
        refine h _ _ ?_
        simp only [PyData.eqv]
        exact r.flat1 (.bl _)
      · exact .inl ⟨a, b, (s1.sh r.le).dp (SeqAt.canLay_of_shaped hz.1), (s2.sh r.le).dp (SeqAt.canLay_of_shaped hz.2), hz.1, hz.2, h _ _ (r.flat1 (.bl _))⟩
    · exact h.elim
  · exact h.elim
/-! is None -/
def isN : PyData → Bool
  | .none => true
  | _ => false
theorem Sv.isN {K : PySem.W.Frag} {Hf : Hp} (h : Sv K Hf H v d) : decide (v = V.non) = FS.isN d := by
  cases h <;> first | rfl | exact decide_eq_false (fun z => by cases z)
def gIs : G := fun ds => match ds with
  | [a, .none] => some (.sh, .bool (isN a))
  | _ => none
def gIsNot : G := fun ds => match ds with
  | [a, .none] => some (.sh, .bool (!isN a))
  | _ => none
theorem pr_is : PR M (l2 fun x y H Q => y = .non ∧ Q (.bl (decide (x = .non))) H) gIs := fun B hB Hf σ ε H tm vs ds Q r s h => by
  unfold gIs at h
  split at h
  · rename_i a
    obtain ⟨x, y, rfl, s1, s2⟩ := s.two
    refine ⟨s2.non', ?_⟩
    rw [s1.isN]
    exact h _ _ (r.flat1 (.bl _))
  · exact h.elim
theorem pr_isnot : PR M (l2 fun x y H Q => y = .non ∧ Q (.bl (!decide (x = .non))) H) gIsNot := fun B hB Hf σ ε H tm vs ds Q r s h => by
  unfold gIsNot at h
  split at h
  · rename_i a
    obtain ⟨x, y, rfl, s1, s2⟩ := s.two
    refine ⟨s2.non', ?_⟩
    rw [s1.isN]
    exact h _ _ (r.flat1 (.bl _))
  · exact h.elim

theorem noKey {K : PySem.W.Frag} {Hf : Hp} {kv : List (Key × V)} {d : PyData} {ds : List (PyData × PyData)} (h : ShKv K Hf kv ((.none, d) :: ds)) : False := by
  generalize e : ((PyData.none, d) :: ds) = l at h
  cases h with
  | nil => cases e
  | cons a b =>
    rename_i k _ _ _ _
    have e1 := congrArg (fun l : List (PyData × PyData) => l.head?.map (·.1)) e
    cases k <;> simp [kD] at e1
/-! ### items and slices -/
theorem ShAll.atI {K : PySem.W.Frag} {Hf : Hp} {vs : List V} {ds : List PyData} {i : Int} {d : PyData} (s : ShAll K Hf vs ds) (h : L2.atI ds i = some d) : ∃ v, L2.atI vs i = some v ∧ Sh K Hf v d := by
  unfold L2.atI at h ⊢
  rw [s.length]
  cases e : ixN ds.length i with
  | none => rw [e] at h; cases h
  | some j =>
    rw [e] at h
    obtain ⟨v, e1, e2⟩ := s.get h
    exact ⟨v, e1, e2⟩
def gIdx : G := fun ds => match ds with
  | [.list a, .int i] => (L2.atI a i).map fun d => (.sh, d)
  | [.tuple a, .int i] => (L2.atI a i).map fun d => (.sh, d)
  | [.str z, .int i] => if z.length ≤ sizeLine then (L2.atI z.cps.toList i).map fun c => (.sh, .str ⟨#[c]⟩) else none
  | [.dict [(.none, .list a)], .int i] => match intsOf a with
    | some ns => (L2.atI ns i).map fun n => (.sh, .int n)
    | none => none
  | _ => none
theorem atI_map {α β : Type} {f : α → β} {xs : List α} {i : Int} {x : α} (h : L2.atI xs i = some x) : L2.atI (xs.map f) i = some (f x) := by
  unfold L2.atI at h ⊢
  rw [List.length_map]
  cases e : ixN xs.length i with
  | none => rw [e] at h; cases h
  | some j =>
    rw [e] at h
    show (xs.map f)[j]? = some (f x)
    rw [List.getElem?_map]
    have h' : xs[j]? = some x := h
    rw [h']
    rfl
theorem pr_idx : PR M (l2 (rIx M.K)) gIdx := fun B hB Hf σ ε H tm vs ds Q r s h => by
  subst hB
  unfold gIdx at h
  split at h
  · rename_i a i
    obtain ⟨x, y, rfl, s1, s2⟩ := s.two
    obtain ⟨p, xs, rfl, e1, t1⟩ := s1.lst'
    rw [s2.int']
    cases e : L2.atI a i with
    | none => rw [e] at h; exact h.elim
    | some d =>
      rw [e] at h
      obtain ⟨w, h1, h2⟩ := t1.atI e
      exact .inl ⟨p, xs, i, w, rfl, rfl, .of e1, h1, h _ _ (r.flat1 h2)⟩
  · rename_i a i
    obtain ⟨x, y, rfl, s1, s2⟩ := s.two
    obtain ⟨p, xs, rfl, e1, t1⟩ := s1.tup'
    rw [s2.int']
    cases e : L2.atI a i with
    | none => rw [e] at h; exact h.elim
    | some d =>
      rw [e] at h
      obtain ⟨w, h1, h2⟩ := t1.atI e
      exact .inr (.inl ⟨p, xs, i, w, rfl, rfl, .of e1, h1, h _ _ (r.flat1 h2)⟩)
  · rename_i z i
    obtain ⟨x, y, rfl, s1, s2⟩ := s.two
    rw [s1.str', s2.int']
    split at h
    · rename_i hz
      cases e : L2.atI z.cps.toList i with
      | none => rw [e] at h; exact h.elim
      | some c =>
        rw [e] at h
        exact .inr (.inr ⟨z, i, c, rfl, rfl, hz, e, h _ _ (r.flat1 (.str _))⟩)
    · exact h.elim
  · rename_i a i
    obtain ⟨x, y, rfl, s1, s2⟩ := s.two
    rw [s2.int']
    split at h
    · rename_i ns en
      cases e : L2.atI ns i with
      | none => rw [e] at h; exact h.elim
      | some n =>
        rw [e] at h
        have ea := intsOf_eq en
        subst ea
        generalize ed : PyData.dict [(PyData.none, PyData.list (ns.map PyData.int))] = dd at s1
        cases s1 with
        | dic e1 t1 =>
          cases ed
          exact (noKey t1).elim
        | scr e1 =>
          rename_i p ms
          have em : ms = ns := by
            unfold scrD at ed
            injection ed with ed
            injection ed with ed _
            injection ed with _ ed
            injection ed with ed
            have := congrArg intsOf ed
            rw [intsOf_map, intsOf_map] at this
            exact (Option.some.inj this).symm
          subst em
          exact .inl ⟨p, _, i, .int n, rfl, rfl, e1, atI_map e, h _ _ (r.flat1 (.int _))⟩
        | non => cases ed
        | bl _ => cases ed
        | int _ => cases ed
        | str _ => cases ed
        | lst _ _ => cases ed
        | tup _ _ => cases ed
    · exact h.elim
  · exact h.elim
end
end FS
/-! The functional layer, part 5: built-ins, slices, membership, chains, isinstance, lists that are written. -/
namespace FS
open PySem PySem.Spec PyProof.Rows L2 RZ

def rev1 (r : List V → Hp → VK → Prop) : V → Hp → VK → Prop := fun x H Q => r [x] H Q
/-- the greatest, the least, the sorted list -/
def maxI : List Int → Int
  | [] => 0
  | [a] => a
  | a :: b :: r => max a (maxI (b :: r))
def minI : List Int → Int
  | [] => 0
  | [a] => a
  | a :: b :: r => min a (minI (b :: r))
theorem maxI_mem : ∀ {l : List Int}, l ≠ [] → maxI l ∈ l ∧ ∀ y ∈ l, y ≤ maxI l
  | [], h => absurd rfl h
  | [a], _ => ⟨List.mem_cons_self, fun y hy => by rw [List.mem_singleton.mp hy]; exact Int.le_refl _⟩
  | a :: b :: r, _ => by
    obtain ⟨h1, h2⟩ := maxI_mem (l := b :: r) (by simp)
    show max a (maxI (b :: r)) ∈ _ ∧ _
    refine ⟨?_, fun y hy => ?_⟩
    · rcases Int.le_total a (maxI (b :: r)) with h | h
      · rw [Int.max_eq_right h]; exact List.mem_cons_of_mem _ h1
      · rw [Int.max_eq_left h]; exact List.mem_cons_self
    · show y ≤ max a (maxI (b :: r))
      rcases List.mem_cons.mp hy with e | hy
      · rw [e]; exact Int.le_max_left _ _
      · exact Int.le_trans (h2 y hy) (Int.le_max_right _ _)
theorem minI_mem : ∀ {l : List Int}, l ≠ [] → minI l ∈ l ∧ ∀ y ∈ l, minI l ≤ y
  | [], h => absurd rfl h
  | [a], _ => ⟨List.mem_cons_self, fun y hy => by rw [List.mem_singleton.mp hy]; exact Int.le_refl _⟩
  | a :: b :: r, _ => by
    obtain ⟨h1, h2⟩ := minI_mem (l := b :: r) (by simp)
    show min a (minI (b :: r)) ∈ _ ∧ _
    refine ⟨?_, fun y hy => ?_⟩
    · rcases Int.le_total a (minI (b :: r)) with h | h
      · rw [Int.min_eq_left h]; exact List.mem_cons_self
      · rw [Int.min_eq_right h]; exact List.mem_cons_of_mem _ h1
    · show min a (minI (b :: r)) ≤ y
      rcases List.mem_cons.mp hy with e | hy
      · rw [e]; exact Int.min_le_left _ _
      · exact Int.le_trans (Int.min_le_right _ _) (h2 y hy)
def sortI (l : List Int) : List Int := l.mergeSort (fun a b => decide (a ≤ b))
theorem sortI_perm (l : List Int) : (sortI l).Perm l := List.mergeSort_perm _ _
theorem sortI_sorted (l : List Int) : (sortI l).Pairwise (· ≤ ·) := by
  have h := List.pairwise_mergeSort (le := fun a b : Int => decide (a ≤ b)) (fun a b c h1 h2 => by
    have := of_decide_eq_true h1; have := of_decide_eq_true h2; exact decide_eq_true (by omega)) (fun a b => by
    by_cases h : a ≤ b
    · rw [decide_eq_true h]; rfl
    · rw [decide_eq_true (show b ≤ a by omega)]; simp) l
  exact h.imp fun q => of_decide_eq_true q
theorem sorted_unique {l l' : List Int} (h : l.Perm l') (h1 : l.Pairwise (· ≤ ·)) (h2 : l'.Pairwise (· ≤ ·)) : l = l' :=
  h.eq_of_pairwise (fun a b _ _ x y => Int.le_antisymm x y) h1 h2
theorem sorted_unique' {l l' : List Int} (h : l.Perm l') (h1 : l.Pairwise (· ≥ ·)) (h2 : l'.Pairwise (· ≥ ·)) : l = l' :=
  h.eq_of_pairwise (fun a b _ _ x y => Int.le_antisymm y x) h1 h2
def sortR (l : List Int) : List Int := (sortI l).reverse
theorem sortR_perm (l : List Int) : (sortR l).Perm l := (List.reverse_perm _).trans (sortI_perm l)
theorem sortR_sorted (l : List Int) : (sortR l).Pairwise (· ≥ ·) := List.pairwise_reverse.mpr (sortI_sorted l)

section
variable {M : Md} {B : Ent} {W : WX} {σ : St} {ε : Fe} {H : Hp} {tm : List (V × PyData)} {v : V} {o : Own} {d : PyData}

/-! ### built-ins by name -/
def gAbs : G := fun ds => match ds with
  | [.int a] => some (.sh, .int (if a < 0 then -a else a))
  | _ => none
@[simp] theorem gAbs_int (a : Int) : gAbs [.int a] = some (.sh, .int (if a < 0 then -a else a)) := rfl
theorem pr_abs : PR M (fun xs H Q => ∃ i, xs = [.int i] ∧ Q (.int (if i < 0 then -i else i)) H) gAbs := fun B hB Hf σ ε H tm vs ds Q r s h => by
  unfold gAbs at h
  split at h
  · rename_i a
    obtain ⟨x, rfl, s1⟩ := s.one
    rw [s1.int']
    exact ⟨a, rfl, h _ _ (r.flat1 (.int _))⟩
  · exact h.elim
abbrev gMax2 : G := gI0 fun i j => .int (if j > i then j else i)
abbrev gMin2 : G := gI0 fun i j => .int (if j < i then j else i)
theorem pr_c2 {k : Int → Int → V} {f : Int → Int → PyData} (hf : ∀ K H a b, Sh K H (k a b) (f a b)) : PR M (fun xs H Q => ∃ i j, xs = [.int i, .int j] ∧ Q (k i j) H) (gI0 f) := fun B hB Hf σ ε H tm vs ds Q r s h => by
  unfold gI0 at h
  split at h
  · rename_i a b
    obtain ⟨x, y, rfl, s1, s2⟩ := s.two
    rw [s1.int', s2.int']
    exact ⟨a, b, rfl, h _ _ (r.flat1 (hf _ _ a b))⟩
  · exact h.elim
theorem pr_max2 : PR M (fun xs H Q => ∃ i j, xs = [.int i, .int j] ∧ Q (.int (if j > i then j else i)) H) gMax2 := pr_c2 fun _ _ _ _ => .int _
theorem pr_min2 : PR M (fun xs H Q => ∃ i j, xs = [.int i, .int j] ∧ Q (.int (if j < i then j else i)) H) gMin2 := pr_c2 fun _ _ _ _ => .int _
/-- of a list of ints -/
def gInts (f : List Int → Option (Own × PyData)) : G := fun ds => match ds with
  | [.list a] => match intsOf a with
    | some ns => f ns
    | none => none
  | _ => none
@[simp] theorem gInts_map (f : List Int → Option (Own × PyData)) (ns : List Int) : gInts f [.list (ns.map PyData.int)] = f ns := by
  unfold gInts
  simp only [intsOf_map]
abbrev gSum : G := gInts fun ns => some (.sh, .int ns.sum)
abbrev gMaxL : G := gInts fun ns => if ns = [] then none else some (.sh, .int (maxI ns))
abbrev gMinL : G := gInts fun ns => if ns = [] then none else some (.sh, .int (minI ns))
abbrev gSorted : G := gInts fun ns => some (.top, .list ((sortI ns).map PyData.int))
abbrev gSortedR : G := gInts fun ns => some (.top, .list ((sortR ns).map PyData.int))
theorem pr_ints {r : List V → Hp → VK → Prop} {f : List Int → Option (Own × PyData)} (hr : ∀ B : Ent, B.M = M → ∀ Hf σ ε H tm (a : Addr) (ns : List Int) Q, Rl B Hf σ ε H tm → H a = some (.lst (ns.map V.int)) → GPost B σ ε tm Q (f ns) → r [.ref a] H Q) : PR M r (gInts f) := fun B hB Hf σ ε H tm vs ds Q rl s h => by
  unfold gInts at h
  split at h
  · rename_i a
    obtain ⟨x, rfl, s1⟩ := s.one
    obtain ⟨p, xs, rfl, e1, t1⟩ := s1.lst'
    split at h
    · rename_i ns en
      have ea := intsOf_eq en
      subst ea
      have ex := shAll_ints t1
      subst ex
      exact hr B hB Hf σ ε H tm p ns Q rl e1 h
    · exact h.elim
  · exact h.elim
theorem pr_sum : PR M (rSum M.K) gSum := pr_ints fun B hB Hf σ ε H tm a ns Q r e h => ⟨a, ns, rfl, .of e, h _ _ (r.flat1 (.int _))⟩
theorem pr_maxL : PR M (rMax M.K) gMaxL := pr_ints fun B hB Hf σ ε H tm a ns Q r e h => by
  split at h
  · exact h.elim
  · rename_i hne
    obtain ⟨m1, m2⟩ := maxI_mem hne
    refine ⟨a, ns, rfl, .of e, List.length_pos_iff.mpr hne, fun m hm hle => ?_⟩
    have : m = maxI ns := Int.le_antisymm (m2 m hm) (hle _ m1)
    rw [this]
    exact h _ _ (r.flat1 (.int _))
theorem pr_minL : PR M (rMin M.K) gMinL := pr_ints fun B hB Hf σ ε H tm a ns Q r e h => by
  split at h
  · exact h.elim
  · rename_i hne
    obtain ⟨m1, m2⟩ := minI_mem hne
    refine ⟨a, ns, rfl, .of e, List.length_pos_iff.mpr hne, fun m hm hle => ?_⟩
    have : m = minI ns := Int.le_antisymm (hle _ m1) (m2 m hm)
    rw [this]
    exact h _ _ (r.flat1 (.int _))
theorem pr_sorted : PR M (rSortedI M.K) gSorted := pr_ints fun B hB Hf σ ε H tm a ns Q r e h => by
  refine ⟨a, ns, rfl, .of e, fun ns' p hp hs n => ?_⟩
  have : ns' = sortI ns := sorted_unique (hp.trans (sortI_perm ns).symm) hs (sortI_sorted ns)
  subst this
  exact h _ _ (r.newTop n (shAll_of_ints _))
/-- sorted(xs, reverse=True) -/
theorem pr_sortedR : PR M (fun vs H Q => rSortedKw M.K true [.bl true] vs [.bl true] H Q) gSortedR := pr_ints fun B hB Hf σ ε H tm a ns Q r e h => by
  refine ⟨a, ns, rfl, rfl, .of e, fun ns' p hp hs n => ?_⟩
  have hs' : ns'.Pairwise (· ≥ ·) := hs
  have : ns' = sortR ns := sorted_unique' (hp.trans (sortR_perm ns).symm) hs' (sortR_sorted ns)
  subst this
  exact h _ _ (r.newTop n (shAll_of_ints _))
theorem es_sortedR {te : TE} {a : Arg} (hl : LS M W (tCons te tNil) [a]) : ES M W (tCKw (rSortedKw M.K true [.bl true]) (tCons te tNil) (tCons (tC (.bl true)) tNil)) (eOp gSortedR [a]) :=
  fun B hB σ H ε tm Q R h => es_op (r := fun vs H Q => rSortedKw M.K true [.bl true] vs [.bl true] H Q) hl pr_sortedR B hB σ H ε tm Q R h
/-- all, any of a list of truths -/
def gBools (f : List Bool → PyData) : G := fun ds => match ds with
  | [.list a] => match boolsOf a with
    | some ns => some (.sh, f ns)
    | none => none
  | _ => none
@[simp] theorem gBools_map (f : List Bool → PyData) (ns : List Bool) : gBools f [.list (ns.map PyData.bool)] = some (.sh, f ns) := by
  unfold gBools
  simp only [boolsOf_map]
abbrev gAll : G := gBools fun bs => .bool (bs.all id)
abbrev gAny : G := gBools fun bs => .bool (bs.any id)
theorem pr_all : PR M (rAll M.K) gAll := fun B hB Hf σ ε H tm vs ds Q r s h => by
  unfold gAll gBools at h
  split at h
  · obtain ⟨x, rfl, s1⟩ := s.one
    obtain ⟨p, xs, rfl, e1, t1⟩ := s1.lst'
    split at h
    · rename_i bs en
      have ea := boolsOf_eq en
      subst ea
      have ex := shAll_bools t1
      subst ex
      exact ⟨p, bs, rfl, .of e1, h _ _ (r.flat1 (.bl _))⟩
    · exact h.elim
  · exact h.elim
theorem pr_any : PR M (rAny M.K) gAny := fun B hB Hf σ ε H tm vs ds Q r s h => by
  unfold gAny gBools at h
  split at h
  · obtain ⟨x, rfl, s1⟩ := s.one
    obtain ⟨p, xs, rfl, e1, t1⟩ := s1.lst'
    split at h
    · rename_i bs en
      have ea := boolsOf_eq en
      subst ea
      have ex := shAll_bools t1
      subst ex
      exact ⟨p, bs, rfl, .of e1, h _ _ (r.flat1 (.bl _))⟩
    · exact h.elim
  · exact h.elim
theorem Sv.scr' {K : PySem.W.Frag} {Hf : Hp} {a : List PyData} {ns : List Int} (en : intsOf a = some ns) (h : Sv K Hf H v (.dict [(.none, .list a)])) : ∃ p, v = .ref p ∧ SqL K H p (ns.map V.int) := by
  have ea := intsOf_eq en
  subst ea
  generalize ed : PyData.dict [(PyData.none, PyData.list (ns.map PyData.int))] = dd at h
  cases h with
  | dic e1 t1 =>
    cases ed
    exact (noKey t1).elim
  | scr e1 =>
    rename_i p ms
    have em : ms = ns := by
      unfold scrD at ed
      injection ed with ed
      injection ed with ed _
      injection ed with _ ed
      injection ed with ed
      have := congrArg intsOf ed
      rw [intsOf_map, intsOf_map] at this
      exact (Option.some.inj this).symm
    subst em
    exact ⟨p, rfl, e1⟩
  | non => cases ed
  | bl _ => cases ed
  | int _ => cases ed
  | str _ => cases ed
  | lst _ _ => cases ed
  | tup _ _ => cases ed
def gLen : G := fun ds => match ds with
  | [.list a] => some (.sh, .int a.length)
  | [.tuple a] => some (.sh, .int a.length)
  | [.str z] => if z.length ≤ sizeLine then some (.sh, .int z.length) else none
  | [.dict [(.none, .list a)]] => match intsOf a with
    | some ns => some (.sh, .int ns.length)
    | none => none
  | _ => none
@[simp] theorem gLen_list (a : List PyData) : gLen [.list a] = some (.sh, .int a.length) := rfl
@[simp] theorem gLen_tuple (a : List PyData) : gLen [.tuple a] = some (.sh, .int a.length) := rfl
@[simp] theorem gLen_scr (ns : List Int) : gLen [scrD ns] = some (.sh, .int ns.length) := by
  unfold gLen scrD
  simp only [intsOf_map]
theorem pr_len : PR M (fun xs H Q => ∃ x n, xs = [x] ∧ LenV M.K x H n ∧ Q (.int n) H) gLen := fun B hB Hf σ ε H tm vs ds Q r s h => by
  subst hB
  unfold gLen at h
  split at h
  · obtain ⟨x, rfl, s1⟩ := s.one
    obtain ⟨p, xs, rfl, e1, t1⟩ := s1.lst'
    exact ⟨_, _, rfl, .inl ⟨xs, .of e1, t1.length.symm⟩, h _ _ (r.flat1 (.int _))⟩
  · obtain ⟨x, rfl, s1⟩ := s.one
    obtain ⟨p, xs, rfl, e1, t1⟩ := s1.tup'
    exact ⟨_, _, rfl, .inr ⟨xs, .of e1, t1.length.symm⟩, h _ _ (r.flat1 (.int _))⟩
  · obtain ⟨x, rfl, s1⟩ := s.one
    rw [s1.str']
    split at h
    · rename_i hz
      exact ⟨_, _, rfl, ⟨hz, rfl⟩, h _ _ (r.flat1 (.int _))⟩
    · exact h.elim
  · obtain ⟨x, rfl, s1⟩ := s.one
    split at h
    · rename_i ns en
      obtain ⟨p, rfl, e⟩ := s1.scr' en
      exact ⟨_, _, rfl, .inl ⟨_, e, by rw [List.length_map]⟩, h _ _ (r.flat1 (.int _))⟩
    · exact h.elim
  · exact h.elim
def gListOf : G := fun ds => match ds with
  | [.list a] => some (.top, .list a)
  | [.tuple a] => some (.top, .list a)
  | _ => none
theorem pr_listOf : PR M (fun xs H Q => ∃ p ys, xs = [.ref p] ∧ (SqL M.K H p ys ∨ SqT M.K H p ys) ∧ ∀ l, H l = none → Q (.ref l) (upd H l (.lst ys))) gListOf := fun B hB Hf σ ε H tm vs ds Q r s h => by
  subst hB
  unfold gListOf at h
  split at h
  · obtain ⟨x, rfl, s1⟩ := s.one
    obtain ⟨p, xs, rfl, e1, t1⟩ := s1.lst'
    exact ⟨p, xs, rfl, .inl (.of e1), fun l n => h _ _ (r.newTop n t1)⟩
  · obtain ⟨x, rfl, s1⟩ := s.one
    obtain ⟨p, xs, rfl, e1, t1⟩ := s1.tup'
    exact ⟨p, xs, rfl, .inr (.of e1), fun l n => h _ _ (r.newTop n t1)⟩
  · exact h.elim
def gTupleOf : G := fun ds => match ds with
  | [.list a] => some (.sh, .tuple a)
  | _ => none
theorem pr_tupleOf : PR M (fun xs H Q => ∃ p ys, xs = [.ref p] ∧ ((SqL M.K H p ys ∧ ∀ l, H l = none → Q (.ref l) (upd H l (.tup ys))) ∨ (SqT M.K H p ys ∧ Q (.ref p) H))) gTupleOf := fun B hB Hf σ ε H tm vs ds Q r s h => by
  subst hB
  unfold gTupleOf at h
  split at h
  · obtain ⟨x, rfl, s1⟩ := s.one
    obtain ⟨p, xs, rfl, e1, t1⟩ := s1.lst'
    exact ⟨p, xs, rfl, .inl ⟨.of e1, fun l n => h _ _ (r.newTup n t1)⟩⟩
  · exact h.elim
def gInt1 : G := fun ds => match ds with
  | [.int a] => some (.sh, .int a)
  | [.bool a] => some (.sh, .int (if a then 1 else 0))
  | _ => none
@[simp] theorem gInt1_bool (a : Bool) : gInt1 [.bool a] = some (.sh, .int (if a then 1 else 0)) := rfl
theorem pr_int1 : PR M (fun xs H Q => (∃ i, xs = [.int i] ∧ Q (.int i) H) ∨ ∃ k, xs = [.bl k] ∧ Q (.int (if k then 1 else 0)) H) gInt1 := fun B hB Hf σ ε H tm vs ds Q r s h => by
  unfold gInt1 at h
  split at h
  · obtain ⟨x, rfl, s1⟩ := s.one
    rw [s1.int']
    exact .inl ⟨_, rfl, h _ _ (r.flat1 (.int _))⟩
  · obtain ⟨x, rfl, s1⟩ := s.one
    rw [s1.bl']
    exact .inr ⟨_, rfl, h _ _ (r.flat1 (.int _))⟩
  · exact h.elim

/-! ### slices -/
def POS (M : Md) (W : WX) (to : TO) (fo : Fe → Res (Option Int)) : Prop := ∀ B : Ent, B.M = M → ∀ σ H ε tm (Q : Option Int → Hp → Prop), Rel B σ ε H tm →
  (match fo ε with
    | .ok i ε' => ∀ H', Rel B σ ε' H' tm → Q i H'
    | .exc x ε' => XP B W σ tm x ε'
    | .stuck => False) → to σ H Q
def oNo : Fe → Res (Option Int) := fun ε => .ok none ε
def oSome (f : Ev) : Fe → Res (Option Int) := fun ε => (f ε).bind fun p ε' => match p.2 with
  | .int i => if p.1.isEx then .stuck else .ok (some i) ε'
  | _ => .stuck
theorem pos_no : POS M W tNoPart oNo := fun B hB σ H ε tm Q R h => h _ R
theorem pos_some {te : TE} {f : Ev} (he : ES M W te f) : POS M W (tPart te) (oSome f) := fun B hB σ H ε tm Q R h => by
  refine he B hB σ H ε tm _ R ?_
  unfold oSome at h
  cases e : f ε with
  | stuck => rw [e] at h; exact h.elim
  | exc x ε1 => rw [e] at h; exact h
  | ok p ε1 =>
    rw [e, Res.bind_ok] at h
    obtain ⟨o, d⟩ := p
    intro v H1 R1
    cases d with
    | int i =>
      dsimp only at h R1
      by_cases hx : o.isEx = true
      · rw [if_pos hx] at h; exact h.elim
      · rw [if_neg hx] at h
        obtain ⟨Hf, r, t, _⟩ := R1.sh (by simpa using hx)
        cases (show Sh B.K Hf v (.int i) from t)
        exact ⟨i, rfl, h _ ⟨Hf, r⟩⟩
    | none => exact h.elim
    | bool _ => exact h.elim
    | str _ => exact h.elim
    | list _ => exact h.elim
    | tuple _ => exact h.elim
    | dict _ => exact h.elim
def cutD (xs : List PyData) (lo hi : Option Int) : List PyData := (xs.drop (HT.sIx xs.length 0 lo)).take (HT.sIx xs.length xs.length hi - HT.sIx xs.length 0 lo)
def dSl (d : PyData) (lo hi : Option Int) : Option (Own × PyData) := match d with
  | .list a => some (.top, .list (cutD a lo hi))
  | .str z => if z.length ≤ sizeLine then some (.sh, .str (cutS z lo hi)) else none
  | .tuple a => if ¬ (HT.sIx a.length 0 lo = 0 ∧ HT.sIx a.length a.length hi = a.length) then some (.sh, .tuple (cutD a lo hi)) else none
  | _ => none
def eSl (f : Ev) (lo hi : Fe → Res (Option Int)) : Ev := fun ε => (f ε).bind fun p ε1 => if p.1.isEx then .stuck else (lo ε1).bind fun l ε2 => (hi ε2).bind fun u ε3 => match dSl p.2 l u with
  | some q => .ok q ε3
  | none => .stuck
def rSlA (K : PySem.W.Frag) : V → Option Int → Option Int → Hp → VK → Prop := fun x lo hi H Q => rSlL K x lo hi H Q ∨ (rSlS x lo hi H Q ∨ rSlT K x lo hi H Q)
theorem sl_any {X : Cx} : SlR X (rSlA X.K) := sl_list.or (sl_str.or sl_tup)
theorem ShAll.cut {K : PySem.W.Frag} {Hf : Hp} {xs : List V} {ds : List PyData} (h : ShAll K Hf xs ds) (lo hi : Option Int) : ShAll K Hf (cutV xs lo hi) (cutD ds lo hi) := by
  unfold cutV cutD
  rw [h.length]
  exact (h.drop _).take _
theorem es_sl {te : TE} {tl th : TO} {f : Ev} {lo hi : Fe → Res (Option Int)} (he : ES M W te f) (hl : POS M W tl lo) (hh : POS M W th hi) : ES M W (tSl (rSlA M.K) te tl th) (eSl f lo hi) := fun B hB σ H ε tm Q R h => by
  subst hB
  refine he B rfl σ H ε tm _ R ?_
  unfold eSl at h
  cases e : f ε with
  | stuck => rw [e] at h; exact h.elim
  | exc x ε1 => rw [e] at h; exact h
  | ok p ε1 =>
    rw [e, Res.bind_ok] at h
    intro v H1 R1
    by_cases hx : p.1.isEx = true
    · rw [if_pos hx] at h; exact h.elim
    · rw [if_neg hx] at h
      have R2 := R1.freeze (by simpa using hx)
      refine hl B rfl σ H1 ε1 _ _ R2 ?_
      cases e2 : lo ε1 with
      | stuck => rw [e2] at h; exact h.elim
      | exc x ε2 => rw [e2] at h; exact XP.drop (fun q hq => List.mem_cons_of_mem _ hq) h
      | ok l ε2 =>
        rw [e2, Res.bind_ok] at h
        intro H2 R3
        refine hh B rfl σ H2 ε2 _ _ R3 ?_
        cases e3 : hi ε2 with
        | stuck => rw [e3] at h; exact h.elim
        | exc x ε3 => rw [e3] at h; exact XP.drop (fun q hq => List.mem_cons_of_mem _ hq) h
        | ok u ε3 =>
          rw [e3, Res.bind_ok] at h
          intro H3 R4
          obtain ⟨Hf, r⟩ := R4
          have t : Sh B.K Hf v p.2 := r.tm _ List.mem_cons_self
          have r' := r.drop (tm' := tm) fun q hq => List.mem_cons_of_mem _ hq
          obtain ⟨o, d⟩ := p
          cases t with
          | lst q s => exact .inl ⟨_, _, rfl, .of (r.le _ _ q), fun n hn => h _ _ (r'.newTop hn (s.cut l u))⟩
          | str z =>
            unfold dSl at h
            dsimp only at h
            by_cases hz : z.length ≤ sizeLine
            · rw [if_pos hz] at h
              exact .inr (.inl ⟨z, rfl, hz, h _ _ (r'.flat1 (.str _))⟩)
            · rw [if_neg hz] at h; exact h.elim
          | tup q s =>
            unfold dSl at h
            dsimp only at h
            rename_i ds
            by_cases hz : ¬ (HT.sIx ds.length 0 l = 0 ∧ HT.sIx ds.length ds.length u = ds.length)
            · rw [if_pos hz] at h
              exact .inr (.inr ⟨_, _, rfl, .of (r.le _ _ q), by rw [s.length]; exact hz, fun n hn => h _ _ (r'.newTup hn (s.cut l u))⟩)
            · rw [if_neg hz] at h; exact h.elim
          | non => exact h.elim
          | bl _ => exact h.elim
          | int _ => exact h.elim
          | dic _ _ => exact h.elim
          | scr _ => exact h.elim
/-- xs[::-1] -/
def gRev : G := fun ds => match ds with
  | [.list a] => some (.top, .list a.reverse)
  | _ => none
@[simp] theorem gRev_list (a : List PyData) : gRev [.list a] = some (.top, .list a.reverse) := rfl
def rRevL (K : PySem.W.Frag) : V → Hp → VK → Prop := fun x H Q => ∃ a xs, x = .ref a ∧ SqL K H a xs ∧ ∀ p, H p = none → Q (.ref p) (upd H p (.lst xs.reverse))
theorem pr_rev : PR M (l1 (rRevL M.K)) gRev := fun B hB Hf σ ε H tm vs ds Q r s h => by
  subst hB
  unfold gRev at h
  split at h
  · obtain ⟨x, rfl, s1⟩ := s.one
    obtain ⟨p, xs, rfl, e1, t1⟩ := s1.lst'
    exact ⟨p, xs, rfl, .of e1, fun n hn => h _ _ (r.newTop hn t1.reverse)⟩
  · exact h.elim
theorem es_rev {te : TE} {a : Arg} (hl : LS M W (tCons te tNil) [a]) : ES M W (tRevL M.K te) (eOp gRev [a]) :=
  fun B hB σ H ε tm Q R h => es_op (r := l1 (rRevL M.K)) hl pr_rev B hB σ H ε tm Q R h

/-! ### chains: a < b < c -/
def eChF (g g' : PyData → PyData → Option Bool) (fa fb fc : Ev) : Ev := fun ε => (fa ε).bind fun a ε1 => if a.1.isEx then .stuck else (fb ε1).bind fun b ε2 => if b.1.isEx then .stuck else match g a.2 b.2 with
  | none => .stuck
  | some false => .ok (.sh, .bool false) ε2
  | some true => (fc ε2).bind fun c ε3 => if c.1.isEx then .stuck else match g' b.2 c.2 with
    | none => .stuck
    | some k => .ok (.sh, .bool k) ε3
/-- a comparison of two ints as a truth -/
def cI (f : Int → Int → Bool) (a b : PyData) : Option Bool := match a, b with
  | .int i, .int j => some (f i j)
  | _, _ => none
@[simp] theorem cI_int (f : Int → Int → Bool) (i j : Int) : cI f (.int i) (.int j) = some (f i j) := rfl
theorem es_chI {ta tb tc : TE} {fa fb fc : Ev} {k k' : Int → Int → Bool} (ha : ES M W ta fa) (hb : ES M W tb fb) (hc : ES M W tc fc) :
    ES M W (tChain (rI0 fun i j => .bl (k i j)) (rI0 fun i j => .bl (k' i j)) ta tb tc) (eChF (cI k) (cI k') fa fb fc) := fun B hB σ H ε tm Q R h => by
  subst hB
  refine ha B rfl σ H ε tm _ R ?_
  unfold eChF at h
  cases e : fa ε with
  | stuck => rw [e] at h; exact h.elim
  | exc x ε1 => rw [e] at h; exact h
  | ok a ε1 =>
    rw [e, Res.bind_ok] at h
    intro x H1 R1
    by_cases hx : a.1.isEx = true
    · rw [if_pos hx] at h; exact h.elim
    · rw [if_neg hx] at h
      have R2 := R1.freeze (by simpa using hx)
      refine hb B rfl σ H1 ε1 _ _ R2 ?_
      cases e2 : fb ε1 with
      | stuck => rw [e2] at h; exact h.elim
      | exc x ε2 => rw [e2] at h; exact XP.drop (fun q hq => List.mem_cons_of_mem _ hq) h
      | ok b ε2 =>
        rw [e2, Res.bind_ok] at h
        intro y H2 R3
        by_cases hx2 : b.1.isEx = true
        · rw [if_pos hx2] at h; exact h.elim
        · rw [if_neg hx2] at h
          have R4 := R3.freeze (by simpa using hx2)
          obtain ⟨oa, da⟩ := a
          obtain ⟨ob, db⟩ := b
          dsimp only at h R4
          cases da <;> try exact h.elim
          cases db <;> try exact h.elim
          rename_i i j
          obtain ⟨Hf, r⟩ := id R4
          cases (show Sh B.K Hf y (.int j) from r.tm _ List.mem_cons_self)
          cases (show Sh B.K Hf x (.int i) from r.tm _ (List.mem_cons_of_mem _ List.mem_cons_self))
          refine ⟨i, j, rfl, rfl, k i j, rfl, ?_⟩
          rw [cI_int] at h
          cases hk : k i j with
          | false =>
            rw [hk] at h
            rw [if_neg Bool.false_ne_true]
            exact h _ _ ((R4.drop fun p hp => List.mem_cons_of_mem _ (List.mem_cons_of_mem _ hp)).flat fun _ => .bl _)
          | true =>
            rw [hk] at h
            rw [if_pos rfl]
            dsimp only at h
            refine hc B rfl σ H2 ε2 _ _ R4 ?_
            cases e3 : fc ε2 with
            | stuck => rw [e3] at h; exact h.elim
            | exc x ε3 => rw [e3] at h; exact XP.drop (fun q hq => List.mem_cons_of_mem _ (List.mem_cons_of_mem _ hq)) h
            | ok c ε3 =>
              rw [e3, Res.bind_ok] at h
              intro z H3 R5
              by_cases hx3 : c.1.isEx = true
              · rw [if_pos hx3] at h; exact h.elim
              · rw [if_neg hx3] at h
                have R6 := R5.freeze (by simpa using hx3)
                obtain ⟨oc, dc⟩ := c
                dsimp only at h R6
                cases dc <;> try exact h.elim
                rename_i l
                obtain ⟨Hf, r⟩ := id R6
                cases (show Sh B.K Hf z (.int l) from r.tm _ List.mem_cons_self)
                exact ⟨j, l, rfl, rfl, h _ _ ((R6.drop fun p hp => List.mem_cons_of_mem _ (List.mem_cons_of_mem _ (List.mem_cons_of_mem _ hp))).flat fun _ => .bl _)⟩

/-! ### x in list, tuple of flat items -/
def flatD : PyData → Bool
  | .none => true
  | .bool _ => true
  | .int _ => true
  | .str _ => true
  | _ => false
theorem Sh.flatV {K : PySem.W.Frag} {Hf : Hp} (h : Sh K Hf v d) (f : flatD d = true) : L2.flatV v = true := by
  cases h <;> first | rfl | cases f
theorem Sv.flatV {K : PySem.W.Frag} {Hf : Hp} (h : Sv K Hf H v d) (f : flatD d = true) : L2.flatV v = true := by
  cases h <;> first | rfl | cases f
theorem ShAll.flatV {K : PySem.W.Frag} {Hf : Hp} : ∀ {vs : List V} {ds : List PyData}, ShAll K Hf vs ds → ds.all flatD = true → vs.all L2.flatV = true
  | _, _, .nil, _ => rfl
  | _ :: _, d :: ds, .cons h r, f => by
    rw [List.all_cons, Bool.and_eq_true] at f ⊢
    exact ⟨Sh.flatV h f.1, ShAll.flatV r f.2⟩
theorem eqV_eqv {K : PySem.W.Frag} {Hf Hf' H' : Hp} {x y : V} {d e : PyData} (h : Sh K Hf y e) (h' : Sv K Hf' H' x d) (f : flatD d = true) (f' : flatD e = true) : L2.eqV y x = PyData.eqv e d := by
  cases h <;> cases h' <;> first
    | (simp only [PyData.eqv, L2.eqV]; done)
    | (simp only [PyData.eqv]; rfl)
    | (exfalso; simp [flatD, scrD] at f; done)
    | (exfalso; simp [flatD, scrD] at f'; done)
theorem inV_any {K : PySem.W.Frag} {Hf Hf' H' : Hp} {x : V} {d : PyData} (h' : Sv K Hf' H' x d) (f : flatD d = true) : ∀ {vs : List V} {ds : List PyData}, ShAll K Hf vs ds → ds.all flatD = true → L2.inV x vs = ds.any fun e => PyData.eqv e d
  | _, _, .nil, _ => rfl
  | _ :: _, e :: ds, .cons h r, g => by
    rw [List.all_cons, Bool.and_eq_true] at g
    unfold L2.inV
    rw [List.any_cons, List.any_cons, eqV_eqv h h' f g.1]
    have ih := inV_any h' f r g.2
    unfold L2.inV at ih
    rw [ih]
def gInF (neg : Bool) : G := fun ds => match ds with
  | [x, .list l] => if flatD x = true ∧ l.all flatD = true then some (.sh, .bool (if neg then !(l.any fun e => PyData.eqv e x) else l.any fun e => PyData.eqv e x)) else none
  | [x, .tuple l] => if flatD x = true ∧ l.all flatD = true then some (.sh, .bool (if neg then !(l.any fun e => PyData.eqv e x) else l.any fun e => PyData.eqv e x)) else none
  | _ => none
theorem pr_inF {neg : Bool} : PR M (l2 (rIn M.K neg)) (gInF neg) := fun B hB Hf σ ε H tm vs ds Q r s h => by
  subst hB
  unfold gInF at h
  split at h
  · rename_i a l
    obtain ⟨x, y, rfl, s1, s2⟩ := s.two
    obtain ⟨p, xs, rfl, e1, t1⟩ := s2.lst'
    split at h
    · rename_i hz
      refine ⟨p, xs, rfl, .inl (.of e1), s1.flatV hz.1, t1.flatV hz.2, ?_⟩
      rw [inV_any s1 hz.1 t1 hz.2]
      exact h _ _ (r.flat1 (.bl _))
    · exact h.elim
  · rename_i a l
    obtain ⟨x, y, rfl, s1, s2⟩ := s.two
    obtain ⟨p, xs, rfl, e1, t1⟩ := s2.tup'
    split at h
    · rename_i hz
      refine ⟨p, xs, rfl, .inr (.of e1), s1.flatV hz.1, t1.flatV hz.2, ?_⟩
      rw [inV_any s1 hz.1 t1 hz.2]
      exact h _ _ (r.flat1 (.bl _))
    · exact h.elim
  · exact h.elim

/-! ### isinstance of data -/
inductive Ty where
  | int | bool | list | tuple | str
def Ty.nm : Ty → String
  | .int => "int"
  | .bool => "bool"
  | .list => "list"
  | .tuple => "tuple"
  | .str => "str"
def tyN : PyData → String
  | .none => "NoneType"
  | .bool _ => "bool"
  | .int _ => "int"
  | .str _ => "str"
  | .list _ => "list"
  | .tuple _ => "tuple"
  | .dict _ => "dict"
def isA : PyData → Ty → Bool
  | .bool _, .int => true
  | .bool _, .bool => true
  | .int _, .int => true
  | .str _, .str => true
  | .list _, .list => true
  | .tuple _, .tuple => true
  | _, _ => false
inductive Tn where
  | non | bool | int | str | list | tuple | dict
def Tn.nm : Tn → String
  | .non => "NoneType"
  | .bool => "bool"
  | .int => "int"
  | .str => "str"
  | .list => "list"
  | .tuple => "tuple"
  | .dict => "dict"
def tnOf : PyData → Tn
  | .none => .non
  | .bool _ => .bool
  | .int _ => .int
  | .str _ => .str
  | .list _ => .list
  | .tuple _ => .tuple
  | .dict _ => .dict
def isT : Tn → Ty → Bool
  | .bool, .int => true
  | .bool, .bool => true
  | .int, .int => true
  | .str, .str => true
  | .list, .list => true
  | .tuple, .tuple => true
  | _, _ => false
theorem kit_isA (K : PySem.W.Frag) (d : PyData) (t : Ty) : PySem.W.kitOne K (.type (tyN d)) (.type t.nm) = some (isA d t) := by
  have h : ∀ (n : Tn) (t : Ty), kitB n.nm t.nm = some (isT n t) := by
    intro n t
    cases n <;> cases t <;> decide +kernel
  have e1 : tyN d = (tnOf d).nm := by cases d <;> rfl
  have e2 : isA d t = isT (tnOf d) t := by cases d <;> cases t <;> rfl
  rw [e1, e2]
  exact kit_ty (h _ _)
/-- not the script -/
def noScr : PyData → Bool
  | .dict [(.none, .list _)] => false
  | _ => true
theorem Sv.tyx {K : PySem.W.Frag} {Hf : Hp} (h : Sv K Hf H v d) (n : noScr d = true) : TyX K H v (.type (tyN d)) := by
  cases h with
  | non => exact .base .non
  | bl b => exact .base (.bl b)
  | int i => exact .base (.int i)
  | str x => exact .base (.str x)
  | lst e _ => exact .base (.lst e)
  | tup e _ => exact .base (.tup e)
  | dic e _ => exact .base (.dK e)
  | scr e => cases n
def gIsi (t : Ty) : G := fun ds => match ds with
  | [d] => if noScr d = true then some (.sh, .bool (isA d t)) else none
  | _ => none
def rIsi1 (K : PySem.W.Frag) (t : Ty) : V → Hp → VK → Prop := fun x H Q => rIsi K [x, .ty t.nm] H Q
theorem pr_isi {t : Ty} : PR M (l1 (rIsi1 M.K t)) (gIsi t) := fun B hB Hf σ ε H tm vs ds Q r s h => by
  subst hB
  unfold gIsi at h
  split at h
  · rename_i d
    obtain ⟨x, rfl, s1⟩ := s.one
    split at h
    · rename_i hz
      exact ⟨x, _, _, _, _, rfl, .ty _, s1.tyx hz, kit_isA _ _ _, h _ _ (r.flat1 (.bl _))⟩
    · exact h.elim
  · exact h.elim
theorem es_isi {te : TE} {a : Arg} (t : Ty) (hl : LS M W (tCons te tNil) [a]) : ES M W (tCB (rIsi M.K) (tCons te (tCons (tC (.ty t.nm)) tNil))) (eOp (gIsi t) [a]) :=
  fun B hB σ H ε tm Q R h => es_op (r := l1 (rIsi1 M.K t)) hl pr_isi B hB σ H ε tm Q R h
/-- isinstance(x, (t, u)) -/
def gIsi2 (t u : Ty) : G := fun ds => match ds with
  | [d] => if noScr d = true then some (.sh, .bool (isA d t || isA d u)) else none
  | _ => none
theorem kit_isA2 (K : PySem.W.Frag) (d : PyData) (t u : Ty) : PySem.W.kitAny K (.type (tyN d)) [.type t.nm, .type u.nm] = some (isA d t || isA d u) := by
  refine kitAny_cons (kit_isA K d t) (fun e => ?_) (fun e => by rw [e]; rfl)
  rw [e, Bool.false_or]
  exact kitAny_cons (kit_isA K d u) (fun e => by rw [e]; exact kitAny_nil) (fun e => e)
def rIsi2 (K : PySem.W.Frag) (t u : Ty) : V → Hp → VK → Prop := fun x H Q => ∀ p, H p = none → rIsiT K [x, .ref p] (upd H p (.tup [.ty t.nm, .ty u.nm])) Q
theorem Sv.new {K : PySem.W.Frag} {Hf : Hp} {p : Addr} {w : HO} (n : H p = none) (h : Sv K Hf H v d) : Sv K Hf (upd H p w) v d := by
  cases h with
  | non => exact .non
  | bl b => exact .bl b
  | int i => exact .int i
  | str x => exact .str x
  | lst e q => exact .lst (same_new n _ _ e) q
  | tup e q => exact .tup (same_new n _ _ e) q
  | dic e q => exact .dic (same_new n _ _ e) q
  | scr e => exact .scr ((same_new n).seq e)
theorem pr_isi2 {t u : Ty} : PR M (l1 (rIsi2 M.K t u)) (gIsi2 t u) := fun B hB Hf σ ε H tm vs ds Q r s h => by
  subst hB
  unfold gIsi2 at h
  split at h
  · rename_i d
    obtain ⟨x, rfl, s1⟩ := s.one
    split at h
    · rename_i hz
      exact fun p n => ⟨x, p, _, _, _, _, rfl, upd_same, .cons (.ty _) (.cons (.ty _) .nil), (s1.new n).tyx hz, kit_isA2 _ _ _ _, h _ _ ((r.new n).flat1 (.bl _))⟩
    · exact h.elim
  · exact h.elim
theorem es_isi2 {te : TE} {a : Arg} (t u : Ty) (hl : LS M W (tCons te tNil) [a]) :
    ES M W (tCB (rIsiT M.K) (tCons te (tCons (tTup (tCons (tC (.ty t.nm)) (tCons (tC (.ty u.nm)) tNil))) tNil))) (eOp (gIsi2 t u) [a]) := fun B hB σ H ε tm Q R h => by
  have z := es_op (r := l1 (rIsi2 M.K t u)) hl pr_isi2 B hB σ H ε tm Q R h
  have z' : te σ H fun x H1 => ∀ p, H1 p = none → rIsiT M.K [x, .ref p] (upd H1 p (.tup [.ty t.nm, .ty u.nm])) Q := z
  refine (show te σ H fun x H1 => (2 ≤ sizeLine ∧ ∀ p, H1 p = none → rIsiT M.K [x, .ref p] (upd H1 p (.tup [.ty t.nm, .ty u.nm])) Q) from ?_)
  have e : (fun (x : V) (H1 : Hp) => (2 ≤ sizeLine ∧ ∀ p, H1 p = none → rIsiT M.K [x, .ref p] (upd H1 p (.tup [.ty t.nm, .ty u.nm])) Q)) = fun x H1 => ∀ p, H1 p = none → rIsiT M.K [x, .ref p] (upd H1 p (.tup [.ty t.nm, .ty u.nm])) Q := by
    funext x H1
    exact propext ⟨fun q => q.2, fun q => ⟨by decide, q⟩⟩
  rw [e]
  exact z'

/-! ### lists that are written -/
def sApp (i : Nat) (f : Ev) : Sm := fun ε => match ε[i]? with
  | some (some (o0, .list _)) => if o0.own = true then (f ε).bind fun p ε' => match ε'[i]? with
    | some (some (o, .list ds)) => if o.own = true ∧ p.1.isEx = false ∧ ds.length < sizeLine then .ok .nx (ε'.set i (some (o, .list (ds ++ [p.2])))) else .stuck
    | _ => .stuck
    else .stuck
  | _ => .stuck
theorem Rt.lstAt {Hf : Hp} {ds : List PyData} (le : Same Hf H) (h : Rt B Hf H v o (.list ds)) (w : o.isEx = false) : ∃ a xs, v = .ref a ∧ H a = some (.lst xs) ∧ ShAll B.K Hf xs ds := by
  exact (h.sv le (fun x z => by rw [z] at w; cases w)).lst'
theorem own_noEx (h : o.own = true) : o.isEx = false := by cases o <;> first | rfl | cases h
theorem ss_app {i : Nat} {te : TE} {f : Ev} (he : ES M W te f) : SS M W (tDrop (tBM M.K "list" rAppend (tVar i) (tCons te tNil))) (sApp i f) := fun B hB σ H ε tm D R h => by
  subst hB
  unfold sApp at h
  split at h
  · rename_i o0 ds0 e0
    obtain ⟨Hf0, r0⟩ := id R
    obtain ⟨v0, s0, t0⟩ := r0.sl _ _ _ e0
    by_cases hx0 : o0.own = true
    · rw [if_pos hx0] at h
      obtain ⟨a0, xs0, rfl, q0, _⟩ := t0.lstAt r0.le (own_noEx hx0)
      refine ⟨_, s0, .inl ⟨rfl, _, .of q0⟩, ?_⟩
      refine he B rfl σ H ε tm _ R ?_
      cases e : f ε with
      | stuck => rw [e] at h; exact h.elim
      | exc x ε1 => rw [e] at h; exact h σ
      | ok p ε1 =>
        rw [e, Res.bind_ok] at h
        intro v H1 R1
        split at h
        · rename_i o ds e1
          split at h
          · rename_i hz
            obtain ⟨hw, hx, hl⟩ := hz
            obtain ⟨Hf, r⟩ := R1.freeze hx
            have tv : Sh B.K Hf v p.2 := r.tm _ List.mem_cons_self
            obtain ⟨v1, s1, t1⟩ := r.sl _ _ _ e1
            rw [s0] at s1
            cases s1
            obtain ⟨a, xs, ea, q1, sh1⟩ := t1.lstAt r.le (own_noEx hw)
            cases ea
            refine ⟨a0, xs, v, rfl, rfl, q1, by rw [sh1.length]; exact hl, ?_⟩
            exact h σ _ ⟨Hf, (r.drop (tm' := tm) fun q hq => List.mem_cons_of_mem _ hq).write e1 hw s0 ⟨_, upd_same, sh1.append (.cons tv .nil)⟩⟩
          · exact h.elim
        · exact h.elim
    · rw [if_neg hx0] at h; exact h.elim
  · exact h.elim
/-- x[k] = e -/
def sPut (i : Nat) (g : Ev) (f : Ev) : Sm := fun ε => (f ε).bind fun p ε1 => if p.1.isEx then .stuck else match ε1[i]? with
  | some (some _) => (g ε1).bind fun q ε2 => if q.1.isEx then .stuck else match q.2, ε2[i]? with
    | .int k, some (some (o, .list ds)) => if o.own = true then match ixN ds.length k with
        | some j => .ok .nx (ε2.set i (some (o, .list (ds.set j p.2))))
        | none => .stuck
      else .stuck
    | _, _ => .stuck
  | _ => .stuck
theorem ss_put {i : Nat} {ti te : TE} {g f : Ev} (hi : ES M W ti g) (he : ES M W te f) : SS M W (tAsg te (L2.gSub (tVar i) ti rSetL)) (sPut i g f) := fun B hB σ H ε tm D R h => by
  subst hB
  refine he B rfl σ H ε tm _ R ?_
  unfold sPut at h
  cases e : f ε with
  | stuck => rw [e] at h; exact h.elim
  | exc x ε1 => rw [e] at h; exact h σ
  | ok p ε1 =>
    rw [e, Res.bind_ok] at h
    intro v H1 R1
    by_cases hx : p.1.isEx = true
    · rw [if_pos hx] at h; exact h.elim
    · rw [if_neg hx] at h
      have R2 := R1.freeze (by simpa using hx)
      split at h
      · rename_i p0 e0
        obtain ⟨Hf0, r0⟩ := id R2
        obtain ⟨v0, s0, t0⟩ := r0.sl _ p0.1 p0.2 e0
        refine ⟨v0, s0, hi B rfl σ H1 ε1 _ _ R2 ?_⟩
        cases e2 : g ε1 with
        | stuck => rw [e2] at h; exact h.elim
        | exc x ε2 => rw [e2] at h; exact XP.drop (fun q hq => List.mem_cons_of_mem _ hq) (h σ)
        | ok q ε2 =>
          rw [e2, Res.bind_ok] at h
          intro w H2 R3
          by_cases hx2 : q.1.isEx = true
          · rw [if_pos hx2] at h; exact h.elim
          · rw [if_neg hx2] at h
            obtain ⟨Hf, r⟩ := R3.freeze (by simpa using hx2)
            split at h
            · rename_i k o ds ek e3
              split at h
              · rename_i hw
                split at h
                · rename_i j ej
                  have tw : Sh B.K Hf w q.2 := r.tm _ List.mem_cons_self
                  have tv : Sh B.K Hf v p.2 := r.tm _ (List.mem_cons_of_mem _ List.mem_cons_self)
                  rw [ek] at tw
                  cases tw
                  obtain ⟨v1, s1, t1⟩ := r.sl _ _ _ e3
                  rw [s0] at s1
                  cases s1
                  obtain ⟨a, xs, rfl, q1, sh1⟩ := t1.lstAt r.le (own_noEx hw)
                  refine ⟨a, xs, k, j, rfl, rfl, q1, by rw [sh1.length]; exact ej, ?_⟩
                  exact h σ _ ⟨Hf, (r.drop (tm' := tm) fun q hq => List.mem_cons_of_mem _ (List.mem_cons_of_mem _ hq)).write e3 hw s0 ⟨_, upd_same, sh1.set tv j⟩⟩
                · exact h.elim
              · exact h.elim
            · exact h.elim
      · exact h.elim
/-- name op= e, ints -/
def sAug (i : Nat) (k : Int → Int → Int) (f : Ev) : Sm := fun ε => match ε[i]? with
  | some (some (o, .int a)) => if o.isEx then .stuck else (f ε).bind fun p ε1 => if p.1.isEx then .stuck else match p.2 with
    | .int b => if i < ε1.length then .ok .nx (ε1.set i (some (.sh, .int (k a b)))) else .stuck
    | _ => .stuck
  | _ => .stuck
theorem ss_aug {i : Nat} {te : TE} {k : Int → Int → Int} {f : Ev} (he : ES M W te f) : SS M W (tAug i te (ipI k)) (sAug i k f) := fun B hB σ H ε tm D R h => by
  subst hB
  unfold sAug at h
  split at h
  · rename_i o a e0
    obtain ⟨Hf0, r0⟩ := id R
    obtain ⟨v0, s0, t0⟩ := r0.sl _ _ _ e0
    by_cases hx0 : o.isEx = true
    · rw [if_pos hx0] at h; exact h.elim
    · rw [if_neg hx0] at h
      have sv := t0.sv r0.le (fun x z => by rw [z] at hx0; exact hx0 rfl)
      rw [sv.int'] at s0
      refine ⟨_, s0, he B rfl σ H ε tm _ R ?_⟩
      cases e : f ε with
      | stuck => rw [e] at h; exact h.elim
      | exc x ε1 => rw [e] at h; exact h σ
      | ok p ε1 =>
        rw [e, Res.bind_ok] at h
        intro v H1 R1
        by_cases hx : p.1.isEx = true
        · rw [if_pos hx] at h; exact h.elim
        · rw [if_neg hx] at h
          obtain ⟨Hf, r, t, _⟩ := R1.sh (by simpa using hx)
          split at h
          · rename_i b eb
            split at h
            · rename_i hi
              have t' : Sh B.K Hf v p.2 := t
              rw [eb] at t'
              cases t'
              exact ⟨a, b, rfl, rfl, h _ _ ((r.flat1 (v := .int (k a b)) (.int _)).store hi)⟩
            · exact h.elim
          · exact h.elim
  · exact h.elim
/-- a, b = x, y -/
def sPar (i j : Nat) (f g : Ev) : Sm := fun ε => (evL [.v f, .v g] ε).bind fun ds ε' => match ds with
  | [d, e] => if i < ε'.length ∧ j < ε'.length then .ok .nx ((ε'.set i (some (.sh, d))).set j (some (.sh, e))) else .stuck
  | _ => .stuck
theorem ss_par {i j : Nat} {ta : TA} {f g : Ev} (hl : LS M W ta [.v f, .v g]) : SS M W (tPar i j ta) (sPar i j f g) := fun B hB σ H ε tm D R h => by
  subst hB
  refine hl B rfl σ H ε tm _ R ?_
  unfold sPar at h
  cases e : evL [.v f, .v g] ε with
  | stuck => rw [e] at h; exact h.elim
  | exc x ε1 => rw [e] at h; exact h σ
  | ok ds ε1 =>
    rw [e, Res.bind_ok] at h
    intro vs H1 Hf r a
    cases a with
    | v s1 a =>
      cases a with
      | v s2 a =>
        cases a
        dsimp only at h
        split at h
        · rename_i hi
          refine ⟨_, _, rfl, h _ _ ⟨Hf, ?_⟩⟩
          refine (r.store i hi.1 (o := .sh) s1 (fun z => by cases z)).store j (by rw [List.length_set]; exact hi.2) (o := .sh) s2 (fun z => by cases z)
        · exact h.elim
def sPar3 (i j l : Nat) (f g k : Ev) : Sm := fun ε => (evL [.v f, .v g, .v k] ε).bind fun ds ε' => match ds with
  | [d, e, q] => if i < ε'.length ∧ j < ε'.length ∧ l < ε'.length then .ok .nx (((ε'.set i (some (.sh, d))).set j (some (.sh, e))).set l (some (.sh, q))) else .stuck
  | _ => .stuck
theorem ss_par3 {i j l : Nat} {ta : TA} {f g k : Ev} (hl : LS M W ta [.v f, .v g, .v k]) : SS M W (tPar3 i j l ta) (sPar3 i j l f g k) := fun B hB σ H ε tm D R h => by
  subst hB
  refine hl B rfl σ H ε tm _ R ?_
  unfold sPar3 at h
  cases e : evL [.v f, .v g, .v k] ε with
  | stuck => rw [e] at h; exact h.elim
  | exc x ε1 => rw [e] at h; exact h σ
  | ok ds ε1 =>
    rw [e, Res.bind_ok] at h
    intro vs H1 Hf r a
    cases a with
    | v s1 a =>
      cases a with
      | v s2 a =>
        cases a with
        | v s3 a =>
          cases a
          dsimp only at h
          split at h
          · rename_i hi
            refine ⟨_, _, _, rfl, h _ _ ⟨Hf, ?_⟩⟩
            refine ((r.store i hi.1 (o := .sh) s1 (fun z => by cases z)).store j (by rw [List.length_set]; exact hi.2.1) (o := .sh) s2 (fun z => by cases z)).store l (by rw [List.length_set, List.length_set]; exact hi.2.2) (o := .sh) s3 (fun z => by cases z)
          · exact h.elim
end
end FS
/-! The functional layer, part 6: defs, calls, raise. -/
namespace FS
open PySem PySem.Spec PyProof.Rows L2 RZ

inductive FR where
  | ok (o : Own) (d : PyData) (outs : List PyData) | exc (x : Str) (outs : List PyData) | stuck
def ownsOf : List Bool → List V → List Addr
  | true :: ms, .ref a :: vs => a :: ownsOf ms vs
  | _ :: ms, _ :: vs => ownsOf ms vs
  | _, _ => []
inductive ArgsOk (K : PySem.W.Frag) (Hf H : Hp) : List Bool → List V → List PyData → Prop
  | nil : ArgsOk K Hf H [] [] []
  | val {v : V} {d : PyData} {ms : List Bool} {vs : List V} {ds : List PyData} : Sh K Hf v d → ArgsOk K Hf H ms vs ds → ArgsOk K Hf H (false :: ms) (v :: vs) (d :: ds)
  | own {a : Addr} {d : PyData} {ms : List Bool} {vs : List V} {ds : List PyData} : Hf a = none → Cont K Hf H a d → ArgsOk K Hf H ms vs ds → ArgsOk K Hf H (true :: ms) (.ref a :: vs) (d :: ds)
inductive OutsOk (K : PySem.W.Frag) (Hf H : Hp) : List Addr → List PyData → Prop
  | nil : OutsOk K Hf H [] []
  | cons {a : Addr} {d : PyData} {as : List Addr} {ds : List PyData} : Hf a = none → Cont K Hf H a d → OutsOk K Hf H as ds → OutsOk K Hf H (a :: as) (d :: ds)
structure Fin (K : PySem.W.Frag) (Hf H : Hp) (OP : List Addr) (Hf' H' : Hp) (outs : List PyData) : Prop where
  e : Same Hf Hf'
  le : Same Hf' H'
  fn : ∀ b o, H b = some o → Hf' b = Hf b
  al : ∀ b o, H b = some o → ∃ u, H' b = some u
  kp : ∀ b o, H b = some o → b ∉ OP → H' b = some o
  out : OutsOk K Hf' H' OP outs
def RetOk (K : PySem.W.Frag) (Hf' H H' : Hp) (v : V) (d : PyData) : Own → Prop
  | .sh => Sh K Hf' v d
  | .top => ∃ a, v = .ref a ∧ Hf' a = none ∧ H a = none ∧ Cont K Hf' H' a d
  | _ => False
def CPost (M : Md) (Hf H : Hp) (OP : List Addr) (Q : VK) (E : XK) : FR → Prop
  | .ok o d outs => ∀ v H' Hf', Fin M.K Hf H OP Hf' H' outs → RetOk M.K Hf' H H' v d o → Q v H'
  | .exc x outs => ∀ C H' Hf', M.mg x = some (.ref C) → Fin M.K Hf H OP Hf' H' outs → E (.ref C) none H'
  | .stuck => False
/-- a def's promise: it computes F; modes: which parameters it may write -/
def spD (M : Md) (modes : List Bool) (F : List PyData → FR) : Sp := fun vs H Q E => ∃ (Hf : Hp) (ds : List PyData), Same Hf H ∧ ArgsOk M.K Hf H modes vs ds ∧ (ownsOf modes vs).Nodup ∧ CPost M Hf H (ownsOf modes vs) Q E (F ds)

theorem ArgsOk.len {K : PySem.W.Frag} {Hf H : Hp} : ∀ {ms : List Bool} {vs : List V} {ds : List PyData}, ArgsOk K Hf H ms vs ds → vs.length = ms.length ∧ ds.length = ms.length
  | _, _, _, .nil => ⟨rfl, rfl⟩
  | _, _, _, .val _ t => ⟨congrArg (· + 1) t.len.1, congrArg (· + 1) t.len.2⟩
  | _, _, _, .own _ _ t => ⟨congrArg (· + 1) t.len.1, congrArg (· + 1) t.len.2⟩

/-! ### a def from its body -/
def argE : Nat → List Bool → List PyData → Fe
  | k, true :: ms, d :: ds => some (.par k, d) :: argE (k + 1) ms ds
  | k, false :: ms, d :: ds => some (.sh, d) :: argE k ms ds
  | _, _, _ => []
def outsOf : Nat → List Bool → Fe → Option (List PyData)
  | _, [], _ => some []
  | k, false :: ms, _ :: ε => outsOf k ms ε
  | k, true :: ms, x :: ε => match x with
    | some (.par j, d) => if j = k then (outsOf (k + 1) ms ε).map (d :: ·) else none
    | _ => none
  | _, _ :: _, [] => none
/-- the def: modes, how many slots, the body -/
def runF (modes : List Bool) (n : Nat) (body : Sm) (ds : List PyData) : FR :=
  if ds.length = modes.length ∧ modes.length ≤ n then
    match body (argE 0 modes ds ++ List.replicate (n - modes.length) none) with
    | .ok .nx ε => match outsOf 0 modes ε with
      | some outs => .ok .sh .none outs
      | none => .stuck
    | .ok (.rt o d) ε => match outsOf 0 modes ε with
      | some outs => if o = .sh ∨ o = .top then .ok o d outs else .stuck
      | none => .stuck
    | .exc x ε => match outsOf 0 modes ε with
      | some outs => .exc x outs
      | none => .stuck
    | _ => .stuck
  else .stuck
theorem argE_length : ∀ {k : Nat} {ms : List Bool} {ds : List PyData}, ds.length = ms.length → (argE k ms ds).length = ms.length
  | k, [], [], _ => rfl
  | k, true :: ms, d :: ds, h => by
    unfold argE
    rw [List.length_cons, List.length_cons, argE_length (by simpa using h)]
  | k, false :: ms, d :: ds, h => by
    unfold argE
    rw [List.length_cons, List.length_cons, argE_length (by simpa using h)]
  | k, _ :: _, [], h => by cases h
  | k, [], _ :: _, h => by cases h
/-- what the slots hold at the start -/
theorem argE_at {K : PySem.W.Frag} {Hf H : Hp} : ∀ {k : Nat} {ms : List Bool} {vs : List V} {ds : List PyData}, ArgsOk K Hf H ms vs ds → ∀ {i : Nat} {o : Own} {d : PyData}, (argE k ms ds)[i]? = some (some (o, d)) →
    ∃ v, vs[i]? = some v ∧ ((o = .sh ∧ Sh K Hf v d) ∨ ∃ j a, o = .par (k + j) ∧ v = .ref a ∧ Hf a = none ∧ (ownsOf ms vs)[j]? = some a ∧ Cont K Hf H a d)
  | k, _, _, _, .nil, i, o, d, e => by unfold argE at e; simp at e
  | k, _, _, _, .val h t, 0, o, d, e => by
    unfold argE at e
    cases e
    exact ⟨_, rfl, .inl ⟨rfl, h⟩⟩
  | k, _, _, _, .val h t, i + 1, o, d, e => by
    unfold argE at e
    rw [List.getElem?_cons_succ] at e
    obtain ⟨v, e1, e2⟩ := argE_at t e
    refine ⟨v, by rw [List.getElem?_cons_succ]; exact e1, ?_⟩
    rcases e2 with e2 | ⟨j, a, e2⟩
    · exact .inl e2
    · exact .inr ⟨j, a, by unfold ownsOf; exact e2⟩
  | k, _, _, _, .own n c t, 0, o, d, e => by
    unfold argE at e
    cases e
    exact ⟨_, rfl, .inr ⟨0, _, rfl, rfl, n, rfl, c⟩⟩
  | k, _, _, _, .own n c t, i + 1, o, d, e => by
    unfold argE at e
    rw [List.getElem?_cons_succ] at e
    obtain ⟨v, e1, e2⟩ := argE_at t e
    refine ⟨v, by rw [List.getElem?_cons_succ]; exact e1, ?_⟩
    rcases e2 with e2 | ⟨j, a, e2, e3, e4, e5, e6⟩
    · exact .inl e2
    · refine .inr ⟨j + 1, a, ?_, e3, e4, ?_, e6⟩
      · rw [e2, show k + 1 + j = k + (j + 1) by omega]
      · unfold ownsOf
        rw [List.getElem?_cons_succ]; exact e5
theorem argE_ge : ∀ {k : Nat} {ms : List Bool} {ds : List PyData} {i : Nat} {j : Nat} {d : PyData}, (argE k ms ds)[i]? = some (some (.par j, d)) → k ≤ j
  | k, [], _, i, j, d, e => by unfold argE at e; simp at e
  | k, true :: ms, [], i, j, d, e => by unfold argE at e; simp at e
  | k, false :: ms, [], i, j, d, e => by unfold argE at e; simp at e
  | k, true :: ms, x :: ds, 0, j, d, e => by unfold argE at e; cases e; exact Nat.le_refl _
  | k, false :: ms, x :: ds, 0, j, d, e => by unfold argE at e; cases e
  | k, true :: ms, x :: ds, i + 1, j, d, e => by
    unfold argE at e
    rw [List.getElem?_cons_succ] at e
    exact Nat.le_of_succ_le (argE_ge e)
  | k, false :: ms, x :: ds, i + 1, j, d, e => by
    unfold argE at e
    rw [List.getElem?_cons_succ] at e
    exact argE_ge e
theorem argE_par_inj : ∀ {k : Nat} {ms : List Bool} {ds : List PyData} {i i' : Nat} {j : Nat} {d d' : PyData}, (argE k ms ds)[i]? = some (some (.par j, d)) → (argE k ms ds)[i']? = some (some (.par j, d')) → i = i'
  | k, [], _, i, i', j, d, d', e, e' => by unfold argE at e; simp at e
  | k, true :: ms, [], i, i', j, d, d', e, e' => by unfold argE at e; simp at e
  | k, false :: ms, [], i, i', j, d, d', e, e' => by unfold argE at e; simp at e
  | k, true :: ms, x :: ds, 0, 0, j, d, d', e, e' => rfl
  | k, false :: ms, x :: ds, 0, 0, j, d, d', e, e' => rfl
  | k, false :: ms, x :: ds, 0, i' + 1, j, d, d', e, e' => by unfold argE at e; cases e
  | k, false :: ms, x :: ds, i + 1, 0, j, d, d', e, e' => by unfold argE at e'; cases e'
  | k, true :: ms, x :: ds, 0, i' + 1, j, d, d', e, e' => by
    unfold argE at e e'
    cases e
    rw [List.getElem?_cons_succ] at e'
    exact absurd (argE_ge e') (by omega)
  | k, true :: ms, x :: ds, i + 1, 0, j, d, d', e, e' => by
    unfold argE at e e'
    cases e'
    rw [List.getElem?_cons_succ] at e
    exact absurd (argE_ge e) (by omega)
  | k, true :: ms, x :: ds, i + 1, i' + 1, j, d, d', e, e' => by
    unfold argE at e e'
    rw [List.getElem?_cons_succ] at e e'
    rw [argE_par_inj e e']
  | k, false :: ms, x :: ds, i + 1, i' + 1, j, d, d', e, e' => by
    unfold argE at e e'
    rw [List.getElem?_cons_succ] at e e'
    rw [argE_par_inj e e']
theorem owns_at {K : PySem.W.Frag} {Hf H : Hp} : ∀ {ms : List Bool} {vs : List V} {ds : List PyData}, ArgsOk K Hf H ms vs ds → ∀ a ∈ ownsOf ms vs, ∃ o, H a = some o
  | _, _, _, .nil, a, h => by cases h
  | _, _, _, .val _ t, a, h => by unfold ownsOf at h; exact owns_at t a h
  | _, _, _, .own n c t, a, h => by
    unfold ownsOf at h
    rcases List.mem_cons.mp h with e | h
    · obtain ⟨o, q, _⟩ := c.at
      exact ⟨o, by rw [e]; exact q⟩
    · exact owns_at t a h
theorem outsOk_of {B : Ent} {Hf H : Hp} {K0 : PySem.W.Frag} {Hf0 H0 : Hp} : ∀ {ms : List Bool} {vs : List V} {ε' : Fe} {k : Nat} {outs : List PyData} {ds0 : List PyData}, ArgsOk K0 Hf0 H0 ms vs ds0 →
    (∀ o d, some (o, d) ∈ ε' → ∃ v, Rt B Hf H v o d) → (∀ j : Nat, B.OP[k + j]? = (ownsOf ms vs)[j]?) → outsOf k ms ε' = some outs → OutsOk B.K Hf H (ownsOf ms vs) outs
  | _, _, ε', k, outs, _, .nil, hs, ho, e => by
    unfold outsOf at e
    cases e
    exact .nil
  | _, _, [], k, outs, _, .val _ t, hs, ho, e => by unfold outsOf at e; cases e
  | _, _, x :: ε', k, outs, _, .val _ t, hs, ho, e => by
    unfold outsOf at e
    unfold ownsOf
    exact outsOk_of t (fun o d q => hs o d (List.mem_cons_of_mem _ q)) (fun j => by have := ho j; unfold ownsOf at this; exact this) e
  | _, _, [], k, outs, _, .own n c t, hs, ho, e => by unfold outsOf at e; cases e
  | _, _, x :: ε', k, outs, _, .own n c t, hs, ho, e => by
    rename_i a d ms vs ds
    unfold outsOf at e
    unfold ownsOf
    split at e
    · rename_i j d'
      split at e
      · rename_i hj
        subst hj
        cases e2 : outsOf (j + 1) ms ε' with
        | none => rw [e2] at e; cases e
        | some outs' =>
          rw [e2] at e
          cases e
          obtain ⟨v, b, e1, e3, e4, e5⟩ := hs _ _ List.mem_cons_self
          have h0 := ho 0
          unfold ownsOf at h0
          rw [Nat.add_zero, e4] at h0
          cases h0
          refine .cons e3 e5 (outsOk_of t (fun o d q => hs o d (List.mem_cons_of_mem _ q)) (fun i => ?_) e2)
          have := ho (i + 1)
          unfold ownsOf at this
          rw [List.getElem?_cons_succ] at this
          rw [← this, show j + (i + 1) = j + 1 + i by omega]
      · cases e
    · cases e
section
variable {P : Program} {w : World} {K : PySem.W.Frag} {mg : Str → Option Value} {base : Heap}
abbrev EW (E : XK) : WX := fun cls d _ H => E cls d H
theorem start_at {N : List Str} {vs : List V} {i : Nat} {v : V} (h : vs[i]? = some v) : (L2.start N vs)[i]? = some (some v) := by
  unfold L2.start
  rw [List.getElem?_append_left (by rw [List.length_map]; exact (List.getElem?_eq_some_iff.mp h).1), List.getElem?_map, h]
  rfl
/-- the state at a def's entry -/
theorem rel_start {N : List Str} {modes : List Bool} {vs : List V} {ds : List PyData} {H Hf : Hp} (le : Same Hf H) (a : ArgsOk K Hf H modes vs ds) (nd : (ownsOf modes vs).Nodup) (hn : modes.length ≤ N.length) :
    Rel ⟨⟨K, mg, none⟩, H, Hf, ownsOf modes vs⟩ (L2.start N vs) (argE 0 modes ds ++ List.replicate (N.length - modes.length) none) H [] := by
  obtain ⟨l1, l2⟩ := a.len
  have lz := argE_length (k := 0) l2
  have at' : ∀ {i : Nat} {o : Own} {d : PyData}, (argE 0 modes ds ++ List.replicate (N.length - modes.length) none)[i]? = some (some (o, d)) → (argE 0 modes ds)[i]? = some (some (o, d)) := fun {i o d} e => by
    by_cases hi : i < (argE 0 modes ds).length
    · rw [List.getElem?_append_left hi] at e
      exact e
    · rw [List.getElem?_append_right (by omega), List.getElem?_replicate] at e
      split at e <;> cases e
  refine ⟨Hf, le, Same.refl _, fun _ _ _ => rfl, fun b o q => ⟨o, q⟩, fun _ _ q _ => q, owns_at a, ?_, fun i o d e => ?_, fun i j v o d o' d' n e1 e2 w1 w2 s1 s2 => ?_, fun p hp => by cases hp⟩
  · unfold L2.start
    rw [List.length_append, List.length_append, lz, List.length_replicate, List.length_map, List.length_replicate, l1]
  · obtain ⟨v, e1, e2⟩ := argE_at a (at' e)
    refine ⟨v, start_at e1, ?_⟩
    rcases e2 with ⟨rfl, e2⟩ | ⟨j, b, rfl, rfl, e3, e4, e5⟩
    · exact e2
    · rw [Nat.zero_add]
      exact ⟨b, rfl, e3, e4, e5⟩
  · obtain ⟨v1, a1, a2⟩ := argE_at a (at' e1)
    obtain ⟨v2, b1, b2⟩ := argE_at a (at' e2)
    rw [start_at a1] at s1
    rw [start_at b1] at s2
    cases s1
    cases s2
    rcases a2 with ⟨rfl, _⟩ | ⟨k1, x1, rfl, rfl, _, q1, _⟩
    · cases w1
    · rcases b2 with ⟨rfl, _⟩ | ⟨k2, x2, rfl, ex, _, q2, _⟩
      · cases w2
      · cases ex
        -- one address at two places of the list of own ones
        have hk : k1 = k2 := by
          obtain ⟨h1, g1⟩ := List.getElem?_eq_some_iff.mp q1
          obtain ⟨h2, g2⟩ := List.getElem?_eq_some_iff.mp q2
          exact (List.getElem_inj nd).mp (g1.trans g2.symm)
        subst hk
        exact n (argE_par_inj (at' e1) (at' e2))
/-- a body run at the entry -/
theorem run_body {N : List Str} {vs : List V} {H : Hp} {Q : VK} {E : XK} {modes : List Bool} {body : Sm} {t : TS} (hn : modes.length ≤ N.length) (ss : SS ⟨K, mg, none⟩ (EW E) t body) (h : spD ⟨K, mg, none⟩ modes (runF modes N.length body) vs H Q E) :
    t { nx := fun _ H' => Q .non H', rt := Q } (L2.start N vs) H := by
  · obtain ⟨Hf, ds, le, a, nd, post⟩ := h
    have R := rel_start (mg := mg) (N := N) le a nd hn
    refine ss _ rfl (L2.start N vs) H _ [] _ R ?_
    unfold runF at post
    rw [if_pos ⟨a.len.2, hn⟩] at post
    have fin : ∀ {σ' ε H' Hf' outs}, Rl ⟨⟨K, mg, none⟩, H, Hf, ownsOf modes vs⟩ Hf' σ' ε H' [] → outsOf 0 modes ε = some outs → Fin K Hf H (ownsOf modes vs) Hf' H' outs := fun {σ' ε H' Hf' outs} r e =>
      ⟨r.f0, r.le, r.fn, r.al, r.kp, outsOk_of a (fun o d q => by
        obtain ⟨i, hi⟩ := List.getElem?_of_mem q
        obtain ⟨v, _, t⟩ := r.sl i o d hi
        exact ⟨v, t⟩) (fun j => by rw [Nat.zero_add]) e⟩
    cases e : body (argE 0 modes ds ++ List.replicate (N.length - modes.length) none) with
    | stuck => rw [e] at post; exact post.elim
    | exc x ε =>
      rw [e] at post
      dsimp only at post
      intro σ' C H' hC R'
      cases eo : outsOf 0 modes ε with
      | none => rw [eo] at post; exact post.elim
      | some outs =>
        rw [eo] at post
        obtain ⟨Hf', r⟩ := R'
        exact post C H' Hf' hC (fin r eo)
    | ok fl ε =>
      rw [e] at post
      cases fl with
      | nx =>
        dsimp only at post
        intro σ' H' R'
        cases eo : outsOf 0 modes ε with
        | none => rw [eo] at post; exact post.elim
        | some outs =>
          rw [eo] at post
          obtain ⟨Hf', r⟩ := R'
          exact post _ H' Hf' (fin r eo) Sh.non
      | rt o d =>
        dsimp only at post
        intro v σ' H' R'
        cases eo : outsOf 0 modes ε with
        | none => rw [eo] at post; exact post.elim
        | some outs =>
          rw [eo] at post
          dsimp only at post
          obtain ⟨Hf', r, t, _⟩ := R'
          split at post
          · refine post v H' Hf' (fin r eo) ?_
            cases o with
            | sh => exact t
            | top => exact t
            | par j => rename_i h; rcases h with h | h <;> cases h
            | ex y => rename_i h; rcases h with h | h <;> cases h
          · exact post.elim
      | bk => exact post.elim
      | ct => exact post.elim
end
end FS
/-! The functional layer, part 7: calls of defs, raise. -/
namespace FS
open PySem PySem.Spec PyProof.Rows L2 RZ

def ownI : List Bool → List Arg → List Nat
  | true :: ms, .b i :: as => i :: ownI ms as
  | true :: ms, .v _ :: as => ownI ms as
  | false :: ms, _ :: as => ownI ms as
  | _, _ => []
def okM : List Bool → List Arg → Fe → Bool
  | [], [], _ => true
  | false :: ms, .v _ :: as, ε => okM ms as ε
  | true :: ms, .b i :: as, ε => (match ε[i]? with
    | some (some (o, _)) => o.own
    | _ => false) && okM ms as ε
  | true :: _, .v _ :: _, _ => false
  | false :: _, .b _ :: _, _ => false
  | _ :: _, [], _ => false
  | [], _ :: _, _ => false
def putO : List Nat → List PyData → Fe → Fe
  | i :: is, d :: ds, ε => putO is ds (match ε[i]? with
    | some (some (o, _)) => ε.set i (some (o, d))
    | _ => ε)
  | _, _, ε => ε
def eCall (modes : List Bool) (F : List PyData → FR) (as : List Arg) : Ev := fun ε => (evL as ε).bind fun ds ε' =>
  if okM modes as ε' = true ∧ (ownI modes as).Nodup then match F ds with
    | .ok o d outs => .ok (o, d) (putO (ownI modes as) outs ε')
    | .exc x outs => .exc x (putO (ownI modes as) outs ε')
    | .stuck => .stuck
  else .stuck

theorem putO_length : ∀ {is : List Nat} {ds : List PyData} {ε : Fe}, (putO is ds ε).length = ε.length
  | [], ds, ε => by unfold putO; rfl
  | _ :: _, [], ε => by unfold putO; rfl
  | i :: is, d :: ds, ε => by
    unfold putO
    rw [putO_length]
    split
    · rw [List.length_set]
    · rfl
theorem putO_at : ∀ {is : List Nat} {ds : List PyData} {ε : Fe} {j : Nat} {o : Own} {d : PyData}, is.Nodup → (putO is ds ε)[j]? = some (some (o, d)) →
    ((j ∉ is ∨ ds.length < is.length) ∧ ε[j]? = some (some (o, d))) ∨ ∃ (k : Nat) (d0 : PyData), is[k]? = some j ∧ ds[k]? = some d ∧ ε[j]? = some (some (o, d0))
  | [], ds, ε, j, o, d, _, e => by unfold putO at e; exact .inl ⟨.inl (by simp), e⟩
  | _ :: _, [], ε, j, o, d, _, e => by unfold putO at e; exact .inl ⟨.inr (by simp), e⟩
  | i :: is, x :: ds, ε, j, o, d, nd, e => by
    unfold putO at e
    have nd' := List.nodup_cons.mp nd
    rcases putO_at nd'.2 e with ⟨h1, h2⟩ | ⟨k, d0, h1, h2, h3⟩
    · by_cases hij : i = j
      · subst hij
        split at h2
        · rename_i o' d' e'
          rw [List.getElem?_set_self (List.getElem?_eq_some_iff.mp e').1] at h2
          cases h2
          exact .inr ⟨0, d', rfl, rfl, e'⟩
        · rename_i hn
          exact absurd h2 (hn o d)
      · refine .inl ⟨?_, ?_⟩
        · rcases h1 with h1 | h1
          · exact .inl (by simp only [List.mem_cons, not_or]; exact ⟨fun z => hij z.symm, h1⟩)
          · exact .inr (by simpa using h1)
        · split at h2
          · rw [List.getElem?_set_ne hij] at h2; exact h2
          · exact h2
    · have hij : i ≠ j := fun z => by
        subst z
        exact nd'.1 (List.mem_of_getElem? h1)
      refine .inr ⟨k + 1, d0, h1, h2, ?_⟩
      split at h3
      · rw [List.getElem?_set_ne hij] at h3; exact h3
      · exact h3
section
variable {M : Md} {B : Ent} {W : WX} {σ : St} {ε : Fe} {H : Hp} {tm : List (V × PyData)} {v : V} {o : Own} {d : PyData}
theorem args_of {Hf : Hp} (r : Rl B Hf σ ε H tm) : ∀ {modes : List Bool} {as : List Arg} {vs : List V} {ds : List PyData}, Av B.K σ ε Hf as vs ds → okM modes as ε = true → (ownI modes as).Nodup →
    ArgsOk B.K Hf H modes vs ds ∧ (ownsOf modes vs).length = (ownI modes as).length ∧
      ∀ (k i : Nat), (ownI modes as)[k]? = some i → ∃ a o d, (ownsOf modes vs)[k]? = some a ∧ σ[i]? = some (some (.ref a)) ∧ ε[i]? = some (some (o, d)) ∧ o.own = true
  | [], _, _, _, .nil, _, _ => ⟨.nil, rfl, fun k i h => by unfold ownI at h; simp at h⟩
  | _ :: _, _, _, _, .nil, e, _ => by simp [okM] at e
  | [], _, _, _, .v _ _, e, _ => by simp [okM] at e
  | [], _, _, _, .b _ _ _ _, e, _ => by simp [okM] at e
  | false :: ms, _, _, _, .v h t, e, nd => by
    unfold okM at e
    unfold ownI at nd ⊢
    unfold ownsOf
    obtain ⟨a, b, c⟩ := args_of r t e nd
    exact ⟨.val h a, b, c⟩
  | true :: ms, _, _, _, .v h t, e, nd => by simp [okM] at e
  | false :: ms, _, _, _, .b _ _ _ t, e, nd => by simp [okM] at e
  | true :: ms, _, _, _, .b s q x t, e, nd => by
    unfold okM at e
    rw [Bool.and_eq_true, q] at e
    unfold ownI at nd ⊢
    obtain ⟨v', s', rt⟩ := r.sl _ _ _ q
    rw [s] at s'
    cases s'
    obtain ⟨a, rfl, n, _, c⟩ := rt.ref e.1
    unfold ownsOf
    obtain ⟨a1, b1, c1⟩ := args_of r t e.2 (List.nodup_cons.mp nd).2
    refine ⟨.own n c a1, congrArg (· + 1) b1, fun k i h => ?_⟩
    cases k with
    | zero =>
      cases h
      exact ⟨a, _, _, rfl, s, q, e.1⟩
    | succ k => exact c1 k i h
theorem OutsOk.get {K : PySem.W.Frag} {Hf H : Hp} : ∀ {as : List Addr} {ds : List PyData} {k : Nat} {a : Addr} {d : PyData}, OutsOk K Hf H as ds → as[k]? = some a → ds[k]? = some d → Hf a = none ∧ Cont K Hf H a d
  | _, _, _, _, _, .nil, e, _ => by simp at e
  | _, _, 0, _, _, .cons n c _, e, e' => by cases e; cases e'; exact ⟨n, c⟩
  | _, _, k + 1, _, _, .cons _ _ t, e, e' => OutsOk.get t e e'
theorem OutsOk.len {K : PySem.W.Frag} {Hf H : Hp} : ∀ {as : List Addr} {ds : List PyData}, OutsOk K Hf H as ds → ds.length = as.length
  | _, _, .nil => rfl
  | _, _, .cons _ _ t => congrArg (· + 1) t.len
/-- behind a call -/
theorem Rl.called {Hf Hf2 H2 : Hp} {is : List Nat} {OPc : List Addr} {outs : List PyData} (r : Rl B Hf σ ε H tm) (nd : is.Nodup) (hl : OPc.length = is.length)
    (hi : ∀ (k i : Nat), is[k]? = some i → ∃ a o d, OPc[k]? = some a ∧ σ[i]? = some (some (.ref a)) ∧ ε[i]? = some (some (o, d)) ∧ o.own = true) (f : Fin B.K Hf H OPc Hf2 H2 outs) : Rl B Hf2 σ (putO is outs ε) H2 tm := by
  have wh : ∀ a ∈ OPc, ∃ (i : Nat) (o : Own) (d : PyData), i ∈ is ∧ σ[i]? = some (some (.ref a)) ∧ ε[i]? = some (some (o, d)) ∧ o.own = true := fun a ha => by
    obtain ⟨k, hk⟩ := List.getElem?_of_mem ha
    have hlt : k < is.length := by rw [← hl]; exact (List.getElem?_eq_some_iff.mp hk).1
    obtain ⟨a', o, d, h1, h2, h3, h4⟩ := hi k is[k] (List.getElem?_eq_getElem hlt)
    rw [hk] at h1
    cases h1
    exact ⟨is[k], o, d, List.getElem_mem hlt, h2, h3, h4⟩
  have own_of : ∀ (i : Nat) a o d, σ[i]? = some (some (.ref a)) → ε[i]? = some (some (o, d)) → o.own = true → Hf a = none ∧ (B.H0 a = none ∨ a ∈ B.OP) ∧ ∃ u, H a = some u := fun i a o d h1 h2 h3 => by
    obtain ⟨v, s, t⟩ := r.sl i o d h2
    rw [h1] at s
    cases s
    obtain ⟨b, eb, n, w, c⟩ := t.ref h3
    cases eb
    obtain ⟨u, q, _⟩ := c.at
    exact ⟨n, w, u, q⟩
  refine ⟨f.le, r.f0.trans f.e, fun b x q => ?_, fun b x q => ?_, fun b x q hb => ?_, r.op, by rw [putO_length]; exact r.ln, fun i o d e => ?_, fun i j v o d o' d' n e1 e2 w1 w2 s1 s2 => ?_, fun p hp => Sh.mono f.e (r.tm p hp)⟩
  · obtain ⟨u, z⟩ := r.al b x q
    rw [f.fn b u z]
    exact r.fn b x q
  · obtain ⟨u, z⟩ := r.al b x q
    exact f.al b u z
  · refine f.kp b x (r.kp b x q hb) fun hm => ?_
    obtain ⟨i, o, d, _, h2, h3, h4⟩ := wh b hm
    rcases (own_of i b o d h2 h3 h4).2.1 with z | z
    · rw [q] at z; cases z
    · exact hb z
  · rcases putO_at nd e with ⟨hn, e'⟩ | ⟨k, d0, h1, h2, h3⟩
    · obtain ⟨v, s, t⟩ := r.sl i o d e'
      refine ⟨v, s, t.mono f.e (fun a w ev => ?_) fun a u w ev q => f.kp a u q fun hm => ?_⟩
      · obtain ⟨z, u, y⟩ := t.nof w ev
        rw [f.fn a u y]
        exact z
      · obtain ⟨j, oj, dj, hj, g2, g3, g4⟩ := wh a hm
        rcases hn with hn | hn
        · have hij : i ≠ j := fun z => hn (z ▸ hj)
          subst ev
          exact r.dj i j _ _ _ _ _ hij e' g3 w g4 s g2
        · rw [f.out.len, hl] at hn
          exact absurd hn (Nat.lt_irrefl _)
    · obtain ⟨a, o1, d1, g1, g2, g3, g4⟩ := hi k i h1
      rw [h3] at g3
      cases g3
      obtain ⟨v, s, t⟩ := r.sl i o d0 h3
      rw [g2] at s
      cases s
      obtain ⟨n, c⟩ := f.out.get g1 h2
      refine ⟨_, g2, ?_⟩
      cases o with
      | sh => cases g4
      | ex x => cases g4
      | top =>
        obtain ⟨b, eb, _, h0, _⟩ := t
        cases eb
        exact ⟨a, rfl, n, h0, c⟩
      | par j =>
        obtain ⟨b, eb, _, h0, _⟩ := t
        cases eb
        exact ⟨a, rfl, n, h0, c⟩
  · have back : ∀ {i o d}, (putO is outs ε)[i]? = some (some (o, d)) → ∃ d0, ε[i]? = some (some (o, d0)) := fun {i o d} e => by
      rcases putO_at nd e with ⟨_, e'⟩ | ⟨k, d0, _, _, h3⟩
      · exact ⟨d, e'⟩
      · exact ⟨d0, h3⟩
    obtain ⟨d1, f1⟩ := back e1
    obtain ⟨d2, f2⟩ := back e2
    exact r.dj i j v o d1 o' d2 n f1 f2 w1 w2 s1 s2
theorem es_call {ta : TA} {modes : List Bool} {F : List PyData → FR} {as : List Arg} (hl : LS M W ta as) : ES M W (tCallS (spD M modes F) (WE W) ta) (eCall modes F as) := fun B hB σ H ε tm Q R h => by
  subst hB
  refine hl B rfl σ H ε tm _ R ?_
  unfold eCall at h
  cases e : evL as ε with
  | stuck => rw [e] at h; exact h.elim
  | exc x ε1 => rw [e] at h; exact h
  | ok ds ε1 =>
    rw [e, Res.bind_ok] at h
    intro vs H1 Hf r a
    split at h
    · rename_i hc
      obtain ⟨hok, nd⟩ := hc
      obtain ⟨g1, g2, g3⟩ := args_of r a hok nd
      have ndO : (ownsOf modes vs).Nodup := by
        refine List.pairwise_iff_getElem.mpr fun i j hi0 hj0 hij z => ?_
        have hj : j < (ownI modes as).length := by rw [← g2]; exact hj0
        have hi : i < (ownI modes as).length := Nat.lt_trans hij hj
        obtain ⟨x, o1, d1, q1, q2, q3, q4⟩ := g3 i _ (List.getElem?_eq_getElem hi)
        obtain ⟨y, o2, d2, p1, p2, p3, p4⟩ := g3 j _ (List.getElem?_eq_getElem hj)
        have exy : x = y := by
          have a1 := (List.getElem?_eq_getElem hi0).symm.trans q1
          have a2 := (List.getElem?_eq_getElem hj0).symm.trans p1
          have a3 := Option.some.inj a1
          have a4 := Option.some.inj a2
          rw [← a3, ← a4]
          exact z
        subst exy
        refine r.dj _ _ _ _ _ _ _ (fun z => ?_) q3 p3 q4 p4 q2 p2
        exact absurd ((List.getElem_inj nd).mp z) (Nat.ne_of_lt hij)
      refine ⟨Hf, ds, r.le, g1, ndO, ?_⟩
      cases eF : F ds with
      | stuck => rw [eF] at h; exact h.elim
      | exc x outs =>
        rw [eF] at h
        exact fun C H' Hf' hC f => h C H' hC ⟨Hf', r.called nd g2 g3 f⟩
      | ok o d outs =>
        rw [eF] at h
        intro v H' Hf' f ret
        refine h v H' ⟨Hf', r.called nd g2 g3 f, ?_, ?_, ?_⟩
        · cases o with
          | sh => exact ret
          | top =>
            obtain ⟨b, e1, e2, e3, c⟩ := ret
            exact ⟨b, e1, e2, r.h0 e3, c⟩
          | par k => exact ret.elim
          | ex x => exact ret.elim
        · intro w
          cases o with
          | sh => cases w
          | top =>
            obtain ⟨b, rfl, e2, e3, c⟩ := ret
            intro i o' d' q w' s
            rcases putO_at nd q with ⟨_, q'⟩ | ⟨k, d0, _, _, q'⟩
            · exact r.free e3 i _ _ q' w' s
            · exact r.free e3 i _ _ q' w' s
          | par k => exact ret.elim
          | ex x => exact ret.elim
        · cases o with
          | sh => rfl
          | top => rfl
          | par k => exact ret.elim
          | ex x => rfl
    · exact h.elim

/-! ### a call with lists that are lent: its answer is flat -/
def noOwn : List Bool → Bool
  | [] => true
  | m :: ms => !m && noOwn ms
def eCallL (modes : List Bool) (F : List PyData → FR) (as : List Arg) : Ev := fun ε => (evL as ε).bind fun ds ε' =>
  if noOwn modes = true ∧ as.length = modes.length then match F ds with
    | .ok .sh d _ => if flatD d = true then .ok (.sh, d) ε' else .stuck
    | .exc x _ => .exc x ε'
    | _ => .stuck
  else .stuck
/-- the heap with what stands at these addresses frozen -/
def frzAll (Hf H : Hp) (as : List Addr) : Hp := fun b => if b ∈ as then H b else Hf b
theorem lent_of {Hf : Hp} (r : Rl B Hf σ ε H tm) : ∀ {as : List Arg} {vs : List V} {ds : List PyData}, Av B.K σ ε Hf as vs ds →
    ∃ ls : List Addr, (∀ a ∈ ls, Hf a = none) ∧ ∀ Hf', Same Hf Hf' → Same Hf' H → (∀ a ∈ ls, Hf' a = H a) → ∀ modes : List Bool, noOwn modes = true → as.length = modes.length → ArgsOk B.K Hf' H modes vs ds ∧ ownsOf modes vs = []
  | _, _, _, .nil => ⟨[], (fun a h => by cases h), fun Hf' _ _ _ modes _ hl => by
      cases modes with
      | nil => exact ⟨.nil, rfl⟩
      | cons m ms => cases hl⟩
  | _, _, _, .v h t => by
    obtain ⟨ls, h1, h2⟩ := lent_of r t
    refine ⟨ls, h1, fun Hf' e le ha modes hm hl => ?_⟩
    cases modes with
    | nil => cases hl
    | cons m ms =>
      unfold noOwn at hm
      rw [Bool.and_eq_true] at hm
      cases m with
      | true => cases hm.1
      | false =>
        obtain ⟨a, b⟩ := h2 Hf' e le ha ms hm.2 (by simpa using hl)
        exact ⟨.val (h.mono e) a, by unfold ownsOf; exact b⟩
  | _, _, _, .b (i := i) (o := o) (d := d) s q x t => by
    obtain ⟨ls, h1, h2⟩ := lent_of r t
    obtain ⟨v', s', rt⟩ := r.sl _ _ _ q
    rw [s] at s'
    cases s'
    by_cases hw : o.own = true
    · obtain ⟨a, rfl, n, _, c⟩ := rt.ref hw
      refine ⟨a :: ls, fun b hb => ?_, fun Hf' e le ha modes hm hl => ?_⟩
      · rcases List.mem_cons.mp hb with z | z
        · rw [z]; exact n
        · exact h1 b z
      · cases modes with
        | nil => cases hl
        | cons m ms =>
          unfold noOwn at hm
          rw [Bool.and_eq_true] at hm
          cases m with
          | true => cases hm.1
          | false =>
            obtain ⟨a1, b1⟩ := h2 Hf' e le (fun b hb => ha b (List.mem_cons_of_mem _ hb)) ms hm.2 (by simpa using hl)
            refine ⟨.val ?_ a1, by unfold ownsOf; exact b1⟩
            have ea := ha a List.mem_cons_self
            cases d with
            | list ds =>
              obtain ⟨xs, q1, q2⟩ := c
              exact .lst (ea.trans q1) (q2.mono e)
            | dict ds =>
              obtain ⟨xs, q1, q2⟩ := c
              exact .dic (ea.trans q1) (q2.mono e)
            | none => exact c.elim
            | bool _ => exact c.elim
            | int _ => exact c.elim
            | str _ => exact c.elim
            | tuple _ => exact c.elim
    · refine ⟨ls, h1, fun Hf' e le ha modes hm hl => ?_⟩
      cases modes with
      | nil => cases hl
      | cons m ms =>
        unfold noOwn at hm
        rw [Bool.and_eq_true] at hm
        cases m with
        | true => cases hm.1
        | false =>
          obtain ⟨a1, b1⟩ := h2 Hf' e le ha ms hm.2 (by simpa using hl)
          refine ⟨.val ?_ a1, by unfold ownsOf; exact b1⟩
          cases o with
          | sh => exact Sh.mono e rt
          | top => exact absurd rfl hw
          | par k => exact absurd rfl hw
          | ex y => cases x
theorem Sh.flat {K : PySem.W.Frag} {Hf Hf' : Hp} (h : Sh K Hf v d) (f : flatD d = true) : Sh K Hf' v d := by
  cases h with
  | non => exact .non
  | bl b => exact .bl b
  | int i => exact .int i
  | str x => exact .str x
  | lst _ _ => cases f
  | tup _ _ => cases f
  | dic _ _ => cases f
  | scr _ => cases f
theorem es_callL {ta : TA} {modes : List Bool} {F : List PyData → FR} {as : List Arg} (hl : LS M W ta as) : ES M W (tCallS (spD M modes F) (WE W) ta) (eCallL modes F as) := fun B hB σ H ε tm Q R h => by
  subst hB
  refine hl B rfl σ H ε tm _ R ?_
  unfold eCallL at h
  cases e : evL as ε with
  | stuck => rw [e] at h; exact h.elim
  | exc x ε1 => rw [e] at h; exact h
  | ok ds ε1 =>
    rw [e, Res.bind_ok] at h
    intro vs H1 Hf r a
    split at h
    · rename_i hc
      obtain ⟨ls, n1, n2⟩ := lent_of r a
      have e1 : Same Hf (frzAll Hf H1 ls) := fun b x q => by
        unfold frzAll
        by_cases hb : b ∈ ls
        · rw [n1 b hb] at q; cases q
        · rw [if_neg hb]; exact q
      have e2 : Same (frzAll Hf H1 ls) H1 := fun b x q => by
        unfold frzAll at q
        by_cases hb : b ∈ ls
        · rw [if_pos hb] at q; exact q
        · rw [if_neg hb] at q; exact r.le _ _ q
      obtain ⟨g1, g2⟩ := n2 _ e1 e2 (fun b hb => if_pos hb) modes hc.1 hc.2
      refine ⟨frzAll Hf H1 ls, ds, e2, g1, by rw [g2]; exact List.nodup_nil, ?_⟩
      rw [g2]
      -- behind the call: what was frozen for it is ours again
      have back : ∀ {H' Hf' outs}, Fin B.K (frzAll Hf H1 ls) H1 [] Hf' H' outs → Rl B Hf σ ε1 H' tm := fun {H' Hf' outs} f => by
        have k : Same H1 H' := fun b x q => f.kp b x q (by simp)
        exact r.grow (Same.refl _) (r.le.trans k) k fun _ _ _ => rfl
      cases eF : F ds with
      | stuck => rw [eF] at h; exact h.elim
      | exc x outs =>
        rw [eF] at h
        exact fun C H' Hf' hC f => h C H' hC ⟨Hf, back f⟩
      | ok o d outs =>
        rw [eF] at h
        cases o with
        | sh =>
          dsimp only at h
          split at h
          · rename_i hf
            intro v H' Hf' f ret
            have ret' : Sh B.M.K Hf' v d := ret
            exact h v H' ((back f).flat1 (ret'.flat hf))
          · exact h.elim
        | top => exact h.elim
        | par k => exact h.elim
        | ex y => exact h.elim
    · exact h.elim

/-! ### raise -/
def sRaise (x : Str) : Sm := fun ε => .exc x ε
/-- raise X(), X('..'): the class at C -/
theorem ss_raise {x : Str} {C : Addr} (hC : M.mg x = some (.ref C)) : SS M W (fun _ σ H => (fun (_ : St) (H : Hp) (Q : XK) => Q (.ref C) none H) σ H fun cls d H' => W cls d σ H') (sRaise x) := fun B hB σ H ε tm D R h => by
  subst hB
  exact h σ C H hC R
end
end FS
/-! The functional layer, part 8: raise X(), calls without arguments, chains of three, further targets, extend. -/
namespace FS
open PySem PySem.Spec PyProof.Rows L2 RZ
section
variable {X : Cx} {C : Addr} {bmB : List Value} {B newId initId : String}
/-- X() -/
theorem pmk_new0 {x : Str} {p pos : Pos} (F : ExcBaseFacts B newId initId bmB) (q : PySem.W.excIn X.K C bmB newId = true) (gC : X.mg x = some (.ref C)) (kC : PySem.W.keepIn X.K (.ref C) = true) (r : Raises X (.ref C)) (hg : Gl X x)
    (hdb : (x == ("__debug__" : Str)) = false := by decide) : L2N.PMk X (.Call (.Name x p) [] [] pos) (fun _ H Q => Q (.ref C) none H) := by
  intro pins s σ H Q I h
  refine wpAny_Call_Name_kw (ld_glob I hg gC ?_ hdb)
  refine PySem.W.callWith_K0 I.kIn kC ?_
  obtain ⟨bm, N, nm, qn, bs, hdct, sn, sub, ab, col, dd, k0, k1, k2, k3, k5, mN, hC, hN, hni, T⟩ := exc_obj I.kIn q
  refine wpAny_call_exc_subT F T hC hN hni (fun h' e hm => ?_) (by show 0 ≤ sizeLine; omega)
  exact L2N.mk_of I hm r h (I.hok.gone hm.new)
end
section
variable {X : Cx} {CX : CXT} {k : Nat} {f C : Addr} {fd : FuncData} {ps : List Str} {sp : Sp} {E : St → XK} {x m : Str} {p pos apos : Pos} {e o : Expr} {es : List Expr} {ta : TE} {t : TA}
theorem pe_callS0 (F : FnOk X.prog X.w X.K X.mg X.base CX k f fd ps sp) (hr : Room k X.A) (hg : Gl X x) (hm : X.mg x = some (.ref f)) (hk : PySem.W.keepIn X.K (.ref f) = true) (hb : Binds X.K fd ps []) (hx : ∀ σ, PassesAt CX X σ (E σ))
    (ha : PA X [] t) (hdb : (x == ("__debug__" : Str)) = false := by decide) :
    PE X (.Call (.Name x p) [] [] pos) (tCallS sp E tNil) := by
  refine ⟨fun pins s σ H Q I h => ?_⟩
  refine wpAny_Call_Name_kw (ld_glob I hg hm ?_ hdb)
  exact PySem.W.callWith_K0 I.kIn hk (run_fnS (us := []) F hr hb (hx σ) I .nil h)
end
/-! ### a < b < c < d -/
def tChain3 (r r' r'' : R2) (ta tb tc td : TE) : TE := fun σ H Q => ta σ H fun x H1 => tb σ H1 fun y H2 => r x y H2 fun z H3 => ∃ k, z = .bl k ∧
  (if k = true then tc σ H3 fun w H4 => r' y w H4 (fun z' H5 => ∃ k', z' = .bl k' ∧ (if k' = true then td σ H5 fun w' H6 => r'' w w' H6 Q else Q (.bl false) H5)) else Q (.bl false) H3)
section
variable {X : Cx} {a b c d : Expr} {ta tb tc td : TE} {r r' r'' : R2} {pos : Pos}
theorem pe_chain3 {op op' op'' : CmpOp} (ho : OpR X (compareOp op) r) (ho' : OpR X (compareOp op') r') (ho2 : OpR X (compareOp op'') r'') (ha : PE X a ta) (hb : PE X b tb) (hc : PE X c tc) (hd : PE X d td)
    (hm : lastMarks [op, op', op''] [b, c, d] = false := by with_unfolding_all rfl) : PE X (.Compare a [op, op', op''] [b, c, d] pos) (tChain3 r r' r'' ta tb tc td) := by
  refine ⟨fun pins s σ H Q I h => ?_⟩
  refine Compare_chain (thn (ha.run pins s σ H _ I h) fun v s1 ⟨x, H1, I1, r1, q1⟩ => chain_link (thn (hb.run pins s1 σ H1 _ I1 q1) fun u s2 ⟨y, H2, I2, r2, q2⟩ =>
    thn (ho pins s2 σ H2 x y v u _ I2 r1 r2 q2) fun d s3 ⟨z, H3, I3, r3, k, e, q3⟩ => ?_)) hm
  subst e
  cases r3
  refine wpAny_truthy_bool ?_
  cases k with
  | false => exact ite_ff ⟨.bl false, H3, I3, rfl, q3⟩
  | true =>
    refine ite_tt (chain_link (thn (hc.run pins s3 σ H3 _ I3 q3) fun w' s4 ⟨z', H4, I4, r4, q4⟩ => thn (ho' pins s4 σ H4 y z' u w' _ I4 r2 r4 q4) fun d' s5 ⟨z2, H5, I5, r5, k2, e2, q5⟩ => ?_))
    subst e2
    cases r5
    refine wpAny_truthy_bool ?_
    cases k2 with
    | false => exact ite_ff ⟨.bl false, H5, I5, rfl, q5⟩
    | true => exact ite_tt (chain_last (thn (hd.run pins s5 σ H5 _ I5 q5) fun w2 s6 ⟨z3, H6, I6, r6, q6⟩ => ho2 pins s6 σ H6 z' z3 w' w2 Q I6 r4 r6 q6))
theorem pt_chain3 {op op' op'' : CmpOp} (ho : OpR X (compareOp op) r) (ho' : OpR X (compareOp op') r') (ho2 : OpR X (compareOp op'') r'') (ha : PE X a ta) (hb : PE X b tb) (hc : PE X c tc) (hd : PE X d td)
    (hm : lastMarks [op, op', op''] [b, c, d] = false := by with_unfolding_all rfl) : PT X (.Compare a [op, op', op''] [b, c, d] pos) (tTest (tChain3 r r' r'' ta tb tc td)) := by
  refine ⟨fun pins s σ H Q I h => ?_⟩
  refine isTrue_chain (thn (ha.run pins s σ H _ I h) fun v s1 ⟨x, H1, I1, r1, q1⟩ => test_link (thn (hb.run pins s1 σ H1 _ I1 q1) fun u s2 ⟨y, H2, I2, r2, q2⟩ =>
    thn (ho pins s2 σ H2 x y v u _ I2 r1 r2 q2) fun d s3 ⟨z, H3, I3, r3, k, e, q3⟩ => ?_)) hm
  subst e
  cases r3
  refine wpAny_truthy_bool ?_
  cases k with
  | false =>
    obtain ⟨k', e', q'⟩ := q3
    cases e'
    exact ite_ff ⟨H3, I3, q'⟩
  | true =>
    refine ite_tt (test_link (thn (hc.run pins s3 σ H3 _ I3 q3) fun w' s4 ⟨z', H4, I4, r4, q4⟩ => thn (ho' pins s4 σ H4 y z' u w' _ I4 r2 r4 q4) fun d' s5 ⟨z2, H5, I5, r5, k2, e2, q5⟩ => ?_))
    subst e2
    cases r5
    refine wpAny_truthy_bool ?_
    cases k2 with
    | false =>
      obtain ⟨k', e', q'⟩ := q5
      cases e'
      exact ite_ff ⟨H5, I5, q'⟩
    | true =>
      refine ite_tt (test_last (thn (hd.run pins s5 σ H5 _ I5 q5) fun w2 s6 ⟨z3, H6, I6, r6, q6⟩ => thn (ho2 pins s6 σ H6 z' z3 w' w2 _ I6 r4 r6 q6) fun d2 s7 ⟨z4, H7, I7, r7, k3, e3, q7⟩ => ?_))
      subst e3
      cases r7
      exact wpAny_truthy_bool ⟨H7, I7, q7⟩
end
def eChF3 (g g' g'' : PyData → PyData → Option Bool) (fa fb fc fd : Ev) : Ev := fun ε => (fa ε).bind fun a ε1 => if a.1.isEx then .stuck else (fb ε1).bind fun b ε2 => if b.1.isEx then .stuck else match g a.2 b.2 with
  | none => .stuck
  | some false => .ok (.sh, .bool false) ε2
  | some true => (fc ε2).bind fun c ε3 => if c.1.isEx then .stuck else match g' b.2 c.2 with
    | none => .stuck
    | some false => .ok (.sh, .bool false) ε3
    | some true => (fd ε3).bind fun d ε4 => if d.1.isEx then .stuck else match g'' c.2 d.2 with
      | none => .stuck
      | some k => .ok (.sh, .bool k) ε4
section
variable {M : Md} {B : Ent} {W : WX} {σ : St} {ε : Fe} {H : Hp} {tm : List (V × PyData)} {v : V} {o : Own} {d : PyData}
theorem es_chI3 {ta tb tc td : TE} {fa fb fc fd : Ev} {k k' k'' : Int → Int → Bool} (ha : ES M W ta fa) (hb : ES M W tb fb) (hc : ES M W tc fc) (hd : ES M W td fd) :
    ES M W (tChain3 (rI0 fun i j => .bl (k i j)) (rI0 fun i j => .bl (k' i j)) (rI0 fun i j => .bl (k'' i j)) ta tb tc td) (eChF3 (cI k) (cI k') (cI k'') fa fb fc fd) := fun B hB σ H ε tm Q R h => by
  subst hB
  refine ha B rfl σ H ε tm _ R ?_
  unfold eChF3 at h
  cases e : fa ε with
  | stuck => rw [e] at h; exact h.elim
  | exc x ε1 => rw [e] at h; exact h
  | ok a ε1 =>
    rw [e, Res.bind_ok] at h
    intro x H1 R1
    by_cases hx : a.1.isEx = true
    · rw [if_pos hx] at h; exact h.elim
    · rw [if_neg hx] at h
      have R2 := R1.freeze (by simpa using hx)
      refine hb B rfl σ H1 ε1 _ _ R2 ?_
      cases e2 : fb ε1 with
      | stuck => rw [e2] at h; exact h.elim
      | exc x ε2 => rw [e2] at h; exact XP.drop (fun q hq => List.mem_cons_of_mem _ hq) h
      | ok b ε2 =>
        rw [e2, Res.bind_ok] at h
        intro y H2 R3
        by_cases hx2 : b.1.isEx = true
        · rw [if_pos hx2] at h; exact h.elim
        · rw [if_neg hx2] at h
          have R4 := R3.freeze (by simpa using hx2)
          obtain ⟨oa, da⟩ := a
          obtain ⟨ob, db⟩ := b
          dsimp only at h R4
          cases da <;> try exact h.elim
          cases db <;> try exact h.elim
          rename_i i j
          obtain ⟨Hf, r⟩ := id R4
          cases (show Sh B.K Hf y (.int j) from r.tm _ List.mem_cons_self)
          cases (show Sh B.K Hf x (.int i) from r.tm _ (List.mem_cons_of_mem _ List.mem_cons_self))
          refine ⟨i, j, rfl, rfl, k i j, rfl, ?_⟩
          rw [cI_int] at h
          cases hk : k i j with
          | false =>
            rw [hk] at h
            rw [if_neg Bool.false_ne_true]
            exact h _ _ ((R4.drop fun p hp => List.mem_cons_of_mem _ (List.mem_cons_of_mem _ hp)).flat fun _ => .bl _)
          | true =>
            rw [hk] at h
            rw [if_pos rfl]
            dsimp only at h
            refine hc B rfl σ H2 ε2 _ _ R4 ?_
            cases e3 : fc ε2 with
            | stuck => rw [e3] at h; exact h.elim
            | exc x ε3 => rw [e3] at h; exact XP.drop (fun q hq => List.mem_cons_of_mem _ (List.mem_cons_of_mem _ hq)) h
            | ok c ε3 =>
              rw [e3, Res.bind_ok] at h
              intro z H3 R5
              by_cases hx3 : c.1.isEx = true
              · rw [if_pos hx3] at h; exact h.elim
              · rw [if_neg hx3] at h
                have R6 := R5.freeze (by simpa using hx3)
                obtain ⟨oc, dc⟩ := c
                dsimp only at h R6
                cases dc <;> try exact h.elim
                rename_i l
                obtain ⟨Hf, r⟩ := id R6
                cases (show Sh B.K Hf z (.int l) from r.tm _ List.mem_cons_self)
                refine ⟨j, l, rfl, rfl, k' j l, rfl, ?_⟩
                rw [cI_int] at h
                cases hk2 : k' j l with
                | false =>
                  rw [hk2] at h
                  rw [if_neg Bool.false_ne_true]
                  exact h _ _ ((R6.drop fun p hp => List.mem_cons_of_mem _ (List.mem_cons_of_mem _ (List.mem_cons_of_mem _ hp))).flat fun _ => .bl _)
                | true =>
                  rw [hk2] at h
                  rw [if_pos rfl]
                  dsimp only at h
                  refine hd B rfl σ H3 ε3 _ _ R6 ?_
                  cases e4 : fd ε3 with
                  | stuck => rw [e4] at h; exact h.elim
                  | exc x ε4 => rw [e4] at h; exact XP.drop (fun q hq => List.mem_cons_of_mem _ (List.mem_cons_of_mem _ (List.mem_cons_of_mem _ hq))) h
                  | ok d ε4 =>
                    rw [e4, Res.bind_ok] at h
                    intro y2 H4 R7
                    by_cases hx4 : d.1.isEx = true
                    · rw [if_pos hx4] at h; exact h.elim
                    · rw [if_neg hx4] at h
                      have R8 := R7.freeze (by simpa using hx4)
                      obtain ⟨od, dd⟩ := d
                      dsimp only at h R8
                      cases dd <;> try exact h.elim
                      rename_i m
                      obtain ⟨Hf, r⟩ := id R8
                      cases (show Sh B.K Hf y2 (.int m) from r.tm _ List.mem_cons_self)
                      exact ⟨l, m, rfl, rfl, h _ _ ((R8.drop fun p hp => List.mem_cons_of_mem _ (List.mem_cons_of_mem _ (List.mem_cons_of_mem _ (List.mem_cons_of_mem _ hp)))).flat fun _ => .bl _)⟩

/-! ### x[k] as one of several targets -/
def gtPut (i : Nat) (g : Ev) : Tg := fun o d ε => if o.isEx then none else match ε[i]? with
  | some (some _) => match g ε with
    | .ok q ε2 => if q.1.isEx then none else match q.2, ε2[i]? with
      | .int k, some (some (o', .list ds)) => if o'.own = true then match ixN ds.length k with
          | some j => some (ε2.set i (some (o', .list (ds.set j d))))
          | none => none
        else none
      | _, _ => none
    | _ => none
  | _ => none
theorem gs_put {i : Nat} {ti : TE} {g : Ev} (hi : ES M W ti g) : GS M (L2.gSub (tVar i) ti rSetL) (gtPut i g) := fun B hB σ H ε tm v o d Q R h => by
  subst hB
  unfold gtPut at h
  by_cases hx : o.isEx = true
  · rw [if_pos hx] at h; exact h.elim
  · rw [if_neg hx] at h
    have R2 := R.freeze (by simpa using hx)
    cases e0 : ε[i]? with
    | none => rw [e0] at h; exact h.elim
    | some p0 =>
      cases p0 with
      | none => rw [e0] at h; exact h.elim
      | some p0 =>
        rw [e0] at h
        dsimp only at h
        obtain ⟨Hf0, r0⟩ := id R2
        obtain ⟨v0, s0, t0⟩ := r0.sl _ p0.1 p0.2 e0
        refine ⟨v0, s0, hi B rfl σ H ε _ _ R2 ?_⟩
        cases e2 : g ε with
        | stuck => rw [e2] at h; exact h.elim
        | exc x ε2 => rw [e2] at h; exact h.elim
        | ok q ε2 =>
          rw [e2] at h
          dsimp only at h
          intro w H2 R3
          by_cases hx2 : q.1.isEx = true
          · rw [if_pos hx2] at h; exact h.elim
          · rw [if_neg hx2] at h
            obtain ⟨Hf, r⟩ := R3.freeze (by simpa using hx2)
            split at h
            · rename_i k o' ds ek e3
              by_cases hw : o'.own = true
              · rw [if_pos hw] at h
                split at h
                · rename_i j ej
                  have tw : Sh B.K Hf w q.2 := r.tm _ List.mem_cons_self
                  have tv : Sh B.K Hf v d := r.tm _ (List.mem_cons_of_mem _ List.mem_cons_self)
                  rw [ek] at tw
                  cases tw
                  obtain ⟨v1, s1, t1⟩ := r.sl _ _ _ e3
                  rw [s0] at s1
                  cases s1
                  obtain ⟨a, xs, rfl, q1, sh1⟩ := t1.lstAt r.le (own_noEx hw)
                  refine ⟨a, xs, k, j, rfl, rfl, q1, by rw [sh1.length]; exact ej, ?_⟩
                  exact h σ _ ⟨Hf, (r.drop (tm' := tm) fun q hq => List.mem_cons_of_mem _ (List.mem_cons_of_mem _ hq)).write e3 hw s0 ⟨_, upd_same, sh1.set tv j⟩⟩
                · exact h.elim
              · rw [if_neg hw] at h; exact h.elim
            · exact h.elim
/-- x.extend(a list) -/
def sExt (i : Nat) (f : Ev) : Sm := fun ε => match ε[i]? with
  | some (some (o0, .list _)) => if o0.own = true then (f ε).bind fun p ε1 => match ε1[i]? with
    | some (some (o, .list ds)) => match p.2 with
      | .list es => if o.own = true ∧ p.1.isEx = false ∧ ds.length + es.length ≤ sizeLine then .ok .nx (ε1.set i (some (o, .list (ds ++ es)))) else .stuck
      | _ => .stuck
    | _ => .stuck
    else .stuck
  | _ => .stuck
theorem ss_ext {i : Nat} {te : TE} {f : Ev} (he : ES M W te f) : SS M W (tDrop (tBM M.K "list" rExtend (tVar i) (tCons te tNil))) (sExt i f) := fun B hB σ H ε tm D R h => by
  subst hB
  unfold sExt at h
  split at h
  · rename_i o0 ds0 e0
    obtain ⟨Hf0, r0⟩ := id R
    obtain ⟨v0, s0, t0⟩ := r0.sl _ _ _ e0
    by_cases hx0 : o0.own = true
    · rw [if_pos hx0] at h
      obtain ⟨a0, xs0, rfl, q0, _⟩ := t0.lstAt r0.le (own_noEx hx0)
      refine ⟨_, s0, .inl ⟨rfl, _, .of q0⟩, ?_⟩
      refine he B rfl σ H ε tm _ R ?_
      cases e : f ε with
      | stuck => rw [e] at h; exact h.elim
      | exc x ε1 => rw [e] at h; exact h σ
      | ok p ε1 =>
        rw [e, Res.bind_ok] at h
        intro v H1 R1
        split at h
        · rename_i o ds e1
          split at h
          · rename_i es ep
            split at h
            · rename_i hz
              obtain ⟨hw, hx, hl⟩ := hz
              obtain ⟨Hf, r⟩ := R1.freeze hx
              have tv : Sh B.K Hf v p.2 := r.tm _ List.mem_cons_self
              rw [ep] at tv
              obtain ⟨v1, s1, t1⟩ := r.sl _ _ _ e1
              rw [s0] at s1
              cases s1
              obtain ⟨a, xs, ea, q1, sh1⟩ := t1.lstAt r.le (own_noEx hw)
              cases ea
              cases tv with
              | lst ht hs =>
                refine ⟨a0, _, xs, _, rfl, rfl, q1, r.le _ _ ht, by rw [sh1.length, hs.length]; exact hl, ?_⟩
                exact h σ _ ⟨Hf, (r.drop (tm' := tm) fun q hq => List.mem_cons_of_mem _ hq).write e1 hw s0 ⟨_, upd_same, sh1.append hs⟩⟩
            · exact h.elim
          · exact h.elim
        · exact h.elim
    · rw [if_neg hx0] at h; exact h.elim
  · exact h.elim
end
end FS
/-! The functional layer, part 9: defs that know that no repr is under way; repr of data. -/
namespace FS
open PySem PySem.Spec PyProof.Rows L2 RZ

/-! ### defs that know that no repr is under way -/
structure FnG (P : Program) (w : World) (K : PySem.W.Frag) (mg : Str → Option Value) (base : Heap) (k : Nat) (f : Addr) (fd : FuncData) (ps : List Str) (sp : Sp) : Prop where
  len : ∀ vs H Q E, sp vs H Q E → vs.length = ps.length
  run : ∀ (A : Around) (outer : List Env) (s : Shared) (H : Hp) (args : Args) (us : List Value) (vs : List V) (Q : VK) (E : XK), Room k A → A.guards = some [] → Env0 P w K mg base A outer s H → BindsTo s fd args (ps.zip us) → Vals vs us → sp vs H Q E →
    codeAny (model P w) A (.call (.ref f) args) (CR (L2N.CX P w) outer P w H s Q E) s
theorem takesN0 {X : Cx} : L2N.Takes X (fun _ _ _ _ => False) := fun _ _ ⟨_, _, _, _, _, _, _, _, _, _, _, _, _, _, _, _, h⟩ => h.elim
section
variable {P : Program} {w : World} {K : PySem.W.Frag} {mg : Str → Option Value} {base : Heap}
theorem FnG.mono {j k : Nat} {f : Addr} {fd : FuncData} {ps : List Str} {sp : Sp} (F : FnG P w K mg base j f fd ps sp) (h : j ≤ k) : FnG P w K mg base k f fd ps sp :=
  ⟨F.len, fun A outer s H args us vs Q E hr => F.run A outer s H args us vs Q E (hr.mono h)⟩
/-- from a body -/
theorem fnG_of {x qual : Str} {st : Stmt} {f : Addr} {fd : FuncData} {N ps : List Str} {k : Nat} {sp : Sp} (F : Fun K x qual st f fd) (S : FnScope N ps (defScope st)) (len : ∀ vs H Q E, sp vs H Q E → vs.length = ps.length)
    (hbody : ∀ (cdv : Value) (A : Around) (outer : List Env) (s : Shared) (H : Hp) (vs : List V) (Q : VK) (E : XK), Room k (A.deeper (envOfC qual (defScope st) s.heap.objs.size f cdv)) → A.guards = some [] → sp vs H Q E →
      ∃ t, PSs (cxOf (L2N.CX P w) P w K mg base N qual (defScope st) f cdv A outer s H E) (defBody st) t ∧ t { nx := fun _ H' => Q .non H', rt := Q } (L2.start N vs) H) : FnG P w K mg base (k + 1) f fd ps sp := by
  obtain ⟨oc, od, kV, doc, pm, an, cdv, ct, osl, rfl, lk, hcd⟩ := F.ex
  refine ⟨len, fun A outer s H args us vs Q E hr hg e0 hb r hsp => ?_⟩
  have KX : K.In s.heap := e0.mod.kin.keeps fun b o e => (e0.bs b o e).1
  have lim : s.heap.NoLimit := e0.mod.nolimit.keeps fun b o e => (e0.bs b o e).1
  refine codeAny_call_function hr.depth (KX _ _ lk) rfl S.co S.gen rfl (PySem.W.codeRec_of KX hcd) (hb _ _ _ _ (wpAny_newFunctionEnv_cells S.kind (fun y hy => (S.par y.1 (List.of_mem_zip hy).1).imp_right fun q => ⟨q, PySem.W.cellsFrom_some _ _ _ (.inl q)⟩) fun env he s1 x => ?_))
  subst he
  refine ⟨lim.keeps x.toInCall.keep, codeAny_func ?_⟩
  obtain ⟨t, ht, hq⟩ := hbody cdv A outer s H vs Q E (hr.deeper _) hg hsp
  refine wpAny_mono (ht.run [] s1 (L2.start N vs) H _ (inv_start S hr.hd e0 (len _ _ _ _ hsp) r x) hq) (fun fl s' hs => ?_) fun e s' hs => hs
  cases fl with
  | ret u => exact let ⟨v, _, H', J, rv, q⟩ := hs; ⟨v, H', J.os, J.bare, J.base, J.hok, rv, q⟩
  | next => exact let ⟨_, H', J, q⟩ := hs; ⟨.non, H', J.os, J.bare, J.base, J.hok, rfl, q⟩
  | brk => exact let ⟨_, _, _, q⟩ := hs; q.elim
  | cont => exact let ⟨_, _, _, q⟩ := hs; q.elim
theorem fn_okG {x qual : Str} {st : Stmt} {f : Addr} {fd : FuncData} {N ps : List Str} {k : Nat} (F : Fun K x qual st f fd) (S : FnScope N ps (defScope st)) (modes : List Bool) (hm : modes.length = ps.length) (body : Sm)
    (hbody : ∀ (cdv : Value) (A : Around) (outer : List Env) (s : Shared) (H : Hp) (E : XK), Room k (A.deeper (envOfC qual (defScope st) s.heap.objs.size f cdv)) → A.guards = some [] →
      ∃ t, PSs (cxOf (L2N.CX P w) P w K mg base N qual (defScope st) f cdv A outer s H E) (defBody st) t ∧ SS ⟨K, mg, none⟩ (EW E) t body) :
    FnG P w K mg base (k + 1) f fd ps (spD ⟨K, mg, none⟩ modes (runF modes N.length body)) := by
  refine fnG_of F S (fun vs H Q E h => ?_) (fun cdv A outer s H vs Q E hr hg h => ?_)
  · obtain ⟨Hf, ds, _, a, _⟩ := h
    rw [a.len.1, hm]
  · obtain ⟨t, p, ss⟩ := hbody cdv A outer s H E hr hg
    exact ⟨t, p, run_body (by rw [hm]; have := congrArg List.length S.pre; rw [List.length_take] at this; omega) ss h⟩
end
section
variable {X : Cx} {k : Nat} {f C : Addr} {fd : FuncData} {ps : List Str} {sp : Sp} {E : St → XK} {x m : Str} {p pos apos : Pos} {e o : Expr} {es : List Expr} {ta : TE} {t : TA}
theorem run_fnG {pins : List (Addr × Obj)} {σ : St} {H : Hp} {s : Shared} {Q : VK} {us : List Value} {vs : List V} (F : FnG X.prog X.w X.K X.mg X.base k f fd ps sp) (hr : Room k X.A) (hg : X.A.guards = some []) (hb : Binds X.K fd ps []) (hx : PassesAt (L2N.CX X.prog X.w) X σ (E σ))
    (I : Inv X pins σ H s) (r : Vals vs us) (h : sp vs H Q (E σ)) : wpAny (model X.prog X.w) X.A (call (.ref f) us) (EP X pins σ Q) X.xe s := by
  have b := hb s us I.kIn (by rw [List.append_nil, ← r.length]; exact F.len _ _ _ _ h)
  rw [List.append_nil] at b
  refine wpAny_call (codeAny_mono (F.run X.A X.stack s H ⟨us, []⟩ us vs Q (E σ) hr hg I.env0 b r h) fun r s' hq => ?_)
  match r, hq with
  | .error e, hq => exact hx pins H s e s' I hq
  | .ok (.ret u), hq => exact I.after hq
theorem pe_callG (F : FnG X.prog X.w X.K X.mg X.base k f fd ps sp) (hr : Room k X.A) (gu : X.A.guards = some []) (hg : Gl X x) (hm : X.mg x = some (.ref f)) (hk : PySem.W.keepIn X.K (.ref f) = true) (hb : Binds X.K fd ps []) (hx : ∀ σ, PassesAt (L2N.CX X.prog X.w) X σ (E σ))
    (ha : PA X (e :: es) t) (hdb : (x == ("__debug__" : Str)) = false := by decide) (he : starEach (e :: es) X.env = (false, eval e X.env) :: starEach es X.env := by rfl) (hpl : (backTo pos (starEach es X.env)).any (·.1) = false := by rfl) :
    PE X (.Call (.Name x p) (e :: es) [] pos) (tCallS sp E t) :=
  ⟨fun pins s σ H Q I h => wpAny_Call_Name_kw (ld_glob I hg hm (PySem.W.callWith_K (h₀ := X.base) I.ok.mod.kin hk (thn (ha.run pos pins s σ H _ I h) fun us s1 ⟨vs, H1, I1, r, q⟩ => ⟨I1.kIn, run_fnG F hr gu hb (hx σ) I1 r q⟩) he hpl) hdb)⟩
theorem pe_callG0 (F : FnG X.prog X.w X.K X.mg X.base k f fd ps sp) (hr : Room k X.A) (gu : X.A.guards = some []) (hg : Gl X x) (hm : X.mg x = some (.ref f)) (hk : PySem.W.keepIn X.K (.ref f) = true) (hb : Binds X.K fd ps []) (hx : ∀ σ, PassesAt (L2N.CX X.prog X.w) X σ (E σ))
    (hdb : (x == ("__debug__" : Str)) = false := by decide) : PE X (.Call (.Name x p) [] [] pos) (tCallS sp E tNil) :=
  ⟨fun pins s σ H Q I h => wpAny_Call_Name_kw (ld_glob I hg hm (PySem.W.callWith_K0 I.kIn hk (run_fnG (us := []) F hr gu hb (hx σ) I .nil h)) hdb)⟩
end
end FS
/-! The functional layer, part 10: repr of data. -/
namespace FS
open PySem PySem.Spec PyProof.Rows L2 RZ

/-- the table of modules stands in the heap at the entry -/
def SysB (base : Heap) : Prop := ∃ o es n, base.get? sysModules = some o ∧ o.data = .dict es n
mutual
/-- no script's tree within -/
def plainD : PyData → Bool
  | .list ds => plainDs ds
  | .tuple ds => plainDs ds
  | .dict kvs => plainKv kvs
  | _ => true
def plainDs : List PyData → Bool
  | [] => true
  | d :: ds => plainD d && plainDs ds
def plainKv : List (PyData × PyData) → Bool
  | [] => true
  | (k, d) :: r => (match k with | .int _ => true | .str _ => true | _ => false) && plainD d && plainKv r
end
section
variable {X : Cx} {pins : List (Addr × Obj)} {σ : St} {H : Hp} {s : Shared}
theorem not_sys (I : Inv X pins σ H s) (hs : SysB X.base) {a : Addr} {o : Obj} {vs : Array Value} {n : Nat} (e : s.heap.get? a = some o) (d : o.data = .seq vs n) : sysModules ≠ a := fun z => by
  obtain ⟨o', es, m, h1, h2⟩ := hs
  have h3 := I.bk _ _ h1
  rw [z, e] at h3
  cases h3
  rw [d] at h2
  cases h2
theorem keys_reads {h : Heap} {P : Program} {w : World} : ∀ {es : List DictEntry} {vs : List (Key × Value)}, Pairs (mixKind P w) es vs → ReadsAll h (es.map (·.key)) (vs.map fun p => kD p.1) []
  | _, _, .nil => .nil
  | _, _, .cons (kv := kv) hk _ t => by
    obtain ⟨k, u⟩ := kv
    rw [List.map_cons, List.map_cons]
    refine ReadsAll.cons (as := []) (bs := []) ?_ (keys_reads t)
    rcases keyIs_shape hk with ⟨i, t, e1, e2⟩ | ⟨x, t, e1, e2⟩
    · dsimp only at e1; subst e1; rw [e2]; exact .int i t
    · dsimp only at e1; subst e1; rw [e2]; exact .str x t
theorem vals_of_pairs {P : Program} {w : World} : ∀ {es : List DictEntry} {vs : List (Key × Value)}, Pairs (mixKind P w) es vs → es.map (·.val) = vs.map (·.2)
  | _, _, .nil => rfl
  | _, _, .cons _ e t => by rw [List.map_cons, List.map_cons, e, vals_of_pairs t]
mutual
theorem Sh.reads (I : Inv X pins σ H s) (hs : SysB X.base) : ∀ (d : PyData) (v : V) (u : Value), plainD d = true → Sh X.K H v d → RelV v u → ∃ as, Reads s.heap u d as ∧ sysModules ∉ as
  | .none, _, _, _, h, r => by
    cases h
    cases r
    exact ⟨_, Reads.none, by simp⟩
  | .bool b, _, _, _, h, r => by
    cases h
    cases r
    exact ⟨_, Reads.bool b, by simp⟩
  | .int i, _, _, _, h, r => by
    cases h
    obtain ⟨t, rfl⟩ := r
    exact ⟨_, Reads.int i t, by simp⟩
  | .str x, _, _, _, h, r => by
    cases h
    obtain ⟨t, rfl⟩ := r
    exact ⟨_, Reads.str x t, by simp⟩
  | .list ds, _, _, p, h, r => by
    cases h with
    | lst hl ha =>
      cases r
      obtain ⟨its, rv, ⟨o, n, ho, hc, _, hd⟩, _⟩ := I.list (.of hl)
      obtain ⟨as, hr, na⟩ := ShAll.reads I hs ds _ its (by simpa [plainD] using p) ha rv
      refine ⟨_, Reads.list ho hc hd hr, fun z => ?_⟩
      rcases List.mem_cons.mp z with z | z
      · exact not_sys I hs ho hd z
      · exact na z
  | .tuple ds, _, _, p, h, r => by
    cases h with
    | tup hl ha =>
      cases r
      obtain ⟨its, rv, ⟨o, ho, hc, n, hd⟩, _⟩ := I.tuple (.of hl)
      obtain ⟨as, hr, na⟩ := ShAll.reads I hs ds _ its (by simpa [plainD] using p) ha rv
      exact ⟨_, Reads.tuple ho hc hd hr, na⟩
  | .dict kvs, _, _, p, h, r => by
    cases h with
    | dic hl ha =>
      cases r
      obtain ⟨_, nz, vs, rel, o, es, ep, ho, hx, hd, hk, hp, _⟩ := dk_of I.hok hl
      obtain ⟨as, hr, na⟩ := ShKv.reads I hs kvs _ vs (by simpa [plainD] using p) ha rel
      have e1 := keys_reads (h := s.heap) hp
      have e2 : vs.map (fun p => kD p.1) = kvs.map (·.1) := ShKv.keys ha rel
      rw [e2] at e1
      refine ⟨_, Reads.dict ho hx.1 hd e1 (by rw [vals_of_pairs hp]; exact hr), fun z => ?_⟩
      rcases List.mem_append.mp z with z | z
      · rcases List.mem_cons.mp z with z | z
        · rw [← z] at nz; simp at nz
        · cases z
      · exact na z
    | scr _ => simp [plainD, plainKv, scrD] at p
theorem ShAll.reads (I : Inv X pins σ H s) (hs : SysB X.base) : ∀ (ds : List PyData) (vs : List V) (us : List Value), plainDs ds = true → ShAll X.K H vs ds → Vals vs us → ∃ as, ReadsAll s.heap us ds as ∧ sysModules ∉ as
  | [], _, _, _, h, r => by
    cases h
    cases r
    exact ⟨_, ReadsAll.nil, by simp⟩
  | d :: ds, _, _, p, h, r => by
    unfold plainDs at p
    rw [Bool.and_eq_true] at p
    cases h with
    | cons h1 h2 =>
      cases r with
      | cons r1 r2 =>
        obtain ⟨as, q1, n1⟩ := Sh.reads I hs d _ _ p.1 h1 r1
        obtain ⟨bs, q2, n2⟩ := ShAll.reads I hs ds _ _ p.2 h2 r2
        exact ⟨_, ReadsAll.cons q1 q2, fun z => (List.mem_append.mp z).elim n1 n2⟩
theorem ShKv.reads (I : Inv X pins σ H s) (hs : SysB X.base) : ∀ (ds : List (PyData × PyData)) (kv : List (Key × V)) (vs : List (Key × Value)), plainKv ds = true → ShKv X.K H kv ds → KV kv vs → ∃ as, ReadsAll s.heap (vs.map (·.2)) (ds.map (·.2)) as ∧ sysModules ∉ as
  | [], _, _, _, h, r => by
    cases h
    cases r
    exact ⟨_, ReadsAll.nil, by simp⟩
  | (k, d) :: ds, _, _, p, h, r => by
    unfold plainKv at p
    rw [Bool.and_eq_true, Bool.and_eq_true] at p
    cases h with
    | cons h1 h2 =>
      cases r with
      | cons r1 r2 =>
        obtain ⟨as, q1, n1⟩ := Sh.reads I hs d _ _ p.1.2 h1 r1.2
        obtain ⟨bs, q2, n2⟩ := ShKv.reads I hs ds _ _ p.2 h2 r2
        exact ⟨_, ReadsAll.cons q1 q2, fun z => (List.mem_append.mp z).elim n1 n2⟩
theorem ShKv.keys {K : PySem.W.Frag} : ∀ {ds : List (PyData × PyData)} {kv : List (Key × V)} {vs : List (Key × Value)}, ShKv K H kv ds → KV kv vs → vs.map (fun p => kD p.1) = ds.map (·.1)
  | _, _, _, .nil, r => by
    cases r
    rfl
  | _, _, _, .cons h1 h2, r => by
    cases r with
    | cons r1 r2 =>
      rw [List.map_cons, List.map_cons, ShKv.keys h2 r2]
      rw [← r1.1]
end
end
/-- what repr writes without harm -/
def rpOk (d : PyData) : Bool := plainD d && d.showable && decide (d.depth ≤ 60) && decide (d.shown.length ≤ sizeLine)
def rRepr (K : PySem.W.Frag) : List V → Hp → VK → Prop := fun vs H Q => ∃ v d, vs = [v] ∧ Sh K H v d ∧ rpOk d = true ∧ Q (.str d.shown) H
theorem call_reprA {X : Cx} (gu : X.A.guards = some []) (hs : SysB X.base) (hu : X.A.units + 64 < cLine) : CallR X (.builtin "repr") (rRepr X.K) := by
  intro pins s σ H xs us Q I r h
  obtain ⟨v, d, rfl, h, ok, q⟩ := h
  unfold rpOk at ok
  simp only [Bool.and_eq_true, decide_eq_true_eq] at ok
  obtain ⟨⟨⟨p1, p2⟩, p3⟩, p4⟩ := ok
  obtain ⟨u, rfl, ru⟩ := vals1 r
  obtain ⟨as, rd, na⟩ := Sh.reads I hs d v u p1 h ru
  cases rd with
  | none =>
    exact PySem.P.repr_of_none ⟨.str _, H, I.tok _, ⟨s.toks, by simp only [PyData.shown]⟩, q⟩
  | bool b =>
    exact PySem.P.repr_of_bool ⟨.str _, H, I.tok _, ⟨s.toks, by simp only [PyData.shown]⟩, q⟩
  | int i t =>
    simp only [PyData.showable, decide_eq_true_eq] at p2
    exact PySem.P.repr_of_int p2 ⟨.str _, H, I.tok _, ⟨s.toks, by simp only [PyData.shown]⟩, q⟩
  | str x t =>
    simp only [PyData.shown] at p4
    exact PySem.P.repr_of_str (hsz := p4) ⟨.str _, H, I.tok _, ⟨s.toks, by simp only [PyData.shown]⟩, q⟩
  | list h1 h2 h3 h4 => exact repr_of_reads' (.list h1 h2 h3 h4) p2 (fun _ => na) gu (by omega) (fun _ _ e => e) (fun h' u tk hk => ⟨.str _, H, I.kept hk, ⟨_, rfl⟩, q⟩) p4
  | tuple h1 h2 h3 h4 => exact repr_of_reads' (.tuple h1 h2 h3 h4) p2 (fun _ => na) gu (by omega) (fun _ _ e => e) (fun h' u tk hk => ⟨.str _, H, I.kept hk, ⟨_, rfl⟩, q⟩) p4
  | dict h1 h2 h3 h4 h5 => exact repr_of_reads' (.dict h1 h2 h3 h4 h5) p2 (fun _ => na) gu (by omega) (fun _ _ e => e) (fun h' u tk hk => ⟨.str _, H, I.kept hk, ⟨_, rfl⟩, q⟩) p4
def gRepr : G := fun ds => match ds with
  | [d] => if rpOk d = true then some (.sh, .str d.shown) else none
  | _ => none
theorem pr_repr {M : Md} : PR M (rRepr M.K) gRepr := fun B hB Hf σ ε H tm vs ds Q r sv h => by
  subst hB
  unfold gRepr at h
  cases sv with
  | nil => exact h.elim
  | cons s1 s2 =>
    cases s2 with
    | cons _ _ => exact h.elim
    | nil =>
      rename_i v d
      by_cases hr : rpOk d = true
      · simp only [if_pos hr] at h
        exact ⟨v, d, rfl, s1.sh r.le, hr, h _ _ (Rel.flat ⟨Hf, r⟩ fun _ => .str _)⟩
      · simp only [if_neg hr] at h
        exact h.elim
end FS
/-! The functional layer, part 11: the end of a law. -/
namespace FS
open PySem PySem.Spec PyProof.Rows L2 RZ
/-- the law's call: its def knows that no repr is under way, and the table of modules -/
theorem law_callG {P : Program} {w : World} {K : PySem.W.Frag} {mg mb : Str → Option Value} {k : Nat} {fa a : Addr} {fd : FuncData} {x : Str} {sp : Sp} {s₁ : Shared} {vs : List Value} {ns : List Int}
    (KX : K.In s₁.heap) (hns : s₁.heap.Ns mainGlobals mg) (hb : s₁.heap.Ns builtinsNs mb) (hbb : ∀ x : Str, x ≠ "__name__" → mb x = bootBuiltins x) (hlim : s₁.heap.NoLimit) (hsy : ∃ mm, s₁.heap.Ns sysModules mm) (hg : s₁.gens = #[])
    (ha : s₁.heap.get? a = some { cls := .type "list", data := .seq vs.toArray }) (hi : IntsAre vs ns) (hl : ns.length ≤ sizeLine) (hr : Room k callerA)
    (F : ∀ base : Heap, K.In base → base.Ns mainGlobals mg → SysB base → FnG P w K mg base k fa fd [x] sp) (hbind : ∀ (s : Shared) (u : Value), BindsTo s fd ⟨[u], []⟩ [(x, u)])
    (hsp : ∀ H : Hp, Only H → SqL K H a (ns.map V.int) → sp [.ref a] H (fun v _ => v = .bl true) fun _ _ _ => False) :
    codeAny (model P w) callerA (.call (.ref fa) ⟨[.ref a], []⟩) (fun r s' => r = .ok (.ret (.bool true)) ∧ OldK s₁.heap s'.heap ∧ s'.os = s₁.os ∧ AllBare s'.gens) s₁ := by
  have rv := vals_ints hi
  have core : ∀ H : Hp, Only H → SqL K H a (ns.map V.int) → HOk P w H s₁.heap → (∀ b, H b ≠ none → b = a) → (H a ≠ none → K.lookup a = none) →
      codeAny (model P w) callerA (.call (.ref fa) ⟨[.ref a], []⟩) (fun r s' => r = .ok (.ret (.bool true)) ∧ OldK s₁.heap s'.heap ∧ s'.os = s₁.os ∧ AllBare s'.gens) s₁ := by
    intro H hO hS hok hA hK
    -- what is no list is not tracked
    have un : ∀ {b : Addr}, b ≠ a → H b = none := fun {b} hb => by
      cases q : H b with
      | none => rfl
      | some u => exact absurd (hA b (by rw [q]; simp)) hb
    have nsK : ∀ {b : Addr} {m : Str → Option Value}, s₁.heap.Ns b m → (hidT s₁.heap H).Ns b m := fun {b m} ⟨o, es, ep, e, d, r⟩ => ⟨o, es, ep, hidT_get e (un fun z => by
      rw [z, ha] at e
      cases e
      cases (show Data.seq vs.toArray _ = Data.dict es ep from d)), d, r⟩
    have hKb : K.In (hidT s₁.heap H) := fun b o e => by
      by_cases hb : H b = none
      · exact hidT_get (KX b o e) hb
      · have eb := hA b hb
        subst eb
        rw [hK hb] at e
        cases e
    have hM : Mod K mg (hidT s₁.heap H) := ⟨hKb, nsK hns, ⟨mb, nsK hb, hbb⟩, let ⟨mc, h1, h2⟩ := hlim; ⟨mc, nsK h1, h2⟩⟩
    have hS2 : SysB (hidT s₁.heap H) := let ⟨mm, h1⟩ := hsy; let ⟨o, es, ep, e, d, _⟩ := nsK h1; ⟨o, es, ep, e, d⟩
    have e0 : Env0 P w K mg (hidT s₁.heap H) callerA [] s₁ H := ⟨rfl, hM, fun b o e => of_hidT e, Nat.le_of_eq (hidT_size _ _), trivial, fun b hb => absurd (show b ∈ ([] : List Addr) from hb) (by simp), hok, .of_eq hg⟩
    refine codeAny_mono ((F _ hKb (nsK hns) hS2).run callerA [] s₁ H ⟨[.ref a], []⟩ [.ref a] [.ref a] _ _ hr rfl e0 (hbind s₁ (.ref a)) (.cons rfl .nil) (hsp H hO hS)) fun r s' h => ?_
    match r, h with
    | .error e, h => exact let ⟨_, _, _, _, _, _, _, _, _, _, _, _, hE⟩ := h; hE.elim
    | .ok (.ret u), h =>
      obtain ⟨v, H', os, bare, un, hok', r', q⟩ := h
      subst q
      obtain rfl : u = Value.bool true := r'
      refine ⟨rfl, OldK.of_keep fun b o e => ?_, os, bare⟩
      rcases hO b with z | ⟨ob, xs, z⟩
      · exact un.keep b o e z (by simp [frs]) (by simp)
      · obtain ⟨e1, _⟩ := hok b _ z
        obtain ⟨e2, _⟩ := hok' b _ (un.frzs b ob _ z)
        rw [e] at e1
        cases e1
        exact e2
  cases hk : K.lookup a with
  | some o =>
    have e := KX a o hk
    rw [ha] at e
    cases e
    exact core (fun _ => none) (fun _ => .inl rfl) (.inr ⟨_, vs.toArray, _, hk, rfl, rfl, rfl, by rw [List.size_toArray, hi.length]; exact hl, by simpa using rv⟩) (fun b u z => by cases z) (fun b z => absurd rfl z) fun z => absurd rfl z
  | none =>
    refine core (upd (fun _ => none) a (.frz { cls := .type "list", data := .seq vs.toArray } (.lst (ns.map V.int)))) (fun b => ?_) (.inl (.inr ⟨{ cls := .type "list", data := .seq vs.toArray }, upd_same⟩)) (fun b u z => ?_) (fun b z => ?_) fun _ => hk
    · by_cases hb : b = a
      · subst hb; exact .inr ⟨_, _, upd_same⟩
      · exact .inl (upd_ne hb)
    · by_cases hb : b = a
      · subst hb
        have z' := upd_same.symm.trans z
        cases z'
        exact ⟨ha, by rw [List.length_map]; exact hl, vs, _, rv, ha⟩
      · have z' := (upd_ne hb).symm.trans z
        cases z'
    · by_cases hb : b = a
      · exact hb
      · exact absurd (upd_ne hb) z
/-- THE END: the law from what its def computes -/
theorem walk_G {l : PySem.W.OpenLaw} {n k : Nat} {q : Program} {loose : List Str} {XP : (Str → Option Value) → Heap → Prop} {YP : World → Heap → Prop} {d : DefRec} {K : Params → PySem.W.Frag} {FL : List PyData → FR} {x : Str}
    (hn : l.most = some n) (hn2 : n ≤ sizeLine) (hdf : d.params.defaults = []) (hr : Room k callerA) (hno : importsNone q = true)
    (hY : ∀ (w : World) (h : Heap), YP w h → (K w.params).In h)
    (F : ∀ (w : World) (mg : Str → Option Value) (fa : Addr) (h : Heap), (K w.params).In h → h.Ns mainGlobals mg → mg d.name = some (.ref fa) →
      ∃ fd : FuncData, (∀ (s : Shared) (u : Value), BindsTo s fd ⟨[u], []⟩ [(x, u)]) ∧
        ∀ base : Heap, (K w.params).In base → base.Ns mainGlobals mg → SysB base → FnG l.prog w (K w.params) mg base k fa fd [x] (spD ⟨K w.params, mg, none⟩ [false] FL))
    (hF : ∀ ns : List Int, ns.length ≤ n → (∀ z ∈ ns, Builtin.Int.intBits z ≤ 1048576) → ∃ outs, FL [scrD ns] = .ok .sh (.bool true) outs) :
    PySem.W.WalkO q loose XP YP l.row.toRowW d [] (fun f vs => PySem.call f vs) := by
  refine Att.attach_callB hn hdf fun w s₀ s₁ mg mb fa o pm cd doc a vs ns G Y ho hd hcd hmg hobj hints hlen hbits hg => ?_
  have KX := hY w _ Y
  obtain ⟨fd, hb, hF'⟩ := F w mg fa _ KX G.T.g hmg
  obtain ⟨outs, e⟩ := hF ns hlen hbits
  have hsy : ∃ mm, s₁.heap.Ns sysModules mm := let ⟨mm, h1, _⟩ := (G.T.seer hno).mods; ⟨mm, h1⟩
  refine law_callG KX G.T.g G.T.b G.T.builtins G.T.nolimit hsy hg hobj hints (Nat.le_trans hlen hn2) hr hF' hb fun H hO hS => ?_
  refine ⟨H, [scrD ns], Same.refl _, .val (.scr hS) .nil, List.nodup_nil, ?_⟩
  rw [e]
  intro v H' Hf' _ r
  cases (show Sh (K w.params) Hf' v (.bool true) from r)
  rfl
end FS
/-! The functional layer, part 12: dict displays. -/
namespace FS
open PySem PySem.Spec PyProof.Rows L2 RZ
/-- enough rounds for a while -/
def Fuel : Nat := 1000000000000
section
variable {M : Md} {B : Ent} {W : WX} {σ : St} {ε : Fe} {H : Hp} {tm : List (V × PyData)} {v : V} {o : Own} {d : PyData}
def eDnew : Ev := fun ε => .ok (.top, .dict []) ε
theorem es_dnew : ES M W tDNewK eDnew := fun B hB σ H ε tm Q R h p np => by
  subst hB
  obtain ⟨Hf, r⟩ := R
  exact h _ _ ⟨Hf, r.new np, ⟨p, rfl, r.nof np, r.h0 np, ⟨[], upd_same, .nil⟩⟩, fun _ => r.free np, rfl⟩
theorem upd_twice {H : Hp} {p : Addr} {a b : HO} : upd (upd H p a) p b = upd H p b := by
  funext q
  by_cases h : q = p
  · subst h; rw [upd_same, upd_same]
  · rw [upd_ne h, upd_ne h, upd_ne h]
def eDisp1 (k : Str) (i : Int) : Ev := fun ε => .ok (.top, .dict [(.str k, .int i)]) ε
theorem es_disp1 (k : Str) (i : Int) : ES M W (tDisp [(tC (.str k), tC (.int i))]) (eDisp1 k i) := fun B hB σ H ε tm Q R h p np => by
  subst hB
  obtain ⟨Hf, r⟩ := R
  refine ⟨upd_same, [(.inr k, .int i)], rfl, (by show 1 ≤ 15; omega), ?_⟩
  rw [upd_twice]
  refine h _ _ ⟨Hf, r.new np, ⟨p, rfl, r.nof np, r.h0 np, ⟨_, upd_same, ?_⟩⟩, fun _ => r.free np, rfl⟩
  exact .cons (k := .inr k) (.int i) .nil
end
end FS
/-! The functional layer, part 13: how to reckon with what a def computes. -/
namespace FS
open PySem PySem.Spec PyProof.Rows
def Wp {α : Type} (r : Res α) (Q : α → Fe → Prop) (X : Str → Fe → Prop) : Prop := match r with
  | .ok a ε => Q a ε
  | .exc x ε => X x ε
  | .stuck => False
section
variable {α β : Type} {Q : α → Fe → Prop} {X : Str → Fe → Prop} {ε : Fe}
@[simp ↓] theorem wp_ok (a : α) : Wp (.ok a ε) Q X = Q a ε := propext Iff.rfl
@[simp ↓] theorem wp_exc (x : Str) : Wp (.exc x ε) Q X = X x ε := propext Iff.rfl
@[simp ↓] theorem wp_stuck : Wp (.stuck : Res α) Q X = False := propext Iff.rfl
theorem wp_bind {r : Res β} {f : β → Fe → Res α} : Wp (r.bind f) Q X = Wp r (fun b ε' => Wp (f b ε') Q X) X := by cases r <;> rfl
theorem wp_ite {c : Prop} [Decidable c] {r s : Res α} : Wp (if c then r else s) Q X = if c then Wp r Q X else Wp s Q X := by split <;> rfl
theorem Wp.mono {r : Res α} {Q' : α → Fe → Prop} {X' : Str → Fe → Prop} (h : Wp r Q X) (hQ : ∀ a ε, Q a ε → Q' a ε) (hX : ∀ x ε, X x ε → X' x ε) : Wp r Q' X' := by
  cases r with
  | ok a ε => exact hQ _ _ h
  | exc x ε => exact hX _ _ h
  | stuck => exact h
/-! ### slots -/
def rd (ε : Fe) (i : Nat) (Q : Own → PyData → Prop) : Prop := match ε, i with
  | some (o, d) :: _, 0 => Q o d
  | _ :: ε, i + 1 => rd ε i Q
  | _, _ => False
@[simp ↓] theorem rd_zero (o : Own) (d : PyData) (ε : Fe) (Q : Own → PyData → Prop) : rd (some (o, d) :: ε) 0 Q = Q o d := by simp only [rd]
@[simp ↓] theorem rd_none (ε : Fe) (Q : Own → PyData → Prop) : rd (none :: ε) 0 Q = False := by simp only [rd]
@[simp ↓] theorem rd_succ (x : Option (Own × PyData)) (ε : Fe) (i : Nat) (Q : Own → PyData → Prop) : rd (x :: ε) (i + 1) Q = rd ε i Q := by
  cases x <;> simp only [rd]
theorem rd_eq : ∀ (ε : Fe) (i : Nat) (Q : Own → PyData → Prop), rd ε i Q = match ε[i]? with
    | some (some (o, d)) => Q o d
    | _ => False
  | [], 0, Q => by simp [rd]
  | [], i + 1, Q => by simp [rd]
  | none :: ε, 0, Q => by simp [rd]
  | some (o, d) :: ε, 0, Q => by simp [rd]
  | x :: ε, i + 1, Q => by rw [rd_succ, rd_eq, List.getElem?_cons_succ]
def wr (ε : Fe) (i : Nat) (x : Option (Own × PyData)) (Q : Fe → Prop) : Prop := i < ε.length ∧ Q (ε.set i x)
@[simp ↓] theorem wr_zero (x y : Option (Own × PyData)) (ε : Fe) (Q : Fe → Prop) : wr (y :: ε) 0 x Q = Q (x :: ε) := by simp [wr]
@[simp ↓] theorem wr_succ (x y : Option (Own × PyData)) (ε : Fe) (i : Nat) (Q : Fe → Prop) : wr (y :: ε) (i + 1) x Q = wr ε i x (fun ε' => Q (y :: ε')) := by simp [wr]
@[simp ↓] theorem wr_nil (x : Option (Own × PyData)) (i : Nat) (Q : Fe → Prop) : wr [] i x Q = False := by simp [wr]
theorem rd_wr {i : Nat} {Q : Own → PyData → Fe → Prop} {y : Own → PyData → Option (Own × PyData)} : rd ε i (fun o d => Q o d (ε.set i (y o d))) = rd ε i (fun o d => wr ε i (y o d) (Q o d)) := by
  rw [rd_eq, rd_eq]
  cases e : ε[i]? with
  | none => rfl
  | some x =>
    cases x with
    | none => rfl
    | some x =>
      show Q _ _ _ = (_ ∧ _)
      rw [eq_true (List.getElem?_eq_some_iff.mp e).1, true_and]
end
section
variable {Q : Own × PyData → Fe → Prop} {X : Str → Fe → Prop} {ε : Fe} {f g : Ev} {as : List Arg}
/-- a name's value -/
def vOf (i : Nat) (ε : Fe) (Q : Own × PyData → Fe → Prop) : Own → PyData → Prop
  | .sh, d => Q (.sh, d) ε
  | .top, d => wr ε i (some (.sh, d)) (Q (.sh, d))
  | .ex x, d => Q (.ex x, d) ε
  | .par _, _ => False
@[simp ↓] theorem vOf_sh (i : Nat) (d : PyData) : vOf i ε Q .sh d = Q (.sh, d) ε := propext Iff.rfl
@[simp ↓] theorem vOf_top (i : Nat) (d : PyData) : vOf i ε Q .top d = wr ε i (some (.sh, d)) (Q (.sh, d)) := propext Iff.rfl
@[simp ↓] theorem vOf_ex (i : Nat) (x : Str) (d : PyData) : vOf i ε Q (.ex x) d = Q (.ex x, d) ε := propext Iff.rfl
@[simp ↓] theorem vOf_par (i k : Nat) (d : PyData) : vOf i ε Q (.par k) d = False := propext Iff.rfl
def mOf (i : Nat) (ε : Fe) (Q : Own × PyData → Fe → Prop) : Own → PyData → Prop
  | .sh, d => Q (.sh, d) ε
  | .top, d => wr ε i none (Q (.top, d))
  | .ex x, d => Q (.ex x, d) ε
  | .par _, _ => False
@[simp ↓] theorem mOf_sh (i : Nat) (d : PyData) : mOf i ε Q .sh d = Q (.sh, d) ε := propext Iff.rfl
@[simp ↓] theorem mOf_top (i : Nat) (d : PyData) : mOf i ε Q .top d = wr ε i none (Q (.top, d)) := propext Iff.rfl
@[simp ↓] theorem mOf_ex (i : Nat) (x : Str) (d : PyData) : mOf i ε Q (.ex x) d = Q (.ex x, d) ε := propext Iff.rfl
@[simp ↓] theorem mOf_par (i k : Nat) (d : PyData) : mOf i ε Q (.par k) d = False := propext Iff.rfl
@[simp ↓] theorem wp_var (i : Nat) : Wp (eVar i ε) Q X = rd ε i (vOf i ε Q) := by
  rw [rd_eq]
  unfold eVar
  cases e : ε[i]? with
  | none => rfl
  | some x =>
    cases x with
    | none => rfl
    | some x =>
      obtain ⟨o, d⟩ := x
      cases o with
      | top =>
        show Q _ _ = (_ ∧ _)
        rw [eq_true (List.getElem?_eq_some_iff.mp e).1, true_and]
      | sh => rfl
      | ex _ => rfl
      | par _ => rfl
@[simp ↓] theorem wp_mv (i : Nat) : Wp (eMv i ε) Q X = rd ε i (mOf i ε Q) := by
  rw [rd_eq]
  unfold eMv
  cases e : ε[i]? with
  | none => rfl
  | some x =>
    cases x with
    | none => rfl
    | some x =>
      obtain ⟨o, d⟩ := x
      cases o with
      | top =>
        show Q _ _ = (_ ∧ _)
        rw [eq_true (List.getElem?_eq_some_iff.mp e).1, true_and]
      | sh => rfl
      | ex _ => rfl
      | par _ => rfl
@[simp ↓] theorem wp_c (d : PyData) : Wp (eC d ε) Q X = Q (.sh, d) ε := propext Iff.rfl
/-! ### arguments -/
def nx (o : Own) (P : Prop) : Prop := o.isEx = false ∧ P
@[simp ↓] theorem nx_sh (P : Prop) : nx .sh P = P := by simp [nx]
@[simp ↓] theorem nx_top (P : Prop) : nx .top P = P := by simp [nx]
@[simp ↓] theorem nx_par (k : Nat) (P : Prop) : nx (.par k) P = P := by simp [nx]
@[simp ↓] theorem nx_ex (x : Str) (P : Prop) : nx (.ex x) P = False := by simp [nx]
theorem nx_eq {α : Type} {o : Own} {r : Res α} {Q : α → Fe → Prop} : Wp (if o.isEx = true then .stuck else r) Q X = nx o (Wp r Q X) := by
  unfold nx
  cases o.isEx <;> simp [Wp]
def WpL (as : List Arg) (ε : Fe) (Q : List PyData → Fe → Prop) (X : Str → Fe → Prop) : Prop := Wp (evL as ε) Q X
variable {QL : List PyData → Fe → Prop}
@[simp ↓] theorem wpL_nil : WpL [] ε QL X = QL [] ε := propext Iff.rfl
@[simp ↓] theorem wpL_v : WpL (.v f :: as) ε QL X = Wp (f ε) (fun p ε1 => nx p.1 (WpL as ε1 (fun ds => QL (p.2 :: ds)) X)) X := by
  unfold WpL
  conv => lhs; unfold evL
  rw [wp_bind]
  congr 1
  funext p ε1
  rw [nx_eq, wp_bind]
  rfl
theorem rd_both {P P' : Own → PyData → Prop} (h : ∀ o d, P o d = P' o d) (i : Nat) : rd ε i P = rd ε i P' := by
  rw [show P = P' from funext fun o => funext fun d => h o d]
@[simp ↓] theorem wpL_b (i : Nat) : WpL (.b i :: as) ε QL X = rd ε i fun _ _ => WpL as ε (fun ds ε2 => rd ε2 i fun o d => nx o (QL (d :: ds) ε2)) X := by
  unfold WpL
  rw [rd_eq]
  conv => lhs; unfold evL
  cases e : ε[i]? with
  | none => rfl
  | some x =>
    cases x with
    | none => rfl
    | some x =>
      dsimp only
      rw [wp_bind]
      congr 1
      funext ds ε2
      rw [rd_eq]
      cases e2 : ε2[i]? with
      | none => rfl
      | some y =>
        cases y with
        | none => rfl
        | some y =>
          obtain ⟨o, d⟩ := y
          dsimp only
          rw [nx_eq]
          rfl
/-- of what may fail -/
def some? {α : Type} (r : Option α) (Q : α → Prop) : Prop := match r with
  | some a => Q a
  | none => False
@[simp ↓] theorem some?_some {α : Type} (a : α) (Q : α → Prop) : some? (some a) Q = Q a := propext Iff.rfl
@[simp ↓] theorem some?_none {α : Type} (Q : α → Prop) : some? none Q = False := propext Iff.rfl
@[simp ↓] theorem some?_ite {α : Type} {c : Prop} [Decidable c] (r : Option α) (Q : α → Prop) : some? (if c then r else none) Q = (c ∧ some? r Q) := by
  by_cases h : c <;> simp [h, some?]
@[simp ↓] theorem wp_op (g : G) : Wp (eOp g as ε) Q X = WpL as ε (fun ds ε' => some? (g ds) fun p => Q p ε') X := by
  unfold eOp WpL
  rw [wp_bind]
  congr 1
  funext ds ε'
  cases g ds <;> rfl
end
/-! ### tests -/
section
variable {Q : Bool → Fe → Prop} {QV : Own × PyData → Fe → Prop} {X : Str → Fe → Prop} {ε : Fe} {f g : Ev} {c k : Tv}
def asB : PyData → (Bool → Prop) → Prop
  | .bool b, Q => Q b
  | _, _ => False
@[simp ↓] theorem asB_bool (b : Bool) (Q : Bool → Prop) : asB (.bool b) Q = Q b := propext Iff.rfl
@[simp ↓] theorem wp_tof : Wp (tOf f ε) Q X = Wp (f ε) (fun p ε' => nx p.1 (asB p.2 fun b => Q b ε')) X := by
  unfold tOf
  rw [wp_bind]
  congr 1
  funext p ε'
  obtain ⟨o, d⟩ := p
  cases d with
  | bool b => exact nx_eq
  | _ => simp [asB, nx, Wp]
@[simp ↓] theorem wp_tand : Wp (tAndF c k ε) Q X = Wp (c ε) (fun b ε' => if b = true then Wp (k ε') Q X else Q false ε') X := by
  unfold tAndF
  rw [wp_bind]
  congr 1
  funext b ε'
  cases b <;> rfl
@[simp ↓] theorem wp_tor : Wp (tOrF c k ε) Q X = Wp (c ε) (fun b ε' => if b = true then Q true ε' else Wp (k ε') Q X) X := by
  unfold tOrF
  rw [wp_bind]
  congr 1
  funext b ε'
  cases b <;> rfl
@[simp ↓] theorem wp_tnot : Wp (tNotF c ε) Q X = Wp (c ε) (fun b ε' => Q (!b) ε') X := by
  unfold tNotF
  rw [wp_bind]
  rfl
@[simp ↓] theorem wp_tyes : Wp (tYesF ε) Q X = Q true ε := propext Iff.rfl
@[simp ↓] theorem wp_eand : Wp (eAndF f g ε) QV X = Wp (tOf f ε) (fun b ε' => if b = true then Wp (g ε') QV X else QV (.sh, .bool false) ε') X := by
  unfold eAndF
  rw [wp_bind]
  congr 1
  funext b ε'
  cases b <;> rfl
@[simp ↓] theorem wp_eor : Wp (eOrF f g ε) QV X = Wp (tOf f ε) (fun b ε' => if b = true then QV (.sh, .bool true) ε' else Wp (g ε') QV X) X := by
  unfold eOrF
  rw [wp_bind]
  congr 1
  funext b ε'
  cases b <;> rfl
@[simp ↓] theorem wp_enot : Wp (eNotF f ε) QV X = Wp (tOf f ε) (fun b ε' => QV (.sh, .bool (!b)) ε') X := by
  unfold eNotF
  rw [wp_bind]
  rfl
@[simp ↓] theorem wp_eif : Wp (eIfF c f g ε) QV X = Wp (c ε) (fun b ε' => if b = true then Wp (f ε') QV X else Wp (g ε') QV X) X := by
  unfold eIfF
  rw [wp_bind]
  congr 1
  funext b ε'
  cases b <;> rfl
end
/-! ### statements -/
section
variable {Q : Fl → Fe → Prop} {X : Str → Fe → Prop} {ε : Fe} {f g : Ev} {c k : Tv} {a b : Sm}
/-- what follows, or the end of the suite -/
def go (Q : Fl → Fe → Prop) (N : Fe → Prop) : Fl → Fe → Prop
  | .nx, ε => N ε
  | fl, ε => Q fl ε
@[simp ↓] theorem go_nx (Q : Fl → Fe → Prop) (N : Fe → Prop) : go Q N .nx ε = N ε := propext Iff.rfl
@[simp ↓] theorem go_rt (Q : Fl → Fe → Prop) (N : Fe → Prop) (o : Own) (d : PyData) : go Q N (.rt o d) ε = Q (.rt o d) ε := propext Iff.rfl
@[simp ↓] theorem go_bk (Q : Fl → Fe → Prop) (N : Fe → Prop) : go Q N .bk ε = Q .bk ε := propext Iff.rfl
@[simp ↓] theorem go_ct (Q : Fl → Fe → Prop) (N : Fe → Prop) : go Q N .ct ε = Q .ct ε := propext Iff.rfl
@[simp ↓] theorem wp_nx : Wp (sNx ε) Q X = Q .nx ε := propext Iff.rfl
@[simp ↓] theorem wp_bk : Wp (sBk ε) Q X = Q .bk ε := propext Iff.rfl
@[simp ↓] theorem wp_ct : Wp (sCt ε) Q X = Q .ct ε := propext Iff.rfl
@[simp ↓] theorem wp_seq : Wp (sSeq a b ε) Q X = Wp (a ε) (go Q fun ε' => Wp (b ε') Q X) X := by
  unfold sSeq
  rw [wp_bind]
  congr 1
  funext fl ε'
  cases fl <;> rfl
@[simp ↓] theorem wp_rt : Wp (sRt f ε) Q X = Wp (f ε) (fun p ε' => Q (.rt p.1 p.2) ε') X := by
  unfold sRt
  rw [wp_bind]
  rfl
@[simp ↓] theorem wp_rtN : Wp (sRtN ε) Q X = Q (.rt .sh .none) ε := propext Iff.rfl
@[simp ↓] theorem wp_ex : Wp (sEx f ε) Q X = Wp (f ε) (fun _ ε' => Q .nx ε') X := by
  unfold sEx
  rw [wp_bind]
  rfl
@[simp ↓] theorem wp_if : Wp (sIf c a b ε) Q X = Wp (c ε) (fun t ε' => if t = true then Wp (a ε') Q X else Wp (b ε') Q X) X := by
  unfold sIf
  rw [wp_bind]
  congr 1
  funext t ε'
  cases t <;> rfl
@[simp ↓] theorem wp_set (i : Nat) : Wp (sSet i f ε) Q X = Wp (f ε) (fun p ε' => wr ε' i (some p) (Q .nx)) X := by
  unfold sSet
  rw [wp_bind]
  congr 1
  funext p ε'
  unfold wr
  by_cases h : i < ε'.length <;> simp [h, Wp]
@[simp ↓] theorem wp_raise (x : Str) : Wp (sRaise x ε) Q X = X x ε := propext Iff.rfl
/-! targets -/
@[simp ↓] theorem some?_gtName (i : Nat) (o : Own) (d : PyData) (P : Fe → Prop) : some? (gtName i o d ε) P = wr ε i (some (o, d)) P := by
  unfold gtName wr
  by_cases h : i < ε.length <;> simp [h, some?]
@[simp ↓] theorem some?_gtNil (P : Fe → Prop) : some? (gtNil [] ε) P = P ε := propext Iff.rfl
@[simp ↓] theorem some?_gtCons (t : Tg) (u : Tgs) (d : PyData) (ds : List PyData) (P : Fe → Prop) : some? (gtCons t u (d :: ds) ε) P = some? (t .sh d ε) fun ε' => some? (u ds ε') P := by
  show some? ((t .sh d ε).bind _) P = _
  cases t .sh d ε <;> rfl
@[simp ↓] theorem some?_gtTup (n : Nat) (u : Tgs) (o : Own) (ds : List PyData) (P : Fe → Prop) : some? (gtTup n u o (.tuple ds) ε) P = nx o (ds.length = n ∧ some? (u ds ε) P) := by
  unfold gtTup nx
  cases o.isEx <;> by_cases h : ds.length = n <;> simp [h, some?]
@[simp ↓] theorem some?_gtLst (n : Nat) (u : Tgs) (o : Own) (ds : List PyData) (P : Fe → Prop) : some? (gtLst n u o (.list ds) ε) P = nx o (ds.length = n ∧ some? (u ds ε) P) := by
  unfold gtLst nx
  cases o.isEx <;> by_cases h : ds.length = n <;> simp [h, some?]
@[simp ↓] theorem wp_asg (t : Tg) : Wp (sAsg f t ε) Q X = Wp (f ε) (fun p ε' => some? (t p.1 p.2 ε') (Q .nx)) X := by
  unfold sAsg
  rw [wp_bind]
  congr 1
  funext p ε'
  cases t p.1 p.2 ε' <;> rfl
end
/-! ### lists that are written -/
section
variable {Q : Fl → Fe → Prop} {X : Str → Fe → Prop} {ε : Fe} {f g : Ev} {c k : Tv} {a b : Sm}
/-- an own list -/
def ownL (o : Own) (d : PyData) (P : List PyData → Prop) : Prop := o.own = true ∧ match d with
  | .list ds => P ds
  | _ => False
@[simp ↓] theorem ownL_top (ds : List PyData) (P : List PyData → Prop) : ownL .top (.list ds) P = P ds := by simp [ownL]
@[simp ↓] theorem ownL_par (k : Nat) (ds : List PyData) (P : List PyData → Prop) : ownL (.par k) (.list ds) P = P ds := by simp [ownL]
theorem rd_some {i : Nat} {P : Own → PyData → Prop} {o : Own} {d : PyData} (e : ε[i]? = some (some (o, d))) : rd ε i P = P o d := by rw [rd_eq, e]
@[simp ↓] theorem wp_app (i : Nat) : Wp (sApp i f ε) Q X = rd ε i fun o0 d0 => ownL o0 d0 fun _ => Wp (f ε) (fun p ε1 => nx p.1 (rd ε1 i fun o d => ownL o d fun ds => ds.length < sizeLine ∧ wr ε1 i (some (o, .list (ds ++ [p.2]))) (Q .nx))) X := by
  unfold sApp
  rw [rd_eq]
  cases e : ε[i]? with
  | none => rfl
  | some x =>
    cases x with
    | none => rfl
    | some x =>
      obtain ⟨o0, d0⟩ := x
      cases d0 with
      | list ds0 =>
        dsimp only [ownL]
        by_cases h0 : o0.own = true
        · rw [if_pos h0, wp_bind, eq_true h0, true_and]
          congr 1
          funext p ε1
          rw [rd_eq]
          cases e1 : ε1[i]? with
          | none => simp [Wp, nx]
          | some y =>
            cases y with
            | none => simp [Wp, nx]
            | some y =>
              obtain ⟨o, d⟩ := y
              cases d with
              | list ds =>
                dsimp only
                unfold nx wr
                have hi := (List.getElem?_eq_some_iff.mp e1).1
                by_cases hc : o.own = true ∧ p.1.isEx = false ∧ ds.length < sizeLine
                · rw [if_pos hc]
                  simp [Wp, hc.1, hc.2.1, hc.2.2, hi]
                · rw [if_neg hc]
                  simp only [Wp, eq_iff_iff, false_iff]
                  exact fun z => hc ⟨z.2.1, z.1, z.2.2.1⟩
              | _ => simp [Wp, nx]
        · rw [if_neg h0]
          simp [Wp, h0]
      | _ => simp [Wp, ownL]
/-- a place -/
def at? (d : PyData) (n : Nat) (P : Nat → Prop) : Prop := match d with
  | .int k => some? (L2.ixN n k) P
  | _ => False
@[simp ↓] theorem at?_int (k : Int) (n : Nat) (P : Nat → Prop) : at? (.int k) n P = some? (L2.ixN n k) P := propext Iff.rfl
@[simp ↓] theorem wp_put (i : Nat) : Wp (sPut i g f ε) Q X = Wp (f ε) (fun p ε1 => nx p.1 (rd ε1 i fun _ _ => Wp (g ε1) (fun q ε2 => nx q.1 (rd ε2 i fun o d => ownL o d fun ds => at? q.2 ds.length fun j => wr ε2 i (some (o, .list (ds.set j p.2))) (Q .nx))) X)) X := by
  unfold sPut
  rw [wp_bind]
  congr 1
  funext p ε1
  rw [nx_eq]
  congr 1
  rw [rd_eq]
  cases e : ε1[i]? with
  | none => rfl
  | some x =>
    cases x with
    | none => rfl
    | some x =>
      dsimp only
      rw [wp_bind]
      congr 1
      funext q ε2
      rw [nx_eq]
      congr 1
      rw [rd_eq]
      obtain ⟨oq, q⟩ := q
      cases q with
      | int k =>
        cases e1 : ε2[i]? with
        | none => rfl
        | some y =>
          cases y with
          | none => rfl
          | some y =>
            obtain ⟨o, d⟩ := y
            cases d with
            | list ds =>
              dsimp only [ownL]
              unfold wr
              have hi := (List.getElem?_eq_some_iff.mp e1).1
              by_cases hw : o.own = true
              · rw [if_pos hw, eq_true hw, true_and, at?_int]
                cases L2.ixN ds.length k with
                | none => rfl
                | some j => simp [Wp, some?, hi]
              · rw [if_neg hw]; simp [Wp, hw]
            | _ => simp [Wp, ownL]
      | _ =>
        cases e1 : ε2[i]? with
        | none => rfl
        | some y =>
          cases y with
          | none => rfl
          | some y =>
            obtain ⟨o, d⟩ := y
            cases d <;> simp [Wp, ownL, at?]
def asI : PyData → (Int → Prop) → Prop
  | .int b, Q => Q b
  | _, _ => False
@[simp ↓] theorem asI_int (b : Int) (Q : Int → Prop) : asI (.int b) Q = Q b := propext Iff.rfl
@[simp ↓] theorem wp_aug (i : Nat) (h : Int → Int → Int) : Wp (sAug i h f ε) Q X = rd ε i fun o d => asI d fun x => nx o (Wp (f ε) (fun p ε1 => nx p.1 (asI p.2 fun y => wr ε1 i (some (.sh, .int (h x y))) (Q .nx))) X) := by
  unfold sAug
  rw [rd_eq]
  cases e : ε[i]? with
  | none => rfl
  | some x =>
    cases x with
    | none => rfl
    | some x =>
      obtain ⟨o, d⟩ := x
      cases d with
      | int x =>
        dsimp only
        rw [nx_eq, asI_int]
        congr 1
        rw [wp_bind]
        congr 1
        funext p ε1
        rw [nx_eq]
        congr 1
        obtain ⟨oq, q⟩ := p
        unfold wr
        cases q with
        | int y => by_cases hi : i < ε1.length <;> simp [hi, Wp, asI]
        | _ => rfl
      | _ => rfl
@[simp ↓] theorem wp_par2 (i j : Nat) : Wp (sPar i j f g ε) Q X = WpL [.v f, .v g] ε (fun ds ε' => match ds with
    | [d, e] => wr ε' i (some (.sh, d)) fun ε2 => wr ε2 j (some (.sh, e)) (Q .nx)
    | _ => False) X := by
  unfold sPar WpL
  rw [wp_bind]
  congr 1
  funext ds ε'
  match ds with
  | [d, e] =>
    dsimp only
    unfold wr
    by_cases hi : i < ε'.length <;> by_cases hj : j < ε'.length <;> simp [hi, hj, Wp]
  | [] => rfl
  | [_] => rfl
  | _ :: _ :: _ :: _ => rfl
@[simp ↓] theorem wp_par3 (i j l : Nat) (h : Ev) : Wp (sPar3 i j l f g h ε) Q X = WpL [.v f, .v g, .v h] ε (fun ds ε' => match ds with
    | [d, e, q] => wr ε' i (some (.sh, d)) fun ε2 => wr ε2 j (some (.sh, e)) fun ε3 => wr ε3 l (some (.sh, q)) (Q .nx)
    | _ => False) X := by
  unfold sPar3 WpL
  rw [wp_bind]
  congr 1
  funext ds ε'
  match ds with
  | [d, e, q] =>
    dsimp only
    unfold wr
    by_cases hi : i < ε'.length <;> by_cases hj : j < ε'.length <;> by_cases hl : l < ε'.length <;> simp [hi, hj, hl, Wp]
  | [] => rfl
  | [_] => rfl
  | [_, _] => rfl
  | _ :: _ :: _ :: _ :: _ => rfl
/-! ### loops -/
def WpI (fi : Fi) (ε : Fe) (P : List PyData → Fe → Prop) (X : Str → Fe → Prop) : Prop := Wp (fi ε) P X
def asSeq (d : PyData) (P : List PyData → Prop) : Prop := match d with
  | .list ds => P ds
  | .tuple ds => P ds
  | .str x => P (strD x)
  | _ => False
@[simp ↓] theorem asSeq_list (ds : List PyData) (P : List PyData → Prop) : asSeq (.list ds) P = P ds := propext Iff.rfl
@[simp ↓] theorem asSeq_tuple (ds : List PyData) (P : List PyData → Prop) : asSeq (.tuple ds) P = P ds := propext Iff.rfl
@[simp ↓] theorem asSeq_str (x : Str) (P : List PyData → Prop) : asSeq (.str x) P = P (strD x) := propext Iff.rfl
variable {P : List PyData → Fe → Prop}
@[simp ↓] theorem wpI_seq : WpI (fiSeq f) ε P X = Wp (f ε) (fun p ε' => nx p.1 (asSeq p.2 fun ds => P ds ε')) X := by
  unfold WpI fiSeq
  rw [wp_bind]
  congr 1
  funext p ε'
  rw [nx_eq]
  congr 1
  obtain ⟨o, d⟩ := p
  cases d <;> rfl
@[simp ↓] theorem wpI_rng1 (x : Arg) : WpI (fiRng1 x) ε P X = WpL [x] ε (fun ds ε' => match ds with
    | [.int j] => (-(2 ^ 62) ≤ j ∧ j < 2 ^ 62) ∧ P (rngD 0 j.toNat) ε'
    | _ => False) X := by
  unfold WpI fiRng1 WpL
  rw [wp_bind]
  congr 1
  funext ds ε'
  split
  · rw [wp_ite, wp_ok, wp_stuck]
    split
    · rename_i h
      exact (propext ⟨fun z => ⟨h, z⟩, fun z => z.2⟩ : _ = (_ ∧ _))
    · rename_i h
      exact (propext ⟨fun z => z.elim, fun z => h z.1⟩ : _ = (_ ∧ _))
  · first
      | rfl
      | (split <;> simp_all)
@[simp ↓] theorem wpI_rng2 (x y : Arg) : WpI (fiRng2 x y) ε P X = WpL [x, y] ε (fun ds ε' => match ds with
    | [.int i, .int j] => (-(2 ^ 62) ≤ i ∧ i < 2 ^ 62 ∧ -(2 ^ 62) ≤ j ∧ j < 2 ^ 62) ∧ P (rngD i (j - i).toNat) ε'
    | _ => False) X := by
  unfold WpI fiRng2 WpL
  rw [wp_bind]
  congr 1
  funext ds ε'
  split
  · rw [wp_ite, wp_ok, wp_stuck]
    split
    · rename_i h
      exact (propext ⟨fun z => ⟨h, z⟩, fun z => z.2⟩ : _ = (_ ∧ _))
    · rename_i h
      exact (propext ⟨fun z => z.elim, fun z => h z.1⟩ : _ = (_ ∧ _))
  · first
      | rfl
      | (split <;> simp_all)
@[simp ↓] theorem wpI_rng3 (x y z : Arg) : WpI (fiRng3 x y z) ε P X = WpL [x, y, z] ε (fun ds ε' => match ds with
    | [.int i, .int j, .int (-1)] => (-(2 ^ 62) ≤ i ∧ i < 2 ^ 62 ∧ -(2 ^ 62) ≤ j ∧ j < 2 ^ 62) ∧ P (rngC i (-1) (i - j).toNat) ε'
    | _ => False) X := by
  unfold WpI fiRng3 WpL
  rw [wp_bind]
  congr 1
  funext ds ε'
  split
  · rw [wp_ite, wp_ok, wp_stuck]
    split
    · rename_i h
      exact (propext ⟨fun z => ⟨h, z⟩, fun z => z.2⟩ : _ = (_ ∧ _))
    · rename_i h
      exact (propext ⟨fun z => z.elim, fun z => h z.1⟩ : _ = (_ ∧ _))
  · first
      | rfl
      | (split <;> simp_all)
@[simp ↓] theorem wpI_en : WpI (fiEn f) ε P X = Wp (f ε) (fun p ε' => nx p.1 (match p.2 with
    | .list ds => P (enD 0 ds) ε'
    | _ => False)) X := by
  unfold WpI fiEn
  rw [wp_bind]
  congr 1
  funext p ε'
  rw [nx_eq]
  congr 1
  obtain ⟨o, d⟩ := p
  cases d <;> rfl
@[simp ↓] theorem wpI_zip : WpI (fiZip f g) ε P X = Wp (f ε) (fun p ε' => nx p.1 (Wp (g ε') (fun q ε2 => nx q.1 (match p.2, q.2 with
    | .list as, .list bs => P (zipD as bs) ε2
    | .tuple as, .tuple bs => P (zipD as bs) ε2
    | _, _ => False)) X)) X := by
  unfold WpI fiZip
  rw [wp_bind]
  congr 1
  funext p ε'
  rw [nx_eq, wp_bind]
  congr 2
  funext q ε2
  rw [nx_eq]
  congr 1
  obtain ⟨o, d⟩ := p
  obtain ⟨o2, d2⟩ := q
  cases d <;> cases d2 <;> rfl
def WpF (t : Tg) (a : Sm) (ds : List PyData) (ε : Fe) (Q : Fl → Fe → Prop) (X : Str → Fe → Prop) : Prop := Wp (forL t a ds ε) Q X
@[simp ↓] theorem wp_for (fi : Fi) (t : Tg) : Wp (sFor fi t a ε) Q X = WpI fi ε (fun ds ε' => WpF t a ds ε' Q X) X := by
  unfold sFor
  rw [wp_bind]
  rfl
/-- one round more, or the end of the loop -/
def rnd (Q : Fl → Fe → Prop) (N : Fe → Prop) : Fl → Fe → Prop
  | .nx, ε => N ε
  | .ct, ε => N ε
  | .bk, ε => Q .nx ε
  | .rt o d, ε => Q (.rt o d) ε
@[simp ↓] theorem rnd_nx (Q : Fl → Fe → Prop) (N : Fe → Prop) : rnd Q N .nx ε = N ε := propext Iff.rfl
@[simp ↓] theorem rnd_ct (Q : Fl → Fe → Prop) (N : Fe → Prop) : rnd Q N .ct ε = N ε := propext Iff.rfl
@[simp ↓] theorem rnd_bk (Q : Fl → Fe → Prop) (N : Fe → Prop) : rnd Q N .bk ε = Q .nx ε := propext Iff.rfl
@[simp ↓] theorem rnd_rt (Q : Fl → Fe → Prop) (N : Fe → Prop) (o : Own) (d : PyData) : rnd Q N (.rt o d) ε = Q (.rt o d) ε := propext Iff.rfl
theorem wpF_nil (t : Tg) : WpF t a [] ε Q X = Q .nx ε := rfl
theorem wpF_cons (t : Tg) (d : PyData) (ds : List PyData) : WpF t a (d :: ds) ε Q X = some? (t .sh d ε) fun ε1 => Wp (a ε1) (rnd Q fun ε2 => WpF t a ds ε2 Q X) X := by
  unfold WpF
  conv => lhs; unfold forL
  cases t .sh d ε with
  | none => rfl
  | some ε1 =>
    dsimp only
    rw [wp_bind]
    show _ = Wp _ _ _
    congr 1
    funext fl ε2
    cases fl <;> rfl
/-- a loop by what stands at the head of each round: I, by what is still to come -/
theorem wpF_inv {t : Tg} (I : List PyData → Fe → Prop) {ds : List PyData} (h0 : I ds ε) (fin : ∀ ε, I [] ε → Q .nx ε)
    (step : ∀ d r ε, d ∈ ds → I (d :: r) ε → some? (t .sh d ε) fun ε1 => Wp (a ε1) (rnd Q (I r)) X) : WpF t a ds ε Q X := by
  induction ds generalizing ε with
  | nil => exact fin _ h0
  | cons d r ih =>
    rw [wpF_cons]
    have h := step d r ε List.mem_cons_self h0
    cases e : t .sh d ε with
    | none => rw [e] at h; exact h.elim
    | some ε1 =>
      rw [e] at h
      refine Wp.mono h (fun fl ε2 q => ?_) fun _ _ q => q
      cases fl with
      | nx => exact ih q (fun d r ε hd => step d r ε (List.mem_cons_of_mem _ hd))
      | ct => exact ih q (fun d r ε hd => step d r ε (List.mem_cons_of_mem _ hd))
      | bk => exact q
      | rt o d => exact q
def WpW (c : Tv) (a : Sm) (n : Nat) (ε : Fe) (Q : Fl → Fe → Prop) (X : Str → Fe → Prop) : Prop := Wp (whL c a n ε) Q X
@[simp ↓] theorem wp_wh (n : Nat) : Wp (sWh n c a ε) Q X = WpW c a n ε Q X := propext Iff.rfl
theorem wpW_succ (n : Nat) : WpW c a (n + 1) ε Q X = Wp (c ε) (fun t ε1 => if t = true then Wp (a ε1) (rnd Q fun ε2 => WpW c a n ε2 Q X) X else Q .nx ε1) X := by
  unfold WpW
  conv => lhs; unfold whL
  rw [wp_bind]
  congr 1
  funext t ε1
  cases t with
  | false => rfl
  | true =>
    rw [if_pos rfl, if_pos rfl, wp_bind]
    congr 1
    funext fl ε2
    cases fl <;> rfl
/-- a while by what stands at its head, with m rounds left at most -/
theorem wpW_inv (I : Nat → Fe → Prop) {m n : Nat} (hm : m < n) (h0 : I m ε)
    (step : ∀ m ε, I m ε → Wp (c ε) (fun t ε1 => if t = true then Wp (a ε1) (rnd Q fun ε2 => ∃ m', m' < m ∧ I m' ε2) X else Q .nx ε1) X) : WpW c a n ε Q X := by
  induction n generalizing m ε with
  | zero => exact absurd hm (Nat.not_lt_zero _)
  | succ n ih =>
    rw [wpW_succ]
    refine Wp.mono (step m ε h0) (fun t ε1 h => ?_) fun _ _ q => q
    cases t with
    | false => exact h
    | true =>
      rw [if_pos rfl] at h ⊢
      refine Wp.mono h (fun fl ε2 q => ?_) fun _ _ q => q
      cases fl with
      | nx => exact let ⟨m', h1, h2⟩ := q; ih (by omega) h2
      | ct => exact let ⟨m', h1, h2⟩ := q; ih (by omega) h2
      | bk => exact q
      | rt o d => exact q
end
/-! ### comprehensions, slices, chains -/
section
variable {Q : Own × PyData → Fe → Prop} {X : Str → Fe → Prop} {ε : Fe} {f g h : Ev} {c : Tv}
/-- no exception comes out -/
def W0p : Str → Fe → Prop := fun _ _ => False
theorem wp_noX {α : Type} {r : Res α} {P : α → Fe → Prop} {X : Str → Fe → Prop} : Wp r.noX P X = Wp r P W0p := by cases r <;> rfl
def WpC (t : Tg) (c : Tv) (e : Ev) (vs : List Nat) (ds : List PyData) (ε : Fe) (acc : List PyData) (P : List PyData → Fe → Prop) : Prop := Wp (lcL t c e vs ds ε acc) P W0p
theorem wp_lcX {t : Tg} {c : Tv} {e : Ev} {vs : List Nat} {P : List PyData → Fe → Prop} {X X' : Str → Fe → Prop} : ∀ {ds : List PyData} {ε : Fe} {acc : List PyData}, Wp (lcL t c e vs ds ε acc) P X = Wp (lcL t c e vs ds ε acc) P X'
  | [], ε, acc => rfl
  | d :: ds, ε, acc => by
    unfold lcL
    cases t .sh d ε with
    | none => rfl
    | some ε1 =>
      dsimp only
      rw [wp_bind, wp_bind, wp_noX, wp_noX]
      congr 1
      funext b ε2
      cases b with
      | false => exact wp_lcX
      | true =>
        simp only [if_true]
        rw [wp_bind, wp_bind, wp_noX, wp_noX]
        congr 1
        funext p ε3
        rw [nx_eq, nx_eq]
        congr 1
        by_cases hl : acc.length < sizeLine
        · simp only [if_pos hl]; exact wp_lcX
        · simp only [if_neg hl]; rfl
@[simp ↓] theorem wp_lc (fi : Fi) (t : Tg) (vs : List Nat) : Wp (eLc fi t c f vs ε) Q X = WpI fi ε (fun ds ε1 => WpC t c f vs ds (wpE ε1 vs) [] fun acc ε2 => Q (.top, .list acc) ε2) X := by
  unfold eLc
  rw [wp_bind]
  show Wp _ _ _ = Wp _ _ _
  congr 1
  funext ds ε1
  rw [wp_bind]
  exact wp_lcX
theorem wpC_nil (t : Tg) (vs : List Nat) (acc : List PyData) (P : List PyData → Fe → Prop) : WpC t c f vs [] ε acc P = P acc ε := rfl
theorem wpC_cons (t : Tg) (vs : List Nat) (d : PyData) (ds acc : List PyData) (P : List PyData → Fe → Prop) : WpC t c f vs (d :: ds) ε acc P = some? (t .sh d ε) fun ε1 => Wp (c ε1) (fun b ε2 => if b = true then Wp (f ε2) (fun p ε3 => nx p.1 (acc.length < sizeLine ∧ WpC t c f vs ds (wpE ε3 vs) (acc ++ [p.2]) P)) W0p else WpC t c f vs ds (wpE ε2 vs) acc P) W0p := by
  unfold WpC
  conv => lhs; unfold lcL
  cases t .sh d ε with
  | none => rfl
  | some ε1 =>
    dsimp only
    rw [wp_bind, wp_noX]
    show _ = Wp _ _ _
    congr 1
    funext b ε2
    cases b with
    | false => rfl
    | true =>
      rw [if_pos rfl, if_pos rfl, wp_bind, wp_noX]
      congr 1
      funext p ε3
      rw [nx_eq]
      congr 1
      by_cases hl : acc.length < sizeLine <;> simp [hl, Wp]
/-- a comprehension by what stands at the head of each round -/
theorem wpC_inv {t : Tg} {vs : List Nat} {P : List PyData → Fe → Prop} (I : List PyData → List PyData → Fe → Prop) {ds acc : List PyData} (hl : acc.length + ds.length ≤ sizeLine) (h0 : I ds acc ε) (fin : ∀ acc ε, I [] acc ε → P acc ε)
    (step : ∀ d r acc ε, d ∈ ds → I (d :: r) acc ε → some? (t .sh d ε) fun ε1 => Wp (c ε1) (fun b ε2 => if b = true then Wp (f ε2) (fun p ε3 => nx p.1 (I r (acc ++ [p.2]) (wpE ε3 vs))) W0p else I r acc (wpE ε2 vs)) W0p) : WpC t c f vs ds ε acc P := by
  induction ds generalizing ε acc with
  | nil => exact fin _ _ h0
  | cons d r ih =>
    rw [wpC_cons]
    rw [List.length_cons] at hl
    have h := step d r acc ε List.mem_cons_self h0
    cases e : t .sh d ε with
    | none => rw [e] at h; exact h.elim
    | some ε1 =>
      rw [e] at h
      refine Wp.mono h (fun b ε2 q => ?_) fun _ _ q => q
      cases b with
      | false => exact ih (by omega) q (fun d r acc ε hd => step d r acc ε (List.mem_cons_of_mem _ hd))
      | true =>
        rw [if_pos rfl] at q ⊢
        refine Wp.mono q (fun p ε3 z => ⟨z.1, by omega, ?_⟩) fun _ _ q => q
        exact ih (by rw [List.length_append]; show _ + 1 + _ ≤ _; omega) z.2 (fun d r acc ε hd => step d r acc ε (List.mem_cons_of_mem _ hd))
@[simp ↓] theorem wpE_nil : wpE ε [] = ε := by rw [wpE]
/-! slices -/
def WpO (o : Fe → Res (Option Int)) (ε : Fe) (P : Option Int → Fe → Prop) (X : Str → Fe → Prop) : Prop := Wp (o ε) P X
@[simp ↓] theorem wpO_no (P : Option Int → Fe → Prop) : WpO oNo ε P X = P none ε := propext Iff.rfl
@[simp ↓] theorem wpO_some (P : Option Int → Fe → Prop) : WpO (oSome f) ε P X = Wp (f ε) (fun p ε' => asI p.2 fun i => nx p.1 (P (some i) ε')) X := by
  unfold WpO oSome
  rw [wp_bind]
  congr 1
  funext p ε'
  obtain ⟨o, d⟩ := p
  cases d with
  | int i => exact nx_eq
  | _ => rfl
@[simp ↓] theorem wp_sl (lo hi : Fe → Res (Option Int)) : Wp (eSl f lo hi ε) Q X = Wp (f ε) (fun p ε1 => nx p.1 (WpO lo ε1 (fun l ε2 => WpO hi ε2 (fun u ε3 => some? (dSl p.2 l u) fun r => Q r ε3) X) X)) X := by
  unfold eSl
  rw [wp_bind]
  congr 1
  funext p ε1
  rw [nx_eq]
  congr 1
  rw [wp_bind]
  show Wp _ _ _ = Wp _ _ _
  congr 1
  funext l ε2
  rw [wp_bind]
  show Wp _ _ _ = Wp _ _ _
  congr 1
  funext u ε3
  cases dSl p.2 l u <;> rfl
@[simp ↓] theorem wp_ch (r r' : PyData → PyData → Option Bool) : Wp (eChF r r' f g h ε) Q X = Wp (f ε) (fun a ε1 => nx a.1 (Wp (g ε1) (fun b ε2 => nx b.1 (some? (r a.2 b.2) fun t => if t = true then Wp (h ε2) (fun c ε3 => nx c.1 (some? (r' b.2 c.2) fun t => Q (.sh, .bool t) ε3)) X else Q (.sh, .bool false) ε2)) X)) X := by
  unfold eChF
  rw [wp_bind]
  congr 1
  funext a ε1
  rw [nx_eq, wp_bind]
  congr 2
  funext b ε2
  rw [nx_eq]
  congr 1
  cases r a.2 b.2 with
  | none => rfl
  | some t =>
    cases t with
    | false => rfl
    | true =>
      dsimp only
      rw [some?_some, if_pos rfl, wp_bind]
      congr 1
      funext c ε3
      rw [nx_eq]
      congr 1
      cases r' b.2 c.2 <;> rfl
@[simp ↓] theorem wp_dnew : Wp (eDnew ε) Q X = Q (.top, .dict []) ε := propext Iff.rfl
@[simp ↓] theorem wp_disp1 (k : Str) (i : Int) : Wp (eDisp1 k i ε) Q X = Q (.top, .dict [(.str k, .int i)]) ε := propext Iff.rfl
/-! ### calls -/
/-- what a call comes to -/
def WpR (r : FR) (is : List Nat) (ε : Fe) (Q : Own × PyData → Fe → Prop) (X : Str → Fe → Prop) : Prop := match r with
  | .ok o d outs => Q (o, d) (putO is outs ε)
  | .exc x outs => X x (putO is outs ε)
  | .stuck => False
@[simp ↓] theorem wpR_ok (o : Own) (d : PyData) (outs : List PyData) (is : List Nat) : WpR (.ok o d outs) is ε Q X = Q (o, d) (putO is outs ε) := propext Iff.rfl
@[simp ↓] theorem wpR_exc (x : Str) (outs : List PyData) (is : List Nat) : WpR (.exc x outs) is ε Q X = X x (putO is outs ε) := propext Iff.rfl
@[simp ↓] theorem wpR_ite {c : Prop} [Decidable c] (r s : FR) (is : List Nat) : WpR (if c then r else s) is ε Q X = if c then WpR r is ε Q X else WpR s is ε Q X := by split <;> rfl
@[simp ↓] theorem wp_call (modes : List Bool) (F : List PyData → FR) (as : List Arg) : Wp (eCall modes F as ε) Q X = WpL as ε (fun ds ε' => (okM modes as ε' = true ∧ (ownI modes as).Nodup) ∧ WpR (F ds) (ownI modes as) ε' Q X) X := by
  unfold eCall WpL
  rw [wp_bind]
  congr 1
  funext ds ε'
  by_cases hc : okM modes as ε' = true ∧ (ownI modes as).Nodup
  · rw [if_pos hc, eq_true hc, true_and]
    cases F ds <;> rfl
  · rw [if_neg hc, eq_false hc, false_and]
    rfl
@[simp ↓] theorem wp_callL (modes : List Bool) (F : List PyData → FR) (as : List Arg) : Wp (eCallL modes F as ε) Q X = WpL as ε (fun ds ε' => (noOwn modes = true ∧ as.length = modes.length) ∧ WpR (F ds) [] ε' (fun p ε2 => (p.1 = .sh ∧ flatD p.2 = true) ∧ Q p ε') (fun x ε2 => X x ε')) X := by
  unfold eCallL WpL
  rw [wp_bind]
  congr 1
  funext ds ε'
  by_cases hc : noOwn modes = true ∧ as.length = modes.length
  · rw [if_pos hc, eq_true hc, true_and]
    cases F ds with
    | ok o d outs =>
      cases o with
      | sh => cases hf : flatD d <;> simp [WpR, Wp, hf]
      | _ => simp [WpR, Wp]
    | exc x outs => rfl
    | stuck => rfl
  · rw [if_neg hc, eq_false hc, false_and]
    rfl
end
/-! ### a def from its suite -/
def Ret (modes : List Bool) (P : Own → PyData → List PyData → Prop) : Fl → Fe → Prop
  | .nx, ε => some? (outsOf 0 modes ε) fun outs => P .sh .none outs
  | .rt o d, ε => some? (outsOf 0 modes ε) fun outs => (o = .sh ∨ o = .top) ∧ P o d outs
  | _, _ => False
@[simp ↓] theorem ret_nx (modes : List Bool) (P : Own → PyData → List PyData → Prop) (ε : Fe) : Ret modes P .nx ε = some? (outsOf 0 modes ε) fun outs => P .sh .none outs := propext Iff.rfl
@[simp ↓] theorem ret_rt (modes : List Bool) (P : Own → PyData → List PyData → Prop) (o : Own) (d : PyData) (ε : Fe) : Ret modes P (.rt o d) ε = some? (outsOf 0 modes ε) fun outs => (o = .sh ∨ o = .top) ∧ P o d outs := propext Iff.rfl
def FP (r : FR) (P : Own → PyData → List PyData → Prop) (E : Str → List PyData → Prop) : Prop := match r with
  | .ok o d outs => P o d outs
  | .exc x outs => E x outs
  | .stuck => False
theorem run_fp {modes : List Bool} {n : Nat} {body : Sm} {ds : List PyData} {P : Own → PyData → List PyData → Prop} {E : Str → List PyData → Prop} (hl : ds.length = modes.length ∧ modes.length ≤ n)
    (h : Wp (body (argE 0 modes ds ++ List.replicate (n - modes.length) none)) (Ret modes P) (fun x ε => some? (outsOf 0 modes ε) (E x))) : FP (runF modes n body ds) P E := by
  unfold runF
  rw [if_pos hl]
  cases e : body (argE 0 modes ds ++ List.replicate (n - modes.length) none) with
  | stuck => rw [e] at h; exact h
  | exc x ε =>
    rw [e] at h
    dsimp only
    have h' : some? (outsOf 0 modes ε) (E x) := h
    cases eo : outsOf 0 modes ε with
    | none => rw [eo] at h'; exact h'.elim
    | some outs => rw [eo] at h'; exact h'
  | ok fl ε =>
    rw [e] at h
    have h' : Ret modes P fl ε := h
    cases fl with
    | nx =>
      dsimp only
      rw [ret_nx] at h'
      cases eo : outsOf 0 modes ε with
      | none => rw [eo] at h'; exact h'.elim
      | some outs => rw [eo] at h'; exact h'
    | rt o d =>
      dsimp only
      rw [ret_rt] at h'
      cases eo : outsOf 0 modes ε with
      | none => rw [eo] at h'; exact h'.elim
      | some outs =>
        rw [eo] at h'
        dsimp only
        rw [if_pos h'.1]
        exact h'.2
    | bk => exact h'.elim
    | ct => exact h'.elim
/-- a def whose answer is this -/
theorem fp_ok {r : FR} {o : Own} {d : PyData} {outs : List PyData} (h : FP r (fun o' d' outs' => o' = o ∧ d' = d ∧ outs' = outs) fun _ _ => False) : r = .ok o d outs := by
  cases r with
  | ok o' d' outs' => obtain ⟨rfl, rfl, rfl⟩ := h; rfl
  | exc x outs' => exact h.elim
  | stuck => exact h.elim
theorem fp_exc {r : FR} {x : Str} {outs : List PyData} (h : FP r (fun _ _ _ => False) fun x' outs' => x' = x ∧ outs' = outs) : r = .exc x outs := by
  cases r with
  | exc x' outs' => obtain ⟨rfl, rfl⟩ := h; rfl
  | ok o' d' outs' => exact h.elim
  | stuck => exact h.elim
end FS
/-! Where an exception is handled: the end of a list's walk, the unpacking of a tuple. -/
namespace FH
open PySem PySem.Spec PyProof.Rows L2 HotX
section
variable {prog : Program} {w : World} {A : Around} {E : Value → Shared → Prop} {s : Shared}
theorem list_end_hot {it l x1 : Addr} {i : Nat} {items} {Q : Option Value → Shared → Prop} (hot : HotAt A x1 s.heap) (hx1 : x1 ≠ it)
    (hit : s.heap.IsListIter it l i) (hl : s.heap.IsList l items) (hx : items[i]? = none)
    (hQ : ∀ h', Heap.ExtBut it s.heap h' → Q none { s with heap := h' }) : wpAny (model prog w) A (pyNext (.ref it)) Q E s := by
  obtain ⟨o, ho, hc, hd⟩ := id hit
  obtain ⟨ol, hol, _, nl, hdl⟩ := hl
  obtain ⟨hh, o1, vs1, h1, d1, c1⟩ := hot
  unfold pyNext
  refine wpAny_bind (wpAny_attempt (wpAny_callSpecial?_slot (name := Str.ofString "__next__") hit.typeIs slot_listiter_next
    (wpAny_call_entry slot_listiter_next hit.typeIs entry_listiter_next ?_ (args_listiter_next _))))
  show wpAny _ _ (field (.ref it) 0 >>= _) _ _ s
  refine wpAny_bind (wpAny_field ho hd (x := .ref l) rfl ?_)
  show wpAny _ _ (if (Value.ref l == Value.none) = true then _ else _) _ _ s
  rw [if_neg (show ¬ ((Value.ref l == Value.none) = true) from Bool.false_ne_true)]
  show wpAny _ _ (field (.ref it) 1 >>= _) _ _ s
  refine wpAny_bind (wpAny_field ho hd (x := .int i 0) rfl ?_)
  show wpAny _ _ (seqItems? (.ref l) >>= _) _ _ s
  refine wpAny_bind (wpAny_seqItems hol hdl ?_)
  simp only [Int.toNat_natCast, hx]
  refine wpAny_bind (wpAny_rule (wpAny_bind (wpAny_setField ho hd (by simp) ?_)))
  have q1 : (s.heap.update it (Obj.mapFields (·.setIfInBounds 0 .none))).get? x1 = some o1 := by
    rw [Heap.get?_update_other _ _ (Ne.symm hx1)]
    exact h1
  show wpAny _ _ (newExc (.type "StopIteration") [] >>= _) _ _ _
  refine wpAny_bind ?_
  simp only [newExc, newTuple]
  refine wpAny_bind (wpAny_newObj_type ?_ (by size_fits))
  refine wpAny_bind (m := firstArgMember _ _) (wpAny_of_eq (a := Value.none) (by first | rfl | (simp only [firstArgMember]; rfl)) ?_)
  refine wpAny_newObj_type ?_ (by size_fits)
  refine raiseNew_hot ⟨hh, o1, vs1, Heap.get?_push_of_some _ (Heap.get?_push_of_some _ q1), d1, c1⟩ (Nat.ne_of_lt (Heap.lt_size (Heap.get?_push_of_some _ q1))) (Heap.get?_push_size _ rfl) rfl (by first | (simp; done) | (simp; omega) | (simp only [Array.size_append]; simp; omega)) ?_
  refine wpAny_bind (wpAny_isInstance (T := "StopIteration") (b := true) ⟨_, Heap.get?_update_self _ (Heap.get?_push_size _ rfl) rfl, rfl⟩ isSubtype_stop ?_)
  refine wpAny_pure (hQ _ fun b o hb e => ?_)
  have e2 : (s.heap.update it (Obj.mapFields (·.setIfInBounds 0 .none))).get? b = some o := by
    rw [Heap.get?_update_other _ _ (Ne.symm hb)]
    exact e
  rw [Heap.get?_update_other _ _ (Nat.ne_of_gt (Heap.lt_size (Heap.get?_push_of_some _ e2)))]
  exact Heap.get?_push_of_some _ (Heap.get?_push_of_some _ e2)
theorem tuple_end_hot {it t x1 : Addr} {i : Nat} {items} {Q : Option Value → Shared → Prop} (hot : HotAt A x1 s.heap) (hx1 : x1 ≠ it)
    (hit : IsTupIter s.heap it t i) (ht : IsTup s.heap t items) (hx : items[i]? = none)
    (hQ : ∀ h', Heap.ExtBut it s.heap h' → Q none { s with heap := h' }) : wpAny (model prog w) A (pyNext (.ref it)) Q E s := by
  obtain ⟨o, ho, hc, hd⟩ := id hit
  obtain ⟨ol, hol, _, nl, hdl⟩ := ht
  obtain ⟨hh, o1, vs1, h1, d1, c1⟩ := hot
  unfold pyNext
  refine wpAny_bind (wpAny_attempt (wpAny_callSpecial?_slot (name := Str.ofString "__next__") hit.typeIs slot_tupleiter_next
    (wpAny_call_entry slot_tupleiter_next hit.typeIs entry_tupleiter_next ?_ (args_tupleiter_next _))))
  show wpAny _ _ (field (.ref it) 0 >>= _) _ _ s
  refine wpAny_bind (wpAny_field ho hd (x := .ref t) rfl ?_)
  show wpAny _ _ (if (Value.ref t == Value.none) = true then _ else _) _ _ s
  rw [if_neg (show ¬ ((Value.ref t == Value.none) = true) from Bool.false_ne_true)]
  show wpAny _ _ (field (.ref it) 1 >>= _) _ _ s
  refine wpAny_bind (wpAny_field ho hd (x := .int i 0) rfl ?_)
  show wpAny _ _ (seqItems? (.ref t) >>= _) _ _ s
  refine wpAny_bind (wpAny_seqItems hol hdl ?_)
  simp only [Int.toNat_natCast, hx]
  refine wpAny_bind (wpAny_rule (wpAny_bind (wpAny_setField ho hd (by simp) ?_)))
  have q1 : (s.heap.update it (Obj.mapFields (·.setIfInBounds 0 .none))).get? x1 = some o1 := by
    rw [Heap.get?_update_other _ _ (Ne.symm hx1)]
    exact h1
  show wpAny _ _ (newExc (.type "StopIteration") [] >>= _) _ _ _
  refine wpAny_bind ?_
  simp only [newExc, newTuple]
  refine wpAny_bind (wpAny_newObj_type ?_ (by size_fits))
  refine wpAny_bind (m := firstArgMember _ _) (wpAny_of_eq (a := Value.none) (by first | rfl | (simp only [firstArgMember]; rfl)) ?_)
  refine wpAny_newObj_type ?_ (by size_fits)
  refine raiseNew_hot ⟨hh, o1, vs1, Heap.get?_push_of_some _ (Heap.get?_push_of_some _ q1), d1, c1⟩ (Nat.ne_of_lt (Heap.lt_size (Heap.get?_push_of_some _ q1))) (Heap.get?_push_size _ rfl) rfl (by first | (simp; done) | (simp; omega) | (simp only [Array.size_append]; simp; omega)) ?_
  refine wpAny_bind (wpAny_isInstance (T := "StopIteration") (b := true) ⟨_, Heap.get?_update_self _ (Heap.get?_push_size _ rfl) rfl, rfl⟩ isSubtype_stop ?_)
  refine wpAny_pure (hQ _ fun b o hb e => ?_)
  have e2 : (s.heap.update it (Obj.mapFields (·.setIfInBounds 0 .none))).get? b = some o := by
    rw [Heap.get?_update_other _ _ (Ne.symm hb)]
    exact e
  rw [Heap.get?_update_other _ _ (Nat.ne_of_gt (Heap.lt_size (Heap.get?_push_of_some _ e2)))]
  exact Heap.get?_push_of_some _ (Heap.get?_push_of_some _ e2)
theorem HotAt.keeps {x1 : Addr} {h h' : Heap} (k : ∀ b o, h.get? b = some o → h'.get? b = some o) (x : HotAt A x1 h) : HotAt A x1 h' := let ⟨hh, o, vs, e, d, c⟩ := x; ⟨hh, o, vs, k _ _ e, d, c⟩
theorem unpackItems_hot {t x1 : Addr} {items : Array Value} {Q : List Value → Shared → Prop} (hot : HotAt A x1 s.heap) (ht : IsTup s.heap t items)
    (hQ : ∀ h', Heap.ExtBut s.heap.objs.size s.heap h' → Q items.toList { s with heap := h' }) : wpAny (model prog w) A (unpackItems (.ref t) items.size none) Q E s := by
  have hlt : t ≠ s.heap.objs.size := by obtain ⟨o, ho, _⟩ := ht; exact Nat.ne_of_lt (Heap.lt_size ho)
  have hx1 : x1 ≠ s.heap.objs.size := by obtain ⟨_, o, _, ho, _⟩ := hot; exact Nat.ne_of_lt (Heap.lt_size ho)
  unfold unpackItems
  refine wpAny_bind ?_
  · unfold notIterableAtAll
    refine wpAny_bind (wpAny_specialOf ht.typeIs slot_tuple_iter.lookup ?_)
    refine wpAny_pure ?_
    simp only [Bool.false_eq_true, if_false]
    refine wpAny_bind (wpAny_holding (iter_tuple ht ?_))
    refine wpAny_bind (wpAny_holding (draw_tuple hlt items.size 0 _ _ ⟨_, Heap.get?_push_size _ rfl, rfl, rfl⟩ (ht.push _) (by omega) fun h₁ hit₁ hs₁ => ?_))
    have hall : List.take items.size (List.drop 0 items.toList) = items.toList := by
      rw [List.drop_zero]; exact List.take_of_length_le (by simp)
    rw [hall]
    rw [if_neg (by simp)]
    have ht₁ : IsTup h₁ t items := (ht.push _).extBut hs₁.extBut hlt
    have hot₁ : HotAt A x1 h₁ := by
      obtain ⟨hh, o1, vs1, h1, d1, c1⟩ := hot
      exact ⟨hh, o1, vs1, (hs₁.2 _ hx1).trans (Heap.get?_push_of_some _ h1), d1, c1⟩
    refine wpAny_bind (wpAny_holding (tuple_end_hot hot₁ hx1 hit₁ ht₁ (by simp) fun h₂ he₂ => ?_))
    simp only [Option.isSome_none, Bool.false_eq_true, if_false]
    refine wpAny_pure (hQ h₂ fun b o hb e => he₂ b o hb (hs₁.extBut b o hb (Heap.get?_push_of_some _ e)))
theorem assign_tuple_hot {env : Env} {elts : List Expr} {k} {pos : Pos} {t x1 : Addr} {items : Array Value} {Q : Unit → Shared → Prop} (hot : HotAt A x1 s.heap) (ht : IsTup s.heap t items)
    (hn : (assignEach elts env).length = items.size) (hstar : (assignEach elts env).findIdx? (·.1) = none)
    (h : ∀ h', Heap.ExtBut s.heap.objs.size s.heap h' → wpAny (model prog w) A (assignInOrder ((assignEach elts env).map (·.2)) items.toList) Q E { s with heap := h' }) :
    wpAny (model prog w) A (assign (.Tuple elts k pos) env (.ref t)) Q E s := by
  rw [assign_Tuple]
  refine wpAny_bind (wpAny_standAt ?_)
  unfold unpack
  rw [hn, hstar]
  exact wpAny_bind (wpAny_holding (unpackItems_hot hot ht h))
end
/-- the handled exception stood at the entry, untracked, its context None -/
def HotS (X : Cx) : Prop := ∃ p : Addr × Obj, L2H.Hot1 X.A p ∧ X.s_0.heap.get? p.1 = some p.2 ∧ X.H_0 p.1 = none ∧ p.1 ∉ X.fs ∧ p.1 ∉ X.ex
section
variable {X : Cx} {pins : List (Addr × Obj)} {σ : L2.St} {H : Hp} {s : Shared}
theorem HotS.at (c : HotS X) (I : Inv X pins σ H s) : ∃ x1, HotAt X.A x1 s.heap ∧ (∀ b, X.s_0.heap.objs.size ≤ b → x1 ≠ b) ∧ x1 ∉ X.ex := by
  obtain ⟨p, ⟨hh, v1, e1, c1⟩, g, n, nf, nx⟩ := c
  exact ⟨p.1, ⟨hh, p.2, v1, I.base.keep _ _ g n nf nx, e1, c1⟩, fun b hb => Nat.ne_of_lt (Nat.lt_of_lt_of_le (Heap.lt_size g) hb), nx⟩
theorem pg_tupS {es : List Expr} {k : Nat} {t : TGs} {n : Nat} {pos : Pos} (hc : HotS X) (h : PGs X es t)
    (hn : (assignEach es X.env).length = n := by rfl) (hst : (assignEach es X.env).findIdx? (·.1) = none := by rfl) : PG X (.Tuple es k pos) (L2.gTup X.K n t) := by
  refine ⟨fun pins s σ H v u Q I r hw => ?_⟩
  obtain ⟨a, xs, e1, hq, hl, hw⟩ := hw
  subst e1
  cases r
  obtain ⟨its, rv, ht, hz⟩ := I.tuple hq
  obtain ⟨x1, hot, _⟩ := hc.at I
  refine assign_tuple_hot hot ht (by simp [hn, ← hl, rv.length]) hst fun h' hx => ?_
  have I1 : Inv X pins σ H { s with heap := h' } := I.kept (t' := s.toks) fun b o e => hx b o (Nat.ne_of_lt (Heap.lt_size e)) e
  exact h.run pins _ σ H xs _ Q I1 (by simpa using rv) hw
end
/-! ### walks -/
structure TurnS (P : Program) (w : World) (K : PySem.W.Frag) (tg : Expr) (J : It) (fp : List Addr) (it : Addr) (tn : Nat → Heap → Prop) : Prop where
  mem : it ∈ fp
  obj : ∀ i h, tn i h → ∀ b ∈ fp, ∃ o, h.get? b = some o ∧ ∀ v, o.data ≠ .cell v
  keep : ∀ i h h', tn i h → (∀ b ∈ fp, ∀ o, h.get? b = some o → h'.get? b = some o) → tn i h'
  item : ∀ (X : Cx), X.prog = P → X.w = w → X.K = K → HotS X → ∀ (i : Nat) (pins : List (Addr × Obj)) (s : Shared) (σ : L2.St) (H : Hp) (E : Value → Shared → Prop), Inv X pins σ H s → (∀ b ∈ fp, FpOk X pins H b) → tn i s.heap → J.go i H →
    wpAny (model P w) X.A (pyNext (.ref it)) (fun r s1 => ∃ u, r = some u ∧
      wpAny (model P w) X.A (letOwnedTupleGo tg (.ref it) u) (fun _ s2 => ∃ x H', Inv X pins σ H' s2 ∧ RelV x u ∧ J.yld i H x H' ∧ tn (i + 1) s2.heap ∧ ∀ b ∈ fp, H' b = none) E s1) E s
  done : ∀ (X : Cx), X.prog = P → X.w = w → X.K = K → HotS X → ∀ (i : Nat) (pins : List (Addr × Obj)) (s : Shared) (σ : L2.St) (H : Hp) (E : Value → Shared → Prop), Inv X pins σ H s → (∀ b ∈ fp, FpOk X pins H b) → tn i s.heap → J.stop i H →
    wpAny (model P w) X.A (pyNext (.ref it)) (fun r s1 => r = none ∧ Inv X pins σ H s1) E s
  self : ∀ (A : Around) (i : Nat) (s : Shared) (Q : Value → Shared → Prop) (E : Value → Shared → Prop), tn i s.heap → Q (.ref it) s → wpAny (model P w) A (pyIter (.ref it)) Q E s
theorem turn_listS {P : Program} {w : World} {K : PySem.W.Frag} {tg : Expr} (a it : Addr) : TurnS P w K tg (Itl K a) [it] it (fun i h => h.IsListIter it a i) where
  mem := by simp
  obj := fun i h st b hb => by
    have e : b = it := by simpa using hb
    subst e
    obtain ⟨o, e, c, d⟩ := st
    exact ⟨o, e, fun v z => by rw [d] at z; cases z⟩
  keep := fun i h h' st k => st.at fun o e => k it (by simp) o e
  item := by
    intro X hP hw hK hc i pins s σ H E I hf st hg
    subst hP hw hK
    obtain ⟨xs, x, hq, hx⟩ := hg
    obtain ⟨its, rv, p, hz⟩ := I.list hq
    obtain ⟨u, hu, ru⟩ := rv.get hx
    obtain ⟨f0, f1, f2, f3, f4, f5⟩ := hf it (by simp)
    refine wpAny_pyNext_list_item st p.isList (x := u) (by simpa using hu) fun h' st' sb => ?_
    have I1 : Inv X pins σ H { s with heap := h' } := I.turned (t' := s.toks) (fun b o hb e => (sb.2 b hb).trans e) f0 f1 f3 f4 f5
    obtain ⟨o, e, c, d⟩ := id st'
    exact ⟨u, rfl, go_of (s := { s with heap := h' }) e c d (by decide) ⟨x, H, I1, ru, ⟨rfl, fun ys hy => by rw [I.list_inj hy hq]; exact hx⟩, st', fun b hb => (hf b hb).1⟩⟩
  done := by
    intro X hP hw hK hc i pins s σ H E I hf st hg
    subst hP hw hK
    obtain ⟨xs, hq, hx⟩ := hg
    obtain ⟨its, rv, p, hz⟩ := I.list hq
    obtain ⟨f0, f1, f2, f3, f4, f5⟩ := hf it (by simp)
    have hl := rv.length
    obtain ⟨x1, hot, n1, n2⟩ := hc.at I
    exact list_end_hot hot (f3.elim (fun z e => n2 (e ▸ z)) (n1 it)) st p.isList (by simp; omega) fun h' eb => ⟨rfl, I.turned (t' := s.toks) (fun b o hb e => eb b o hb e) f0 f1 f3 f4 f5⟩
  self := fun _ _ _ _ _ st h => wpAny_pyIter_listiter st h
def PIES (X : Cx) (pins : List (Addr × Obj)) (σ : L2.St) (tg : Expr) (R : It → Hp → Prop) (itv : Value) (s2 : Shared) : Prop :=
  ∃ (it : Addr) (fp : List Addr) (tn : Nat → Heap → Prop) (J : It) (H' : Hp), itv = .ref it ∧ Inv X pins σ H' s2 ∧ TurnS X.prog X.w X.K tg J fp it tn ∧ tn 0 s2.heap ∧ (∀ b ∈ fp, FpOk X pins H' b) ∧ R J H'
structure PIS (X : Cx) (tg iter : Expr) (wi : TI) : Prop where
  run : ∀ (pins : List (Addr × Obj)) (s : Shared) (σ : L2.St) (H : Hp) (R : It → Hp → Prop), Inv X pins σ H s → wi σ H R →
    wpAny (model X.prog X.w) X.A (eval iter X.env) (fun v s1 => wpAny (model X.prog X.w) X.A (pyIter v) (PIES X pins σ tg R) X.xe s1) X.xe s
end FH
/-! Where an exception is handled, part 2: loops over a list, list comprehensions. -/
namespace FH
open PySem PySem.Spec PyProof.Rows L2 HotX FS
section
variable {X : Cx} {tg : Expr}
theorem pi_listS {l : Expr} {tl : TE} (hl : PE X l tl) : PIS X tg l (iList X.K tl) := by
  refine ⟨fun pins s σ H R I h => thn (hl.run pins s σ H _ I h) fun v s1 ⟨x, H1, I1, r1, a, e, ⟨xs, hq⟩, q⟩ => ?_⟩
  subst e
  cases r1
  obtain ⟨its, rv, p, hz⟩ := I1.list hq
  refine wpAny_pyIter_list p.isList ⟨s1.heap.objs.size, [s1.heap.objs.size], _, _, H1, rfl, I1.kept (t' := s1.toks) fun b o e => Heap.get?_push_of_some _ e, turn_listS a _, ⟨_, Heap.get?_push_size _ rfl, rfl, rfl⟩, fun b hb => ?_, q⟩
  have e : b = s1.heap.objs.size := by simpa using hb
  subst e
  exact I1.fpOk (Nat.le_refl _) (I1.hok.fresh (Nat.le_refl _))
theorem ps_forS {iter : Expr} {body : List Stmt} {wi : TI} {g : TG} {tb : TS} {pos : Pos} (hp : PassesOwn (model X.prog X.w) X.A X.env X.xe) (hc : HotS X) (hi : PIS X tg iter wi) (hg : PG X tg g) (hb : PSs X body tb)
    (hs : ∀ x, foldedSetIterable iter X.env x = pure x := by intro _; rfl) : PS X (.For tg iter body [] pos) (tFor wi g tb) := by
  refine ⟨fun pins s σ H D I h => wpAny_For (thn (hi.run pins s σ H _ I h) fun v s1 h1 => thn h1 fun itv s2 h2 => ?_) hs⟩
  obtain ⟨it, fp, tn, J, H2, e, I2, T, st2, f2, W, ⟨m0, w0⟩, turn⟩ := h2
  subst e
  have stat : ∀ {H' : Hp}, (∀ b ∈ fp, H' b = none) → ∀ b ∈ fp, FpOk X pins H' b := fun hn b hb => ⟨hn b hb, (f2 b hb).2⟩
  refine codeAny_forLoop_any (fun n s' => ∃ i σ' H', Inv X pins σ' H' s' ∧ tn i s'.heap ∧ (∀ b ∈ fp, H' b = none) ∧ W i n σ' H') ?_ m0 ⟨0, σ, H2, I2, st2, fun b hb => (f2 b hb).1, w0⟩
  rintro n s3 ⟨i, σ3, H3, I3, st3, fr3, w3⟩
  rcases turn i n σ3 H3 w3 with ⟨stop, qn⟩ | ⟨go, N, hN, step⟩
  · refine wpAny_passesOwn hp (thn (T.done X rfl rfl rfl hc i pins s3 σ3 H3 X.xe I3 (stat fr3) st3 stop) fun r s4 ⟨hr, I4⟩ => ?_)
    subst hr
    exact wpAny_execs_nil ⟨σ3, H3, I4, qn⟩
  · refine wpAny_passesOwn hp (thn (T.item X rfl rfl rfl hc i pins s3 σ3 H3 X.xe I3 (stat fr3) st3 go) fun r s4 ⟨u, hr, h4⟩ => ?_)
    subst hr
    refine wpAny_passesOwn hp (thn h4 fun _ s5 ⟨x, H5, I5, r5, y5, st5, fr5⟩ => ?_)
    refine wpAny_passesOwn hp (thn (hg.run _ s5 σ3 H5 x u _ (I5.pinned (stat fr5) (T.obj _ _ st5)) r5 (step x H5 y5)) fun _ s6 ⟨σ6, H6, I6, q6⟩ => ?_)
    refine wpAny_passesOwn hp (thn (hb.run _ s6 σ6 H6 _ I6 q6) fun f s7 q7 => ?_)
    have again : ∀ {σ7 : L2.St} {H7 : Hp}, Inv X (pins ++ pinsAt fp s5.heap) σ7 H7 s7 → N σ7 H7 → ∃ m, m < n ∧ ∃ i σ' H', Inv X pins σ' H' s7 ∧ tn i s7.heap ∧ (∀ b ∈ fp, H' b = none) ∧ W i m σ' H' := fun {σ7 H7} I7 n7 => by
      obtain ⟨m', hm, w7⟩ := hN σ7 H7 n7
      refine ⟨m', hm, i + 1, σ7, H7, I7.unpinned, T.keep _ _ _ st5 fun b hb o e => (I7.pin (b, o) (List.mem_append_right _ (List.mem_append_right _ (mem_pinsAt hb e)))).1, fun b hb => ?_, w7⟩
      obtain ⟨o, e, d⟩ := T.obj _ _ st5 b hb
      exact (I7.pin (b, o) (List.mem_append_right _ (List.mem_append_right _ (mem_pinsAt hb e)))).2.1
    match f, q7 with
    | .next, ⟨σ7, H7, I7, n7⟩ => exact again I7 n7
    | .cont, ⟨σ7, H7, I7, n7⟩ => exact again I7 n7
    | .brk, ⟨σ7, H7, I7, q7⟩ => exact ⟨σ7, H7, I7.unpinned, q7⟩
    | .ret v, ⟨x7, σ7, H7, I7, r7, q7⟩ => exact ⟨x7, σ7, H7, I7.unpinned, r7, q7⟩
/-- a comprehension's block is hot, too -/
theorem HotS.blk {pins : List (Addr × Obj)} {s : Shared} {σ : L2.St} {H : Hp} {scope : Scope} {cenv : Env} {fp : List Addr} (c : HotS X) (I : Inv X pins σ H s) (f : ∀ b ∈ fp, FpOk X pins H b) : HotS (X.blk s H scope cenv fp) := by
  obtain ⟨p, hot, g, n, nf, nx⟩ := c
  have lt := Heap.lt_size g
  refine ⟨p, hot, I.base.keep _ _ g n nf nx, I.base.free _ _ g n nx, fun hm => ?_, fun hm => ?_⟩
  · rcases List.mem_cons.mp (I.stkSub _ hm) with z | z
    · exact absurd (Nat.lt_of_lt_of_le lt I.ok.above) (by rw [z]; exact Nat.lt_irrefl _)
    · exact nf z
  · rcases (f _ hm).2.2.2.1 with z | z
    · exact nx z
    · exact absurd (Nat.lt_of_lt_of_le lt z) (Nat.lt_irrefl _)
theorem lc_coreS {pins : List (Addr × Obj)} {s : Shared} {σ : L2.St} {H : Hp} {Q : VK} {elt tg iter : Expr} {ifs : List Expr} {scope : Scope} {own : List (Str × Nat)} {pos pos' : Pos} {wi : TI} {g : TG} {tt : TT} {te : TE} {use : Option (Value → Sem Unit)} {Qf : Value → Shared → Prop}
    (hc : HotS X) (hN : X.N.Nodup) (I : Inv X pins σ H s) (hi : PIS X tg iter wi) (ok : BlkOk X.N X.env.scope scope own)
    (hg : ∀ (s : Shared) (H : Hp) (C : Addr) (cl : List (Str × Addr)) (fp : List Addr), HotS (X.blk s H scope (compEnvC scope cl C X.env) fp) → PG (X.blk s H scope (compEnvC scope cl C X.env) fp) tg g) (ht : ∀ (s : Shared) (H : Hp) (C : Addr) (cl : List (Str × Addr)) (fp : List Addr), PTs (X.blk s H scope (compEnvC scope cl C X.env) fp) ifs tt)
    (he : ∀ (s : Shared) (H : Hp) (C : Addr) (cl : List (Str × Addr)) (fp : List Addr), PE (X.blk s H scope (compEnvC scope cl C X.env) fp) elt te) (hs : ∀ x, foldedSetIterable iter X.env x = pure x)
    (h : tLc wi g tt te (own.map (·.2)) σ H Q)
    (hRR : ∀ D C s' m H', Inv X pins σ H' s' → Q (.ref D) H' → s'.heap.Ns C m → FpOk X pins H' C → compPost (model X.prog X.w) X.A X.xe use Qf (.ref D) C (.ok .next) s') :
    wpAny (model X.prog X.w) X.A (comprehension (.ListComp elt [⟨tg, iter, ifs, 0⟩] scope pos) scope X.env pos' (newList []) false (eval iter X.env) use) Qf X.xe s := by
  have hfree : ∀ y ∈ scope.names, y.2 = .free → ∃ c, X.env.cells.lookup y.1 = some c := fun y hy e => (ok.free y hy e).elim (fun k => I.ok.has _ (.inl k)) (fun k => I.ok.has _ (.inr k))
  refine wpAny_comprehension_free (use := use) rfl hs (closure_ok hfree) ok.kind (fun y hy e => by rw [ok.uniq y hy, e])
    (thn (hi.run pins s σ H _ I h) fun xv s1 hx => thn hx fun itv s2 h2 => ?_)
  obtain ⟨it, fp, tn, J, H2, e, I2, T, st2, f2, q⟩ := h2
  subst e
  refine wpAny_newObj_type (newEnv_comp ?_) (by show 0 ≤ sizeLine; decide)
  generalize hD : s2.heap.objs.size = D
  have hDn : H2 D = none := I2.hok.fresh (Nat.le_of_eq hD)
  obtain ⟨W, ⟨m0, w0⟩, turn⟩ := q D hDn
  generalize hs3 : ({ s2 with heap := s2.heap.push { cls := .type "list", data := .seq ([] : List Value).toArray } } : Shared) = s3
  have I3 : Inv X pins σ (upd H2 D (.lst [])) s3 := by
    rw [← hs3]
    refine I2.laid (t' := s2.toks) (fun b o e => Heap.get?_push_of_some _ e) (Nat.le_of_eq hD) ⟨Nat.zero_le _, [], 0, .nil, ?_⟩
    rw [← hD]
    exact Heap.get?_push_size _ rfl
  have h3 : s3.heap = s2.heap.push { cls := .type "list", data := .seq ([] : List Value).toArray } := by rw [← hs3]
  have f3 : ∀ b ∈ fp, FpOk X pins (upd H2 D (.lst [])) b ∧ b < s3.heap.objs.size := fun b hb => by
    have hlt : b < s2.heap.objs.size := let ⟨o, e, _⟩ := T.obj _ _ st2 b hb; Heap.lt_size e
    refine ⟨⟨?_, (f2 b hb).2⟩, by rw [h3, Heap.size_push]; exact Nat.lt_succ_of_lt hlt⟩
    rw [upd_ne (by rw [← hD]; exact Nat.ne_of_lt hlt)]
    exact (f2 b hb).1
  have st3 : tn 0 s3.heap := T.keep _ _ _ st2 fun b _ o e => by rw [h3]; exact Heap.get?_push_of_some _ e
  have I4 := block_start I3 ok hN f3
  have hb4 := hc.blk (scope := scope) (cenv := compEnvC scope (cellsFrom (s3.heap.objs.size + 1) scope.names (cloFrom X.env.cells scope.names [])) s3.heap.objs.size X.env) I3 fun b hb => (f3 b hb).1
  have pg := hg s3 (upd H2 D (.lst [])) s3.heap.objs.size (cellsFrom (s3.heap.objs.size + 1) scope.names (cloFrom X.env.cells scope.names [])) fp hb4
  have pt := ht s3 (upd H2 D (.lst [])) s3.heap.objs.size (cellsFrom (s3.heap.objs.size + 1) scope.names (cloFrom X.env.cells scope.names [])) fp
  have pe := he s3 (upd H2 D (.lst [])) s3.heap.objs.size (cellsFrom (s3.heap.objs.size + 1) scope.names (cloFrom X.env.cells scope.names [])) fp
  show codeAny _ _ (.compStart (.ListComp elt [⟨tg, iter, ifs, 0⟩] scope pos) 0 (.ref it) (.ref D) (compEnvC scope (cellsFrom (s3.heap.objs.size + 1) scope.names (cloFrom X.env.cells scope.names [])) s3.heap.objs.size X.env)) (compPost (model X.prog X.w) X.A X.xe use Qf (.ref D) s3.heap.objs.size) { s3 with heap := pushCells (s3.heap.push { cls := .type "dict", data := .dict #[] }) scope.names }
  have nfp : ∀ b ∈ fp, (upd H2 D (.lst [])) b = none := fun b hb => (f3 b hb).1.1
  generalize hce : compEnvC scope (cellsFrom (s3.heap.objs.size + 1) scope.names (cloFrom X.env.cells scope.names [])) s3.heap.objs.size X.env = ce at I4 hb4 pg pt pe ⊢
  have cL : ce.locals = s3.heap.objs.size := by subst hce; rfl
  generalize hH3 : upd H2 D (.lst []) = H3 at I3 I4 hb4 pg pt pe w0 nfp f3
  generalize hs4 : ({ s3 with heap := pushCells (s3.heap.push { cls := .type "dict", data := .dict #[] }) scope.names } : Shared) = s4 at I4 ⊢
  have st4 : tn 0 s4.heap := T.keep _ _ _ st3 fun b _ o e => by rw [← hs4]; exact pushCells_keeps _ _ _ _ (Heap.get?_push_of_some _ e)
  have stat : ∀ {σ' : L2.St} {H' : Hp} {s' : Shared}, Inv (X.blk s3 H3 scope ce fp) [] σ' H' s' → (∀ b ∈ fp, H' b = none) → ∀ b ∈ fp, FpOk (X.blk s3 H3 scope ce fp) [] H' b := fun {σ' H' s'} I' hn b hb =>
    ⟨hn b hb, (I'.ok.exf b hb).1, I'.ok.exfs b hb, .inl hb, fun x c e => (I'.ok.exf b hb).2 x c e, fun p hp => absurd (show p ∈ ([] : List (Addr × Obj)) ++ [] from hp) (by simp)⟩
  have loop : codeAny (model X.prog X.w) X.A (.compLoop (.ListComp elt [⟨tg, iter, ifs, 0⟩] scope pos) 0 (.ref it) (.ref D) ce) (compPost (model X.prog X.w) X.A X.xe use Qf (.ref D) s3.heap.objs.size) s4 := by
    refine compLoop_any (fun n s' => ∃ i H', Inv (X.blk s3 H3 scope ce fp) [] (wipe σ (own.map (·.2))) H' s' ∧ tn i s'.heap ∧ (∀ b ∈ fp, H' b = none) ∧ W i n H') ?_ m0 ⟨0, H3, I4, st4, nfp, w0⟩
    rintro n s5 ⟨i, H5, I5, st5, n5, w5⟩
    rcases turn i n H5 w5 with ⟨stop, qq⟩ | ⟨go, Nx, hNx, step⟩
    · refine thnF (T.done (X.blk s3 H3 scope ce fp) rfl rfl rfl hb4 i [] s5 _ H5 (fun _ _ => False) I5 (stat I5 n5) st5 stop) fun r s6 ⟨hr, I6⟩ => ?_
      subst hr
      have I7 : Inv X pins σ H5 s6 := I3.call' (ch := fp) I6.os I6.base I6.hok I6.bare fun b hb => ⟨(f3 b hb).1.2.2.2.1, (f3 b hb).1.2.1, (f3 b hb).1.2.2.2.2.1, (f3 b hb).1.2.2.2.2.2⟩
      have nC : H5 s3.heap.objs.size = none := by
        have z : H5 ce.locals = none := I6.free
        rw [cL] at z
        exact z
      obtain ⟨m, hn, _⟩ := I6.loc
      have hn : s6.heap.Ns ce.locals m := hn
      rw [cL] at hn
      exact hRR D s3.heap.objs.size s6 m H5 I7 qq hn (I3.fpOk (Nat.le_refl _) nC)
    · refine thnF (T.item (X.blk s3 H3 scope ce fp) rfl rfl rfl hb4 i [] s5 _ H5 (fun _ _ => False) I5 (stat I5 n5) st5 go) fun r s6 ⟨u, hr, h6⟩ => ?_
      subst hr
      refine thnF h6 fun _ s7 ⟨x, H7, I7, r7, y7, st7, n7⟩ => ?_
      refine thnF (pg.run _ s7 _ H7 x u _ (I7.pinned (stat I7 n7) (T.obj _ _ st7)) r7 (step x H7 y7)) fun _ s8 ⟨σ8, H8, I8, hw8, q8⟩ => ?_
      refine thnF (pt.run _ s8 σ8 H8 _ I8 q8) fun b s9 ⟨H9, I9, q9⟩ => ?_
      have fin : ∀ {s' : Shared} {H' : Hp}, Inv (X.blk s3 H3 scope ce fp) ([] ++ pinsAt fp s7.heap) σ8 H' s' → Nx H' → ∃ m, m < n ∧ ∃ i H', Inv (X.blk s3 H3 scope ce fp) [] (wipe σ (own.map (·.2))) H' s' ∧ tn i s'.heap ∧ (∀ b ∈ fp, H' b = none) ∧ W i m H' := fun {s' H'} I' nx => by
        obtain ⟨m', hm, w'⟩ := hNx H' nx
        have pin' : ∀ b ∈ fp, ∀ o, s7.heap.get? b = some o → s'.heap.get? b = some o ∧ H' b = none := fun b hb o e =>
          let z := I'.pin (b, o) (List.mem_append_right _ (List.mem_append_right _ (mem_pinsAt hb e)))
          ⟨z.1, z.2.1⟩
        have hl : (wipe σ (own.map (·.2))).length = σ8.length := by rw [← hw8, wipe_length]
        refine ⟨m', hm, i + 1, H', (I'.unpinned (pins := [])).weak hl (fun j v e => ?_), T.keep _ _ _ st7 fun b hb o e => (pin' b hb o e).1, fun b hb => ?_, w'⟩
        · rw [← hw8] at e
          exact (wipe_some e).1
        · obtain ⟨o, e, _⟩ := T.obj _ _ st7 b hb
          exact (pin' b hb o e).2
      cases b with
      | false =>
        simp only [Bool.false_eq_true, if_false] at q9 ⊢
        exact fin I9 q9
      | true =>
        simp only [if_true] at q9 ⊢
        exact thnF (pe.run _ s9 σ8 H9 _ I9 q9) fun z s10 ⟨yv, H10, I10, r10, acc, hD10, hz10, nx⟩ => app_ok (X := X.blk s3 H3 scope ce fp) I10 hD10 hz10 r10 fun s11 I11 => fin I11 nx
  exact codeAny_compStart_list loop (T.self X.A 0 _ _ _ st4 loop)
theorem pe_lcS {elt tg iter : Expr} {ifs : List Expr} {scope : Scope} {own : List (Str × Nat)} {pos : Pos} {wi : TI} {g : TG} {tt : TT} {te : TE} (hc : HotS X) (hN : X.N.Nodup) (hi : PIS X tg iter wi) (ok : BlkOk X.N X.env.scope scope own)
    (hg : ∀ (s : Shared) (H : Hp) (C : Addr) (cl : List (Str × Addr)) (fp : List Addr), HotS (X.blk s H scope (compEnvC scope cl C X.env) fp) → PG (X.blk s H scope (compEnvC scope cl C X.env) fp) tg g) (ht : ∀ (s : Shared) (H : Hp) (C : Addr) (cl : List (Str × Addr)) (fp : List Addr), PTs (X.blk s H scope (compEnvC scope cl C X.env) fp) ifs tt)
    (he : ∀ (s : Shared) (H : Hp) (C : Addr) (cl : List (Str × Addr)) (fp : List Addr), PE (X.blk s H scope (compEnvC scope cl C X.env) fp) elt te) (hs : ∀ x, foldedSetIterable iter X.env x = pure x := by intro _; rfl) :
    PE X (.ListComp elt [⟨tg, iter, ifs, 0⟩] scope pos) (tLc wi g tt te (own.map (·.2))) := by
  refine ⟨fun pins s σ H Q I h => ?_⟩
  rw [eval_ListComp]
  refine lc_coreS hc hN I hi ok hg ht he hs h fun D C s' m H' I' q hn f => ⟨m, hn, fun h'' sb => ?_⟩
  obtain ⟨f0, f1, f2, f3, f4, f5⟩ := f
  exact ⟨.ref D, H', I'.turned (t' := s'.toks) (fun b o hb e => (sb.2 b hb).trans e) f0 f1 f3 f4 f5, rfl, q⟩
theorem ps_setLcS {i : Nat} {y : Str} {py : Pos} {elt tg iter : Expr} {ifs : List Expr} {scope : Scope} {own : List (Str × Nat)} {pos spos : Pos} {wi : TI} {g : TG} {tt : TT} {te : TE} (hc : HotS X) (hN : X.N.Nodup) (hy : X.N[i]? = some y) (hyl : X.env.scope.names.lookup y = some .local)
    (hsw : swapsWith (.ListComp elt [⟨tg, iter, ifs, 0⟩] scope pos) (some (.Name y py)) spos.line X.env = pure true) (hi : PIS X tg iter wi) (ok : BlkOk X.N X.env.scope scope own)
    (hg : ∀ (s : Shared) (H : Hp) (C : Addr) (cl : List (Str × Addr)) (fp : List Addr), HotS (X.blk s H scope (compEnvC scope cl C X.env) fp) → PG (X.blk s H scope (compEnvC scope cl C X.env) fp) tg g) (ht : ∀ (s : Shared) (H : Hp) (C : Addr) (cl : List (Str × Addr)) (fp : List Addr), PTs (X.blk s H scope (compEnvC scope cl C X.env) fp) ifs tt)
    (he : ∀ (s : Shared) (H : Hp) (C : Addr) (cl : List (Str × Addr)) (fp : List Addr), PE (X.blk s H scope (compEnvC scope cl C X.env) fp) elt te) (hs : ∀ x, foldedSetIterable iter X.env x = pure x := by intro _; rfl) :
    PS X (.Assign [.Name y py] (.ListComp elt [⟨tg, iter, ifs, 0⟩] scope pos) spos) (tAsg (tLc wi g tt te (own.map (·.2))) (gName i)) := by
  refine ⟨fun pins s σ H D I h => ?_⟩
  rw [exec_Assign_Name_used _ _ _ _ hsw]
  refine wpAny_bind (wpAny_standAt (wpAny_bind ?_))
  show wpAny _ X.A (do let _ ← comprehension (.ListComp elt [⟨tg, iter, ifs, 0⟩] scope pos) scope X.env (firstIterPos [⟨tg, iter, ifs, 0⟩] pos) (newList []) false (eval iter X.env) (some (assign (.Name y py) X.env))) _ _ s
  have h : tLc wi g tt te (own.map (·.2)) σ H (fun x H1 => gName i x σ H1 D.nx) := h
  refine wpAny_bind (thn (lc_coreS (Qf := fun _ s' => SP X pins D .next s') hc hN I hi ok hg ht he hs h fun L C s' m H' I' q hn f => ?_) fun _ s' hq => wpAny_pure (wpAny_pure hq))
  show wpAny _ _ (assign (.Name y py) X.env (.ref L)) _ _ _
  refine wpAny_assign_Name (store_ok2 (v := V.ref L) I' hN hy (.inl hyl) rfl (fun s2 I2 ⟨a, sb, ha⟩ => ?_) (.inr hyl))
  obtain ⟨f0, f1, f2, f3, f4, f5⟩ := f
  have haC : C ≠ a := ha.elim (fun z => by rw [z]; exact f1) fun z e => f4 y a z e.symm
  exact ⟨m, hn.sameBut sb haC, fun h3 sb3 => ⟨_, H', I2.turned (t' := s2.toks) (fun b o hb e => (sb3.2 b hb).trans e) f0 f1 f3 f4 f5, q⟩⟩
end
section
variable {M : Md} {W : WX}
def fiLst (f : Ev) : Fi := fun ε => (f ε).bind fun p ε' => if p.1.isEx then .stuck else match p.2 with
  | .list ds => .ok ds ε'
  | _ => .stuck
theorem is_lst {te : TE} {f : Ev} (he : ES M W te f) : IS M W (iList M.K te) (fiLst f) := fun B hB σ H ε tm R r h => by
  subst hB
  refine he B rfl σ H ε tm _ r ?_
  unfold fiLst at h
  cases e : f ε with
  | stuck => rw [e] at h; exact h.elim
  | exc x ε1 => rw [e] at h; exact h
  | ok p ε1 =>
    rw [e, Res.bind_ok] at h
    obtain ⟨o, d⟩ := p
    dsimp only at h
    by_cases hx : o.isEx = true
    · rw [if_pos hx] at h; exact h.elim
    · rw [if_neg hx] at h
      intro v H' R'
      have R2 := R'.freeze (by simpa using hx)
      cases d with
      | list ds =>
        obtain ⟨Hf, r2⟩ := id R2
        have t := r2.tm _ List.mem_cons_self
        cases (show Sh B.K Hf v (.list ds) from t) with
        | lst q s => exact ⟨_, rfl, ⟨_, SqL.of (r2.le _ _ q)⟩, h _ _ [_] R2 it_list⟩
      | _ => exact h.elim
@[simp ↓] theorem wpI_lst {f : Ev} {ε : Fe} {P : List PyData → Fe → Prop} {X : Str → Fe → Prop} : WpI (fiLst f) ε P X = Wp (f ε) (fun p ε' => nx p.1 (match p.2 with
    | .list ds => P ds ε'
    | _ => False)) X := by
  unfold WpI fiLst
  rw [wp_bind]
  congr 1
  funext p ε'
  rw [nx_eq]
  congr 1
  obtain ⟨o, d⟩ := p
  cases d <;> rfl
end
end FH
/-! Where an exception is handled, part 3: a def that is handed it, isinstance of it, try. -/
namespace FH
open PySem PySem.Spec PyProof.Rows L2 HotX FS
/-- a def that is called with the exception (at a, its class at C) that is handled -/
structure FnX (P : Program) (w : World) (K : PySem.W.Frag) (mg : Str → Option Value) (base : Heap) (k : Nat) (f : Addr) (fd : FuncData) (ps : List Str) (a C : Addr) (sp : Sp) : Prop where
  len : ∀ vs H Q E, sp vs H Q E → vs.length = ps.length
  run : ∀ (A : Around) (outer : List Env) (s : Shared) (H : Hp) (args : Args) (us : List Value) (vs : List V) (Q : VK) (E : XK) (oe : Obj), L2H.RoomH k A → L2H.Hot1 A (a, oe) → L2N.Zn (.ref C) none oe → (∃ fv, oe.data = .fields fv) → L2H.PinOk outer H s (a, oe) → Env0 P w K mg base A outer s H →
    BindsTo s fd args (ps.zip us) → Vals vs us → sp vs H Q E → codeAny (model P w) A (.call (.ref f) args) (CR (L2N.CX P w) outer P w H s Q E) s
section
variable {P : Program} {w : World} {K : PySem.W.Frag} {mg : Str → Option Value} {base : Heap}
theorem fnX_of {x qual : Str} {st : Stmt} {f : Addr} {fd : FuncData} {N ps : List Str} {k : Nat} {a C : Addr} {sp : Sp} (F : Fun K x qual st f fd) (S : FnScope N ps (defScope st)) (len : ∀ vs H Q E, sp vs H Q E → vs.length = ps.length)
    (hbody : ∀ (cdv : Value) (A : Around) (outer : List Env) (s : Shared) (H : Hp) (vs : List V) (Q : VK) (E : XK) (oe : Obj), L2H.RoomH k (A.deeper (envOfC qual (defScope st) s.heap.objs.size f cdv)) → L2N.Zn (.ref C) none oe → (∃ fv, oe.data = .fields fv) →
      HotS (L2H.cxH (L2N.CX P w) P w K mg base N qual (defScope st) f cdv A outer s H E (a, oe)) → sp vs H Q E →
      ∃ t, PSs (L2H.cxH (L2N.CX P w) P w K mg base N qual (defScope st) f cdv A outer s H E (a, oe)) (defBody st) t ∧ t { nx := fun _ H' => Q .non H', rt := Q } (L2.start N vs) H) : FnX P w K mg base (k + 1) f fd ps a C sp := by
  obtain ⟨oc, od, kV, doc, pm, an, cdv, ct, osl, rfl, lk, hcd⟩ := F.ex
  refine ⟨len, fun A outer s H args us vs Q E oe hr hot hz hf hpin e0 hb r hsp => ?_⟩
  have KX : K.In s.heap := e0.mod.kin.keeps fun b o e => (e0.bs b o e).1
  have lim : s.heap.NoLimit := e0.mod.nolimit.keeps fun b o e => (e0.bs b o e).1
  refine codeAny_call_function hr.depth (KX _ _ lk) rfl S.co S.gen rfl (PySem.W.codeRec_of KX hcd) (hb _ _ _ _ (wpAny_newFunctionEnv_cells S.kind (fun y hy => (S.par y.1 (List.of_mem_zip hy).1).imp_right fun q => ⟨q, PySem.W.cellsFrom_some _ _ _ (.inl q)⟩) fun env he s1 x => ?_))
  subst he
  refine ⟨lim.keeps x.toInCall.keep, codeAny_func ?_⟩
  obtain ⟨t, ht, hq⟩ := hbody cdv A outer s H vs Q E oe (hr.deeper _) hz hf ⟨(a, oe), hot, hpin.get, hpin.free, hpin.nofs, by show a ∉ []; simp⟩ hsp
  refine wpAny_mono (ht.run [] s1 (L2.start N vs) H _ (L2H.inv_startH S hpin e0 (len _ _ _ _ hsp) r x) hq) (fun fl s' hs => ?_) fun e s' hs => hs
  cases fl with
  | ret u => exact let ⟨v, _, H', J, rv, q⟩ := hs; ⟨v, H', J.os, J.bare, J.base, J.hok, rv, q⟩
  | next => exact let ⟨_, H', J, q⟩ := hs; ⟨.non, H', J.os, J.bare, J.base, J.hok, rfl, q⟩
  | brk => exact let ⟨_, _, _, q⟩ := hs; q.elim
  | cont => exact let ⟨_, _, _, q⟩ := hs; q.elim
/-- what such a def computes of an exception of class x -/
def runX (n : Nat) (body : Sm) (x : Str) : FR :=
  match body (some (.ex x, .bool true) :: List.replicate (n - 1) none) with
    | .ok .nx ε => .ok .sh .none []
    | .ok (.rt o d) ε => if o = .sh ∨ o = .top then .ok o d [] else .stuck
    | .exc y ε => .exc y []
    | _ => .stuck
def spX (M : Md) (a : Addr) (F : FR) : Sp := fun vs H Q E => ∃ Hf : Hp, vs = [.ref a] ∧ Same Hf H ∧ CPost M Hf H [] Q E F
theorem rel_startX {N : List Str} {a : Addr} {x : Str} {H Hf : Hp} (le : Same Hf H) (hn : 1 ≤ N.length) :
    Rel ⟨⟨K, mg, some (a, x)⟩, H, Hf, []⟩ (L2.start N [.ref a]) (some (.ex x, .bool true) :: List.replicate (N.length - 1) none) H [] := by
  have at' : ∀ {i : Nat} {o : Own} {d : PyData}, (some (Own.ex x, PyData.bool true) :: List.replicate (N.length - 1) none)[i]? = some (some (o, d)) → i = 0 ∧ o = .ex x ∧ d = .bool true := fun {i o d} e => by
    cases i with
    | zero => cases e; exact ⟨rfl, rfl, rfl⟩
    | succ i =>
      rw [List.getElem?_cons_succ, List.getElem?_replicate] at e
      split at e <;> cases e
  refine ⟨Hf, le, Same.refl _, fun _ _ _ => rfl, fun b o q => ⟨o, q⟩, fun _ _ q _ => q, (fun b hb => by cases hb), ?_, fun i o d e => ?_, fun i j v o d o' d' n e1 e2 w1 w2 s1 s2 => ?_, fun p hp => by cases hp⟩
  · unfold L2.start
    simp
  · obtain ⟨rfl, rfl, rfl⟩ := at' e
    exact ⟨.ref a, start_at rfl, a, rfl, rfl⟩
  · obtain ⟨rfl, rfl, rfl⟩ := at' e1
    cases w1
theorem fn_okX {x qual : Str} {st : Stmt} {f : Addr} {fd : FuncData} {N : List Str} {p : Str} {k : Nat} {a C : Addr} {xc : Str} (F : Fun K x qual st f fd) (S : FnScope N [p] (defScope st)) (body : Sm)
    (hbody : ∀ (cdv : Value) (A : Around) (outer : List Env) (s : Shared) (H : Hp) (E : XK) (oe : Obj), L2H.RoomH k (A.deeper (envOfC qual (defScope st) s.heap.objs.size f cdv)) → L2N.Zn (.ref C) none oe → (∃ fv, oe.data = .fields fv) →
      HotS (L2H.cxH (L2N.CX P w) P w K mg base N qual (defScope st) f cdv A outer s H E (a, oe)) →
      ∃ t, PSs (L2H.cxH (L2N.CX P w) P w K mg base N qual (defScope st) f cdv A outer s H E (a, oe)) (defBody st) t ∧ SS ⟨K, mg, some (a, xc)⟩ (EW E) t body) :
    FnX P w K mg base (k + 1) f fd [p] a C (spX ⟨K, mg, some (a, xc)⟩ a (runX N.length body xc)) := by
  refine fnX_of F S (fun vs H Q E h => ?_) (fun cdv A outer s H vs Q E oe hr hz hf hot h => ?_)
  · obtain ⟨Hf, rfl, _⟩ := h
    rfl
  · obtain ⟨t, pt, ss⟩ := hbody cdv A outer s H E oe hr hz hf hot
    refine ⟨t, pt, ?_⟩
    obtain ⟨Hf, rfl, le, post⟩ := h
    have hn : 1 ≤ N.length := by
      have := congrArg List.length S.pre
      rw [List.length_take] at this
      simp at this
      omega
    refine ss _ rfl _ H _ [] _ (rel_startX (mg := mg) le hn) ?_
    unfold runX at post
    have fin : ∀ {σ' ε H' Hf'}, Rl ⟨⟨K, mg, some (a, xc)⟩, H, Hf, []⟩ Hf' σ' ε H' [] → Fin K Hf H [] Hf' H' [] := fun {σ' ε H' Hf'} r => ⟨r.f0, r.le, r.fn, r.al, r.kp, .nil⟩
    cases e : body (some (.ex xc, .bool true) :: List.replicate (N.length - 1) none) with
    | stuck => rw [e] at post; exact post.elim
    | exc y ε =>
      rw [e] at post
      exact fun σ' C H' hC R' => let ⟨Hf', r⟩ := R'; post C H' Hf' hC (fin r)
    | ok fl ε =>
      rw [e] at post
      cases fl with
      | nx => exact fun σ' H' R' => let ⟨Hf', r⟩ := R'; post _ H' Hf' (fin r) Sh.non
      | rt o d =>
        dsimp only at post
        intro v σ' H' R'
        obtain ⟨Hf', r, t, _⟩ := R'
        split at post
        · refine post v H' Hf' (fin r) ?_
          cases o with
          | sh => exact t
          | top => exact t
          | par j => rename_i h; rcases h with h | h <;> cases h
          | ex y => rename_i h; rcases h with h | h <;> cases h
        · exact post.elim
      | bk => exact post.elim
      | ct => exact post.elim
end
section
variable {X : Cx} {k : Nat} {f C a : Addr} {fd : FuncData} {ps : List Str} {sp : Sp} {E : L2.St → XK} {x m : Str} {p pos apos : Pos} {e o : Expr} {es : List Expr} {ta : TE} {t : TA} {oe : Obj}
/-- the call of such a def in the suite -/
theorem pe_callX (F : FnX X.prog X.w X.K X.mg X.base k f fd ps a C sp) (hr : L2H.RoomH k X.A) (hh : X.A.handled = some (.ref a)) (hp : (a, oe) ∈ X.pn) (hz : L2N.Zn (.ref C) none oe) (hf : ∃ fv, oe.data = .fields fv) (hg : Gl X x) (hm : X.mg x = some (.ref f)) (hk : PySem.W.keepIn X.K (.ref f) = true) (hb : Binds X.K fd ps []) (hx : ∀ σ, PassesAt (L2N.CX X.prog X.w) X σ (E σ))
    (ha : PA X (e :: es) t) (hdb : (x == ("__debug__" : Str)) = false := by decide) (he : starEach (e :: es) X.env = (false, eval e X.env) :: starEach es X.env := by rfl) (hpl : (backTo pos (starEach es X.env)).any (·.1) = false := by rfl) :
    PE X (.Call (.Name x p) (e :: es) [] pos) (tCallS sp E t) := by
  refine ⟨fun pins s σ H Q I h => wpAny_Call_Name_kw (ld_glob I hg hm (PySem.W.callWith_K (h₀ := X.base) I.ok.mod.kin hk (thn (ha.run pos pins s σ H _ I h) fun us s1 ⟨vs, H1, I1, r, q⟩ => ⟨I1.kIn, ?_⟩) he hpl) hdb)⟩
  have b := hb s1 us I1.kIn (by rw [List.append_nil, ← r.length]; exact F.len _ _ _ _ q)
  rw [List.append_nil] at b
  have P1 := I1.pin (a, oe) (List.mem_append_left _ hp)
  have hpin : L2H.PinOk X.stack H1 s1 (a, oe) := ⟨P1.1, P1.2.1, fun hm => (List.mem_cons.mp (I1.stkSub a hm)).elim P1.2.2.1 P1.2.2.2.1, P1.2.2.2.2⟩
  obtain ⟨fv, ef⟩ := hf
  refine wpAny_call (codeAny_mono (F.run X.A X.stack s1 H1 ⟨us, []⟩ us vs Q (E σ) oe hr ⟨hh, fv, ef, hz.2.2 fv ef⟩ hz ⟨fv, ef⟩ hpin I1.env0 b r q) fun r s' hq => ?_)
  match r, hq with
  | .error e, hq => exact hx σ pins H1 s1 e s' I1 hq
  | .ok (.ret u), hq => exact I1.after hq
/-- isinstance(e, c), e the exception that is pinned -/
theorem call_isP {D : Addr} (C : ExcC X.K D) (hp : (a, oe) ∈ X.pn) (hz : L2N.Zn (.ref D) none oe) (hf : ∃ vs, oe.data = .fields vs) : CallR X (.builtin "isinstance") (rIsE X.K D a) := by
  intro pins s σ H xs us Q I r h
  obtain ⟨c, cv, b, rfl, hcv, e, q⟩ := h
  cases r with
  | cons rx rr =>
    cases rr with
    | cons rt rr =>
      cases rr
      cases rx
      have ec := hcv _ rt
      subst ec
      obtain ⟨hget, _⟩ := I.pin (a, oe) (List.mem_append_left _ hp)
      obtain ⟨vs, hv⟩ := hf
      have J : PySem.W.InstAt s.heap a oe D none := by
        obtain ⟨oc, od, oda, osl⟩ := oe
        obtain ⟨h1, h2, _⟩ := hz
        dsimp only at h1 h2 hv
        subst h1 h2 hv
        exact ⟨hget, rfl, rfl, trivial⟩
      exact PySem.W.kia_one (PySem.W.handS_kitx_exc C.hg C.hk C.hs C.hd C.ha C.hn C.ht C.hm) I.kIn J e (fun z => nomatch z) fun tk => ⟨.bl b, H, I.kept (t' := tk) fun _ _ z => z, rfl, q⟩
end
section
variable {M : Md} {B : Ent} {W : WX} {σ : L2.St} {ε : Fe} {H : Hp} {tm : List (V × PyData)} {v : V} {o : Own} {d : PyData}
/-- isinstance(e, c): tb tells it by the class's name -/
def eIsE (i : Nat) (tb : Str → Option Bool) : Ev := fun ε => match ε[i]? with
  | some (some (.ex x, .bool _)) => match tb x with
    | some b => .ok (.sh, .bool b) ε
    | none => .stuck
  | _ => .stuck
theorem es_isE {a D : Addr} {x : Str} {i : Nat} {tb : Str → Option Bool} {c : V} {cv : Value} (hM : M.hx = some (a, x)) (hcv : ∀ u, RelV c u → u = cv) (hk : ∀ b, tb x = some b → PySem.W.kitOne M.K (.ref D) cv = some b) :
    ES M W (tCB (rIsE M.K D a) (tCons (tVar i) (tCons (tC c) tNil))) (eIsE i tb) := fun B hB σ H ε tm Q R h => by
  subst hB
  obtain ⟨Hf, r⟩ := R
  unfold eIsE at h
  split at h
  · rename_i y b' e
    obtain ⟨v, s, t⟩ := r.sl i _ _ e
    obtain ⟨a', rfl, e2⟩ := t
    rw [hM] at e2
    cases e2
    split at h
    · rename_i b eb
      exact ⟨_, s, c, cv, b, rfl, hcv, hk b eb, h _ _ (Rel.flat ⟨Hf, r⟩ fun _ => .bl b)⟩
    · exact h.elim
  · exact h.elim
/-- f(e) -/
def eCallX (i : Nat) (x : Str) (F : FR) : Ev := fun ε => match ε[i]? with
  | some (some (.ex y, .bool _)) => if y = x then match F with
      | .ok o d _ => .ok (o, d) ε
      | .exc y _ => .exc y ε
      | .stuck => .stuck
    else .stuck
  | _ => .stuck
theorem es_callX {a : Addr} {x : Str} {i : Nat} {F : FR} (hM : M.hx = some (a, x)) : ES M W (tCallS (spX M a F) (WE W) (tCons (tVar i) tNil)) (eCallX i x F) := fun B hB σ H ε tm Q R h => by
  subst hB
  obtain ⟨Hf, r⟩ := R
  unfold eCallX at h
  split at h
  · rename_i y b' e
    obtain ⟨v, s, t⟩ := r.sl i _ _ e
    obtain ⟨a', rfl, e2⟩ := t
    rw [hM] at e2
    cases e2
    rw [if_pos rfl] at h
    refine ⟨_, s, Hf, rfl, r.le, ?_⟩
    have called : ∀ {H' Hf'}, Fin B.K Hf H [] Hf' H' [] → Rl B Hf' σ ε H' tm := fun {H' Hf'} f => by
      have k : Same H H' := fun b x q => f.kp b x q (by simp)
      exact r.grow f.e f.le k fun b u q => f.fn b u q
    cases F with
    | stuck => exact h.elim
    | exc z outs =>
      intro C H' Hf' hC f
      cases f.out
      exact h C H' hC ⟨Hf', called f⟩
    | ok o d outs =>
      intro v H' Hf' f ret
      have fo := f.out
      cases fo
      refine h v H' ⟨Hf', called f, ?_, ?_, ?_⟩
      · cases o with
        | sh => exact ret
        | top =>
          obtain ⟨b, e1, e2, e3, c⟩ := ret
          exact ⟨b, e1, e2, r.h0 e3, c⟩
        | par k => exact ret.elim
        | ex x => exact ret.elim
      · intro w
        cases o with
        | sh => cases w
        | top =>
          obtain ⟨b, rfl, e2, e3, c⟩ := ret
          exact r.free e3
        | par k => exact ret.elim
        | ex x => exact ret.elim
      · cases o with
        | sh => rfl
        | top => rfl
        | par k => exact ret.elim
        | ex x => rfl
  · exact h.elim
/-! ### try -/
/-- what was held of the exception goes with the suite -/
def unX : Fe → Fe := fun ε => ε.map fun x => match x with
  | some (.ex _, .bool _) => none
  | x => x
theorem unX_at {i : Nat} {p : Own × PyData} (h : (unX ε)[i]? = some (some p)) : ε[i]? = some (some p) ∧ ∀ x b, p ≠ (.ex x, .bool b) := by
  unfold unX at h
  rw [List.getElem?_map] at h
  cases e : ε[i]? with
  | none => rw [e] at h; cases h
  | some q =>
    rw [e] at h
    simp only [Option.map_some, Option.some.injEq] at h
    split at h
    · cases h
    · rename_i hn
      subst h
      exact ⟨rfl, fun x b z => hn x b (by rw [z])⟩
/-- the state of the suite -/
theorem Rl.hot {Hf : Hp} {a : Addr} {x : Str} (r : Rl B Hf σ ε H tm) (h0 : B.M.hx = none) : Rl { B with M := { B.M with hx := some (a, x) } } Hf σ ε H tm :=
  ⟨r.le, r.f0, r.fn, r.al, r.kp, r.op, r.ln, fun i o d e => by
    obtain ⟨v, s, t⟩ := r.sl i o d e
    refine ⟨v, s, ?_⟩
    cases o with
    | sh => exact t
    | top => exact t
    | par k => exact t
    | ex y =>
      cases d with
      | bool b =>
        obtain ⟨a', _, e2⟩ := t
        rw [h0] at e2
        cases e2
      | none => exact t
      | int _ => exact t
      | str _ => exact t
      | list _ => exact t
      | tuple _ => exact t
      | dict _ => exact t, r.dj, r.tm⟩
/-- .. and behind it -/
theorem Rl.unhot {Hf : Hp} {a : Addr} {x : Str} {i : Nat} (r : Rl { B with M := { B.M with hx := some (a, x) } } Hf σ ε H tm) : Rl B Hf (σ.set i none) (unX (ε.set i none)) H tm := by
  have sub : ∀ {j : Nat} {o : Own} {d : PyData}, (unX (ε.set i none))[j]? = some (some (o, d)) → j ≠ i ∧ ε[j]? = some (some (o, d)) ∧ ∀ y b, (o, d) ≠ (.ex y, .bool b) := fun {j o d} e => by
    obtain ⟨e1, e2⟩ := unX_at e
    by_cases hj : i = j
    · subst hj
      rw [List.getElem?_set] at e1
      simp only [if_true] at e1
      split at e1 <;> cases e1
    · rw [List.getElem?_set_ne hj] at e1
      exact ⟨fun z => hj z.symm, e1, e2⟩
  refine ⟨r.le, r.f0, r.fn, r.al, r.kp, r.op, by unfold unX; rw [List.length_map, List.length_set, List.length_set]; exact r.ln, fun j o d e => ?_, fun j k v o d o' d' n e1 e2 w1 w2 s1 s2 => ?_, r.tm⟩
  · obtain ⟨hj, e1, hn⟩ := sub e
    obtain ⟨v, s, t⟩ := r.sl j o d e1
    refine ⟨v, by rw [List.getElem?_set_ne (Ne.symm hj)]; exact s, ?_⟩
    cases o with
    | sh => exact t
    | top => exact t
    | par k => exact t
    | ex y =>
      cases d with
      | bool b => exact absurd rfl (hn y b)
      | none => exact t
      | int _ => exact t
      | str _ => exact t
      | list _ => exact t
      | tuple _ => exact t
      | dict _ => exact t
  · obtain ⟨hj, f1, _⟩ := sub e1
    obtain ⟨hk, f2, _⟩ := sub e2
    rw [List.getElem?_set_ne (Ne.symm hj)] at s1
    rw [List.getElem?_set_ne (Ne.symm hk)] at s2
    exact r.dj j k v o d o' d' n f1 f2 w1 w2 s1 s2
/-- try: body / except c as name i: suite; tb tells whether the clause takes an exception of a class -/
def sTry (tb : Str → Option Bool) (i : Nat) (body : Sm) (suite : Str → Sm) : Sm := fun ε => match body ε with
  | .ok fl ε1 => .ok fl ε1
  | .stuck => .stuck
  | .exc x ε1 => match tb x with
    | some false => .exc x ε1
    | none => .stuck
    | some true => if i < ε1.length then match suite x (ε1.set i (some (.ex x, .bool true))) with
        | .ok (.rt o d) ε2 => if o.isEx then .stuck else .ok (.rt o d) (unX (ε2.set i none))
        | .ok fl ε2 => .ok fl (unX (ε2.set i none))
        | _ => .stuck
      else .stuck
theorem ss_try {c : Value} {i : Nat} {tbd : WX → TS} {ts : Addr → Value → Option Addr → TS} {tb : Str → Option Bool} {body : Sm} {suite : Str → Sm} (hx : M.hx = none)
    (hb : ∀ W, SS M W (tbd W) body) (hm : ∀ x C b, M.mg x = some (.ref C) → tb x = some b → PySem.W.exmOne M.K (.ref C) c = some b)
    (hs : ∀ a x C, M.mg x = some (.ref C) → tb x = some true → SS { M with hx := some (a, x) } W0 (ts a (.ref C) none) (suite x)) :
    SS M W (fun D σ H => tbd (wAs M.K c i ts W D) D σ H) (sTry tb i body suite) := fun B hB σ H ε tm D R h => by
  subst hB
  refine hb _ B rfl σ H ε tm D R ?_
  unfold sTry at h
  cases e : body ε with
  | stuck => rw [e] at h; exact h.elim
  | ok fl ε1 =>
    rw [e] at h
    cases fl <;> exact h
  | exc x ε1 =>
    rw [e] at h
    dsimp only at h
    intro σ' C H' hC R'
    cases et : tb x with
    | none => rw [et] at h; exact h.elim
    | some b =>
      refine ⟨b, hm x C b hC et, fun hbt a na => ?_, fun hbf => ?_⟩
      · subst hbt
        rw [et] at h
        dsimp only at h
        split at h
        · rename_i hi
          obtain ⟨Hf, r⟩ := R'
          have r2 := (Rl.hot (a := a) (x := x) r hx).store (v := .ref a) (o := .ex x) (d := .bool true) i hi ⟨a, rfl, rfl⟩ (fun z => by cases z)
          refine hs a x C hC et _ rfl (σ'.set i (some (.ref a))) H' _ tm _ ⟨Hf, r2⟩ ?_
          cases e2 : suite x (ε1.set i (some (.ex x, .bool true))) with
          | stuck => rw [e2] at h; exact h.elim
          | exc y ε2 => rw [e2] at h; exact h.elim
          | ok fl ε2 =>
            rw [e2] at h
            cases fl with
            | nx => exact fun σ2 H2 R2 => let ⟨Hf2, r3⟩ := R2; h _ _ ⟨Hf2, Rl.unhot r3⟩
            | bk => exact fun σ2 H2 R2 => let ⟨Hf2, r3⟩ := R2; h _ _ ⟨Hf2, Rl.unhot r3⟩
            | ct => exact fun σ2 H2 R2 => let ⟨Hf2, r3⟩ := R2; h _ _ ⟨Hf2, Rl.unhot r3⟩
            | rt o d =>
              dsimp only at h
              split at h
              · exact h.elim
              · rename_i ho
                intro v σ2 H2 R2
                obtain ⟨Hf2, r3, t, fr, np⟩ := R2
                refine h v (σ2.set i none) H2 ⟨Hf2, Rl.unhot r3, ?_, fun w j o' d' e' w' s' => ?_, np⟩
                · cases o with
                  | sh => exact t
                  | top => exact t
                  | par k => exact t
                  | ex y => exact absurd rfl ho
                · obtain ⟨e1, _⟩ := unX_at e'
                  exact (fr w).forget j o' d' e1 w' s'
        · exact h.elim
      · subst hbf
        rw [et] at h
        exact h σ' C H' hC R'
end
end FH
namespace FH
open PySem PySem.Spec PyProof.Rows L2 HotX FS
theorem pss_pick {X : Cx} {st : List Stmt} {cls : Value} {d : Option Addr} {oe : Obj} {P : Addr → Str → Prop} {t : Addr → Str → TS} (hz : L2N.Zn cls d oe) (h : ∀ C x, L2N.Zn (.ref C) none oe → P C x → PSs X st (t C x)) :
    PSs X st (fun D σ H => ∃ C x, cls = .ref C ∧ d = none ∧ P C x ∧ t C x D σ H) :=
  ⟨fun pins s σ H D I ⟨C, x, ec, ed, hp, q⟩ => (h C x (ec ▸ ed ▸ hz) hp).run pins s σ H D I q⟩
theorem ss_pick {M : Md} {W : WX} {P : Addr → Str → Prop} {t : Addr → Str → TS} {C : Addr} {x : Str} {f : Sm} (hp : P C x) (h : SS M W (t C x) f) : SS M W (fun D σ H => ∃ C' x', Value.ref C = .ref C' ∧ (none : Option Addr) = none ∧ P C' x' ∧ t C' x' D σ H) f :=
  fun B hB σ H ε tm D R q => ⟨C, x, rfl, rfl, hp, h B hB σ H ε tm D R q⟩
theorem roomM {k : Nat} {A : Around} {v : Option Value} (r : Room k A) : L2H.RoomH k (A.mark v) := ⟨r.dp, r.un⟩
/-! reckoning -/
section
variable {Q : Own × PyData → Fe → Prop} {X : Str → Fe → Prop} {ε : Fe}
theorem wp_isE (i : Nat) (tb : Str → Option Bool) (x : Str) (b : Bool) (e : ε[i]? = some (some (.ex x, .bool b))) : Wp (eIsE i tb ε) Q X = some? (tb x) fun b => Q (.sh, .bool b) ε := by
  unfold eIsE
  rw [e]
  dsimp only
  cases tb x <;> rfl
theorem wp_callX (i : Nat) (x : Str) (F : FR) (b : Bool) (e : ε[i]? = some (some (.ex x, .bool b))) : Wp (eCallX i x F ε) Q X = WpR F [] ε Q X := by
  unfold eCallX
  rw [e]
  dsimp only
  rw [if_pos rfl]
  cases F <;> rfl
theorem wp_try {P : Fl → Fe → Prop} (tb : Str → Option Bool) (i : Nat) (body : Sm) (suite : Str → Sm) : Wp (sTry tb i body suite ε) P X = Wp (body ε) P fun x ε1 => some? (tb x) fun b => if b = true then i < ε1.length ∧ Wp (suite x (ε1.set i (some (.ex x, .bool true)))) (fun fl ε2 => (match fl with | .rt o _ => o.isEx = false | _ => True) ∧ P fl (unX (ε2.set i none))) W0p else X x ε1 := by
  unfold sTry
  cases e : body ε with
  | ok fl ε1 => rfl
  | stuck => rfl
  | exc x ε1 =>
    dsimp only [Wp]
    cases et : tb x with
    | none => rfl
    | some b =>
      cases b with
      | false => rfl
      | true =>
        simp only [some?_some, if_true]
        by_cases hi : i < ε1.length
        · simp only [hi, if_true, true_and]
          cases suite x (ε1.set i (some (.ex x, .bool true))) with
          | stuck => rfl
          | exc y ε2 => rfl
          | ok fl ε2 =>
            cases fl with
            | rt o d => cases ho : o.isEx <;> simp [ho]
            | _ => simp
        · simp [hi]
end
end FH
namespace FH
open PySem PySem.W PyProof.Rows
theorem kit_ref {K : Frag} {R C : Addr} {b : Bool} (hd : hasDictIn K C = true) (ty : typeIn K (.ref C) = some (.type "type")) (ss : subIn K (.ref C) (.ref C) = some true) (su : subIn K (.ref R) (.ref C) = some b) : kitOne K (.ref R) (.ref C) = some b := by
  unfold kitOne
  by_cases h : R = C
  · subst h
    rw [ss] at su
    cases su
    rw [if_pos (by simp)]
  · rw [if_neg (by simpa using h)]
    obtain ⟨cd, hc, _⟩ := any_some hd
    show (if ((clsIn K C).isSome && typeIn K (.ref C) == some (.type "type")) = true then subIn K (.ref R) (.ref C) else none) = some b
    rw [hc, ty, if_pos (by rfl)]
    exact su
theorem kit_typ {K : Frag} {R : Addr} {T : String} {b : Bool} (hm : kitMeta T = true) (su : subIn K (.ref R) (.type T) = some b) : kitOne K (.ref R) (.type T) = some b := by
  unfold kitOne
  rw [if_neg (by simp)]
  show (if kitMeta T = true then subIn K (.ref R) (.type T) else none) = some b
  rw [if_pos hm]
  exact su
end FH
namespace FH
open PySem PySem.W PySem.Spec PyProof.Rows L2
/-! ### what the top has written -/
structure DefT (K : PySem.W.Frag) (mg : Str → Option Value) (n : Str) (st : Stmt) (ps : List Str) where
  a : Addr
  d : FuncData
  F : Fun K n n st a d
  g : mg n = some (.ref a)
  b : Binds K d ps []
structure ClsT (mg : Str → Option Value) (n : Str) where
  c : Addr
  g : mg n = some (.ref c)
/-- a class that is raised -/
structure RaiT (K : PySem.W.Frag) (c : Addr) : Prop where
  x : excIn K c [.type "ValueError", .type "Exception", .type "BaseException", .type "object"] "ValueError.__new__" = true
  k : keepIn K (.ref c) = true
  be : subIn K (.ref c) (.type "BaseException") = some true
  ty : typeIn K (.ref c) = some (.type "type")
/-- .. and asked after -/
structure AskT (K : PySem.W.Frag) (c : Addr) : Prop where
  ga : findIn K (.ref c) "__getattribute__" = some (some (.builtin "BaseException.__getattribute__"))
  gt : findIn K (.ref c) "__getattr__" = some none
  be : subIn K (.ref c) (.type "BaseException") = some true
  hd : hasDictIn K c = true
  cl : findIn K (.ref c) "__class__" = some (some (.builtin "object.__class__"))
  mo : mroIn K c (.type "object") = some true
/-- a class that is asked for -/
structure TstT (K : PySem.W.Frag) (c : Addr) : Prop where
  hd : hasDictIn K c = true
  ty : typeIn K (.ref c) = some (.type "type")
  ss : subIn K (.ref c) (.ref c) = some true
/-- a class that a clause names -/
structure ClaT (K : PySem.W.Frag) (c : Addr) : Prop where
  be : subIn K (.ref c) (.type "BaseException") = some true
  hd : hasDictIn K c = true
  ty : typeIn K (.ref c) = some (.type "type")
structure CmnT (K : PySem.W.Frag) : Prop where
  sg : specialIn K (.builtin "object.__class__") "__get__" = some (some (.builtin "getset_descriptor.__get__"))
  tc : takesIn K (.builtin "object.__class__") = some true
theorem AskT.exc {K : PySem.W.Frag} {c : Addr} (a : AskT K c) (m : CmnT K) : ExcC K c := ⟨a.ga, a.gt, a.be, a.hd, a.cl, m.sg, m.tc, a.mo⟩
end FH
/-! The functional layer, part 14: what the operations give. -/
namespace FS
open PySem PySem.Spec PyProof.Rows
theorem bits_le {i : Int} {k : Nat} (h : i.natAbs < 2 ^ k) : Builtin.Int.intBits i ≤ k := by
  unfold Builtin.Int.intBits
  split
  · exact Nat.zero_le _
  · rename_i hz
    have h0 : i.natAbs ≠ 0 := fun z => by
      have : i = 0 := Int.natAbs_eq_zero.mp z
      simp [this] at hz
    have := (Nat.log2_lt h0).mpr h
    omega
theorem okPow_of {a b : Int} {k : Nat} (hb : 0 ≤ b) (h : a.natAbs < 2 ^ k) (h2 : (k : Int) * b ≤ 2 ^ 27) : okPow a b = true := by
  unfold okPow
  rw [Bool.and_eq_true, decide_eq_true_eq, decide_eq_true_eq]
  exact ⟨hb, Int.le_trans (Int.mul_le_mul_of_nonneg_right (by have := bits_le h; omega) hb) h2⟩
theorem okMul_of {a b : Int} {k l : Nat} (h : a.natAbs < 2 ^ k) (h' : b.natAbs < 2 ^ l) (h2 : k + l ≤ 134217728) : okMul a b = true := by
  unfold okMul
  rw [decide_eq_true_eq]
  have := bits_le h
  have := bits_le h'
  omega
theorem okMod_of {a b : Int} (h : 0 < b) : okMod a b = true := by simp [okMod, h]
theorem okDiv_of {a b : Int} (h : 0 < b) (h2 : b < 2 ^ 200) : okDiv a b = true := by
  unfold okDiv
  rw [Bool.and_eq_true, decide_eq_true_eq, decide_eq_true_eq]
  refine ⟨h, ?_⟩
  have hb : b.natAbs ≠ 0 := by omega
  have : b.natAbs < 2 ^ 200 := by omega
  have := (Nat.log2_lt hb).mpr this
  omega
section
variable {Q : Own × PyData → Prop} {a b : Int} {ds es : List PyData}
@[simp ↓] theorem g_add : some? (gAdd [.int a, .int b]) Q = Q (.sh, .int (a + b)) := propext Iff.rfl
@[simp ↓] theorem g_addL : some? (gAdd [.list ds, .list es]) Q = (ds.length + es.length ≤ sizeLine ∧ Q (.top, .list (ds ++ es))) := by
  unfold gAdd
  rw [some?_ite, some?_some]
@[simp ↓] theorem g_addS (x y : Str) : some? (gAdd [.str x, .str y]) Q = (x.length + y.length ≤ sizeLine ∧ Q (.sh, .str (x ++ y))) := by
  unfold gAdd
  rw [some?_ite, some?_some]
@[simp ↓] theorem g_addT (d e : PyData) : some? (gAdd [.tuple (d :: ds), .tuple (e :: es)]) Q = ((d :: ds).length + (e :: es).length ≤ sizeLine ∧ Q (.sh, .tuple ((d :: ds) ++ (e :: es)))) := by
  unfold gAdd
  rw [some?_ite, some?_some]
@[simp ↓] theorem g_sub : some? (FS.gSub [.int a, .int b]) Q = Q (.sh, .int (a - b)) := propext Iff.rfl
@[simp ↓] theorem g_neg : some? (gNeg [.int a]) Q = Q (.sh, .int (-a)) := propext Iff.rfl
@[simp ↓] theorem g_mul : some? (gMul [.int a, .int b]) Q = (okMul a b = true ∧ Q (.sh, .int (a * b))) := by
  unfold gMul
  rw [some?_ite, some?_some]
@[simp ↓] theorem g_mulL : some? (gMul [.list ds, .int b]) Q = ((-(2 ^ 63) ≤ b ∧ b < 2 ^ 63 ∧ ds.length * b.toNat ≤ sizeLine) ∧ Q (.top, .list (List.replicate b.toNat ds).flatten)) := by
  unfold gMul
  rw [some?_ite, some?_some]
@[simp ↓] theorem g_mod : some? (gMod [.int a, .int b]) Q = (okMod a b = true ∧ Q (.sh, .int (a % b))) := by
  unfold gMod gI2
  rw [some?_ite, some?_some]
@[simp ↓] theorem g_div : some? (gDiv [.int a, .int b]) Q = (okDiv a b = true ∧ Q (.sh, .int (a / b))) := by
  unfold gDiv gI2
  rw [some?_ite, some?_some]
@[simp ↓] theorem g_pow : some? (gPow [.int a, .int b]) Q = (okPow a b = true ∧ Q (.sh, .int (a ^ b.toNat))) := by
  unfold gPow gI2
  rw [some?_ite, some?_some]
@[simp ↓] theorem g_lt : some? (gLt [.int a, .int b]) Q = Q (.sh, .bool (decide (a < b))) := propext Iff.rfl
@[simp ↓] theorem g_le : some? (gLe [.int a, .int b]) Q = Q (.sh, .bool (decide (a ≤ b))) := propext Iff.rfl
@[simp ↓] theorem g_gt : some? (gGt [.int a, .int b]) Q = Q (.sh, .bool (decide (b < a))) := propext Iff.rfl
@[simp ↓] theorem g_ge : some? (gGe [.int a, .int b]) Q = Q (.sh, .bool (decide (b ≤ a))) := propext Iff.rfl
@[simp ↓] theorem g_abs : some? (gAbs [.int a]) Q = Q (.sh, .int (if a < 0 then -a else a)) := propext Iff.rfl
@[simp ↓] theorem g_max2 : some? (gMax2 [.int a, .int b]) Q = Q (.sh, .int (if b > a then b else a)) := propext Iff.rfl
@[simp ↓] theorem g_min2 : some? (gMin2 [.int a, .int b]) Q = Q (.sh, .int (if b < a then b else a)) := propext Iff.rfl
@[simp ↓] theorem g_idxL : some? (gIdx [.list ds, .int a]) Q = some? (L2.atI ds a) fun d => Q (.sh, d) := by
  unfold gIdx
  dsimp only
  cases L2.atI ds a <;> rfl
@[simp ↓] theorem g_idxT : some? (gIdx [.tuple ds, .int a]) Q = some? (L2.atI ds a) fun d => Q (.sh, d) := by
  unfold gIdx
  dsimp only
  cases L2.atI ds a <;> rfl
@[simp ↓] theorem g_idxS (ns : List Int) : some? (gIdx [scrD ns, .int a]) Q = some? (L2.atI ns a) fun d => Q (.sh, .int d) := by
  unfold gIdx scrD
  dsimp only
  rw [intsOf_map]
  dsimp only
  cases L2.atI ns a <;> rfl
@[simp ↓] theorem g_lenL : some? (gLen [.list ds]) Q = Q (.sh, .int ds.length) := propext Iff.rfl
@[simp ↓] theorem g_lenT : some? (gLen [.tuple ds]) Q = Q (.sh, .int ds.length) := propext Iff.rfl
@[simp ↓] theorem g_lenC (ns : List Int) : some? (gLen [scrD ns]) Q = Q (.sh, .int ns.length) := by
  unfold gLen scrD
  simp only [intsOf_map]
  rfl
@[simp ↓] theorem g_lenS (x : Str) : some? (gLen [.str x]) Q = (x.length ≤ sizeLine ∧ Q (.sh, .int x.length)) := by
  unfold gLen
  rw [some?_ite, some?_some]
@[simp ↓] theorem g_lst : some? (dLst ds) Q = (ds.length ≤ sizeLine ∧ Q (.top, .list ds)) := by
  unfold dLst
  rw [some?_ite, some?_some]
@[simp ↓] theorem g_tup : some? (dTup ds) Q = (ds.length ≤ sizeLine ∧ Q (.sh, .tuple ds)) := by
  unfold dTup
  rw [some?_ite, some?_some]
@[simp ↓] theorem g_isi (d : PyData) (t : Ty) : some? (gIsi t [d]) Q = (noScr d = true ∧ Q (.sh, .bool (isA d t))) := by
  unfold gIsi
  dsimp only
  rw [some?_ite, some?_some]
@[simp ↓] theorem g_isi2 (d : PyData) (t u : Ty) : some? (gIsi2 t u [d]) Q = (noScr d = true ∧ Q (.sh, .bool (isA d t || isA d u))) := by
  unfold gIsi2
  dsimp only
  rw [some?_ite, some?_some]
@[simp ↓] theorem g_is (d : PyData) : some? (gIs [d, .none]) Q = Q (.sh, .bool (isN d)) := propext Iff.rfl
@[simp ↓] theorem g_isnt (d : PyData) : some? (gIsNot [d, .none]) Q = Q (.sh, .bool (!isN d)) := propext Iff.rfl
@[simp ↓] theorem g_eq (d e : PyData) : some? (gEq [d, e]) Q = (((isS d = true ∧ isS e = true) ∨ (SeqAt.shaped d = true ∧ SeqAt.shaped e = true)) ∧ Q (.sh, .bool (PyData.eqv d e))) := by
  unfold gEq
  dsimp only
  rw [some?_ite, some?_some]
@[simp ↓] theorem g_ne (d e : PyData) : some? (gNe [d, e]) Q = (((isS d = true ∧ isS e = true) ∨ (SeqAt.shaped d = true ∧ SeqAt.shaped e = true)) ∧ Q (.sh, .bool (!PyData.eqv d e))) := by
  unfold gNe
  dsimp only
  rw [some?_ite, some?_some]
@[simp ↓] theorem g_sum (ns : List Int) : some? (gSum [.list (ns.map PyData.int)]) Q = Q (.sh, .int ns.sum) := by
  unfold gSum
  rw [gInts_map, some?_some]
@[simp ↓] theorem g_maxL (ns : List Int) : some? (gMaxL [.list (ns.map PyData.int)]) Q = (ns ≠ [] ∧ Q (.sh, .int (maxI ns))) := by
  unfold gMaxL
  rw [gInts_map]
  by_cases h : ns = [] <;> simp [h, some?]
@[simp ↓] theorem g_minL (ns : List Int) : some? (gMinL [.list (ns.map PyData.int)]) Q = (ns ≠ [] ∧ Q (.sh, .int (minI ns))) := by
  unfold gMinL
  rw [gInts_map]
  by_cases h : ns = [] <;> simp [h, some?]
@[simp ↓] theorem g_sorted (ns : List Int) : some? (gSorted [.list (ns.map PyData.int)]) Q = Q (.top, .list ((sortI ns).map PyData.int)) := by
  unfold gSorted
  rw [gInts_map, some?_some]
@[simp ↓] theorem g_sortedR (ns : List Int) : some? (gSortedR [.list (ns.map PyData.int)]) Q = Q (.top, .list ((sortR ns).map PyData.int)) := by
  unfold gSortedR
  rw [gInts_map, some?_some]
@[simp ↓] theorem g_all (bs : List Bool) : some? (gAll [.list (bs.map PyData.bool)]) Q = Q (.sh, .bool (bs.all id)) := by
  unfold gAll gBools
  simp only [boolsOf_map, some?_some]
@[simp ↓] theorem g_any (bs : List Bool) : some? (gAny [.list (bs.map PyData.bool)]) Q = Q (.sh, .bool (bs.any id)) := by
  unfold gAny gBools
  simp only [boolsOf_map, some?_some]
@[simp ↓] theorem g_rev : some? (gRev [.list ds]) Q = Q (.top, .list ds.reverse) := propext Iff.rfl
@[simp ↓] theorem g_listL : some? (gListOf [.list ds]) Q = Q (.top, .list ds) := propext Iff.rfl
@[simp ↓] theorem g_listT : some? (gListOf [.tuple ds]) Q = Q (.top, .list ds) := propext Iff.rfl
@[simp ↓] theorem g_tupleL : some? (gTupleOf [.list ds]) Q = Q (.sh, .tuple ds) := propext Iff.rfl
@[simp ↓] theorem g_intI : some? (gInt1 [.int a]) Q = Q (.sh, .int a) := propext Iff.rfl
@[simp ↓] theorem g_intB (b : Bool) : some? (gInt1 [.bool b]) Q = Q (.sh, .int (if b then 1 else 0)) := propext Iff.rfl
@[simp ↓] theorem g_repr (d : PyData) : some? (gRepr [d]) Q = (rpOk d = true ∧ Q (.sh, .str d.shown)) := by
  unfold gRepr
  dsimp only
  rw [some?_ite, some?_some]
@[simp ↓] theorem g_inF (neg : Bool) (d : PyData) : some? (gInF neg [d, .list ds]) Q = ((flatD d = true ∧ ds.all flatD = true) ∧ Q (.sh, .bool (if neg then !(ds.any fun e => PyData.eqv e d) else ds.any fun e => PyData.eqv e d))) := by
  unfold gInF
  dsimp only
  rw [some?_ite, some?_some]
@[simp ↓] theorem g_inFT (neg : Bool) (d : PyData) : some? (gInF neg [d, .tuple ds]) Q = ((flatD d = true ∧ ds.all flatD = true) ∧ Q (.sh, .bool (if neg then !(ds.any fun e => PyData.eqv e d) else ds.any fun e => PyData.eqv e d))) := by
  unfold gInF
  dsimp only
  rw [some?_ite, some?_some]
@[simp ↓] theorem g_slL (lo hi : Option Int) : some? (dSl (.list ds) lo hi) Q = Q (.top, .list (cutD ds lo hi)) := propext Iff.rfl
@[simp ↓] theorem g_slT (lo hi : Option Int) : some? (dSl (.tuple ds) lo hi) Q = (¬ (HT.sIx ds.length 0 lo = 0 ∧ HT.sIx ds.length ds.length hi = ds.length) ∧ Q (.sh, .tuple (cutD ds lo hi))) := by
  unfold dSl
  dsimp only
  rw [some?_ite, some?_some]
end
/-! places -/
theorem atI_lit0 {α : Type} (a : α) (xs : List α) : L2.atI (a :: xs) 0 = some a := by simp [L2.atI, L2.ixN]
@[simp] theorem atI_zero {α : Type} (a : α) (xs : List α) : L2.atI (a :: xs) 0 = some a := by
  unfold L2.atI L2.ixN
  rw [if_pos (by omega), if_pos (by rw [List.length_cons]; omega)]
  rfl
theorem atI_ofNat {α : Type} (xs : List α) (k : Nat) : L2.atI xs (OfNat.ofNat k : Int) = xs[k]? := by
  unfold L2.atI L2.ixN
  have : (0 : Int) ≤ (OfNat.ofNat k : Int) := Int.natCast_nonneg k
  rw [if_pos this]
  by_cases h : (OfNat.ofNat k : Int) < xs.length
  · rw [if_pos h]
    rfl
  · rw [if_neg h]
    have h' : xs.length ≤ k := by
      have : ¬ ((k : Int) < xs.length) := h
      omega
    rw [List.getElem?_eq_none h']
    rfl
theorem atI_in {α : Type} {xs : List α} {i : Int} (h0 : 0 ≤ i) (h : i < xs.length) : ∃ x, x ∈ xs ∧ xs[i.toNat]? = some x ∧ L2.atI xs i = some x := by
  have hl : i.toNat < xs.length := by omega
  refine ⟨xs[i.toNat], List.getElem_mem hl, List.getElem?_eq_getElem hl, ?_⟩
  unfold L2.atI L2.ixN
  rw [if_pos h0, if_pos h]
  exact List.getElem?_eq_getElem hl
theorem some?_atI {α : Type} {xs : List α} {i : Int} {Q : α → Prop} (h0 : 0 ≤ i) (h : i < xs.length) (q : ∀ x ∈ xs, Q x) : some? (L2.atI xs i) Q := by
  obtain ⟨x, h1, _, h2⟩ := atI_in h0 h
  rw [h2]
  exact q x h1
@[simp ↓] theorem ixN_zero (n : Nat) (Q : Nat → Prop) : some? (L2.ixN (n + 1) 0) Q = Q 0 := by
  unfold L2.ixN
  rw [if_pos (by omega), if_pos (by omega)]
  rfl
section
variable {α : Type} {Q : α → Prop} {N : Nat → Prop}
@[simp ↓] theorem at0 (a : α) (xs : List α) : some? (L2.atI (a :: xs) 0) Q = Q a := by rw [atI_zero]; rfl
@[simp ↓] theorem at1 (a b : α) (xs : List α) : some? (L2.atI (a :: b :: xs) 1) Q = Q b := by rw [show (1 : Int) = OfNat.ofNat 1 from rfl, atI_ofNat]; rfl
@[simp ↓] theorem at2 (a b c : α) (xs : List α) : some? (L2.atI (a :: b :: c :: xs) 2) Q = Q c := by rw [show (2 : Int) = OfNat.ofNat 2 from rfl, atI_ofNat]; rfl
@[simp ↓] theorem at3 (a b c d : α) (xs : List α) : some? (L2.atI (a :: b :: c :: d :: xs) 3) Q = Q d := by rw [show (3 : Int) = OfNat.ofNat 3 from rfl, atI_ofNat]; rfl
@[simp ↓] theorem at4 (a b c d e : α) (xs : List α) : some? (L2.atI (a :: b :: c :: d :: e :: xs) 4) Q = Q e := by rw [show (4 : Int) = OfNat.ofNat 4 from rfl, atI_ofNat]; rfl
@[simp ↓] theorem ixN_one (n : Nat) : some? (L2.ixN (n + 2) 1) N = N 1 := by
  unfold L2.ixN
  rw [if_pos (by omega), if_pos (by omega)]
  rfl
@[simp ↓] theorem ixN_two (n : Nat) : some? (L2.ixN (n + 3) 2) N = N 2 := by
  unfold L2.ixN
  rw [if_pos (by omega), if_pos (by omega)]
  rfl
end
section
@[simp] theorem shaped_int (i : Int) : SeqAt.shaped (.int i) = true := by simp [SeqAt.shaped, PyData.canLay0, PyData.depth]
@[simp] theorem shaped_bool (i : Bool) : SeqAt.shaped (.bool i) = true := by simp [SeqAt.shaped, PyData.canLay0, PyData.depth]
@[simp] theorem shaped_none : SeqAt.shaped .none = true := by simp [SeqAt.shaped, PyData.canLay0, PyData.depth]
@[simp] theorem shaped_str (i : Str) : SeqAt.shaped (.str i) = PyData.strOk i := by simp [SeqAt.shaped, PyData.canLay0, PyData.depth]
theorem canLay_ints : ∀ ns : List Int, PyData.canLayAll0 (ns.map PyData.int) = true ∧ PyData.depthAll (ns.map PyData.int) = 0
  | [] => ⟨rfl, rfl⟩
  | n :: ns => by
    obtain ⟨h1, h2⟩ := canLay_ints ns
    simp [PyData.canLayAll0, PyData.depthAll, PyData.canLay0, PyData.depth, h1, h2]
@[simp] theorem shaped_ints (ns : List Int) : SeqAt.shaped (.list (ns.map PyData.int)) = true := by
  obtain ⟨h1, h2⟩ := canLay_ints ns
  simp [SeqAt.shaped, PyData.canLay0, PyData.depth, h1, h2]
@[simp] theorem shaped_nil : SeqAt.shaped (.list []) = true := shaped_ints []
@[simp] theorem eqv_int (i j : Int) : PyData.eqv (.int i) (.int j) = decide (i = j) := by
  simp only [PyData.eqv]
  rfl
@[simp] theorem eqv_bool (i j : Bool) : PyData.eqv (.bool i) (.bool j) = (i == j) := by simp only [PyData.eqv]
@[simp] theorem eqv_str (i j : Str) : PyData.eqv (.str i) (.str j) = (i == j) := by simp only [PyData.eqv]
@[simp] theorem eqv_list (i j : List PyData) : PyData.eqv (.list i) (.list j) = PyData.eqvAll i j := by simp only [PyData.eqv]
@[simp] theorem eqv_tuple (i j : List PyData) : PyData.eqv (.tuple i) (.tuple j) = PyData.eqvAll i j := by simp only [PyData.eqv]
@[simp] theorem eqvAll_nil : PyData.eqvAll [] [] = true := by simp only [PyData.eqvAll]
@[simp] theorem eqvAll_cons (x y : PyData) (i j : List PyData) : PyData.eqvAll (x :: i) (y :: j) = (PyData.eqv x y && PyData.eqvAll i j) := by simp only [PyData.eqvAll]
@[simp] theorem eqvAll_nc (y : PyData) (j : List PyData) : PyData.eqvAll [] (y :: j) = false := by simp only [PyData.eqvAll]
@[simp] theorem eqvAll_cn (y : PyData) (j : List PyData) : PyData.eqvAll (y :: j) [] = false := by simp only [PyData.eqvAll]
theorem eqvAll_ints : ∀ a b : List Int, PyData.eqvAll (a.map PyData.int) (b.map PyData.int) = decide (a = b)
  | [], [] => by simp
  | [], _ :: _ => by simp
  | _ :: _, [] => by simp
  | x :: a, y :: b => by
    rw [List.map_cons, List.map_cons, eqvAll_cons, eqv_int, eqvAll_ints a b]
    by_cases h : x = y <;> by_cases h' : a = b <;> simp [h, h']
theorem eqvAll_nilR (a : List PyData) : PyData.eqvAll a [] = decide (a = []) := by cases a <;> simp
@[simp ↓] theorem ch_int (f : Int → Int → Bool) (i j : Int) (Q : Bool → Prop) : some? (cI f (.int i) (.int j)) Q = Q (f i j) := propext Iff.rfl
end
/-! chains of three, further targets -/
section
variable {Q : Own × PyData → Fe → Prop} {QS : Fl → Fe → Prop} {X : Str → Fe → Prop} {ε : Fe} {f g h k : Ev} {P : Fe → Prop}
@[simp ↓] theorem wp_ch3 (r r' r2 : PyData → PyData → Option Bool) : Wp (eChF3 r r' r2 f g h k ε) Q X = Wp (f ε) (fun a ε1 => nx a.1 (Wp (g ε1) (fun b ε2 => nx b.1 (some? (r a.2 b.2) fun t => if t = true then Wp (h ε2) (fun c ε3 => nx c.1 (some? (r' b.2 c.2) fun t => if t = true then Wp (k ε3) (fun d ε4 => nx d.1 (some? (r2 c.2 d.2) fun t => Q (.sh, .bool t) ε4)) X else Q (.sh, .bool false) ε3)) X else Q (.sh, .bool false) ε2)) X)) X := by
  unfold eChF3
  rw [wp_bind]
  congr 1
  funext a ε1
  rw [nx_eq, wp_bind]
  congr 2
  funext b ε2
  rw [nx_eq]
  congr 1
  cases r a.2 b.2 with
  | none => rfl
  | some t =>
    cases t with
    | false => rfl
    | true =>
      dsimp only
      rw [some?_some, if_pos rfl, wp_bind]
      congr 1
      funext c ε3
      rw [nx_eq]
      congr 1
      cases r' b.2 c.2 with
      | none => rfl
      | some t =>
        cases t with
        | false => rfl
        | true =>
          dsimp only
          rw [some?_some, if_pos rfl, wp_bind]
          congr 1
          funext d ε4
          rw [nx_eq]
          congr 1
          cases r2 c.2 d.2 <;> rfl
@[simp ↓] theorem wp_ext (i : Nat) : Wp (sExt i f ε) QS X = rd ε i fun o0 d0 => ownL o0 d0 fun _ => Wp (f ε) (fun p ε1 => nx p.1 (rd ε1 i fun o d => ownL o d fun ds => match p.2 with
    | .list es => ds.length + es.length ≤ sizeLine ∧ wr ε1 i (some (o, .list (ds ++ es))) (QS .nx)
    | _ => False)) X := by
  unfold sExt
  rw [rd_eq]
  cases e : ε[i]? with
  | none => rfl
  | some x =>
    cases x with
    | none => rfl
    | some x =>
      obtain ⟨o0, d0⟩ := x
      cases d0 with
      | list ds0 =>
        dsimp only [ownL]
        by_cases h0 : o0.own = true
        · rw [if_pos h0, wp_bind, eq_true h0, true_and]
          congr 1
          funext p ε1
          rw [rd_eq]
          cases e1 : ε1[i]? with
          | none => simp [Wp, nx]
          | some y =>
            cases y with
            | none => simp [Wp, nx]
            | some y =>
              obtain ⟨o, d⟩ := y
              cases d with
              | list ds =>
                obtain ⟨op, dp⟩ := p
                cases dp with
                | list es =>
                  dsimp only
                  unfold nx wr
                  have hi := (List.getElem?_eq_some_iff.mp e1).1
                  by_cases hc : o.own = true ∧ op.isEx = false ∧ ds.length + es.length ≤ sizeLine
                  · rw [if_pos hc]
                    simp [Wp, hc.1, hc.2.1, hc.2.2, hi]
                  · rw [if_neg hc]
                    simp only [Wp, eq_iff_iff, false_iff]
                    exact fun z => hc ⟨z.2.1, z.1, z.2.2.1⟩
                | _ => simp [Wp, nx]
              | _ => simp [Wp, nx]
        · rw [if_neg h0]
          simp [Wp, h0]
      | _ => simp [Wp, ownL]
@[simp ↓] theorem some?_gtPut (i : Nat) (o : Own) (d : PyData) : some? (gtPut i g o d ε) P = nx o (rd ε i fun _ _ => Wp (g ε) (fun q ε2 => nx q.1 (rd ε2 i fun o' d' => ownL o' d' fun ds => at? q.2 ds.length fun j => wr ε2 i (some (o', .list (ds.set j d))) P)) fun _ _ => False) := by
  unfold gtPut nx
  cases ho : o.isEx with
  | true => simp [some?]
  | false =>
    simp only [Bool.false_eq_true, if_false, true_and]
    rw [rd_eq]
    cases e : ε[i]? with
    | none => rfl
    | some x =>
      cases x with
      | none => rfl
      | some x =>
        dsimp only
        cases eg : g ε with
        | stuck => rfl
        | exc _ _ => rfl
        | ok q ε2 =>
          obtain ⟨oq, dq⟩ := q
          dsimp only [Wp]
          cases hq : oq.isEx with
          | true => simp [some?]
          | false =>
            simp only [Bool.false_eq_true, if_false, true_and]
            rw [rd_eq]
            cases e1 : ε2[i]? with
            | none => cases dq <;> rfl
            | some y =>
              cases y with
              | none => cases dq <;> rfl
              | some y =>
                obtain ⟨o', d'⟩ := y
                cases dq with
                | int k =>
                  cases d' with
                  | list ds =>
                    dsimp only [ownL]
                    unfold wr
                    have hi := (List.getElem?_eq_some_iff.mp e1).1
                    by_cases hw : o'.own = true
                    · rw [if_pos hw, eq_true hw, true_and, at?_int]
                      cases L2.ixN ds.length k with
                      | none => rfl
                      | some j => simp [some?, hi]
                    · rw [if_neg hw]; simp [some?, hw]
                  | _ => simp [some?, ownL]
                | _ => cases d' <;> simp [some?, ownL, at?]
end
end FS
namespace LW
open PySem PySem.Spec PyProof.Rows L2 RZ FS FH
def topS (i : Nat) : Stmt := PySem.Challenge.pw_spillmirror_k29_fives_refused.main.body.getD i (.Pass ⟨0, 0, 0, 0⟩)
abbrev s_is_whole : Stmt := topS 21
abbrev N_is_whole : List Str := ["thing"]
theorem sc_is_whole : FnScope N_is_whole ["thing"] (defScope s_is_whole) := ⟨rfl, rfl, rfl, by decide +kernel, rfl, by decide +kernel, by decide +kernel⟩
abbrev s_end_of : Stmt := topS 28
abbrev N_end_of : List Str := ["five", "start", "total", "spilled", "lacking", "low", "high"]
theorem sc_end_of : FnScope N_end_of ["five", "start"] (defScope s_end_of) := ⟨rfl, rfl, rfl, by decide +kernel, rfl, by decide +kernel, by decide +kernel⟩
abbrev s_five_of_day : Stmt := topS 31
abbrev N_five_of_day : List Str := ["cap", "day"]
theorem sc_five_of_day : FnScope N_five_of_day ["cap", "day"] (defScope s_five_of_day) := ⟨rfl, rfl, rfl, by decide +kernel, rfl, by decide +kernel, by decide +kernel⟩
abbrev s_law_cell_at : Stmt := topS 41
abbrev N_law_cell_at : List Str := ["script", "k"]
theorem sc_law_cell_at : FnScope N_law_cell_at ["script", "k"] (defScope s_law_cell_at) := ⟨rfl, rfl, rfl, by decide +kernel, rfl, by decide +kernel, by decide +kernel⟩
abbrev s_law_bag : Stmt := topS 42
abbrev N_law_bag : List Str := ["cell"]
theorem sc_law_bag : FnScope N_law_bag ["cell"] (defScope s_law_bag) := ⟨rfl, rfl, rfl, by decide +kernel, rfl, by decide +kernel, by decide +kernel⟩
abbrev s_law_draw : Stmt := topS 43
abbrev N_law_draw : List Str := ["bag", "sides", "digit"]
theorem sc_law_draw : FnScope N_law_draw ["bag", "sides"] (defScope s_law_draw) := ⟨rfl, rfl, rfl, by decide +kernel, rfl, by decide +kernel, by decide +kernel⟩
abbrev s_law_words : Stmt := topS 47
abbrev N_law_words : List Str := ["e", "some", "word", "fits"]
theorem sc_law_words : FnScope N_law_words ["e"] (defScope s_law_words) := ⟨rfl, rfl, rfl, by decide +kernel, rfl, by decide +kernel, by decide +kernel⟩
abbrev s_is_amount : Stmt := topS 22
abbrev N_is_amount : List Str := ["thing"]
theorem sc_is_amount : FnScope N_is_amount ["thing"] (defScope s_is_amount) := ⟨rfl, rfl, rfl, by decide +kernel, rfl, by decide +kernel, by decide +kernel⟩
abbrev s_is_days : Stmt := topS 23
abbrev N_is_days : List Str := ["thing", "day"]
theorem sc_is_days : FnScope N_is_days ["thing"] (defScope s_is_days) := ⟨rfl, rfl, rfl, by decide +kernel, rfl, by decide +kernel, by decide +kernel⟩
abbrev s_put_behind : Stmt := topS 32
abbrev N_put_behind : List Str := ["one", "two", "total", "spilled", "lacking", "first", "last", "low", "high", "least", "greatest"]
theorem sc_put_behind : FnScope N_put_behind ["one", "two"] (defScope s_put_behind) := ⟨rfl, rfl, rfl, by decide +kernel, rfl, by decide +kernel, by decide +kernel⟩
abbrev s_led_by : Stmt := topS 34
abbrev N_led_by : List Str := ["five", "start", "end", "total", "spilled", "lacking", "low", "high"]
theorem sc_led_by : FnScope N_led_by ["five", "start"] (defScope s_led_by) := ⟨rfl, rfl, rfl, by decide +kernel, rfl, by decide +kernel, by decide +kernel⟩
abbrev s_law_size : Stmt := topS 44
abbrev N_law_size : List Str := ["bag", "kind", "most"]
theorem sc_law_size : FnScope N_law_size ["bag", "kind"] (defScope s_law_size) := ⟨rfl, rfl, rfl, by decide +kernel, rfl, by decide +kernel, by decide +kernel⟩
abbrev s_law_cap : Stmt := topS 46
abbrev N_law_cap : List Str := ["bag", "line", "near", "one", "some"]
theorem sc_law_cap : FnScope N_law_cap ["bag", "line"] (defScope s_law_cap) := ⟨rfl, rfl, rfl, by decide +kernel, rfl, by decide +kernel, by decide +kernel⟩
abbrev s_law_no_days : Stmt := topS 48
abbrev N_law_no_days : List Str := ["bag", "some"]
theorem sc_law_no_days : FnScope N_law_no_days ["bag"] (defScope s_law_no_days) := ⟨rfl, rfl, rfl, by decide +kernel, rfl, by decide +kernel, by decide +kernel⟩
abbrev s_law_no_amount : Stmt := topS 49
abbrev N_law_no_amount : List Str := ["bag"]
theorem sc_law_no_amount : FnScope N_law_no_amount ["bag"] (defScope s_law_no_amount) := ⟨rfl, rfl, rfl, by decide +kernel, rfl, by decide +kernel, by decide +kernel⟩
abbrev s_law_no_five : Stmt := topS 50
abbrev N_law_no_five : List Str := ["bag", "room", "some"]
theorem sc_law_no_five : FnScope N_law_no_five ["bag", "room"] (defScope s_law_no_five) := ⟨rfl, rfl, rfl, by decide +kernel, rfl, by decide +kernel, by decide +kernel⟩
abbrev s_need_days : Stmt := topS 24
abbrev N_need_days : List Str := ["days"]
theorem sc_need_days : FnScope N_need_days ["days"] (defScope s_need_days) := ⟨rfl, rfl, rfl, by decide +kernel, rfl, by decide +kernel, by decide +kernel⟩
abbrev s_need_cap : Stmt := topS 25
abbrev N_need_cap : List Str := ["cap"]
theorem sc_need_cap : FnScope N_need_cap ["cap"] (defScope s_need_cap) := ⟨rfl, rfl, rfl, by decide +kernel, rfl, by decide +kernel, by decide +kernel⟩
abbrev s_need_start : Stmt := topS 26
abbrev N_need_start : List Str := ["cap", "start"]
theorem sc_need_start : FnScope N_need_start ["cap", "start"] (defScope s_need_start) := ⟨rfl, rfl, rfl, by decide +kernel, rfl, by decide +kernel, by decide +kernel⟩
abbrev s_five_of : Stmt := topS 33
abbrev N_five_of : List Str := ["days", "cap", "found", "day"]
theorem sc_five_of : FnScope N_five_of ["days", "cap"] (defScope s_five_of) := ⟨rfl, rfl, rfl, by decide +kernel, rfl, by decide +kernel, by decide +kernel⟩
abbrev s_law_row : Stmt := topS 45
abbrev N_law_row : List Str := ["bag", "longest", "found", "turn", "line", "kind", "shape", "top", "k", "size", "side"]
theorem sc_law_row : FnScope N_law_row ["bag", "longest"] (defScope s_law_row) := ⟨rfl, rfl, rfl, by decide +kernel, rfl, by decide +kernel, by decide +kernel⟩
abbrev s_is_five : Stmt := topS 29
abbrev N_is_five : List Str := ["cap", "thing", "total", "spilled", "lacking", "low", "high", "one"]
theorem sc_is_five : FnScope N_is_five ["cap", "thing"] (defScope s_is_five) := ⟨rfl, rfl, rfl, by decide +kernel, rfl, by decide +kernel, by decide +kernel⟩
abbrev s_five : Stmt := topS 35
abbrev N_five : List Str := ["days", "cap"]
theorem sc_five : FnScope N_five ["days", "cap"] (defScope s_five) := ⟨rfl, rfl, rfl, by decide +kernel, rfl, by decide +kernel, by decide +kernel⟩
abbrev s_need_five : Stmt := topS 30
abbrev N_need_five : List Str := ["cap", "thing"]
theorem sc_need_five : FnScope N_need_five ["cap", "thing"] (defScope s_need_five) := ⟨rfl, rfl, rfl, by decide +kernel, rfl, by decide +kernel, by decide +kernel⟩
abbrev s_ends_from : Stmt := topS 39
abbrev N_ends_from : List Str := ["days", "cap", "found"]
theorem sc_ends_from : FnScope N_ends_from ["days", "cap"] (defScope s_ends_from) := ⟨rfl, rfl, rfl, by decide +kernel, rfl, by decide +kernel, by decide +kernel⟩
abbrev s_led : Stmt := topS 36
abbrev N_led : List Str := ["cap", "five", "start"]
theorem sc_led : FnScope N_led ["cap", "five", "start"] (defScope s_led) := ⟨rfl, rfl, rfl, by decide +kernel, rfl, by decide +kernel, by decide +kernel⟩
abbrev s_joined : Stmt := topS 37
abbrev N_joined : List Str := ["cap", "five", "other"]
theorem sc_joined : FnScope N_joined ["cap", "five", "other"] (defScope s_joined) := ⟨rfl, rfl, rfl, by decide +kernel, rfl, by decide +kernel, by decide +kernel⟩
abbrev s_few_days : Stmt := topS 38
abbrev N_few_days : List Str := ["cap", "five", "total", "spilled", "lacking", "low", "high"]
theorem sc_few_days : FnScope N_few_days ["cap", "five"] (defScope s_few_days) := ⟨rfl, rfl, rfl, by decide +kernel, rfl, by decide +kernel, by decide +kernel⟩
abbrev s_law_said : Stmt := topS 51
abbrev N_law_said : List Str := ["door", "some", "kept_words", "e", "one", "two", "three"]
theorem sc_law_said : FnScope N_law_said ["door", "some"] (defScope s_law_said) := ⟨rfl, rfl, rfl, by decide +kernel, rfl, by decide +kernel, by decide +kernel⟩
abbrev s_law : Stmt := topS 52
abbrev N_law : List Str := ["script", "k", "bag", "line", "room", "good", "bad_line", "bad_room", "bad_five", "bad_start", "asks", "goods", "door", "some", "word", "before"]
theorem sc_law : FnScope N_law ["script"] (defScope s_law) := ⟨rfl, rfl, rfl, by decide +kernel, rfl, by decide +kernel, by decide +kernel⟩
def tb_TankError (x : Str) : Option Bool := if x = "NoDays" then some true else if x = "NoCap" then some true else if x = "NoStart" then some true else if x = "NoFive" then some true else none
def tb_NoDays (x : Str) : Option Bool := if x = "NoDays" then some true else if x = "NoCap" then some false else if x = "NoStart" then some false else if x = "NoFive" then some false else none
def tb_NoCap (x : Str) : Option Bool := if x = "NoDays" then some false else if x = "NoCap" then some true else if x = "NoStart" then some false else if x = "NoFive" then some false else none
def tb_NoStart (x : Str) : Option Bool := if x = "NoDays" then some false else if x = "NoCap" then some false else if x = "NoStart" then some true else if x = "NoFive" then some false else none
def tb_NoMany (x : Str) : Option Bool := if x = "NoDays" then some false else if x = "NoCap" then some false else if x = "NoStart" then some false else if x = "NoFive" then some false else none
def tb_NoLot (x : Str) : Option Bool := if x = "NoDays" then some false else if x = "NoCap" then some false else if x = "NoStart" then some false else if x = "NoFive" then some false else none
def tb_NotBest (x : Str) : Option Bool := if x = "NoDays" then some false else if x = "NoCap" then some false else if x = "NoStart" then some false else if x = "NoFive" then some false else none
def tb_NoNumber (x : Str) : Option Bool := if x = "NoDays" then some false else if x = "NoCap" then some false else if x = "NoStart" then some false else if x = "NoFive" then some false else none
def tb_NoMirror (x : Str) : Option Bool := if x = "NoDays" then some false else if x = "NoCap" then some false else if x = "NoStart" then some false else if x = "NoFive" then some false else none
def tb_NoMost (x : Str) : Option Bool := if x = "NoDays" then some false else if x = "NoCap" then some false else if x = "NoStart" then some false else if x = "NoFive" then some false else none
def tb_NoFive (x : Str) : Option Bool := if x = "NoDays" then some false else if x = "NoCap" then some false else if x = "NoStart" then some false else if x = "NoFive" then some true else none
def tb_NoCaps (x : Str) : Option Bool := if x = "NoDays" then some false else if x = "NoCap" then some false else if x = "NoStart" then some false else if x = "NoFive" then some false else none
def tb_NoBounds (x : Str) : Option Bool := if x = "NoDays" then some false else if x = "NoCap" then some false else if x = "NoStart" then some false else if x = "NoFive" then some false else none
def tb_NoLooks (x : Str) : Option Bool := if x = "NoDays" then some false else if x = "NoCap" then some false else if x = "NoStart" then some false else if x = "NoFive" then some false else none
def tb_NoMoment (x : Str) : Option Bool := if x = "NoDays" then some false else if x = "NoCap" then some false else if x = "NoStart" then some false else if x = "NoFive" then some false else none
def tb_NoContent (x : Str) : Option Bool := if x = "NoDays" then some false else if x = "NoCap" then some false else if x = "NoStart" then some false else if x = "NoFive" then some false else none
def tb_NoCore (x : Str) : Option Bool := if x = "NoDays" then some false else if x = "NoCap" then some false else if x = "NoStart" then some false else if x = "NoFive" then some false else none
def tb_NoText (x : Str) : Option Bool := if x = "NoDays" then some false else if x = "NoCap" then some false else if x = "NoStart" then some false else if x = "NoFive" then some false else none
def tb_TooMany (x : Str) : Option Bool := if x = "NoDays" then some false else if x = "NoCap" then some false else if x = "NoStart" then some false else if x = "NoFive" then some false else none
def tb_ValueError (x : Str) : Option Bool := if x = "NoDays" then some true else if x = "NoCap" then some true else if x = "NoStart" then some true else if x = "NoFive" then some true else none
def b_is_whole : Sm :=
  (sRt (eAndF (eOp (gIsi .int) [.v (eVar 0)]) (eNotF (eOp (gIsi .bool) [.v (eVar 0)]))))
def f_is_whole : List PyData → FR := runF [false] 1 b_is_whole
def b_end_of : Sm :=
  (sSeq (sAsg (eVar 0) (gtTup 5 (gtCons (gtName 2) (gtCons (gtName 3) (gtCons (gtName 4) (gtCons (gtName 5) (gtCons (gtName 6) gtNil)))))))
  (sRt (eOp gAdd [.v (eOp gSub [.v (eOp gAdd [.v (eVar 1), .v (eVar 2)]), .v (eVar 3)]), .v (eVar 4)])))
def f_end_of : List PyData → FR := runF [false, false] 7 b_end_of
def b_five_of_day : Sm :=
  (sSeq (sIf (tOf (eOp gGt [.v (eVar 1), .v (eVar 0)]))
  (sRt (eOp dTup [.v (eVar 1), .v (eOp gSub [.v (eVar 1), .v (eVar 0)]), .v (eC (.int 0)), .v (eC (.int 0)), .v (eC (.int 0))]))
  sNx)
  (sSeq (sIf (tOf (eOp gGe [.v (eVar 1), .v (eC (.int 0))]))
  (sRt (eOp dTup [.v (eVar 1), .v (eC (.int 0)), .v (eC (.int 0)), .v (eC (.int 0)), .v (eOp gSub [.v (eVar 0), .v (eVar 1)])]))
  sNx)
  (sSeq (sIf (tOf (eOp gLe [.v (eOp gSub [.v (eC (.int 0)), .v (eVar 1)]), .v (eVar 0)]))
  (sRt (eOp dTup [.v (eVar 1), .v (eC (.int 0)), .v (eC (.int 0)), .v (eOp gSub [.v (eC (.int 0)), .v (eVar 1)]), .v (eVar 0)]))
  sNx)
  (sRt (eOp dTup [.v (eVar 1), .v (eC (.int 0)), .v (eOp gSub [.v (eOp gSub [.v (eC (.int 0)), .v (eVar 1)]), .v (eVar 0)]), .v (eVar 0), .v (eVar 0)])))))
def f_five_of_day : List PyData → FR := runF [false, false] 2 b_five_of_day
def b_law_cell_at : Sm :=
  (sSeq (sIf (tOf (eOp gLt [.v (eVar 1), .v (eOp gLen [.v (eVar 0)])]))
  (sRt (eOp gIdx [.v (eVar 0), .v (eVar 1)]))
  sNx)
  (sRt (eC (.int 0))))
def f_law_cell_at : List PyData → FR := runF [false, false] 2 b_law_cell_at
def b_law_bag : Sm :=
  (sRt (eOp dLst [.v (eOp gMax2 [.v (eC (.int 1)), .v (eOp gSub [.v (eVar 0), .v (eOp gPow [.v (eC (.int 10)), .v (eC (.int 18))])])]), .v (eOp gMod [.v (eVar 0), .v (eOp gAdd [.v (eOp gPow [.v (eC (.int 10)), .v (eC (.int 40))]), .v (eC (.int 121))])]), .v (eC (.int 0))]))
def f_law_bag : List PyData → FR := runF [false] 1 b_law_bag
def b_law_draw : Sm :=
  (sSeq (sIf (tOf (eOp gGt [.v (eOp gIdx [.b 0, .v (eC (.int 0))]), .v (eC (.int 1))]))
  (sSeq (sSet 2 (eOp gMod [.v (eOp gIdx [.b 0, .v (eC (.int 0))]), .v (eVar 1)]))
  (sSeq (sPut 0 (eC (.int 0)) (eOp gDiv [.v (eOp gIdx [.b 0, .v (eC (.int 0))]), .v (eVar 1)]))
  (sRt (eMv 2))))
  sNx)
  (sSeq (sPut 0 (eC (.int 2)) (eOp gAdd [.v (eOp gIdx [.b 0, .v (eC (.int 2))]), .v (eC (.int 1))]))
  (sSeq (sSet 2 (eOp gMod [.v (eOp gPow [.v (eOp gAdd [.v (eOp gIdx [.b 0, .v (eC (.int 1))]), .v (eOp gMul [.v (eOp gIdx [.b 0, .v (eC (.int 2))]), .v (eC (.int 982451653))])]), .v (eC (.int 5))]), .v (eOp gAdd [.v (eOp gPow [.v (eC (.int 10)), .v (eC (.int 39))]), .v (eC (.int 3))])]))
  (sSeq (sSet 2 (eOp gMod [.v (eOp gPow [.v (eOp gAdd [.v (eVar 2), .v (eOp gMul [.v (eOp gIdx [.b 0, .v (eC (.int 2))]), .v (eC (.int 15485863))])]), .v (eC (.int 3))]), .v (eOp gAdd [.v (eOp gPow [.v (eC (.int 10)), .v (eC (.int 36))]), .v (eC (.int 67))])]))
  (sRt (eOp gMod [.v (eOp gDiv [.v (eVar 2), .v (eC (.int 1024))]), .v (eVar 1)]))))))
def f_law_draw : List PyData → FR := runF [true, false] 3 b_law_draw
def b_law_words : Sm :=
  (sSeq (sSet 1 (eOp dLst [.v (eOp dTup [.v (eC (.str ("NoDays" : Str))), .v (eIsE 0 tb_NoDays)]), .v (eOp dTup [.v (eC (.str ("NoCap" : Str))), .v (eIsE 0 tb_NoCap)]), .v (eOp dTup [.v (eC (.str ("NoStart" : Str))), .v (eIsE 0 tb_NoStart)])]))
  (sSeq (sSet 1 (eOp gAdd [.v (eVar 1), .v (eOp dLst [.v (eOp dTup [.v (eC (.str ("NoMany" : Str))), .v (eIsE 0 tb_NoMany)]), .v (eOp dTup [.v (eC (.str ("NoLot" : Str))), .v (eIsE 0 tb_NoLot)])])]))
  (sSeq (sSet 1 (eOp gAdd [.v (eVar 1), .v (eOp dLst [.v (eOp dTup [.v (eC (.str ("NotBest" : Str))), .v (eIsE 0 tb_NotBest)]), .v (eOp dTup [.v (eC (.str ("NoNumber" : Str))), .v (eIsE 0 tb_NoNumber)])])]))
  (sSeq (sSet 1 (eOp gAdd [.v (eVar 1), .v (eOp dLst [.v (eOp dTup [.v (eC (.str ("NoMirror" : Str))), .v (eIsE 0 tb_NoMirror)]), .v (eOp dTup [.v (eC (.str ("NoMost" : Str))), .v (eIsE 0 tb_NoMost)])])]))
  (sSeq (sSet 1 (eOp gAdd [.v (eVar 1), .v (eOp dLst [.v (eOp dTup [.v (eC (.str ("NoFive" : Str))), .v (eIsE 0 tb_NoFive)]), .v (eOp dTup [.v (eC (.str ("NoCaps" : Str))), .v (eIsE 0 tb_NoCaps)])])]))
  (sSeq (sSet 1 (eOp gAdd [.v (eVar 1), .v (eOp dLst [.v (eOp dTup [.v (eC (.str ("NoBounds" : Str))), .v (eIsE 0 tb_NoBounds)]), .v (eOp dTup [.v (eC (.str ("NoLooks" : Str))), .v (eIsE 0 tb_NoLooks)])])]))
  (sSeq (sSet 1 (eOp gAdd [.v (eVar 1), .v (eOp dLst [.v (eOp dTup [.v (eC (.str ("NoMoment" : Str))), .v (eIsE 0 tb_NoMoment)]), .v (eOp dTup [.v (eC (.str ("NoContent" : Str))), .v (eIsE 0 tb_NoContent)])])]))
  (sSeq (sSet 1 (eOp gAdd [.v (eVar 1), .v (eOp dLst [.v (eOp dTup [.v (eC (.str ("NoCore" : Str))), .v (eIsE 0 tb_NoCore)]), .v (eOp dTup [.v (eC (.str ("NoText" : Str))), .v (eIsE 0 tb_NoText)])])]))
  (sSeq (sSet 1 (eOp gAdd [.v (eVar 1), .v (eOp dLst [.v (eOp dTup [.v (eC (.str ("TooMany" : Str))), .v (eIsE 0 tb_TooMany)]), .v (eOp dTup [.v (eC (.str ("value" : Str))), .v (eIsE 0 tb_ValueError)])])]))
  (sRt (eLc (fiLst (eVar 1)) (gtTup 2 (gtCons (gtName 2) (gtCons (gtName 3) gtNil))) (tOf (eVar 3)) (eVar 2) [2, 3])))))))))))
def f_law_words : Str → FR := runX 4 b_law_words
def b_is_amount : Sm :=
  (sRt (eAndF (eCall [false] f_is_whole [.v (eVar 0)]) (eOp gGe [.v (eVar 0), .v (eC (.int 0))])))
def f_is_amount : List PyData → FR := runF [false] 1 b_is_amount
def b_is_days : Sm :=
  (sRt (eAndF (eOp (gIsi .list) [.v (eVar 0)]) (eOp gAll [.v (eLc (fiSeq (eVar 0)) (gtName 1) tYesF (eCall [false] f_is_whole [.v (eVar 1)]) [1])])))
def f_is_days : List PyData → FR := runF [false] 2 b_is_days
def b_put_behind : Sm :=
  (sSeq (sAsg (eVar 0) (gtTup 5 (gtCons (gtName 2) (gtCons (gtName 3) (gtCons (gtName 4) (gtCons (gtName 7) (gtCons (gtName 8) gtNil)))))))
  (sSeq (sPar 9 10 (eCall [false, false] f_end_of [.v (eVar 0), .v (eVar 7)]) (eCall [false, false] f_end_of [.v (eVar 0), .v (eVar 8)]))
  (sSeq (sAug 2 (fun i j => i + j) (eOp gIdx [.v (eVar 1), .v (eC (.int 0))]))
  (sSeq (sAug 3 (fun i j => i + j) (eOp gIdx [.v (eVar 1), .v (eC (.int 1))]))
  (sSeq (sAug 4 (fun i j => i + j) (eOp gIdx [.v (eVar 1), .v (eC (.int 2))]))
  (sSeq (sIf (tOf (eOp gLt [.v (eVar 10), .v (eOp gIdx [.v (eVar 1), .v (eC (.int 3))])]))
  (sRt (eOp dTup [.v (eVar 2), .v (eVar 3), .v (eOp gSub [.v (eOp gAdd [.v (eVar 4), .v (eOp gIdx [.v (eVar 1), .v (eC (.int 3))])]), .v (eVar 10)]), .v (eVar 8), .v (eVar 8)]))
  sNx)
  (sSeq (sIf (tOf (eOp gGt [.v (eVar 9), .v (eOp gIdx [.v (eVar 1), .v (eC (.int 4))])]))
  (sRt (eOp dTup [.v (eVar 2), .v (eOp gSub [.v (eOp gAdd [.v (eVar 3), .v (eVar 9)]), .v (eOp gIdx [.v (eVar 1), .v (eC (.int 4))])]), .v (eVar 4), .v (eVar 7), .v (eVar 7)]))
  sNx)
  (sSeq (sSet 5 (eOp gSub [.v (eOp gAdd [.v (eVar 7), .v (eOp gMax2 [.v (eVar 9), .v (eOp gIdx [.v (eVar 1), .v (eC (.int 3))])])]), .v (eVar 9)]))
  (sSeq (sSet 6 (eOp gSub [.v (eOp gAdd [.v (eVar 7), .v (eOp gMin2 [.v (eVar 10), .v (eOp gIdx [.v (eVar 1), .v (eC (.int 4))])])]), .v (eVar 9)]))
  (sRt (eOp dTup [.v (eVar 2), .v (eVar 3), .v (eVar 4), .v (eVar 5), .v (eVar 6)])))))))))))
def f_put_behind : List PyData → FR := runF [false, false] 11 b_put_behind
def b_led_by : Sm :=
  (sSeq (sAsg (eVar 0) (gtTup 5 (gtCons (gtName 3) (gtCons (gtName 4) (gtCons (gtName 5) (gtCons (gtName 6) (gtCons (gtName 7) gtNil)))))))
  (sSeq (sSet 2 (eCall [false, false] f_end_of [.v (eVar 0), .v (eOp gMin2 [.v (eOp gMax2 [.v (eVar 1), .v (eVar 6)]), .v (eVar 7)])]))
  (sRt (eOp dTup [.v (eVar 2), .v (eOp gAdd [.v (eVar 4), .v (eOp gMax2 [.v (eC (.int 0)), .v (eOp gSub [.v (eVar 1), .v (eVar 7)])])]), .v (eOp gAdd [.v (eVar 5), .v (eOp gMax2 [.v (eC (.int 0)), .v (eOp gSub [.v (eVar 6), .v (eVar 1)])])])]))))
def f_led_by : List PyData → FR := runF [false, false] 8 b_led_by
def b_law_size : Sm :=
  (sSeq (sSet 2 (eOp gIdx [.v (eOp dLst [.v (eC (.int 4)), .v (eC (.int 9)), .v (eC (.int 60)), .v (eOp gSub [.v (eOp gPow [.v (eC (.int 10)), .v (eC (.int 12))]), .v (eC (.int 1))]), .v (eC (.int 0))]), .v (eVar 1)]))
  (sSeq (sIf (tOf (eOp gEq [.v (eVar 2), .v (eC (.int 0))]))
  (sSet 2 (eOp gIdx [.v (eOp dLst [.v (eC (.int 2)), .v (eC (.int 4)), .v (eC (.int 30)), .v (eOp gSub [.v (eOp gPow [.v (eC (.int 10)), .v (eC (.int 12))]), .v (eC (.int 1))])]), .v (eCall [true, false] f_law_draw [.b 0, .v (eC (.int 4))])]))
  sNx)
  (sRt (eCall [true, false] f_law_draw [.b 0, .v (eVar 2)]))))
def f_law_size : List PyData → FR := runF [true, false] 3 b_law_size
def b_law_cap_1 : Sm :=
  (sSet 2 (eOp gSum [.v (eSl (eVar 1) oNo (oSome (eCall [true, false] f_law_draw [.b 0, .v (eOp gAdd [.v (eOp gLen [.v (eVar 1)]), .v (eC (.int 1))])])))]))
def b_law_cap_2 : Sm :=
  (sSet 3 (eIfF (tOf (eOp gNe [.v (eVar 1), .v (eOp dLst [])])) (eOp gIdx [.v (eVar 1), .v (eCall [true, false] f_law_draw [.b 0, .v (eOp gLen [.v (eVar 1)])])]) (eC (.int 0))))
def b_law_cap_3 : Sm :=
  (sSet 4 (eOp dLst [.v (eCall [true, false] f_law_draw [.b 0, .v (eC (.int 6))]), .v (eCall [true, false] f_law_draw [.b 0, .v (eC (.int 50))]), .v (eOp gAbs [.v (eVar 3)]), .v (eOp gAbs [.v (eVar 2)]), .v (eCall [true, false] f_law_draw [.b 0, .v (eOp gPow [.v (eC (.int 10)), .v (eC (.int 12))])])]))
def b_law_cap_4 : Sm :=
  (sRt (eOp gMax2 [.v (eC (.int 0)), .v (eOp gMin2 [.v (eOp gSub [.v (eOp gPow [.v (eC (.int 10)), .v (eC (.int 12))]), .v (eC (.int 1))]), .v (eOp gSub [.v (eOp gAdd [.v (eOp gIdx [.v (eVar 4), .v (eCall [true, false] f_law_draw [.b 0, .v (eC (.int 5))])]), .v (eCall [true, false] f_law_draw [.b 0, .v (eC (.int 3))])]), .v (eC (.int 1))])])]))
def b_law_cap_t3 : Sm :=
  (sSeq b_law_cap_3
  b_law_cap_4)
def b_law_cap_t2 : Sm :=
  (sSeq b_law_cap_2
  b_law_cap_t3)
def b_law_cap : Sm :=
  (sSeq b_law_cap_1
  b_law_cap_t2)
def f_law_cap : List PyData → FR := runF [true, false] 5 b_law_cap
def b_law_no_days : Sm :=
  (sSeq (sSet 1 (eOp dLst [.v (eC .none), .v (eC (.int 0)), .v (eC (.str ("1" : Str))), .v (eOp dTup [.v (eC (.int 1)), .v (eC (.int 2))]), .v (eOp dLst [.v (eC .none)]), .v (eOp dLst [.v (eC (.bool true))]), .v (eOp dLst [.v (eC (.str ("1" : Str)))]), .v (eOp dLst [.v (eOp dLst [.v (eC (.int 1))])]), .v (eOp dLst [.v (eC (.int 1)), .v (eOp dTup [.v (eC (.int 2))])]), .v eDnew, .v (eOp dLst [.v (eC (.int 1)), .v (eC (.bool false)), .v (eC (.int 2))]), .v (eDisp1 ("a" : Str) 1)]))
  (sRt (eOp gIdx [.v (eVar 1), .v (eCall [true, false] f_law_draw [.b 0, .v (eC (.int 12))])])))
def f_law_no_days : List PyData → FR := runF [true] 2 b_law_no_days
def b_law_no_amount : Sm :=
  (sRt (eOp gIdx [.v (eOp dLst [.v (eC .none), .v (eOp gNeg [.v (eC (.int 1))]), .v (eC (.bool true)), .v (eC (.str ("0" : Str))), .v (eOp dLst [.v (eC (.int 1))]), .v (eOp dTup []), .v (eOp gNeg [.v (eOp gPow [.v (eC (.int 10)), .v (eC (.int 11))])]), .v (eC (.bool false)), .v eDnew]), .v (eCall [true, false] f_law_draw [.b 0, .v (eC (.int 9))])]))
def f_law_no_amount : List PyData → FR := runF [true] 1 b_law_no_amount
def b_law_no_five : Sm :=
  (sSeq (sSet 2 (eOp dLst [.v (eC .none), .v (eC (.int 5)), .v (eOp dTup [.v (eC (.int 0)), .v (eC (.int 0)), .v (eC (.int 0)), .v (eC (.int 0))]), .v (eOp dLst [.v (eC (.int 0)), .v (eC (.int 0)), .v (eC (.int 0)), .v (eC (.int 0)), .v (eVar 1)]), .v (eOp dTup [.v (eC (.int 0)), .v (eC (.int 0)), .v (eC (.int 0)), .v (eC (.int 0)), .v (eOp gAdd [.v (eVar 1), .v (eC (.int 1))])]), .v (eOp dTup [.v (eC (.int 0)), .v (eC (.int 1)), .v (eC (.int 0)), .v (eC (.int 0)), .v (eOp gAdd [.v (eVar 1), .v (eC (.int 1))])]), .v (eC (.str ("five" : Str)))]))
  (sSeq (sSet 2 (eOp gAdd [.v (eVar 2), .v (eOp dLst [.v (eOp dTup [.v (eC (.int 0)), .v (eOp gNeg [.v (eC (.int 1))]), .v (eC (.int 0)), .v (eC (.int 0)), .v (eC (.int 0))]), .v (eOp dTup [.v (eC (.bool true)), .v (eC (.int 0)), .v (eC (.int 0)), .v (eC (.int 0)), .v (eC (.int 0))]), .v (eOp dTup [.v (eOp gAdd [.v (eVar 1), .v (eC (.int 1))]), .v (eC (.int 0)), .v (eC (.int 0)), .v (eC (.int 0)), .v (eC (.int 0))])])]))
  (sRt (eOp gIdx [.v (eVar 2), .v (eCall [true, false] f_law_draw [.b 0, .v (eC (.int 10))])]))))
def f_law_no_five : List PyData → FR := runF [true, false] 3 b_law_no_five
def b_need_days : Sm :=
  (sIf (tNotF (tOf (eCall [false] f_is_days [.v (eVar 0)])))
  (sRaise ("NoDays" : Str))
  sNx)
def f_need_days : List PyData → FR := runF [false] 1 b_need_days
def b_need_cap : Sm :=
  (sIf (tNotF (tOf (eCall [false] f_is_amount [.v (eVar 0)])))
  (sRaise ("NoCap" : Str))
  sNx)
def f_need_cap : List PyData → FR := runF [false] 1 b_need_cap
def b_need_start : Sm :=
  (sIf (tOrF (tNotF (tOf (eCall [false] f_is_amount [.v (eVar 1)]))) (tOf (eOp gGt [.v (eVar 1), .v (eVar 0)])))
  (sRaise ("NoStart" : Str))
  sNx)
def f_need_start : List PyData → FR := runF [false, false] 2 b_need_start
def b_five_of_1 : Sm :=
  (sSet 2 (eOp dTup [.v (eC (.int 0)), .v (eC (.int 0)), .v (eC (.int 0)), .v (eC (.int 0)), .v (eVar 1)]))
def b_five_of_2b : Sm :=
  (sSet 2 (eCall [false, false] f_put_behind [.v (eVar 2), .v (eCall [false, false] f_five_of_day [.v (eVar 1), .v (eVar 3)])]))
def b_five_of_2 : Sm :=
  (sFor (fiSeq (eVar 0)) (gtName 3)
  b_five_of_2b)
def b_five_of_3 : Sm :=
  (sRt (eMv 2))
def b_five_of_t2 : Sm :=
  (sSeq b_five_of_2
  b_five_of_3)
def b_five_of : Sm :=
  (sSeq b_five_of_1
  b_five_of_t2)
def f_five_of : List PyData → FR := runF [false, false] 4 b_five_of
def b_law_row_1 : Sm :=
  (sAsg (eOp dTup [.v (eCall [true, false] f_law_draw [.b 0, .v (eC (.int 5))]), .v (eCall [true, false] f_law_draw [.b 0, .v (eC (.int 4))])]) (gtTup 2 (gtCons (gtName 5) (gtCons (gtName 6) gtNil))))
def b_law_row_2 : Sm :=
  (sAsg (eLc (fiRng1 (.v (eCall [true, false] f_law_draw [.b 0, .v (eOp gAdd [.v (eVar 1), .v (eC (.int 1))])]))) (gtName 8) tYesF (eCall [true, false] f_law_size [.b 0, .v (eVar 5)]) [8]) (gtName 2))
def b_law_row_3 : Sm :=
  (sIf (tOf (eOp gEq [.v (eVar 6), .v (eC (.int 2))]))
  (sSeq (sSet 7 (eCall [true, false] f_law_draw [.b 0, .v (eOp gAdd [.v (eOp gLen [.v (eVar 2)]), .v (eC (.int 1))])]))
  (sSet 2 (eOp gAdd [.v (eOp gSorted [.v (eSl (eVar 2) oNo (oSome (eVar 7)))]), .v (eOp gRev [.v (eOp gSorted [.v (eSl (eVar 2) (oSome (eVar 7)) oNo)])])])))
  sNx)
def b_law_row_4 : Sm :=
  (sIf (tOf (eOp gEq [.v (eVar 6), .v (eC (.int 3))]))
  (sSet 2 (eIfF (tOf (eOp gNe [.v (eVar 2), .v (eOp dLst [])])) (eOp gMul [.v (eOp dLst [.v (eOp gIdx [.v (eVar 2), .v (eC (.int 0))])]), .v (eOp gLen [.v (eVar 2)])]) (eOp dLst [])))
  sNx)
def b_law_row_5 : Sm :=
  (sSet 3 (eCall [true, false] f_law_draw [.b 0, .v (eC (.int 2))]))
def b_law_row_6 : Sm :=
  (sSet 4 (eOp dLst []))
def b_law_row_7b_1 : Sm :=
  (sSet 10 (eIfF (tOf (eOp (gInF false) [.v (eVar 6), .v (eOp dTup [.v (eC (.int 1)), .v (eC (.int 2))])])) (eOp gMod [.v (eOp gAdd [.v (eVar 8), .v (eVar 3)]), .v (eC (.int 2))]) (eCall [true, false] f_law_draw [.b 0, .v (eC (.int 2))])))
def b_law_row_7b_2 : Sm :=
  (sApp 4 (eOp gIdx [.v (eOp dLst [.v (eVar 9), .v (eOp gNeg [.v (eVar 9)])]), .v (eVar 10)]))
def b_law_row_7b : Sm :=
  (sSeq b_law_row_7b_1
  b_law_row_7b_2)
def b_law_row_7 : Sm :=
  (sFor (fiEn (eVar 2)) (gtTup 2 (gtCons (gtName 8) (gtCons (gtName 9) gtNil)))
  b_law_row_7b)
def b_law_row_8 : Sm :=
  (sRt (eMv 4))
def b_law_row_t7 : Sm :=
  (sSeq b_law_row_7
  b_law_row_8)
def b_law_row_t6 : Sm :=
  (sSeq b_law_row_6
  b_law_row_t7)
def b_law_row_t5 : Sm :=
  (sSeq b_law_row_5
  b_law_row_t6)
def b_law_row_t4 : Sm :=
  (sSeq b_law_row_4
  b_law_row_t5)
def b_law_row_t3 : Sm :=
  (sSeq b_law_row_3
  b_law_row_t4)
def b_law_row_t2 : Sm :=
  (sSeq b_law_row_2
  b_law_row_t3)
def b_law_row : Sm :=
  (sSeq b_law_row_1
  b_law_row_t2)
def f_law_row : List PyData → FR := runF [true, false] 11 b_law_row
def b_is_five : Sm :=
  (sSeq (sEx (eCall [false] f_need_cap [.v (eVar 0)]))
  (sSeq (sIf (tOrF (tNotF (tOf (eOp (gIsi .tuple) [.v (eVar 1)]))) (tOrF (tOf (eOp gNe [.v (eOp gLen [.v (eVar 1)]), .v (eC (.int 5))])) (tNotF (tOf (eOp gAll [.v (eLc (fiSeq (eVar 1)) (gtName 7) tYesF (eCall [false] f_is_whole [.v (eVar 7)]) [7])])))))
  (sRt (eC (.bool false)))
  sNx)
  (sSeq (sAsg (eVar 1) (gtTup 5 (gtCons (gtName 2) (gtCons (gtName 3) (gtCons (gtName 4) (gtCons (gtName 5) (gtCons (gtName 6) gtNil)))))))
  (sSeq (sIf (tOrF (tNotF (tOf (eChF3 (cI (fun i j => decide (i ≤ j))) (cI (fun i j => decide (i ≤ j))) (cI (fun i j => decide (i ≤ j))) (eC (.int 0)) (eVar 5) (eVar 6) (eVar 0)))) (tOrF (tOf (eOp gLt [.v (eVar 3), .v (eC (.int 0))])) (tOf (eOp gLt [.v (eVar 4), .v (eC (.int 0))]))))
  (sRt (eC (.bool false)))
  sNx)
  (sSeq (sIf (tAndF (tOf (eOp gLt [.v (eVar 5), .v (eVar 6)])) (tOrF (tOf (eOp gGt [.v (eVar 3), .v (eC (.int 0))])) (tOf (eOp gGt [.v (eVar 4), .v (eC (.int 0))]))))
  (sRt (eC (.bool false)))
  sNx)
  (sRt (eAndF (eOp gLe [.v (eC (.int 0)), .v (eCall [false, false] f_end_of [.v (eVar 1), .v (eVar 5)])]) (eOp gLe [.v (eCall [false, false] f_end_of [.v (eVar 1), .v (eVar 6)]), .v (eVar 0)]))))))))
def f_is_five : List PyData → FR := runF [false, false] 8 b_is_five
def b_five : Sm :=
  (sSeq (sEx (eCall [false] f_need_days [.v (eVar 0)]))
  (sSeq (sEx (eCall [false] f_need_cap [.v (eVar 1)]))
  (sRt (eCall [false, false] f_five_of [.v (eVar 0), .v (eVar 1)]))))
def f_five : List PyData → FR := runF [false, false] 2 b_five
def b_need_five : Sm :=
  (sIf (tNotF (tOf (eCall [false, false] f_is_five [.v (eVar 0), .v (eVar 1)])))
  (sRaise ("NoFive" : Str))
  sNx)
def f_need_five : List PyData → FR := runF [false, false] 2 b_need_five
def b_ends_from : Sm :=
  (sSeq (sSet 2 (eCall [false, false] f_five [.v (eVar 0), .v (eVar 1)]))
  (sRt (eOp dTup [.v (eCall [false, false] f_end_of [.v (eVar 2), .v (eOp gIdx [.v (eVar 2), .v (eC (.int 3))])]), .v (eCall [false, false] f_end_of [.v (eVar 2), .v (eOp gIdx [.v (eVar 2), .v (eC (.int 4))])])])))
def f_ends_from : List PyData → FR := runF [false, false] 3 b_ends_from
def b_led : Sm :=
  (sSeq (sEx (eCall [false] f_need_cap [.v (eVar 0)]))
  (sSeq (sEx (eCall [false, false] f_need_five [.v (eVar 0), .v (eVar 1)]))
  (sSeq (sEx (eCall [false, false] f_need_start [.v (eVar 0), .v (eVar 2)]))
  (sRt (eCall [false, false] f_led_by [.v (eVar 1), .v (eVar 2)])))))
def f_led : List PyData → FR := runF [false, false, false] 3 b_led
def b_joined : Sm :=
  (sSeq (sEx (eCall [false] f_need_cap [.v (eVar 0)]))
  (sSeq (sEx (eCall [false, false] f_need_five [.v (eVar 0), .v (eVar 1)]))
  (sSeq (sEx (eCall [false, false] f_need_five [.v (eVar 0), .v (eVar 2)]))
  (sRt (eCall [false, false] f_put_behind [.v (eVar 1), .v (eVar 2)])))))
def f_joined : List PyData → FR := runF [false, false, false] 3 b_joined
def b_few_days : Sm :=
  (sSeq (sEx (eCall [false] f_need_cap [.v (eVar 0)]))
  (sSeq (sEx (eCall [false, false] f_need_five [.v (eVar 0), .v (eVar 1)]))
  (sSeq (sAsg (eVar 1) (gtTup 5 (gtCons (gtName 2) (gtCons (gtName 3) (gtCons (gtName 4) (gtCons (gtName 5) (gtCons (gtName 6) gtNil)))))))
  (sSeq (sIf (tOf (eOp gLt [.v (eVar 5), .v (eVar 6)]))
  (sRt (eOp dLst [.v (eOp gSub [.v (eC (.int 0)), .v (eVar 5)]), .v (eOp gSub [.v (eOp gAdd [.v (eVar 5), .v (eVar 0)]), .v (eVar 6)]), .v (eOp gSub [.v (eOp gAdd [.v (eVar 2), .v (eVar 6)]), .v (eVar 0)])]))
  sNx)
  (sRt (eOp dLst [.v (eOp gSub [.v (eC (.int 0)), .v (eVar 5)]), .v (eVar 0), .v (eVar 3), .v (eOp gSub [.v (eOp gSub [.v (eC (.int 0)), .v (eVar 0)]), .v (eVar 4)]), .v (eCall [false, false] f_end_of [.v (eVar 1), .v (eVar 5)])]))))))
def f_few_days : List PyData → FR := runF [false, false] 7 b_few_days
def b_law_said_1 : Sm :=
  (sAsg (eSl (eOp gAdd [.v (eVar 1), .v (eOp dTup [.v (eC (.int 0)), .v (eC (.int 0))])]) oNo (oSome (eC (.int 3)))) (gtTup 3 (gtCons (gtName 4) (gtCons (gtName 5) (gtCons (gtName 6) gtNil)))))
def b_law_said_2 : Sm :=
  (sSet 2 (eOp dLst []))
def b_law_said_3b : Sm :=
  (sIf (tOf (eOp gEq [.v (eVar 0), .v (eC (.int 0))]))
  (sEx (eCall [false, false] f_five [.v (eVar 4), .v (eVar 5)]))
  (sIf (tOf (eOp gEq [.v (eVar 0), .v (eC (.int 1))]))
  (sEx (eCall [false, false] f_ends_from [.v (eVar 4), .v (eVar 5)]))
  (sIf (tOf (eOp gEq [.v (eVar 0), .v (eC (.int 2))]))
  (sEx (eCall [false, false, false] f_led [.v (eVar 4), .v (eVar 5), .v (eVar 6)]))
  (sIf (tOf (eOp gEq [.v (eVar 0), .v (eC (.int 3))]))
  (sEx (eCall [false, false, false] f_joined [.v (eVar 4), .v (eVar 5), .v (eVar 6)]))
  (sIf (tOf (eOp gEq [.v (eVar 0), .v (eC (.int 4))]))
  (sEx (eCall [false, false] f_few_days [.v (eVar 4), .v (eVar 5)]))
  (sEx (eCall [false, false] f_is_five [.v (eVar 4), .v (eVar 5)])))))))
def b_law_said_3 : Sm :=
  (sTry tb_TankError 3 b_law_said_3b fun x => (sSet 2 (eCallX 3 x (f_law_words x))))
def b_law_said_4 : Sm :=
  (sRt (eMv 2))
def b_law_said_t3 : Sm :=
  (sSeq b_law_said_3
  b_law_said_4)
def b_law_said_t2 : Sm :=
  (sSeq b_law_said_2
  b_law_said_t3)
def b_law_said : Sm :=
  (sSeq b_law_said_1
  b_law_said_t2)
def f_law_said : List PyData → FR := runF [false, false] 7 b_law_said
def b_law_1b_1 : Sm :=
  (sSet 2 (eCall [false] f_law_bag [.v (eOp gAdd [.v (eCall [false, false] f_law_cell_at [.v (eVar 0), .v (eVar 1)]), .v (eC (.int 4))])]))
def b_law_1b_2 : Sm :=
  (sSet 3 (eCall [true, false] f_law_row [.b 2, .v (eC (.int 8))]))
def b_law_1b_3 : Sm :=
  (sSet 4 (eCall [true, false] f_law_cap [.b 2, .v (eVar 3)]))
def b_law_1b_4 : Sm :=
  (sSet 5 (eCall [false, false] f_five [.v (eVar 3), .v (eVar 4)]))
def b_law_1b_5 : Sm :=
  (sSet 6 (eCall [true] f_law_no_days [.b 2]))
def b_law_1b_6 : Sm :=
  (sSet 7 (eCall [true] f_law_no_amount [.b 2]))
def b_law_1b_7 : Sm :=
  (sSet 8 (eCall [true, false] f_law_no_five [.b 2, .v (eVar 4)]))
def b_law_1b_8 : Sm :=
  (sSet 9 (eOp gIdx [.v (eOp dLst [.v (eCall [true] f_law_no_amount [.b 2]), .v (eOp gAdd [.v (eVar 4), .v (eC (.int 1))])]), .v (eCall [true, false] f_law_draw [.b 2, .v (eC (.int 2))])]))
def b_law_1b_9 : Sm :=
  (sSet 10 (eOp dLst [.v (eOp dTup [.v (eC (.int 0)), .v (eOp dTup [.v (eVar 6), .v (eVar 7)]), .v (eC (.str ("NoDays" : Str)))]), .v (eOp dTup [.v (eC (.int 0)), .v (eOp dTup [.v (eVar 3), .v (eVar 7)]), .v (eC (.str ("NoCap" : Str)))])]))
def b_law_1b_10 : Sm :=
  (sApp 10 (eOp dTup [.v (eC (.int 1)), .v (eOp dTup [.v (eVar 6), .v (eVar 4)]), .v (eC (.str ("NoDays" : Str)))]))
def b_law_1b_11 : Sm :=
  (sApp 10 (eOp dTup [.v (eC (.int 1)), .v (eOp dTup [.v (eVar 3), .v (eVar 7)]), .v (eC (.str ("NoCap" : Str)))]))
def b_law_1b_12 : Sm :=
  (sApp 10 (eOp dTup [.v (eC (.int 2)), .v (eOp dTup [.v (eVar 7), .v (eVar 8), .v (eVar 9)]), .v (eC (.str ("NoCap" : Str)))]))
def b_law_1b_13 : Sm :=
  (sApp 10 (eOp dTup [.v (eC (.int 2)), .v (eOp dTup [.v (eVar 4), .v (eVar 8), .v (eVar 9)]), .v (eC (.str ("NoFive" : Str)))]))
def b_law_1b_14 : Sm :=
  (sApp 10 (eOp dTup [.v (eC (.int 2)), .v (eOp dTup [.v (eVar 4), .v (eVar 5), .v (eVar 9)]), .v (eC (.str ("NoStart" : Str)))]))
def b_law_1b_15 : Sm :=
  (sApp 10 (eOp dTup [.v (eC (.int 3)), .v (eOp dTup [.v (eVar 7), .v (eVar 8), .v (eVar 8)]), .v (eC (.str ("NoCap" : Str)))]))
def b_law_1b_16 : Sm :=
  (sApp 10 (eOp dTup [.v (eC (.int 3)), .v (eOp dTup [.v (eVar 4), .v (eVar 8), .v (eVar 5)]), .v (eC (.str ("NoFive" : Str)))]))
def b_law_1b_17 : Sm :=
  (sApp 10 (eOp dTup [.v (eC (.int 3)), .v (eOp dTup [.v (eVar 4), .v (eVar 5), .v (eVar 8)]), .v (eC (.str ("NoFive" : Str)))]))
def b_law_1b_18 : Sm :=
  (sApp 10 (eOp dTup [.v (eC (.int 4)), .v (eOp dTup [.v (eVar 7), .v (eVar 8)]), .v (eC (.str ("NoCap" : Str)))]))
def b_law_1b_19 : Sm :=
  (sApp 10 (eOp dTup [.v (eC (.int 4)), .v (eOp dTup [.v (eVar 4), .v (eVar 8)]), .v (eC (.str ("NoFive" : Str)))]))
def b_law_1b_20 : Sm :=
  (sApp 10 (eOp dTup [.v (eC (.int 5)), .v (eOp dTup [.v (eVar 7), .v (eVar 5)]), .v (eC (.str ("NoCap" : Str)))]))
def b_law_1b_21b_1 : Sm :=
  (sSet 15 (eOp gRepr [.v (eVar 13)]))
def b_law_1b_21b_2 : Sm :=
  (sIf (tOrF (tOf (eOp gNe [.v (eCall [false, false] f_law_said [.v (eVar 12), .v (eVar 13)]), .v (eOp dLst [.v (eVar 14), .v (eC (.str ("value" : Str)))])])) (tOf (eOp gNe [.v (eOp gRepr [.v (eVar 13)]), .v (eVar 15)])))
  (sRt (eC (.bool false)))
  sNx)
def b_law_1b_21b : Sm :=
  (sSeq b_law_1b_21b_1
  b_law_1b_21b_2)
def b_law_1b_21 : Sm :=
  (sFor (fiSeq (eVar 10)) (gtTup 3 (gtCons (gtName 12) (gtCons (gtName 13) (gtCons (gtName 14) gtNil))))
  b_law_1b_21b)
def b_law_1b_22 : Sm :=
  (sSet 11 (eOp dLst [.v (eOp dTup [.v (eC (.int 0)), .v (eOp dTup [.v (eVar 3), .v (eVar 4)])]), .v (eOp dTup [.v (eC (.int 1)), .v (eOp dTup [.v (eVar 3), .v (eVar 4)])]), .v (eOp dTup [.v (eC (.int 2)), .v (eOp dTup [.v (eVar 4), .v (eVar 5), .v (eVar 4)])]), .v (eOp dTup [.v (eC (.int 3)), .v (eOp dTup [.v (eVar 4), .v (eVar 5), .v (eVar 5)])])]))
def b_law_1b_23b : Sm :=
  (sIf (tOf (eOp gNe [.v (eCall [false, false] f_law_said [.v (eVar 12), .v (eVar 13)]), .v (eOp dLst [])]))
  (sRt (eC (.bool false)))
  sNx)
def b_law_1b_23 : Sm :=
  (sFor (fiSeq (eOp gAdd [.v (eVar 11), .v (eOp dLst [.v (eOp dTup [.v (eC (.int 4)), .v (eOp dTup [.v (eVar 4), .v (eVar 5)])]), .v (eOp dTup [.v (eC (.int 5)), .v (eOp dTup [.v (eVar 4), .v (eVar 8)])])])])) (gtTup 2 (gtCons (gtName 12) (gtCons (gtName 13) gtNil)))
  b_law_1b_23b)
def b_law_1b_t22 : Sm :=
  (sSeq b_law_1b_22
  b_law_1b_23)
def b_law_1b_t21 : Sm :=
  (sSeq b_law_1b_21
  b_law_1b_t22)
def b_law_1b_t20 : Sm :=
  (sSeq b_law_1b_20
  b_law_1b_t21)
def b_law_1b_t19 : Sm :=
  (sSeq b_law_1b_19
  b_law_1b_t20)
def b_law_1b_t18 : Sm :=
  (sSeq b_law_1b_18
  b_law_1b_t19)
def b_law_1b_t17 : Sm :=
  (sSeq b_law_1b_17
  b_law_1b_t18)
def b_law_1b_t16 : Sm :=
  (sSeq b_law_1b_16
  b_law_1b_t17)
def b_law_1b_t15 : Sm :=
  (sSeq b_law_1b_15
  b_law_1b_t16)
def b_law_1b_t14 : Sm :=
  (sSeq b_law_1b_14
  b_law_1b_t15)
def b_law_1b_t13 : Sm :=
  (sSeq b_law_1b_13
  b_law_1b_t14)
def b_law_1b_t12 : Sm :=
  (sSeq b_law_1b_12
  b_law_1b_t13)
def b_law_1b_t11 : Sm :=
  (sSeq b_law_1b_11
  b_law_1b_t12)
def b_law_1b_t10 : Sm :=
  (sSeq b_law_1b_10
  b_law_1b_t11)
def b_law_1b_t9 : Sm :=
  (sSeq b_law_1b_9
  b_law_1b_t10)
def b_law_1b_t8 : Sm :=
  (sSeq b_law_1b_8
  b_law_1b_t9)
def b_law_1b_t7 : Sm :=
  (sSeq b_law_1b_7
  b_law_1b_t8)
def b_law_1b_t6 : Sm :=
  (sSeq b_law_1b_6
  b_law_1b_t7)
def b_law_1b_t5 : Sm :=
  (sSeq b_law_1b_5
  b_law_1b_t6)
def b_law_1b_t4 : Sm :=
  (sSeq b_law_1b_4
  b_law_1b_t5)
def b_law_1b_t3 : Sm :=
  (sSeq b_law_1b_3
  b_law_1b_t4)
def b_law_1b_t2 : Sm :=
  (sSeq b_law_1b_2
  b_law_1b_t3)
def b_law_1b : Sm :=
  (sSeq b_law_1b_1
  b_law_1b_t2)
def b_law_1 : Sm :=
  (sFor (fiRng1 (.v (eOp gMax2 [.v (eC (.int 1)), .v (eOp gMin2 [.v (eC (.int 6)), .v (eOp gLen [.v (eVar 0)])])]))) (gtName 1)
  b_law_1b)
def b_law_2 : Sm :=
  (sRt (eC (.bool true)))
def b_law : Sm :=
  (sSeq b_law_1
  b_law_2)
def f_law : List PyData → FR := runF [false] 16 b_law
structure TxtD (K : PySem.W.Frag) (mg : Str → Option Value) where
  is_whole : DefT K mg "is_whole" s_is_whole ["thing"]
  end_of : DefT K mg "end_of" s_end_of ["five", "start"]
  five_of_day : DefT K mg "five_of_day" s_five_of_day ["cap", "day"]
  law_cell_at : DefT K mg "_law_cell_at" s_law_cell_at ["script", "k"]
  law_bag : DefT K mg "_law_bag" s_law_bag ["cell"]
  law_draw : DefT K mg "_law_draw" s_law_draw ["bag", "sides"]
  law_words : DefT K mg "_law_words" s_law_words ["e"]
  is_amount : DefT K mg "is_amount" s_is_amount ["thing"]
  is_days : DefT K mg "is_days" s_is_days ["thing"]
  put_behind : DefT K mg "put_behind" s_put_behind ["one", "two"]
  led_by : DefT K mg "led_by" s_led_by ["five", "start"]
  law_size : DefT K mg "_law_size" s_law_size ["bag", "kind"]
  law_cap : DefT K mg "_law_cap" s_law_cap ["bag", "line"]
  law_no_days : DefT K mg "_law_no_days" s_law_no_days ["bag"]
  law_no_amount : DefT K mg "_law_no_amount" s_law_no_amount ["bag"]
  law_no_five : DefT K mg "_law_no_five" s_law_no_five ["bag", "room"]
  need_days : DefT K mg "need_days" s_need_days ["days"]
  need_cap : DefT K mg "need_cap" s_need_cap ["cap"]
  need_start : DefT K mg "need_start" s_need_start ["cap", "start"]
  five_of : DefT K mg "five_of" s_five_of ["days", "cap"]
  law_row : DefT K mg "_law_row" s_law_row ["bag", "longest"]
  is_five : DefT K mg "is_five" s_is_five ["cap", "thing"]
  five : DefT K mg "five" s_five ["days", "cap"]
  need_five : DefT K mg "need_five" s_need_five ["cap", "thing"]
  ends_from : DefT K mg "ends_from" s_ends_from ["days", "cap"]
  led : DefT K mg "led" s_led ["cap", "five", "start"]
  joined : DefT K mg "joined" s_joined ["cap", "five", "other"]
  few_days : DefT K mg "few_days" s_few_days ["cap", "five"]
  law_said : DefT K mg "_law_said" s_law_said ["door", "some"]
  law : DefT K mg "law" s_law ["script"]
structure TxtC (mg : Str → Option Value) where
  dummy : True
  NoDays : ClsT mg "NoDays"
  NoCap : ClsT mg "NoCap"
  NoStart : ClsT mg "NoStart"
  NoFive : ClsT mg "NoFive"
  NoMany : ClsT mg "NoMany"
  NoLot : ClsT mg "NoLot"
  NotBest : ClsT mg "NotBest"
  NoNumber : ClsT mg "NoNumber"
  NoMirror : ClsT mg "NoMirror"
  NoMost : ClsT mg "NoMost"
  NoCaps : ClsT mg "NoCaps"
  NoBounds : ClsT mg "NoBounds"
  NoLooks : ClsT mg "NoLooks"
  NoMoment : ClsT mg "NoMoment"
  NoContent : ClsT mg "NoContent"
  NoCore : ClsT mg "NoCore"
  NoText : ClsT mg "NoText"
  TooMany : ClsT mg "TooMany"
  TankError : ClsT mg "TankError"
structure TxtB (mg : Str → Option Value) : Prop where
  dummy : True
  n_ValueError : mg "ValueError" = none
  n_abs : mg "abs" = none
  n_all : mg "all" = none
  n_bool : mg "bool" = none
  n_enumerate : mg "enumerate" = none
  n_int : mg "int" = none
  n_isinstance : mg "isinstance" = none
  n_len : mg "len" = none
  n_list : mg "list" = none
  n_max : mg "max" = none
  n_min : mg "min" = none
  n_range : mg "range" = none
  n_repr : mg "repr" = none
  n_sorted : mg "sorted" = none
  n_sum : mg "sum" = none
  n_tuple : mg "tuple" = none
structure Su_NoDays (K : PySem.W.Frag) (mg : Str → Option Value) (C : TxtC mg) : Prop where
  su_TankError : PySem.W.subIn K (.ref C.NoDays.c) (.ref C.TankError.c) = some true
  su_NoDays : PySem.W.subIn K (.ref C.NoDays.c) (.ref C.NoDays.c) = some true
  su_NoCap : PySem.W.subIn K (.ref C.NoDays.c) (.ref C.NoCap.c) = some false
  su_NoStart : PySem.W.subIn K (.ref C.NoDays.c) (.ref C.NoStart.c) = some false
  su_NoMany : PySem.W.subIn K (.ref C.NoDays.c) (.ref C.NoMany.c) = some false
  su_NoLot : PySem.W.subIn K (.ref C.NoDays.c) (.ref C.NoLot.c) = some false
  su_NotBest : PySem.W.subIn K (.ref C.NoDays.c) (.ref C.NotBest.c) = some false
  su_NoNumber : PySem.W.subIn K (.ref C.NoDays.c) (.ref C.NoNumber.c) = some false
  su_NoMirror : PySem.W.subIn K (.ref C.NoDays.c) (.ref C.NoMirror.c) = some false
  su_NoMost : PySem.W.subIn K (.ref C.NoDays.c) (.ref C.NoMost.c) = some false
  su_NoFive : PySem.W.subIn K (.ref C.NoDays.c) (.ref C.NoFive.c) = some false
  su_NoCaps : PySem.W.subIn K (.ref C.NoDays.c) (.ref C.NoCaps.c) = some false
  su_NoBounds : PySem.W.subIn K (.ref C.NoDays.c) (.ref C.NoBounds.c) = some false
  su_NoLooks : PySem.W.subIn K (.ref C.NoDays.c) (.ref C.NoLooks.c) = some false
  su_NoMoment : PySem.W.subIn K (.ref C.NoDays.c) (.ref C.NoMoment.c) = some false
  su_NoContent : PySem.W.subIn K (.ref C.NoDays.c) (.ref C.NoContent.c) = some false
  su_NoCore : PySem.W.subIn K (.ref C.NoDays.c) (.ref C.NoCore.c) = some false
  su_NoText : PySem.W.subIn K (.ref C.NoDays.c) (.ref C.NoText.c) = some false
  su_TooMany : PySem.W.subIn K (.ref C.NoDays.c) (.ref C.TooMany.c) = some false
  su_ValueError : PySem.W.subIn K (.ref C.NoDays.c) (.type "ValueError") = some true
structure Su_NoCap (K : PySem.W.Frag) (mg : Str → Option Value) (C : TxtC mg) : Prop where
  su_TankError : PySem.W.subIn K (.ref C.NoCap.c) (.ref C.TankError.c) = some true
  su_NoDays : PySem.W.subIn K (.ref C.NoCap.c) (.ref C.NoDays.c) = some false
  su_NoCap : PySem.W.subIn K (.ref C.NoCap.c) (.ref C.NoCap.c) = some true
  su_NoStart : PySem.W.subIn K (.ref C.NoCap.c) (.ref C.NoStart.c) = some false
  su_NoMany : PySem.W.subIn K (.ref C.NoCap.c) (.ref C.NoMany.c) = some false
  su_NoLot : PySem.W.subIn K (.ref C.NoCap.c) (.ref C.NoLot.c) = some false
  su_NotBest : PySem.W.subIn K (.ref C.NoCap.c) (.ref C.NotBest.c) = some false
  su_NoNumber : PySem.W.subIn K (.ref C.NoCap.c) (.ref C.NoNumber.c) = some false
  su_NoMirror : PySem.W.subIn K (.ref C.NoCap.c) (.ref C.NoMirror.c) = some false
  su_NoMost : PySem.W.subIn K (.ref C.NoCap.c) (.ref C.NoMost.c) = some false
  su_NoFive : PySem.W.subIn K (.ref C.NoCap.c) (.ref C.NoFive.c) = some false
  su_NoCaps : PySem.W.subIn K (.ref C.NoCap.c) (.ref C.NoCaps.c) = some false
  su_NoBounds : PySem.W.subIn K (.ref C.NoCap.c) (.ref C.NoBounds.c) = some false
  su_NoLooks : PySem.W.subIn K (.ref C.NoCap.c) (.ref C.NoLooks.c) = some false
  su_NoMoment : PySem.W.subIn K (.ref C.NoCap.c) (.ref C.NoMoment.c) = some false
  su_NoContent : PySem.W.subIn K (.ref C.NoCap.c) (.ref C.NoContent.c) = some false
  su_NoCore : PySem.W.subIn K (.ref C.NoCap.c) (.ref C.NoCore.c) = some false
  su_NoText : PySem.W.subIn K (.ref C.NoCap.c) (.ref C.NoText.c) = some false
  su_TooMany : PySem.W.subIn K (.ref C.NoCap.c) (.ref C.TooMany.c) = some false
  su_ValueError : PySem.W.subIn K (.ref C.NoCap.c) (.type "ValueError") = some true
structure Su_NoStart (K : PySem.W.Frag) (mg : Str → Option Value) (C : TxtC mg) : Prop where
  su_TankError : PySem.W.subIn K (.ref C.NoStart.c) (.ref C.TankError.c) = some true
  su_NoDays : PySem.W.subIn K (.ref C.NoStart.c) (.ref C.NoDays.c) = some false
  su_NoCap : PySem.W.subIn K (.ref C.NoStart.c) (.ref C.NoCap.c) = some false
  su_NoStart : PySem.W.subIn K (.ref C.NoStart.c) (.ref C.NoStart.c) = some true
  su_NoMany : PySem.W.subIn K (.ref C.NoStart.c) (.ref C.NoMany.c) = some false
  su_NoLot : PySem.W.subIn K (.ref C.NoStart.c) (.ref C.NoLot.c) = some false
  su_NotBest : PySem.W.subIn K (.ref C.NoStart.c) (.ref C.NotBest.c) = some false
  su_NoNumber : PySem.W.subIn K (.ref C.NoStart.c) (.ref C.NoNumber.c) = some false
  su_NoMirror : PySem.W.subIn K (.ref C.NoStart.c) (.ref C.NoMirror.c) = some false
  su_NoMost : PySem.W.subIn K (.ref C.NoStart.c) (.ref C.NoMost.c) = some false
  su_NoFive : PySem.W.subIn K (.ref C.NoStart.c) (.ref C.NoFive.c) = some false
  su_NoCaps : PySem.W.subIn K (.ref C.NoStart.c) (.ref C.NoCaps.c) = some false
  su_NoBounds : PySem.W.subIn K (.ref C.NoStart.c) (.ref C.NoBounds.c) = some false
  su_NoLooks : PySem.W.subIn K (.ref C.NoStart.c) (.ref C.NoLooks.c) = some false
  su_NoMoment : PySem.W.subIn K (.ref C.NoStart.c) (.ref C.NoMoment.c) = some false
  su_NoContent : PySem.W.subIn K (.ref C.NoStart.c) (.ref C.NoContent.c) = some false
  su_NoCore : PySem.W.subIn K (.ref C.NoStart.c) (.ref C.NoCore.c) = some false
  su_NoText : PySem.W.subIn K (.ref C.NoStart.c) (.ref C.NoText.c) = some false
  su_TooMany : PySem.W.subIn K (.ref C.NoStart.c) (.ref C.TooMany.c) = some false
  su_ValueError : PySem.W.subIn K (.ref C.NoStart.c) (.type "ValueError") = some true
structure Su_NoFive (K : PySem.W.Frag) (mg : Str → Option Value) (C : TxtC mg) : Prop where
  su_TankError : PySem.W.subIn K (.ref C.NoFive.c) (.ref C.TankError.c) = some true
  su_NoDays : PySem.W.subIn K (.ref C.NoFive.c) (.ref C.NoDays.c) = some false
  su_NoCap : PySem.W.subIn K (.ref C.NoFive.c) (.ref C.NoCap.c) = some false
  su_NoStart : PySem.W.subIn K (.ref C.NoFive.c) (.ref C.NoStart.c) = some false
  su_NoMany : PySem.W.subIn K (.ref C.NoFive.c) (.ref C.NoMany.c) = some false
  su_NoLot : PySem.W.subIn K (.ref C.NoFive.c) (.ref C.NoLot.c) = some false
  su_NotBest : PySem.W.subIn K (.ref C.NoFive.c) (.ref C.NotBest.c) = some false
  su_NoNumber : PySem.W.subIn K (.ref C.NoFive.c) (.ref C.NoNumber.c) = some false
  su_NoMirror : PySem.W.subIn K (.ref C.NoFive.c) (.ref C.NoMirror.c) = some false
  su_NoMost : PySem.W.subIn K (.ref C.NoFive.c) (.ref C.NoMost.c) = some false
  su_NoFive : PySem.W.subIn K (.ref C.NoFive.c) (.ref C.NoFive.c) = some true
  su_NoCaps : PySem.W.subIn K (.ref C.NoFive.c) (.ref C.NoCaps.c) = some false
  su_NoBounds : PySem.W.subIn K (.ref C.NoFive.c) (.ref C.NoBounds.c) = some false
  su_NoLooks : PySem.W.subIn K (.ref C.NoFive.c) (.ref C.NoLooks.c) = some false
  su_NoMoment : PySem.W.subIn K (.ref C.NoFive.c) (.ref C.NoMoment.c) = some false
  su_NoContent : PySem.W.subIn K (.ref C.NoFive.c) (.ref C.NoContent.c) = some false
  su_NoCore : PySem.W.subIn K (.ref C.NoFive.c) (.ref C.NoCore.c) = some false
  su_NoText : PySem.W.subIn K (.ref C.NoFive.c) (.ref C.NoText.c) = some false
  su_TooMany : PySem.W.subIn K (.ref C.NoFive.c) (.ref C.TooMany.c) = some false
  su_ValueError : PySem.W.subIn K (.ref C.NoFive.c) (.type "ValueError") = some true
structure Txt (K : PySem.W.Frag) (mg : Str → Option Value) where
  D : TxtD K mg
  C : TxtC mg
  B : TxtB mg
  R_NoDays : RaiT K C.NoDays.c
  A_NoDays : AskT K C.NoDays.c
  U_NoDays : Su_NoDays K mg C
  R_NoCap : RaiT K C.NoCap.c
  A_NoCap : AskT K C.NoCap.c
  U_NoCap : Su_NoCap K mg C
  R_NoStart : RaiT K C.NoStart.c
  A_NoStart : AskT K C.NoStart.c
  U_NoStart : Su_NoStart K mg C
  R_NoFive : RaiT K C.NoFive.c
  A_NoFive : AskT K C.NoFive.c
  U_NoFive : Su_NoFive K mg C
  t_NoDays : TstT K C.NoDays.c
  t_NoCap : TstT K C.NoCap.c
  t_NoStart : TstT K C.NoStart.c
  t_NoMany : TstT K C.NoMany.c
  t_NoLot : TstT K C.NoLot.c
  t_NotBest : TstT K C.NotBest.c
  t_NoNumber : TstT K C.NoNumber.c
  t_NoMirror : TstT K C.NoMirror.c
  t_NoMost : TstT K C.NoMost.c
  t_NoFive : TstT K C.NoFive.c
  t_NoCaps : TstT K C.NoCaps.c
  t_NoBounds : TstT K C.NoBounds.c
  t_NoLooks : TstT K C.NoLooks.c
  t_NoMoment : TstT K C.NoMoment.c
  t_NoContent : TstT K C.NoContent.c
  t_NoCore : TstT K C.NoCore.c
  t_NoText : TstT K C.NoText.c
  t_TooMany : TstT K C.TooMany.c
  l_TankError : ClaT K C.TankError.c
  M : CmnT K
section
variable {P : Program} {w : World} {K : PySem.W.Frag} {mg : Str → Option Value} {base : Heap}
theorem tx_TankError (T : Txt K mg) : ∀ (x : Str) (C : Addr) (b : Bool), mg x = some (.ref C) → tb_TankError x = some b → PySem.W.exmOne K (.ref C) (.ref T.C.TankError.c) = some b := by
  intro x C b hC h
  refine PySem.W.exm_ref T.l_TankError.be T.l_TankError.hd T.l_TankError.ty ?_
  by_cases h_NoDays : x = "NoDays"
  · subst h_NoDays
    cases (T.C.NoDays.g.symm.trans hC)
    cases (Option.some.inj ((by decide : tb_TankError "NoDays" = some true).symm.trans h))
    exact T.U_NoDays.su_TankError
  by_cases h_NoCap : x = "NoCap"
  · subst h_NoCap
    cases (T.C.NoCap.g.symm.trans hC)
    cases (Option.some.inj ((by decide : tb_TankError "NoCap" = some true).symm.trans h))
    exact T.U_NoCap.su_TankError
  by_cases h_NoStart : x = "NoStart"
  · subst h_NoStart
    cases (T.C.NoStart.g.symm.trans hC)
    cases (Option.some.inj ((by decide : tb_TankError "NoStart" = some true).symm.trans h))
    exact T.U_NoStart.su_TankError
  by_cases h_NoFive : x = "NoFive"
  · subst h_NoFive
    cases (T.C.NoFive.g.symm.trans hC)
    cases (Option.some.inj ((by decide : tb_TankError "NoFive" = some true).symm.trans h))
    exact T.U_NoFive.su_TankError
  unfold tb_TankError at h
  rw [if_neg h_NoDays] at h
  rw [if_neg h_NoCap] at h
  rw [if_neg h_NoStart] at h
  rw [if_neg h_NoFive] at h
  cases h
theorem kt_NoDays (T : Txt K mg) {x : Str} {C : Addr} (hC : mg x = some (.ref C)) : ∀ b, tb_NoDays x = some b → PySem.W.kitOne K (.ref C) (.ref T.C.NoDays.c) = some b := by
  intro b h
  by_cases h_NoDays : x = "NoDays"
  · subst h_NoDays
    cases (T.C.NoDays.g.symm.trans hC)
    cases (Option.some.inj ((by decide : tb_NoDays "NoDays" = some true).symm.trans h))
    exact kit_ref T.t_NoDays.hd T.t_NoDays.ty T.t_NoDays.ss T.U_NoDays.su_NoDays
  by_cases h_NoCap : x = "NoCap"
  · subst h_NoCap
    cases (T.C.NoCap.g.symm.trans hC)
    cases (Option.some.inj ((by decide : tb_NoDays "NoCap" = some false).symm.trans h))
    exact kit_ref T.t_NoDays.hd T.t_NoDays.ty T.t_NoDays.ss T.U_NoCap.su_NoDays
  by_cases h_NoStart : x = "NoStart"
  · subst h_NoStart
    cases (T.C.NoStart.g.symm.trans hC)
    cases (Option.some.inj ((by decide : tb_NoDays "NoStart" = some false).symm.trans h))
    exact kit_ref T.t_NoDays.hd T.t_NoDays.ty T.t_NoDays.ss T.U_NoStart.su_NoDays
  by_cases h_NoFive : x = "NoFive"
  · subst h_NoFive
    cases (T.C.NoFive.g.symm.trans hC)
    cases (Option.some.inj ((by decide : tb_NoDays "NoFive" = some false).symm.trans h))
    exact kit_ref T.t_NoDays.hd T.t_NoDays.ty T.t_NoDays.ss T.U_NoFive.su_NoDays
  unfold tb_NoDays at h
  rw [if_neg h_NoDays] at h
  rw [if_neg h_NoCap] at h
  rw [if_neg h_NoStart] at h
  rw [if_neg h_NoFive] at h
  cases h
theorem kt_NoCap (T : Txt K mg) {x : Str} {C : Addr} (hC : mg x = some (.ref C)) : ∀ b, tb_NoCap x = some b → PySem.W.kitOne K (.ref C) (.ref T.C.NoCap.c) = some b := by
  intro b h
  by_cases h_NoDays : x = "NoDays"
  · subst h_NoDays
    cases (T.C.NoDays.g.symm.trans hC)
    cases (Option.some.inj ((by decide : tb_NoCap "NoDays" = some false).symm.trans h))
    exact kit_ref T.t_NoCap.hd T.t_NoCap.ty T.t_NoCap.ss T.U_NoDays.su_NoCap
  by_cases h_NoCap : x = "NoCap"
  · subst h_NoCap
    cases (T.C.NoCap.g.symm.trans hC)
    cases (Option.some.inj ((by decide : tb_NoCap "NoCap" = some true).symm.trans h))
    exact kit_ref T.t_NoCap.hd T.t_NoCap.ty T.t_NoCap.ss T.U_NoCap.su_NoCap
  by_cases h_NoStart : x = "NoStart"
  · subst h_NoStart
    cases (T.C.NoStart.g.symm.trans hC)
    cases (Option.some.inj ((by decide : tb_NoCap "NoStart" = some false).symm.trans h))
    exact kit_ref T.t_NoCap.hd T.t_NoCap.ty T.t_NoCap.ss T.U_NoStart.su_NoCap
  by_cases h_NoFive : x = "NoFive"
  · subst h_NoFive
    cases (T.C.NoFive.g.symm.trans hC)
    cases (Option.some.inj ((by decide : tb_NoCap "NoFive" = some false).symm.trans h))
    exact kit_ref T.t_NoCap.hd T.t_NoCap.ty T.t_NoCap.ss T.U_NoFive.su_NoCap
  unfold tb_NoCap at h
  rw [if_neg h_NoDays] at h
  rw [if_neg h_NoCap] at h
  rw [if_neg h_NoStart] at h
  rw [if_neg h_NoFive] at h
  cases h
theorem kt_NoStart (T : Txt K mg) {x : Str} {C : Addr} (hC : mg x = some (.ref C)) : ∀ b, tb_NoStart x = some b → PySem.W.kitOne K (.ref C) (.ref T.C.NoStart.c) = some b := by
  intro b h
  by_cases h_NoDays : x = "NoDays"
  · subst h_NoDays
    cases (T.C.NoDays.g.symm.trans hC)
    cases (Option.some.inj ((by decide : tb_NoStart "NoDays" = some false).symm.trans h))
    exact kit_ref T.t_NoStart.hd T.t_NoStart.ty T.t_NoStart.ss T.U_NoDays.su_NoStart
  by_cases h_NoCap : x = "NoCap"
  · subst h_NoCap
    cases (T.C.NoCap.g.symm.trans hC)
    cases (Option.some.inj ((by decide : tb_NoStart "NoCap" = some false).symm.trans h))
    exact kit_ref T.t_NoStart.hd T.t_NoStart.ty T.t_NoStart.ss T.U_NoCap.su_NoStart
  by_cases h_NoStart : x = "NoStart"
  · subst h_NoStart
    cases (T.C.NoStart.g.symm.trans hC)
    cases (Option.some.inj ((by decide : tb_NoStart "NoStart" = some true).symm.trans h))
    exact kit_ref T.t_NoStart.hd T.t_NoStart.ty T.t_NoStart.ss T.U_NoStart.su_NoStart
  by_cases h_NoFive : x = "NoFive"
  · subst h_NoFive
    cases (T.C.NoFive.g.symm.trans hC)
    cases (Option.some.inj ((by decide : tb_NoStart "NoFive" = some false).symm.trans h))
    exact kit_ref T.t_NoStart.hd T.t_NoStart.ty T.t_NoStart.ss T.U_NoFive.su_NoStart
  unfold tb_NoStart at h
  rw [if_neg h_NoDays] at h
  rw [if_neg h_NoCap] at h
  rw [if_neg h_NoStart] at h
  rw [if_neg h_NoFive] at h
  cases h
theorem kt_NoMany (T : Txt K mg) {x : Str} {C : Addr} (hC : mg x = some (.ref C)) : ∀ b, tb_NoMany x = some b → PySem.W.kitOne K (.ref C) (.ref T.C.NoMany.c) = some b := by
  intro b h
  by_cases h_NoDays : x = "NoDays"
  · subst h_NoDays
    cases (T.C.NoDays.g.symm.trans hC)
    cases (Option.some.inj ((by decide : tb_NoMany "NoDays" = some false).symm.trans h))
    exact kit_ref T.t_NoMany.hd T.t_NoMany.ty T.t_NoMany.ss T.U_NoDays.su_NoMany
  by_cases h_NoCap : x = "NoCap"
  · subst h_NoCap
    cases (T.C.NoCap.g.symm.trans hC)
    cases (Option.some.inj ((by decide : tb_NoMany "NoCap" = some false).symm.trans h))
    exact kit_ref T.t_NoMany.hd T.t_NoMany.ty T.t_NoMany.ss T.U_NoCap.su_NoMany
  by_cases h_NoStart : x = "NoStart"
  · subst h_NoStart
    cases (T.C.NoStart.g.symm.trans hC)
    cases (Option.some.inj ((by decide : tb_NoMany "NoStart" = some false).symm.trans h))
    exact kit_ref T.t_NoMany.hd T.t_NoMany.ty T.t_NoMany.ss T.U_NoStart.su_NoMany
  by_cases h_NoFive : x = "NoFive"
  · subst h_NoFive
    cases (T.C.NoFive.g.symm.trans hC)
    cases (Option.some.inj ((by decide : tb_NoMany "NoFive" = some false).symm.trans h))
    exact kit_ref T.t_NoMany.hd T.t_NoMany.ty T.t_NoMany.ss T.U_NoFive.su_NoMany
  unfold tb_NoMany at h
  rw [if_neg h_NoDays] at h
  rw [if_neg h_NoCap] at h
  rw [if_neg h_NoStart] at h
  rw [if_neg h_NoFive] at h
  cases h
theorem kt_NoLot (T : Txt K mg) {x : Str} {C : Addr} (hC : mg x = some (.ref C)) : ∀ b, tb_NoLot x = some b → PySem.W.kitOne K (.ref C) (.ref T.C.NoLot.c) = some b := by
  intro b h
  by_cases h_NoDays : x = "NoDays"
  · subst h_NoDays
    cases (T.C.NoDays.g.symm.trans hC)
    cases (Option.some.inj ((by decide : tb_NoLot "NoDays" = some false).symm.trans h))
    exact kit_ref T.t_NoLot.hd T.t_NoLot.ty T.t_NoLot.ss T.U_NoDays.su_NoLot
  by_cases h_NoCap : x = "NoCap"
  · subst h_NoCap
    cases (T.C.NoCap.g.symm.trans hC)
    cases (Option.some.inj ((by decide : tb_NoLot "NoCap" = some false).symm.trans h))
    exact kit_ref T.t_NoLot.hd T.t_NoLot.ty T.t_NoLot.ss T.U_NoCap.su_NoLot
  by_cases h_NoStart : x = "NoStart"
  · subst h_NoStart
    cases (T.C.NoStart.g.symm.trans hC)
    cases (Option.some.inj ((by decide : tb_NoLot "NoStart" = some false).symm.trans h))
    exact kit_ref T.t_NoLot.hd T.t_NoLot.ty T.t_NoLot.ss T.U_NoStart.su_NoLot
  by_cases h_NoFive : x = "NoFive"
  · subst h_NoFive
    cases (T.C.NoFive.g.symm.trans hC)
    cases (Option.some.inj ((by decide : tb_NoLot "NoFive" = some false).symm.trans h))
    exact kit_ref T.t_NoLot.hd T.t_NoLot.ty T.t_NoLot.ss T.U_NoFive.su_NoLot
  unfold tb_NoLot at h
  rw [if_neg h_NoDays] at h
  rw [if_neg h_NoCap] at h
  rw [if_neg h_NoStart] at h
  rw [if_neg h_NoFive] at h
  cases h
theorem kt_NotBest (T : Txt K mg) {x : Str} {C : Addr} (hC : mg x = some (.ref C)) : ∀ b, tb_NotBest x = some b → PySem.W.kitOne K (.ref C) (.ref T.C.NotBest.c) = some b := by
  intro b h
  by_cases h_NoDays : x = "NoDays"
  · subst h_NoDays
    cases (T.C.NoDays.g.symm.trans hC)
    cases (Option.some.inj ((by decide : tb_NotBest "NoDays" = some false).symm.trans h))
    exact kit_ref T.t_NotBest.hd T.t_NotBest.ty T.t_NotBest.ss T.U_NoDays.su_NotBest
  by_cases h_NoCap : x = "NoCap"
  · subst h_NoCap
    cases (T.C.NoCap.g.symm.trans hC)
    cases (Option.some.inj ((by decide : tb_NotBest "NoCap" = some false).symm.trans h))
    exact kit_ref T.t_NotBest.hd T.t_NotBest.ty T.t_NotBest.ss T.U_NoCap.su_NotBest
  by_cases h_NoStart : x = "NoStart"
  · subst h_NoStart
    cases (T.C.NoStart.g.symm.trans hC)
    cases (Option.some.inj ((by decide : tb_NotBest "NoStart" = some false).symm.trans h))
    exact kit_ref T.t_NotBest.hd T.t_NotBest.ty T.t_NotBest.ss T.U_NoStart.su_NotBest
  by_cases h_NoFive : x = "NoFive"
  · subst h_NoFive
    cases (T.C.NoFive.g.symm.trans hC)
    cases (Option.some.inj ((by decide : tb_NotBest "NoFive" = some false).symm.trans h))
    exact kit_ref T.t_NotBest.hd T.t_NotBest.ty T.t_NotBest.ss T.U_NoFive.su_NotBest
  unfold tb_NotBest at h
  rw [if_neg h_NoDays] at h
  rw [if_neg h_NoCap] at h
  rw [if_neg h_NoStart] at h
  rw [if_neg h_NoFive] at h
  cases h
theorem kt_NoNumber (T : Txt K mg) {x : Str} {C : Addr} (hC : mg x = some (.ref C)) : ∀ b, tb_NoNumber x = some b → PySem.W.kitOne K (.ref C) (.ref T.C.NoNumber.c) = some b := by
  intro b h
  by_cases h_NoDays : x = "NoDays"
  · subst h_NoDays
    cases (T.C.NoDays.g.symm.trans hC)
    cases (Option.some.inj ((by decide : tb_NoNumber "NoDays" = some false).symm.trans h))
    exact kit_ref T.t_NoNumber.hd T.t_NoNumber.ty T.t_NoNumber.ss T.U_NoDays.su_NoNumber
  by_cases h_NoCap : x = "NoCap"
  · subst h_NoCap
    cases (T.C.NoCap.g.symm.trans hC)
    cases (Option.some.inj ((by decide : tb_NoNumber "NoCap" = some false).symm.trans h))
    exact kit_ref T.t_NoNumber.hd T.t_NoNumber.ty T.t_NoNumber.ss T.U_NoCap.su_NoNumber
  by_cases h_NoStart : x = "NoStart"
  · subst h_NoStart
    cases (T.C.NoStart.g.symm.trans hC)
    cases (Option.some.inj ((by decide : tb_NoNumber "NoStart" = some false).symm.trans h))
    exact kit_ref T.t_NoNumber.hd T.t_NoNumber.ty T.t_NoNumber.ss T.U_NoStart.su_NoNumber
  by_cases h_NoFive : x = "NoFive"
  · subst h_NoFive
    cases (T.C.NoFive.g.symm.trans hC)
    cases (Option.some.inj ((by decide : tb_NoNumber "NoFive" = some false).symm.trans h))
    exact kit_ref T.t_NoNumber.hd T.t_NoNumber.ty T.t_NoNumber.ss T.U_NoFive.su_NoNumber
  unfold tb_NoNumber at h
  rw [if_neg h_NoDays] at h
  rw [if_neg h_NoCap] at h
  rw [if_neg h_NoStart] at h
  rw [if_neg h_NoFive] at h
  cases h
theorem kt_NoMirror (T : Txt K mg) {x : Str} {C : Addr} (hC : mg x = some (.ref C)) : ∀ b, tb_NoMirror x = some b → PySem.W.kitOne K (.ref C) (.ref T.C.NoMirror.c) = some b := by
  intro b h
  by_cases h_NoDays : x = "NoDays"
  · subst h_NoDays
    cases (T.C.NoDays.g.symm.trans hC)
    cases (Option.some.inj ((by decide : tb_NoMirror "NoDays" = some false).symm.trans h))
    exact kit_ref T.t_NoMirror.hd T.t_NoMirror.ty T.t_NoMirror.ss T.U_NoDays.su_NoMirror
  by_cases h_NoCap : x = "NoCap"
  · subst h_NoCap
    cases (T.C.NoCap.g.symm.trans hC)
    cases (Option.some.inj ((by decide : tb_NoMirror "NoCap" = some false).symm.trans h))
    exact kit_ref T.t_NoMirror.hd T.t_NoMirror.ty T.t_NoMirror.ss T.U_NoCap.su_NoMirror
  by_cases h_NoStart : x = "NoStart"
  · subst h_NoStart
    cases (T.C.NoStart.g.symm.trans hC)
    cases (Option.some.inj ((by decide : tb_NoMirror "NoStart" = some false).symm.trans h))
    exact kit_ref T.t_NoMirror.hd T.t_NoMirror.ty T.t_NoMirror.ss T.U_NoStart.su_NoMirror
  by_cases h_NoFive : x = "NoFive"
  · subst h_NoFive
    cases (T.C.NoFive.g.symm.trans hC)
    cases (Option.some.inj ((by decide : tb_NoMirror "NoFive" = some false).symm.trans h))
    exact kit_ref T.t_NoMirror.hd T.t_NoMirror.ty T.t_NoMirror.ss T.U_NoFive.su_NoMirror
  unfold tb_NoMirror at h
  rw [if_neg h_NoDays] at h
  rw [if_neg h_NoCap] at h
  rw [if_neg h_NoStart] at h
  rw [if_neg h_NoFive] at h
  cases h
theorem kt_NoMost (T : Txt K mg) {x : Str} {C : Addr} (hC : mg x = some (.ref C)) : ∀ b, tb_NoMost x = some b → PySem.W.kitOne K (.ref C) (.ref T.C.NoMost.c) = some b := by
  intro b h
  by_cases h_NoDays : x = "NoDays"
  · subst h_NoDays
    cases (T.C.NoDays.g.symm.trans hC)
    cases (Option.some.inj ((by decide : tb_NoMost "NoDays" = some false).symm.trans h))
    exact kit_ref T.t_NoMost.hd T.t_NoMost.ty T.t_NoMost.ss T.U_NoDays.su_NoMost
  by_cases h_NoCap : x = "NoCap"
  · subst h_NoCap
    cases (T.C.NoCap.g.symm.trans hC)
    cases (Option.some.inj ((by decide : tb_NoMost "NoCap" = some false).symm.trans h))
    exact kit_ref T.t_NoMost.hd T.t_NoMost.ty T.t_NoMost.ss T.U_NoCap.su_NoMost
  by_cases h_NoStart : x = "NoStart"
  · subst h_NoStart
    cases (T.C.NoStart.g.symm.trans hC)
    cases (Option.some.inj ((by decide : tb_NoMost "NoStart" = some false).symm.trans h))
    exact kit_ref T.t_NoMost.hd T.t_NoMost.ty T.t_NoMost.ss T.U_NoStart.su_NoMost
  by_cases h_NoFive : x = "NoFive"
  · subst h_NoFive
    cases (T.C.NoFive.g.symm.trans hC)
    cases (Option.some.inj ((by decide : tb_NoMost "NoFive" = some false).symm.trans h))
    exact kit_ref T.t_NoMost.hd T.t_NoMost.ty T.t_NoMost.ss T.U_NoFive.su_NoMost
  unfold tb_NoMost at h
  rw [if_neg h_NoDays] at h
  rw [if_neg h_NoCap] at h
  rw [if_neg h_NoStart] at h
  rw [if_neg h_NoFive] at h
  cases h
theorem kt_NoFive (T : Txt K mg) {x : Str} {C : Addr} (hC : mg x = some (.ref C)) : ∀ b, tb_NoFive x = some b → PySem.W.kitOne K (.ref C) (.ref T.C.NoFive.c) = some b := by
  intro b h
  by_cases h_NoDays : x = "NoDays"
  · subst h_NoDays
    cases (T.C.NoDays.g.symm.trans hC)
    cases (Option.some.inj ((by decide : tb_NoFive "NoDays" = some false).symm.trans h))
    exact kit_ref T.t_NoFive.hd T.t_NoFive.ty T.t_NoFive.ss T.U_NoDays.su_NoFive
  by_cases h_NoCap : x = "NoCap"
  · subst h_NoCap
    cases (T.C.NoCap.g.symm.trans hC)
    cases (Option.some.inj ((by decide : tb_NoFive "NoCap" = some false).symm.trans h))
    exact kit_ref T.t_NoFive.hd T.t_NoFive.ty T.t_NoFive.ss T.U_NoCap.su_NoFive
  by_cases h_NoStart : x = "NoStart"
  · subst h_NoStart
    cases (T.C.NoStart.g.symm.trans hC)
    cases (Option.some.inj ((by decide : tb_NoFive "NoStart" = some false).symm.trans h))
    exact kit_ref T.t_NoFive.hd T.t_NoFive.ty T.t_NoFive.ss T.U_NoStart.su_NoFive
  by_cases h_NoFive : x = "NoFive"
  · subst h_NoFive
    cases (T.C.NoFive.g.symm.trans hC)
    cases (Option.some.inj ((by decide : tb_NoFive "NoFive" = some true).symm.trans h))
    exact kit_ref T.t_NoFive.hd T.t_NoFive.ty T.t_NoFive.ss T.U_NoFive.su_NoFive
  unfold tb_NoFive at h
  rw [if_neg h_NoDays] at h
  rw [if_neg h_NoCap] at h
  rw [if_neg h_NoStart] at h
  rw [if_neg h_NoFive] at h
  cases h
theorem kt_NoCaps (T : Txt K mg) {x : Str} {C : Addr} (hC : mg x = some (.ref C)) : ∀ b, tb_NoCaps x = some b → PySem.W.kitOne K (.ref C) (.ref T.C.NoCaps.c) = some b := by
  intro b h
  by_cases h_NoDays : x = "NoDays"
  · subst h_NoDays
    cases (T.C.NoDays.g.symm.trans hC)
    cases (Option.some.inj ((by decide : tb_NoCaps "NoDays" = some false).symm.trans h))
    exact kit_ref T.t_NoCaps.hd T.t_NoCaps.ty T.t_NoCaps.ss T.U_NoDays.su_NoCaps
  by_cases h_NoCap : x = "NoCap"
  · subst h_NoCap
    cases (T.C.NoCap.g.symm.trans hC)
    cases (Option.some.inj ((by decide : tb_NoCaps "NoCap" = some false).symm.trans h))
    exact kit_ref T.t_NoCaps.hd T.t_NoCaps.ty T.t_NoCaps.ss T.U_NoCap.su_NoCaps
  by_cases h_NoStart : x = "NoStart"
  · subst h_NoStart
    cases (T.C.NoStart.g.symm.trans hC)
    cases (Option.some.inj ((by decide : tb_NoCaps "NoStart" = some false).symm.trans h))
    exact kit_ref T.t_NoCaps.hd T.t_NoCaps.ty T.t_NoCaps.ss T.U_NoStart.su_NoCaps
  by_cases h_NoFive : x = "NoFive"
  · subst h_NoFive
    cases (T.C.NoFive.g.symm.trans hC)
    cases (Option.some.inj ((by decide : tb_NoCaps "NoFive" = some false).symm.trans h))
    exact kit_ref T.t_NoCaps.hd T.t_NoCaps.ty T.t_NoCaps.ss T.U_NoFive.su_NoCaps
  unfold tb_NoCaps at h
  rw [if_neg h_NoDays] at h
  rw [if_neg h_NoCap] at h
  rw [if_neg h_NoStart] at h
  rw [if_neg h_NoFive] at h
  cases h
theorem kt_NoBounds (T : Txt K mg) {x : Str} {C : Addr} (hC : mg x = some (.ref C)) : ∀ b, tb_NoBounds x = some b → PySem.W.kitOne K (.ref C) (.ref T.C.NoBounds.c) = some b := by
  intro b h
  by_cases h_NoDays : x = "NoDays"
  · subst h_NoDays
    cases (T.C.NoDays.g.symm.trans hC)
    cases (Option.some.inj ((by decide : tb_NoBounds "NoDays" = some false).symm.trans h))
    exact kit_ref T.t_NoBounds.hd T.t_NoBounds.ty T.t_NoBounds.ss T.U_NoDays.su_NoBounds
  by_cases h_NoCap : x = "NoCap"
  · subst h_NoCap
    cases (T.C.NoCap.g.symm.trans hC)
    cases (Option.some.inj ((by decide : tb_NoBounds "NoCap" = some false).symm.trans h))
    exact kit_ref T.t_NoBounds.hd T.t_NoBounds.ty T.t_NoBounds.ss T.U_NoCap.su_NoBounds
  by_cases h_NoStart : x = "NoStart"
  · subst h_NoStart
    cases (T.C.NoStart.g.symm.trans hC)
    cases (Option.some.inj ((by decide : tb_NoBounds "NoStart" = some false).symm.trans h))
    exact kit_ref T.t_NoBounds.hd T.t_NoBounds.ty T.t_NoBounds.ss T.U_NoStart.su_NoBounds
  by_cases h_NoFive : x = "NoFive"
  · subst h_NoFive
    cases (T.C.NoFive.g.symm.trans hC)
    cases (Option.some.inj ((by decide : tb_NoBounds "NoFive" = some false).symm.trans h))
    exact kit_ref T.t_NoBounds.hd T.t_NoBounds.ty T.t_NoBounds.ss T.U_NoFive.su_NoBounds
  unfold tb_NoBounds at h
  rw [if_neg h_NoDays] at h
  rw [if_neg h_NoCap] at h
  rw [if_neg h_NoStart] at h
  rw [if_neg h_NoFive] at h
  cases h
theorem kt_NoLooks (T : Txt K mg) {x : Str} {C : Addr} (hC : mg x = some (.ref C)) : ∀ b, tb_NoLooks x = some b → PySem.W.kitOne K (.ref C) (.ref T.C.NoLooks.c) = some b := by
  intro b h
  by_cases h_NoDays : x = "NoDays"
  · subst h_NoDays
    cases (T.C.NoDays.g.symm.trans hC)
    cases (Option.some.inj ((by decide : tb_NoLooks "NoDays" = some false).symm.trans h))
    exact kit_ref T.t_NoLooks.hd T.t_NoLooks.ty T.t_NoLooks.ss T.U_NoDays.su_NoLooks
  by_cases h_NoCap : x = "NoCap"
  · subst h_NoCap
    cases (T.C.NoCap.g.symm.trans hC)
    cases (Option.some.inj ((by decide : tb_NoLooks "NoCap" = some false).symm.trans h))
    exact kit_ref T.t_NoLooks.hd T.t_NoLooks.ty T.t_NoLooks.ss T.U_NoCap.su_NoLooks
  by_cases h_NoStart : x = "NoStart"
  · subst h_NoStart
    cases (T.C.NoStart.g.symm.trans hC)
    cases (Option.some.inj ((by decide : tb_NoLooks "NoStart" = some false).symm.trans h))
    exact kit_ref T.t_NoLooks.hd T.t_NoLooks.ty T.t_NoLooks.ss T.U_NoStart.su_NoLooks
  by_cases h_NoFive : x = "NoFive"
  · subst h_NoFive
    cases (T.C.NoFive.g.symm.trans hC)
    cases (Option.some.inj ((by decide : tb_NoLooks "NoFive" = some false).symm.trans h))
    exact kit_ref T.t_NoLooks.hd T.t_NoLooks.ty T.t_NoLooks.ss T.U_NoFive.su_NoLooks
  unfold tb_NoLooks at h
  rw [if_neg h_NoDays] at h
  rw [if_neg h_NoCap] at h
  rw [if_neg h_NoStart] at h
  rw [if_neg h_NoFive] at h
  cases h
theorem kt_NoMoment (T : Txt K mg) {x : Str} {C : Addr} (hC : mg x = some (.ref C)) : ∀ b, tb_NoMoment x = some b → PySem.W.kitOne K (.ref C) (.ref T.C.NoMoment.c) = some b := by
  intro b h
  by_cases h_NoDays : x = "NoDays"
  · subst h_NoDays
    cases (T.C.NoDays.g.symm.trans hC)
    cases (Option.some.inj ((by decide : tb_NoMoment "NoDays" = some false).symm.trans h))
    exact kit_ref T.t_NoMoment.hd T.t_NoMoment.ty T.t_NoMoment.ss T.U_NoDays.su_NoMoment
  by_cases h_NoCap : x = "NoCap"
  · subst h_NoCap
    cases (T.C.NoCap.g.symm.trans hC)
    cases (Option.some.inj ((by decide : tb_NoMoment "NoCap" = some false).symm.trans h))
    exact kit_ref T.t_NoMoment.hd T.t_NoMoment.ty T.t_NoMoment.ss T.U_NoCap.su_NoMoment
  by_cases h_NoStart : x = "NoStart"
  · subst h_NoStart
    cases (T.C.NoStart.g.symm.trans hC)
    cases (Option.some.inj ((by decide : tb_NoMoment "NoStart" = some false).symm.trans h))
    exact kit_ref T.t_NoMoment.hd T.t_NoMoment.ty T.t_NoMoment.ss T.U_NoStart.su_NoMoment
  by_cases h_NoFive : x = "NoFive"
  · subst h_NoFive
    cases (T.C.NoFive.g.symm.trans hC)
    cases (Option.some.inj ((by decide : tb_NoMoment "NoFive" = some false).symm.trans h))
    exact kit_ref T.t_NoMoment.hd T.t_NoMoment.ty T.t_NoMoment.ss T.U_NoFive.su_NoMoment
  unfold tb_NoMoment at h
  rw [if_neg h_NoDays] at h
  rw [if_neg h_NoCap] at h
  rw [if_neg h_NoStart] at h
  rw [if_neg h_NoFive] at h
  cases h
theorem kt_NoContent (T : Txt K mg) {x : Str} {C : Addr} (hC : mg x = some (.ref C)) : ∀ b, tb_NoContent x = some b → PySem.W.kitOne K (.ref C) (.ref T.C.NoContent.c) = some b := by
  intro b h
  by_cases h_NoDays : x = "NoDays"
  · subst h_NoDays
    cases (T.C.NoDays.g.symm.trans hC)
    cases (Option.some.inj ((by decide : tb_NoContent "NoDays" = some false).symm.trans h))
    exact kit_ref T.t_NoContent.hd T.t_NoContent.ty T.t_NoContent.ss T.U_NoDays.su_NoContent
  by_cases h_NoCap : x = "NoCap"
  · subst h_NoCap
    cases (T.C.NoCap.g.symm.trans hC)
    cases (Option.some.inj ((by decide : tb_NoContent "NoCap" = some false).symm.trans h))
    exact kit_ref T.t_NoContent.hd T.t_NoContent.ty T.t_NoContent.ss T.U_NoCap.su_NoContent
  by_cases h_NoStart : x = "NoStart"
  · subst h_NoStart
    cases (T.C.NoStart.g.symm.trans hC)
    cases (Option.some.inj ((by decide : tb_NoContent "NoStart" = some false).symm.trans h))
    exact kit_ref T.t_NoContent.hd T.t_NoContent.ty T.t_NoContent.ss T.U_NoStart.su_NoContent
  by_cases h_NoFive : x = "NoFive"
  · subst h_NoFive
    cases (T.C.NoFive.g.symm.trans hC)
    cases (Option.some.inj ((by decide : tb_NoContent "NoFive" = some false).symm.trans h))
    exact kit_ref T.t_NoContent.hd T.t_NoContent.ty T.t_NoContent.ss T.U_NoFive.su_NoContent
  unfold tb_NoContent at h
  rw [if_neg h_NoDays] at h
  rw [if_neg h_NoCap] at h
  rw [if_neg h_NoStart] at h
  rw [if_neg h_NoFive] at h
  cases h
theorem kt_NoCore (T : Txt K mg) {x : Str} {C : Addr} (hC : mg x = some (.ref C)) : ∀ b, tb_NoCore x = some b → PySem.W.kitOne K (.ref C) (.ref T.C.NoCore.c) = some b := by
  intro b h
  by_cases h_NoDays : x = "NoDays"
  · subst h_NoDays
    cases (T.C.NoDays.g.symm.trans hC)
    cases (Option.some.inj ((by decide : tb_NoCore "NoDays" = some false).symm.trans h))
    exact kit_ref T.t_NoCore.hd T.t_NoCore.ty T.t_NoCore.ss T.U_NoDays.su_NoCore
  by_cases h_NoCap : x = "NoCap"
  · subst h_NoCap
    cases (T.C.NoCap.g.symm.trans hC)
    cases (Option.some.inj ((by decide : tb_NoCore "NoCap" = some false).symm.trans h))
    exact kit_ref T.t_NoCore.hd T.t_NoCore.ty T.t_NoCore.ss T.U_NoCap.su_NoCore
  by_cases h_NoStart : x = "NoStart"
  · subst h_NoStart
    cases (T.C.NoStart.g.symm.trans hC)
    cases (Option.some.inj ((by decide : tb_NoCore "NoStart" = some false).symm.trans h))
    exact kit_ref T.t_NoCore.hd T.t_NoCore.ty T.t_NoCore.ss T.U_NoStart.su_NoCore
  by_cases h_NoFive : x = "NoFive"
  · subst h_NoFive
    cases (T.C.NoFive.g.symm.trans hC)
    cases (Option.some.inj ((by decide : tb_NoCore "NoFive" = some false).symm.trans h))
    exact kit_ref T.t_NoCore.hd T.t_NoCore.ty T.t_NoCore.ss T.U_NoFive.su_NoCore
  unfold tb_NoCore at h
  rw [if_neg h_NoDays] at h
  rw [if_neg h_NoCap] at h
  rw [if_neg h_NoStart] at h
  rw [if_neg h_NoFive] at h
  cases h
theorem kt_NoText (T : Txt K mg) {x : Str} {C : Addr} (hC : mg x = some (.ref C)) : ∀ b, tb_NoText x = some b → PySem.W.kitOne K (.ref C) (.ref T.C.NoText.c) = some b := by
  intro b h
  by_cases h_NoDays : x = "NoDays"
  · subst h_NoDays
    cases (T.C.NoDays.g.symm.trans hC)
    cases (Option.some.inj ((by decide : tb_NoText "NoDays" = some false).symm.trans h))
    exact kit_ref T.t_NoText.hd T.t_NoText.ty T.t_NoText.ss T.U_NoDays.su_NoText
  by_cases h_NoCap : x = "NoCap"
  · subst h_NoCap
    cases (T.C.NoCap.g.symm.trans hC)
    cases (Option.some.inj ((by decide : tb_NoText "NoCap" = some false).symm.trans h))
    exact kit_ref T.t_NoText.hd T.t_NoText.ty T.t_NoText.ss T.U_NoCap.su_NoText
  by_cases h_NoStart : x = "NoStart"
  · subst h_NoStart
    cases (T.C.NoStart.g.symm.trans hC)
    cases (Option.some.inj ((by decide : tb_NoText "NoStart" = some false).symm.trans h))
    exact kit_ref T.t_NoText.hd T.t_NoText.ty T.t_NoText.ss T.U_NoStart.su_NoText
  by_cases h_NoFive : x = "NoFive"
  · subst h_NoFive
    cases (T.C.NoFive.g.symm.trans hC)
    cases (Option.some.inj ((by decide : tb_NoText "NoFive" = some false).symm.trans h))
    exact kit_ref T.t_NoText.hd T.t_NoText.ty T.t_NoText.ss T.U_NoFive.su_NoText
  unfold tb_NoText at h
  rw [if_neg h_NoDays] at h
  rw [if_neg h_NoCap] at h
  rw [if_neg h_NoStart] at h
  rw [if_neg h_NoFive] at h
  cases h
theorem kt_TooMany (T : Txt K mg) {x : Str} {C : Addr} (hC : mg x = some (.ref C)) : ∀ b, tb_TooMany x = some b → PySem.W.kitOne K (.ref C) (.ref T.C.TooMany.c) = some b := by
  intro b h
  by_cases h_NoDays : x = "NoDays"
  · subst h_NoDays
    cases (T.C.NoDays.g.symm.trans hC)
    cases (Option.some.inj ((by decide : tb_TooMany "NoDays" = some false).symm.trans h))
    exact kit_ref T.t_TooMany.hd T.t_TooMany.ty T.t_TooMany.ss T.U_NoDays.su_TooMany
  by_cases h_NoCap : x = "NoCap"
  · subst h_NoCap
    cases (T.C.NoCap.g.symm.trans hC)
    cases (Option.some.inj ((by decide : tb_TooMany "NoCap" = some false).symm.trans h))
    exact kit_ref T.t_TooMany.hd T.t_TooMany.ty T.t_TooMany.ss T.U_NoCap.su_TooMany
  by_cases h_NoStart : x = "NoStart"
  · subst h_NoStart
    cases (T.C.NoStart.g.symm.trans hC)
    cases (Option.some.inj ((by decide : tb_TooMany "NoStart" = some false).symm.trans h))
    exact kit_ref T.t_TooMany.hd T.t_TooMany.ty T.t_TooMany.ss T.U_NoStart.su_TooMany
  by_cases h_NoFive : x = "NoFive"
  · subst h_NoFive
    cases (T.C.NoFive.g.symm.trans hC)
    cases (Option.some.inj ((by decide : tb_TooMany "NoFive" = some false).symm.trans h))
    exact kit_ref T.t_TooMany.hd T.t_TooMany.ty T.t_TooMany.ss T.U_NoFive.su_TooMany
  unfold tb_TooMany at h
  rw [if_neg h_NoDays] at h
  rw [if_neg h_NoCap] at h
  rw [if_neg h_NoStart] at h
  rw [if_neg h_NoFive] at h
  cases h
theorem kt_ValueError (T : Txt K mg) {x : Str} {C : Addr} (hC : mg x = some (.ref C)) : ∀ b, tb_ValueError x = some b → PySem.W.kitOne K (.ref C) (.type "ValueError") = some b := by
  intro b h
  by_cases h_NoDays : x = "NoDays"
  · subst h_NoDays
    cases (T.C.NoDays.g.symm.trans hC)
    cases (Option.some.inj ((by decide : tb_ValueError "NoDays" = some true).symm.trans h))
    exact kit_typ (by decide +kernel) T.U_NoDays.su_ValueError
  by_cases h_NoCap : x = "NoCap"
  · subst h_NoCap
    cases (T.C.NoCap.g.symm.trans hC)
    cases (Option.some.inj ((by decide : tb_ValueError "NoCap" = some true).symm.trans h))
    exact kit_typ (by decide +kernel) T.U_NoCap.su_ValueError
  by_cases h_NoStart : x = "NoStart"
  · subst h_NoStart
    cases (T.C.NoStart.g.symm.trans hC)
    cases (Option.some.inj ((by decide : tb_ValueError "NoStart" = some true).symm.trans h))
    exact kit_typ (by decide +kernel) T.U_NoStart.su_ValueError
  by_cases h_NoFive : x = "NoFive"
  · subst h_NoFive
    cases (T.C.NoFive.g.symm.trans hC)
    cases (Option.some.inj ((by decide : tb_ValueError "NoFive" = some true).symm.trans h))
    exact kit_typ (by decide +kernel) T.U_NoFive.su_ValueError
  unfold tb_ValueError at h
  rw [if_neg h_NoDays] at h
  rw [if_neg h_NoCap] at h
  rw [if_neg h_NoStart] at h
  rw [if_neg h_NoFive] at h
  cases h
theorem exc_of (T : Txt K mg) {x : Str} {C : Addr} (hC : mg x = some (.ref C)) (hk : tb_TankError x = some true) : ExcC K C := by
  by_cases h_NoDays : x = "NoDays"
  · subst h_NoDays
    cases (T.C.NoDays.g.symm.trans hC)
    exact T.A_NoDays.exc T.M
  by_cases h_NoCap : x = "NoCap"
  · subst h_NoCap
    cases (T.C.NoCap.g.symm.trans hC)
    exact T.A_NoCap.exc T.M
  by_cases h_NoStart : x = "NoStart"
  · subst h_NoStart
    cases (T.C.NoStart.g.symm.trans hC)
    exact T.A_NoStart.exc T.M
  by_cases h_NoFive : x = "NoFive"
  · subst h_NoFive
    cases (T.C.NoFive.g.symm.trans hC)
    exact T.A_NoFive.exc T.M
  unfold tb_TankError at hk
  rw [if_neg h_NoDays] at hk
  rw [if_neg h_NoCap] at hk
  rw [if_neg h_NoStart] at hk
  rw [if_neg h_NoFive] at hk
  cases hk
theorem ok_is_whole (T : Txt K mg) (hS : SysB base) : FnG P w K mg base 1 T.D.is_whole.a T.D.is_whole.d ["thing"] (spD ⟨K, mg, none⟩ [false] f_is_whole) :=
  fn_okG T.D.is_whole.F sc_is_whole [false] rfl b_is_whole fun cdv A outer s H E hr gu => ⟨_,
    (pss_one (ps_ret (pe_and (pe_callB call_isi (by rfl) T.B.n_isinstance (by decide +kernel) (pa_cons (pv 0) (pa_cons (pe_bltn (v := .ty "int") (by rfl) T.B.n_int (by decide +kernel) rfl) pa_nil))) (pe_one (pe_not (pe_callB call_isi (by rfl) T.B.n_isinstance (by decide +kernel) (pa_cons (pv 0) (pa_cons (pe_bltn (v := .ty "bool") (by rfl) T.B.n_bool (by decide +kernel) rfl) pa_nil)))))))),
    (ss_rt (es_and (es_isi .int (ls_v (es_var 0) ls_nil)) (es_not (es_isi .bool (ls_v (es_var 0) ls_nil)))))⟩
theorem ok_end_of (T : Txt K mg) (hS : SysB base) : FnG P w K mg base 1 T.D.end_of.a T.D.end_of.d ["five", "start"] (spD ⟨K, mg, none⟩ [false, false] f_end_of) :=
  fn_okG T.D.end_of.F sc_end_of [false, false] rfl b_end_of fun cdv A outer s H E hr gu => ⟨_,
    (pss_cons (ps_asg (pv 0) (pg_tup rfl (pgs_cons (pg_name (i := 2) sc_end_of.nd rfl (Or.inl rfl)) (pgs_cons (pg_name (i := 3) sc_end_of.nd rfl (Or.inl rfl)) (pgs_cons (pg_name (i := 4) sc_end_of.nd rfl (Or.inl rfl)) (pgs_cons (pg_name (i := 5) sc_end_of.nd rfl (Or.inl rfl)) (pgs_cons (pg_name (i := 6) sc_end_of.nd rfl (Or.inl rfl)) pgs_nil))))))) (pss_one (ps_ret (pe_op op_addA (pe_op op_sub (pe_op op_addA (pv 1) (pv 2)) (pv 3)) (pv 4))))),
    (ss_cons (ss_asg (es_var 0) (gs_tup (gss_cons (gs_name 2) (gss_cons (gs_name 3) (gss_cons (gs_name 4) (gss_cons (gs_name 5) (gss_cons (gs_name 6) gss_nil))))))) (ss_rt (es_bin (ls_v (es_bin (ls_v (es_bin (ls_v (es_var 1) (ls_v (es_var 2) ls_nil)) pr_add) (ls_v (es_var 3) ls_nil)) pr_sub) (ls_v (es_var 4) ls_nil)) pr_add)))⟩
theorem ok_five_of_day (T : Txt K mg) (hS : SysB base) : FnG P w K mg base 1 T.D.five_of_day.a T.D.five_of_day.d ["cap", "day"] (spD ⟨K, mg, none⟩ [false, false] f_five_of_day) :=
  fn_okG T.D.five_of_day.F sc_five_of_day [false, false] rfl b_five_of_day fun cdv A outer s H E hr gu => ⟨_,
    (pss_cons (ps_if (pt_cmpR op_gt (pv 1) (pv 0) (nomark _)) (pss_one (ps_ret (pe_tup (pa_cons (pv 1) (pa_cons (pe_op op_sub (pv 1) (pv 0)) (pa_cons pe_int (pa_cons pe_int (pa_cons pe_int pa_nil)))))))) pss_nil) (pss_cons (ps_if (pt_cmpR op_ge (pv 1) pe_int (nomark _)) (pss_one (ps_ret (pe_tup (pa_cons (pv 1) (pa_cons pe_int (pa_cons pe_int (pa_cons pe_int (pa_cons (pe_op op_sub (pv 0) (pv 1)) pa_nil)))))))) pss_nil) (pss_cons (ps_if (pt_cmpR op_le (pe_op op_sub pe_int (pv 1)) (pv 0) (nomark _)) (pss_one (ps_ret (pe_tup (pa_cons (pv 1) (pa_cons pe_int (pa_cons pe_int (pa_cons (pe_op op_sub pe_int (pv 1)) (pa_cons (pv 0) pa_nil)))))))) pss_nil) (pss_one (ps_ret (pe_tup (pa_cons (pv 1) (pa_cons pe_int (pa_cons (pe_op op_sub (pe_op op_sub pe_int (pv 1)) (pv 0)) (pa_cons (pv 0) (pa_cons (pv 0) pa_nil))))))))))),
    (ss_cons (ss_if (ts_test (es_bin (ls_v (es_var 1) (ls_v (es_var 0) ls_nil)) pr_gt)) (ss_rt (es_tup (ls_v (es_var 1) (ls_v (es_bin (ls_v (es_var 1) (ls_v (es_var 0) ls_nil)) pr_sub) (ls_v (es_int 0) (ls_v (es_int 0) (ls_v (es_int 0) ls_nil))))))) ss_nil) (ss_cons (ss_if (ts_test (es_bin (ls_v (es_var 1) (ls_v (es_int 0) ls_nil)) pr_ge)) (ss_rt (es_tup (ls_v (es_var 1) (ls_v (es_int 0) (ls_v (es_int 0) (ls_v (es_int 0) (ls_v (es_bin (ls_v (es_var 0) (ls_v (es_var 1) ls_nil)) pr_sub) ls_nil))))))) ss_nil) (ss_cons (ss_if (ts_test (es_bin (ls_v (es_bin (ls_v (es_int 0) (ls_v (es_var 1) ls_nil)) pr_sub) (ls_v (es_var 0) ls_nil)) pr_le)) (ss_rt (es_tup (ls_v (es_var 1) (ls_v (es_int 0) (ls_v (es_int 0) (ls_v (es_bin (ls_v (es_int 0) (ls_v (es_var 1) ls_nil)) pr_sub) (ls_v (es_var 0) ls_nil))))))) ss_nil) (ss_rt (es_tup (ls_v (es_var 1) (ls_v (es_int 0) (ls_v (es_bin (ls_v (es_bin (ls_v (es_int 0) (ls_v (es_var 1) ls_nil)) pr_sub) (ls_v (es_var 0) ls_nil)) pr_sub) (ls_v (es_var 0) (ls_v (es_var 0) ls_nil))))))))))⟩
theorem ok_law_cell_at (T : Txt K mg) (hS : SysB base) : FnG P w K mg base 1 T.D.law_cell_at.a T.D.law_cell_at.d ["script", "k"] (spD ⟨K, mg, none⟩ [false, false] f_law_cell_at) :=
  fn_okG T.D.law_cell_at.F sc_law_cell_at [false, false] rfl b_law_cell_at fun cdv A outer s H E hr gu => ⟨_,
    (pss_cons (ps_if (pt_cmpR op_lt (pv 1) (pe_callB call_len (by rfl) T.B.n_len (by decide +kernel) (pa_cons (pv 0) pa_nil)) (nomark _)) (pss_one (ps_ret (pe_ix ix_seq (pv 0) (pv 1) (fun _ _ => rfl)))) pss_nil) (pss_one (ps_ret pe_int))),
    (ss_cons (ss_if (ts_test (es_bin (ls_v (es_var 1) (ls_v (es_cb (ls_v (es_var 0) ls_nil) pr_len) ls_nil)) pr_lt)) (ss_rt (es_bin (ls_v (es_var 0) (ls_v (es_var 1) ls_nil)) pr_idx)) ss_nil) (ss_rt (es_int 0)))⟩
theorem ok_law_bag (T : Txt K mg) (hS : SysB base) : FnG P w K mg base 1 T.D.law_bag.a T.D.law_bag.d ["cell"] (spD ⟨K, mg, none⟩ [false] f_law_bag) :=
  fn_okG T.D.law_bag.F sc_law_bag [false] rfl b_law_bag fun cdv A outer s H E hr gu => ⟨_,
    (pss_one (ps_ret (pe_lst (pa_cons (pe_callB (call_max2 rfl) (by rfl) T.B.n_max (by decide +kernel) (pa_cons pe_int (pa_cons (pe_op op_sub (pv 0) (pe_op op_powW pe_int pe_int)) pa_nil))) (pa_cons (pe_op op_mod (pv 0) (pe_op op_addA (pe_op op_powW pe_int pe_int) pe_int)) (pa_cons pe_int pa_nil)))))),
    (ss_rt (es_lst (ls_v (es_cb (ls_v (es_int 1) (ls_v (es_bin (ls_v (es_var 0) (ls_v (es_bin (ls_v (es_int 10) (ls_v (es_int 18) ls_nil)) pr_pow) ls_nil)) pr_sub) ls_nil)) pr_max2) (ls_v (es_bin (ls_v (es_var 0) (ls_v (es_bin (ls_v (es_bin (ls_v (es_int 10) (ls_v (es_int 40) ls_nil)) pr_pow) (ls_v (es_int 121) ls_nil)) pr_add) ls_nil)) pr_mod) (ls_v (es_int 0) ls_nil)))))⟩
theorem ok_law_draw (T : Txt K mg) (hS : SysB base) : FnG P w K mg base 1 T.D.law_draw.a T.D.law_draw.d ["bag", "sides"] (spD ⟨K, mg, none⟩ [true, false] f_law_draw) :=
  fn_okG T.D.law_draw.F sc_law_draw [true, false] rfl b_law_draw fun cdv A outer s H E hr gu => ⟨_,
    (pss_cons (ps_if (pt_cmpR op_gt (pe_ix ix_seq (pv 0) pe_int (fun _ _ => rfl)) pe_int (nomark _)) (pss_cons (ps_set (i := 2) sc_law_draw.nd rfl (Or.inl rfl) (pe_op op_mod (pe_ix ix_seq (pv 0) pe_int (fun _ _ => rfl)) (pv 1))) (pss_cons (ps_asg (pe_op op_fdivW (pe_ix ix_seq (pv 0) pe_int (fun _ _ => rfl)) (pv 1)) (pg_sub (pv 0) pe_int set_list)) (pss_one (ps_ret (pv 2))))) pss_nil) (pss_cons (ps_asg (pe_op op_addA (pe_ix ix_seq (pv 0) pe_int (fun _ _ => rfl)) pe_int) (pg_sub (pv 0) pe_int set_list)) (pss_cons (ps_set (i := 2) sc_law_draw.nd rfl (Or.inl rfl) (pe_op op_mod (pe_op op_powW (pe_op op_addA (pe_ix ix_seq (pv 0) pe_int (fun _ _ => rfl)) (pe_op op_mulA (pe_ix ix_seq (pv 0) pe_int (fun _ _ => rfl)) pe_int)) pe_int) (pe_op op_addA (pe_op op_powW pe_int pe_int) pe_int))) (pss_cons (ps_set (i := 2) sc_law_draw.nd rfl (Or.inl rfl) (pe_op op_mod (pe_op op_powW (pe_op op_addA (pv 2) (pe_op op_mulA (pe_ix ix_seq (pv 0) pe_int (fun _ _ => rfl)) pe_int)) pe_int) (pe_op op_addA (pe_op op_powW pe_int pe_int) pe_int))) (pss_one (ps_ret (pe_op op_mod (pe_op op_fdivW (pv 2) pe_int) (pv 1)))))))),
    (ss_cons (ss_if (ts_test (es_bin (ls_v (es_bin (ls_b (ls_v (es_int 0) ls_nil)) pr_idx) (ls_v (es_int 1) ls_nil)) pr_gt)) (ss_cons (ss_set (es_bin (ls_v (es_bin (ls_b (ls_v (es_int 0) ls_nil)) pr_idx) (ls_v (es_var 1) ls_nil)) pr_mod)) (ss_cons (ss_put (es_int 0) (es_bin (ls_v (es_bin (ls_b (ls_v (es_int 0) ls_nil)) pr_idx) (ls_v (es_var 1) ls_nil)) pr_div)) (ss_rt (es_mv 2)))) ss_nil) (ss_cons (ss_put (es_int 2) (es_bin (ls_v (es_bin (ls_b (ls_v (es_int 2) ls_nil)) pr_idx) (ls_v (es_int 1) ls_nil)) pr_add)) (ss_cons (ss_set (es_bin (ls_v (es_bin (ls_v (es_bin (ls_v (es_bin (ls_b (ls_v (es_int 1) ls_nil)) pr_idx) (ls_v (es_bin (ls_v (es_bin (ls_b (ls_v (es_int 2) ls_nil)) pr_idx) (ls_v (es_int 982451653) ls_nil)) pr_mul) ls_nil)) pr_add) (ls_v (es_int 5) ls_nil)) pr_pow) (ls_v (es_bin (ls_v (es_bin (ls_v (es_int 10) (ls_v (es_int 39) ls_nil)) pr_pow) (ls_v (es_int 3) ls_nil)) pr_add) ls_nil)) pr_mod)) (ss_cons (ss_set (es_bin (ls_v (es_bin (ls_v (es_bin (ls_v (es_var 2) (ls_v (es_bin (ls_v (es_bin (ls_b (ls_v (es_int 2) ls_nil)) pr_idx) (ls_v (es_int 15485863) ls_nil)) pr_mul) ls_nil)) pr_add) (ls_v (es_int 3) ls_nil)) pr_pow) (ls_v (es_bin (ls_v (es_bin (ls_v (es_int 10) (ls_v (es_int 36) ls_nil)) pr_pow) (ls_v (es_int 67) ls_nil)) pr_add) ls_nil)) pr_mod)) (ss_rt (es_bin (ls_v (es_bin (ls_v (es_var 2) (ls_v (es_int 1024) ls_nil)) pr_div) (ls_v (es_var 1) ls_nil)) pr_mod))))))⟩
theorem okX_law_words (T : Txt K mg) (hS : SysB base) {a C : Addr} {xc : Str} (hC : mg xc = some (.ref C)) (hk : tb_TankError xc = some true) : FnX P w K mg base 1 T.D.law_words.a T.D.law_words.d ["e"] a C (spX ⟨K, mg, some (a, xc)⟩ a (f_law_words xc)) :=
  fn_okX T.D.law_words.F sc_law_words b_law_words fun cdv A outer s H E oe hr hz hf hot => ⟨_,
    (pss_cons (ps_set (i := 1) sc_law_words.nd rfl (Or.inl rfl) (pe_lst (pa_cons (pe_tup (pa_cons pe_str (pa_cons (pe_callB (call_isP (exc_of T hC hk) List.mem_cons_self hz hf) (by rfl) T.B.n_isinstance (by decide +kernel) (pa_cons (pv 0) (pa_cons (pe_glob (by rfl) T.C.NoDays.g (show RelV (V.ref T.C.NoDays.c) (Value.ref T.C.NoDays.c) from rfl)) pa_nil))) pa_nil))) (pa_cons (pe_tup (pa_cons pe_str (pa_cons (pe_callB (call_isP (exc_of T hC hk) List.mem_cons_self hz hf) (by rfl) T.B.n_isinstance (by decide +kernel) (pa_cons (pv 0) (pa_cons (pe_glob (by rfl) T.C.NoCap.g (show RelV (V.ref T.C.NoCap.c) (Value.ref T.C.NoCap.c) from rfl)) pa_nil))) pa_nil))) (pa_cons (pe_tup (pa_cons pe_str (pa_cons (pe_callB (call_isP (exc_of T hC hk) List.mem_cons_self hz hf) (by rfl) T.B.n_isinstance (by decide +kernel) (pa_cons (pv 0) (pa_cons (pe_glob (by rfl) T.C.NoStart.g (show RelV (V.ref T.C.NoStart.c) (Value.ref T.C.NoStart.c) from rfl)) pa_nil))) pa_nil))) pa_nil))))) (pss_cons (ps_set (i := 1) sc_law_words.nd rfl (Or.inl rfl) (pe_op op_addA (pv 1) (pe_lst (pa_cons (pe_tup (pa_cons pe_str (pa_cons (pe_callB (call_isP (exc_of T hC hk) List.mem_cons_self hz hf) (by rfl) T.B.n_isinstance (by decide +kernel) (pa_cons (pv 0) (pa_cons (pe_glob (by rfl) T.C.NoMany.g (show RelV (V.ref T.C.NoMany.c) (Value.ref T.C.NoMany.c) from rfl)) pa_nil))) pa_nil))) (pa_cons (pe_tup (pa_cons pe_str (pa_cons (pe_callB (call_isP (exc_of T hC hk) List.mem_cons_self hz hf) (by rfl) T.B.n_isinstance (by decide +kernel) (pa_cons (pv 0) (pa_cons (pe_glob (by rfl) T.C.NoLot.g (show RelV (V.ref T.C.NoLot.c) (Value.ref T.C.NoLot.c) from rfl)) pa_nil))) pa_nil))) pa_nil))))) (pss_cons (ps_set (i := 1) sc_law_words.nd rfl (Or.inl rfl) (pe_op op_addA (pv 1) (pe_lst (pa_cons (pe_tup (pa_cons pe_str (pa_cons (pe_callB (call_isP (exc_of T hC hk) List.mem_cons_self hz hf) (by rfl) T.B.n_isinstance (by decide +kernel) (pa_cons (pv 0) (pa_cons (pe_glob (by rfl) T.C.NotBest.g (show RelV (V.ref T.C.NotBest.c) (Value.ref T.C.NotBest.c) from rfl)) pa_nil))) pa_nil))) (pa_cons (pe_tup (pa_cons pe_str (pa_cons (pe_callB (call_isP (exc_of T hC hk) List.mem_cons_self hz hf) (by rfl) T.B.n_isinstance (by decide +kernel) (pa_cons (pv 0) (pa_cons (pe_glob (by rfl) T.C.NoNumber.g (show RelV (V.ref T.C.NoNumber.c) (Value.ref T.C.NoNumber.c) from rfl)) pa_nil))) pa_nil))) pa_nil))))) (pss_cons (ps_set (i := 1) sc_law_words.nd rfl (Or.inl rfl) (pe_op op_addA (pv 1) (pe_lst (pa_cons (pe_tup (pa_cons pe_str (pa_cons (pe_callB (call_isP (exc_of T hC hk) List.mem_cons_self hz hf) (by rfl) T.B.n_isinstance (by decide +kernel) (pa_cons (pv 0) (pa_cons (pe_glob (by rfl) T.C.NoMirror.g (show RelV (V.ref T.C.NoMirror.c) (Value.ref T.C.NoMirror.c) from rfl)) pa_nil))) pa_nil))) (pa_cons (pe_tup (pa_cons pe_str (pa_cons (pe_callB (call_isP (exc_of T hC hk) List.mem_cons_self hz hf) (by rfl) T.B.n_isinstance (by decide +kernel) (pa_cons (pv 0) (pa_cons (pe_glob (by rfl) T.C.NoMost.g (show RelV (V.ref T.C.NoMost.c) (Value.ref T.C.NoMost.c) from rfl)) pa_nil))) pa_nil))) pa_nil))))) (pss_cons (ps_set (i := 1) sc_law_words.nd rfl (Or.inl rfl) (pe_op op_addA (pv 1) (pe_lst (pa_cons (pe_tup (pa_cons pe_str (pa_cons (pe_callB (call_isP (exc_of T hC hk) List.mem_cons_self hz hf) (by rfl) T.B.n_isinstance (by decide +kernel) (pa_cons (pv 0) (pa_cons (pe_glob (by rfl) T.C.NoFive.g (show RelV (V.ref T.C.NoFive.c) (Value.ref T.C.NoFive.c) from rfl)) pa_nil))) pa_nil))) (pa_cons (pe_tup (pa_cons pe_str (pa_cons (pe_callB (call_isP (exc_of T hC hk) List.mem_cons_self hz hf) (by rfl) T.B.n_isinstance (by decide +kernel) (pa_cons (pv 0) (pa_cons (pe_glob (by rfl) T.C.NoCaps.g (show RelV (V.ref T.C.NoCaps.c) (Value.ref T.C.NoCaps.c) from rfl)) pa_nil))) pa_nil))) pa_nil))))) (pss_cons (ps_set (i := 1) sc_law_words.nd rfl (Or.inl rfl) (pe_op op_addA (pv 1) (pe_lst (pa_cons (pe_tup (pa_cons pe_str (pa_cons (pe_callB (call_isP (exc_of T hC hk) List.mem_cons_self hz hf) (by rfl) T.B.n_isinstance (by decide +kernel) (pa_cons (pv 0) (pa_cons (pe_glob (by rfl) T.C.NoBounds.g (show RelV (V.ref T.C.NoBounds.c) (Value.ref T.C.NoBounds.c) from rfl)) pa_nil))) pa_nil))) (pa_cons (pe_tup (pa_cons pe_str (pa_cons (pe_callB (call_isP (exc_of T hC hk) List.mem_cons_self hz hf) (by rfl) T.B.n_isinstance (by decide +kernel) (pa_cons (pv 0) (pa_cons (pe_glob (by rfl) T.C.NoLooks.g (show RelV (V.ref T.C.NoLooks.c) (Value.ref T.C.NoLooks.c) from rfl)) pa_nil))) pa_nil))) pa_nil))))) (pss_cons (ps_set (i := 1) sc_law_words.nd rfl (Or.inl rfl) (pe_op op_addA (pv 1) (pe_lst (pa_cons (pe_tup (pa_cons pe_str (pa_cons (pe_callB (call_isP (exc_of T hC hk) List.mem_cons_self hz hf) (by rfl) T.B.n_isinstance (by decide +kernel) (pa_cons (pv 0) (pa_cons (pe_glob (by rfl) T.C.NoMoment.g (show RelV (V.ref T.C.NoMoment.c) (Value.ref T.C.NoMoment.c) from rfl)) pa_nil))) pa_nil))) (pa_cons (pe_tup (pa_cons pe_str (pa_cons (pe_callB (call_isP (exc_of T hC hk) List.mem_cons_self hz hf) (by rfl) T.B.n_isinstance (by decide +kernel) (pa_cons (pv 0) (pa_cons (pe_glob (by rfl) T.C.NoContent.g (show RelV (V.ref T.C.NoContent.c) (Value.ref T.C.NoContent.c) from rfl)) pa_nil))) pa_nil))) pa_nil))))) (pss_cons (ps_set (i := 1) sc_law_words.nd rfl (Or.inl rfl) (pe_op op_addA (pv 1) (pe_lst (pa_cons (pe_tup (pa_cons pe_str (pa_cons (pe_callB (call_isP (exc_of T hC hk) List.mem_cons_self hz hf) (by rfl) T.B.n_isinstance (by decide +kernel) (pa_cons (pv 0) (pa_cons (pe_glob (by rfl) T.C.NoCore.g (show RelV (V.ref T.C.NoCore.c) (Value.ref T.C.NoCore.c) from rfl)) pa_nil))) pa_nil))) (pa_cons (pe_tup (pa_cons pe_str (pa_cons (pe_callB (call_isP (exc_of T hC hk) List.mem_cons_self hz hf) (by rfl) T.B.n_isinstance (by decide +kernel) (pa_cons (pv 0) (pa_cons (pe_glob (by rfl) T.C.NoText.g (show RelV (V.ref T.C.NoText.c) (Value.ref T.C.NoText.c) from rfl)) pa_nil))) pa_nil))) pa_nil))))) (pss_cons (ps_set (i := 1) sc_law_words.nd rfl (Or.inl rfl) (pe_op op_addA (pv 1) (pe_lst (pa_cons (pe_tup (pa_cons pe_str (pa_cons (pe_callB (call_isP (exc_of T hC hk) List.mem_cons_self hz hf) (by rfl) T.B.n_isinstance (by decide +kernel) (pa_cons (pv 0) (pa_cons (pe_glob (by rfl) T.C.TooMany.g (show RelV (V.ref T.C.TooMany.c) (Value.ref T.C.TooMany.c) from rfl)) pa_nil))) pa_nil))) (pa_cons (pe_tup (pa_cons pe_str (pa_cons (pe_callB (call_isP (exc_of T hC hk) List.mem_cons_self hz hf) (by rfl) T.B.n_isinstance (by decide +kernel) (pa_cons (pv 0) (pa_cons (pe_bltn (v := .ty "ValueError") (by rfl) T.B.n_ValueError (by decide +kernel) rfl) pa_nil))) pa_nil))) pa_nil))))) (pss_one (ps_ret (pe_lcS (own := [("word", 2), ("fits", 3)]) hot sc_law_words.nd (pi_listS (pv 1)) (blkOk_by (own := [("word", 2), ("fits", 3)]) (N := N_law_words) (sc := defScope s_law_words) (by decide +kernel)) (fun _ _ _ _ _ hb => (pg_tupS hb (pgs_cons (pg_name (i := 2) sc_law_words.nd rfl (Or.inl rfl)) (pgs_cons (pg_name (i := 3) sc_law_words.nd rfl (Or.inl rfl)) pgs_nil)))) (fun _ _ _ _ _ => (pts_one (pt_val (pv 3)))) (fun _ _ _ _ _ => (pv 2)))))))))))))),
    (ss_cons (ss_set (es_lst (ls_v (es_tup (ls_v (es_str ("NoDays" : Str)) (ls_v (es_isE rfl (fun _ h => h) (kt_NoDays T hC)) ls_nil))) (ls_v (es_tup (ls_v (es_str ("NoCap" : Str)) (ls_v (es_isE rfl (fun _ h => h) (kt_NoCap T hC)) ls_nil))) (ls_v (es_tup (ls_v (es_str ("NoStart" : Str)) (ls_v (es_isE rfl (fun _ h => h) (kt_NoStart T hC)) ls_nil))) ls_nil))))) (ss_cons (ss_set (es_bin (ls_v (es_var 1) (ls_v (es_lst (ls_v (es_tup (ls_v (es_str ("NoMany" : Str)) (ls_v (es_isE rfl (fun _ h => h) (kt_NoMany T hC)) ls_nil))) (ls_v (es_tup (ls_v (es_str ("NoLot" : Str)) (ls_v (es_isE rfl (fun _ h => h) (kt_NoLot T hC)) ls_nil))) ls_nil))) ls_nil)) pr_add)) (ss_cons (ss_set (es_bin (ls_v (es_var 1) (ls_v (es_lst (ls_v (es_tup (ls_v (es_str ("NotBest" : Str)) (ls_v (es_isE rfl (fun _ h => h) (kt_NotBest T hC)) ls_nil))) (ls_v (es_tup (ls_v (es_str ("NoNumber" : Str)) (ls_v (es_isE rfl (fun _ h => h) (kt_NoNumber T hC)) ls_nil))) ls_nil))) ls_nil)) pr_add)) (ss_cons (ss_set (es_bin (ls_v (es_var 1) (ls_v (es_lst (ls_v (es_tup (ls_v (es_str ("NoMirror" : Str)) (ls_v (es_isE rfl (fun _ h => h) (kt_NoMirror T hC)) ls_nil))) (ls_v (es_tup (ls_v (es_str ("NoMost" : Str)) (ls_v (es_isE rfl (fun _ h => h) (kt_NoMost T hC)) ls_nil))) ls_nil))) ls_nil)) pr_add)) (ss_cons (ss_set (es_bin (ls_v (es_var 1) (ls_v (es_lst (ls_v (es_tup (ls_v (es_str ("NoFive" : Str)) (ls_v (es_isE rfl (fun _ h => h) (kt_NoFive T hC)) ls_nil))) (ls_v (es_tup (ls_v (es_str ("NoCaps" : Str)) (ls_v (es_isE rfl (fun _ h => h) (kt_NoCaps T hC)) ls_nil))) ls_nil))) ls_nil)) pr_add)) (ss_cons (ss_set (es_bin (ls_v (es_var 1) (ls_v (es_lst (ls_v (es_tup (ls_v (es_str ("NoBounds" : Str)) (ls_v (es_isE rfl (fun _ h => h) (kt_NoBounds T hC)) ls_nil))) (ls_v (es_tup (ls_v (es_str ("NoLooks" : Str)) (ls_v (es_isE rfl (fun _ h => h) (kt_NoLooks T hC)) ls_nil))) ls_nil))) ls_nil)) pr_add)) (ss_cons (ss_set (es_bin (ls_v (es_var 1) (ls_v (es_lst (ls_v (es_tup (ls_v (es_str ("NoMoment" : Str)) (ls_v (es_isE rfl (fun _ h => h) (kt_NoMoment T hC)) ls_nil))) (ls_v (es_tup (ls_v (es_str ("NoContent" : Str)) (ls_v (es_isE rfl (fun _ h => h) (kt_NoContent T hC)) ls_nil))) ls_nil))) ls_nil)) pr_add)) (ss_cons (ss_set (es_bin (ls_v (es_var 1) (ls_v (es_lst (ls_v (es_tup (ls_v (es_str ("NoCore" : Str)) (ls_v (es_isE rfl (fun _ h => h) (kt_NoCore T hC)) ls_nil))) (ls_v (es_tup (ls_v (es_str ("NoText" : Str)) (ls_v (es_isE rfl (fun _ h => h) (kt_NoText T hC)) ls_nil))) ls_nil))) ls_nil)) pr_add)) (ss_cons (ss_set (es_bin (ls_v (es_var 1) (ls_v (es_lst (ls_v (es_tup (ls_v (es_str ("TooMany" : Str)) (ls_v (es_isE rfl (fun _ h => h) (kt_TooMany T hC)) ls_nil))) (ls_v (es_tup (ls_v (es_str ("value" : Str)) (ls_v (es_isE rfl (fun _ h => h) (kt_ValueError T hC)) ls_nil))) ls_nil))) ls_nil)) pr_add)) (ss_rt (es_lc (vs := [2, 3]) (is_lst (es_var 1)) (gs_tup (gss_cons (gs_name 2) (gss_cons (gs_name 3) gss_nil))) (gin_tup (gsin_cons gin_name (gsin_cons gin_name gsin_nil))) (ts_val (es_var 3)) (es_var 2))))))))))))⟩
theorem ok_is_amount (T : Txt K mg) (hS : SysB base) : FnG P w K mg base 2 T.D.is_amount.a T.D.is_amount.d ["thing"] (spD ⟨K, mg, none⟩ [false] f_is_amount) :=
  fn_okG T.D.is_amount.F sc_is_amount [false] rfl b_is_amount fun cdv A outer s H E hr gu => ⟨_,
    (pss_one (ps_ret (pe_and (pe_callG (ok_is_whole T hS) (hr.mono (by decide)) gu (by rfl) T.D.is_whole.g T.D.is_whole.F.kp T.D.is_whole.b (fun σ => L2N.passAt (L2N.takes_of rfl rfl rfl rfl) σ) (pa_cons (pv 0) pa_nil)) (pe_one (pe_cmpR op_ge (pv 0) pe_int (nomark _)))))),
    (ss_rt (es_and (es_call (ls_v (es_var 0) ls_nil)) (es_bin (ls_v (es_var 0) (ls_v (es_int 0) ls_nil)) pr_ge)))⟩
theorem ok_is_days (T : Txt K mg) (hS : SysB base) : FnG P w K mg base 2 T.D.is_days.a T.D.is_days.d ["thing"] (spD ⟨K, mg, none⟩ [false] f_is_days) :=
  fn_okG T.D.is_days.F sc_is_days [false] rfl b_is_days fun cdv A outer s H E hr gu => ⟨_,
    (pss_one (ps_ret (pe_and (pe_callB call_isi (by rfl) T.B.n_isinstance (by decide +kernel) (pa_cons (pv 0) (pa_cons (pe_bltn (v := .ty "list") (by rfl) T.B.n_list (by decide +kernel) rfl) pa_nil))) (pe_one (pe_callB (cr_all rfl) (by rfl) T.B.n_all (by decide +kernel) (pa_cons (pe_lc (own := [("day", 1)]) rfl sc_is_days.nd (pi_seq (pv 0)) (blkOk_by (own := [("day", 1)]) (N := N_is_days) (sc := defScope s_is_days) (by decide +kernel)) (fun _ _ _ _ _ => (pg_name (i := 1) sc_is_days.nd rfl (Or.inl rfl))) (fun _ _ _ _ _ => pts_nil) (fun _ _ _ _ _ => (pe_callG (ok_is_whole T hS) (hr.mono (by decide)) gu (by rfl) T.D.is_whole.g T.D.is_whole.F.kp T.D.is_whole.b (fun σ => L2N.passAt takesN0 σ) (pa_cons (pv 1) pa_nil)))) pa_nil)))))),
    (ss_rt (es_and (es_isi .list (ls_v (es_var 0) ls_nil)) (es_cb (ls_v (es_lc (vs := [1]) (is_seq (es_var 0)) (gs_name 1) gin_name ts_yes (es_call (ls_v (es_var 1) ls_nil))) ls_nil) pr_all)))⟩
theorem ok_put_behind (T : Txt K mg) (hS : SysB base) : FnG P w K mg base 2 T.D.put_behind.a T.D.put_behind.d ["one", "two"] (spD ⟨K, mg, none⟩ [false, false] f_put_behind) :=
  fn_okG T.D.put_behind.F sc_put_behind [false, false] rfl b_put_behind fun cdv A outer s H E hr gu => ⟨_,
    (pss_cons (ps_asg (pv 0) (pg_tup rfl (pgs_cons (pg_name (i := 2) sc_put_behind.nd rfl (Or.inl rfl)) (pgs_cons (pg_name (i := 3) sc_put_behind.nd rfl (Or.inl rfl)) (pgs_cons (pg_name (i := 4) sc_put_behind.nd rfl (Or.inl rfl)) (pgs_cons (pg_name (i := 7) sc_put_behind.nd rfl (Or.inl rfl)) (pgs_cons (pg_name (i := 8) sc_put_behind.nd rfl (Or.inl rfl)) pgs_nil))))))) (pss_cons (ps_par (i := 9) (j := 10) rfl sc_put_behind.nd rfl rfl (by decide) rfl rfl (pa_cons (pe_callG (ok_end_of T hS) (hr.mono (by decide)) gu (by rfl) T.D.end_of.g T.D.end_of.F.kp T.D.end_of.b (fun σ => L2N.passAt (L2N.takes_of rfl rfl rfl rfl) σ) (pa_cons (pv 0) (pa_cons (pv 7) pa_nil))) (pa_cons (pe_callG (ok_end_of T hS) (hr.mono (by decide)) gu (by rfl) T.D.end_of.g T.D.end_of.F.kp T.D.end_of.b (fun σ => L2N.passAt (L2N.takes_of rfl rfl rfl rfl) σ) (pa_cons (pv 0) (pa_cons (pv 8) pa_nil))) pa_nil)) (by rfl)) (pss_cons (ps_aug (i := 2) sc_put_behind.nd rfl (Or.inl rfl) (pe_ix ix_seq (pv 1) pe_int (fun _ _ => rfl)) ip_add) (pss_cons (ps_aug (i := 3) sc_put_behind.nd rfl (Or.inl rfl) (pe_ix ix_seq (pv 1) pe_int (fun _ _ => rfl)) ip_add) (pss_cons (ps_aug (i := 4) sc_put_behind.nd rfl (Or.inl rfl) (pe_ix ix_seq (pv 1) pe_int (fun _ _ => rfl)) ip_add) (pss_cons (ps_if (pt_cmpR op_lt (pv 10) (pe_ix ix_seq (pv 1) pe_int (fun _ _ => rfl)) (nomark _)) (pss_one (ps_ret (pe_tup (pa_cons (pv 2) (pa_cons (pv 3) (pa_cons (pe_op op_sub (pe_op op_addA (pv 4) (pe_ix ix_seq (pv 1) pe_int (fun _ _ => rfl))) (pv 10)) (pa_cons (pv 8) (pa_cons (pv 8) pa_nil)))))))) pss_nil) (pss_cons (ps_if (pt_cmpR op_gt (pv 9) (pe_ix ix_seq (pv 1) pe_int (fun _ _ => rfl)) (nomark _)) (pss_one (ps_ret (pe_tup (pa_cons (pv 2) (pa_cons (pe_op op_sub (pe_op op_addA (pv 3) (pv 9)) (pe_ix ix_seq (pv 1) pe_int (fun _ _ => rfl))) (pa_cons (pv 4) (pa_cons (pv 7) (pa_cons (pv 7) pa_nil)))))))) pss_nil) (pss_cons (ps_set (i := 5) sc_put_behind.nd rfl (Or.inl rfl) (pe_op op_sub (pe_op op_addA (pv 7) (pe_callB (call_max2 rfl) (by rfl) T.B.n_max (by decide +kernel) (pa_cons (pv 9) (pa_cons (pe_ix ix_seq (pv 1) pe_int (fun _ _ => rfl)) pa_nil)))) (pv 9))) (pss_cons (ps_set (i := 6) sc_put_behind.nd rfl (Or.inl rfl) (pe_op op_sub (pe_op op_addA (pv 7) (pe_callB (call_min2 rfl) (by rfl) T.B.n_min (by decide +kernel) (pa_cons (pv 10) (pa_cons (pe_ix ix_seq (pv 1) pe_int (fun _ _ => rfl)) pa_nil)))) (pv 9))) (pss_one (ps_ret (pe_tup (pa_cons (pv 2) (pa_cons (pv 3) (pa_cons (pv 4) (pa_cons (pv 5) (pa_cons (pv 6) pa_nil))))))))))))))))),
    (ss_cons (ss_asg (es_var 0) (gs_tup (gss_cons (gs_name 2) (gss_cons (gs_name 3) (gss_cons (gs_name 4) (gss_cons (gs_name 7) (gss_cons (gs_name 8) gss_nil))))))) (ss_cons (ss_par (ls_v (es_call (ls_v (es_var 0) (ls_v (es_var 7) ls_nil))) (ls_v (es_call (ls_v (es_var 0) (ls_v (es_var 8) ls_nil))) ls_nil))) (ss_cons (ss_aug (es_bin (ls_v (es_var 1) (ls_v (es_int 0) ls_nil)) pr_idx)) (ss_cons (ss_aug (es_bin (ls_v (es_var 1) (ls_v (es_int 1) ls_nil)) pr_idx)) (ss_cons (ss_aug (es_bin (ls_v (es_var 1) (ls_v (es_int 2) ls_nil)) pr_idx)) (ss_cons (ss_if (ts_test (es_bin (ls_v (es_var 10) (ls_v (es_bin (ls_v (es_var 1) (ls_v (es_int 3) ls_nil)) pr_idx) ls_nil)) pr_lt)) (ss_rt (es_tup (ls_v (es_var 2) (ls_v (es_var 3) (ls_v (es_bin (ls_v (es_bin (ls_v (es_var 4) (ls_v (es_bin (ls_v (es_var 1) (ls_v (es_int 3) ls_nil)) pr_idx) ls_nil)) pr_add) (ls_v (es_var 10) ls_nil)) pr_sub) (ls_v (es_var 8) (ls_v (es_var 8) ls_nil))))))) ss_nil) (ss_cons (ss_if (ts_test (es_bin (ls_v (es_var 9) (ls_v (es_bin (ls_v (es_var 1) (ls_v (es_int 4) ls_nil)) pr_idx) ls_nil)) pr_gt)) (ss_rt (es_tup (ls_v (es_var 2) (ls_v (es_bin (ls_v (es_bin (ls_v (es_var 3) (ls_v (es_var 9) ls_nil)) pr_add) (ls_v (es_bin (ls_v (es_var 1) (ls_v (es_int 4) ls_nil)) pr_idx) ls_nil)) pr_sub) (ls_v (es_var 4) (ls_v (es_var 7) (ls_v (es_var 7) ls_nil))))))) ss_nil) (ss_cons (ss_set (es_bin (ls_v (es_bin (ls_v (es_var 7) (ls_v (es_cb (ls_v (es_var 9) (ls_v (es_bin (ls_v (es_var 1) (ls_v (es_int 3) ls_nil)) pr_idx) ls_nil)) pr_max2) ls_nil)) pr_add) (ls_v (es_var 9) ls_nil)) pr_sub)) (ss_cons (ss_set (es_bin (ls_v (es_bin (ls_v (es_var 7) (ls_v (es_cb (ls_v (es_var 10) (ls_v (es_bin (ls_v (es_var 1) (ls_v (es_int 4) ls_nil)) pr_idx) ls_nil)) pr_min2) ls_nil)) pr_add) (ls_v (es_var 9) ls_nil)) pr_sub)) (ss_rt (es_tup (ls_v (es_var 2) (ls_v (es_var 3) (ls_v (es_var 4) (ls_v (es_var 5) (ls_v (es_var 6) ls_nil))))))))))))))))⟩
theorem ok_led_by (T : Txt K mg) (hS : SysB base) : FnG P w K mg base 2 T.D.led_by.a T.D.led_by.d ["five", "start"] (spD ⟨K, mg, none⟩ [false, false] f_led_by) :=
  fn_okG T.D.led_by.F sc_led_by [false, false] rfl b_led_by fun cdv A outer s H E hr gu => ⟨_,
    (pss_cons (ps_asg (pv 0) (pg_tup rfl (pgs_cons (pg_name (i := 3) sc_led_by.nd rfl (Or.inl rfl)) (pgs_cons (pg_name (i := 4) sc_led_by.nd rfl (Or.inl rfl)) (pgs_cons (pg_name (i := 5) sc_led_by.nd rfl (Or.inl rfl)) (pgs_cons (pg_name (i := 6) sc_led_by.nd rfl (Or.inl rfl)) (pgs_cons (pg_name (i := 7) sc_led_by.nd rfl (Or.inl rfl)) pgs_nil))))))) (pss_cons (ps_set (i := 2) sc_led_by.nd rfl (Or.inl rfl) (pe_callG (ok_end_of T hS) (hr.mono (by decide)) gu (by rfl) T.D.end_of.g T.D.end_of.F.kp T.D.end_of.b (fun σ => L2N.passAt (L2N.takes_of rfl rfl rfl rfl) σ) (pa_cons (pv 0) (pa_cons (pe_callB (call_min2 rfl) (by rfl) T.B.n_min (by decide +kernel) (pa_cons (pe_callB (call_max2 rfl) (by rfl) T.B.n_max (by decide +kernel) (pa_cons (pv 1) (pa_cons (pv 6) pa_nil))) (pa_cons (pv 7) pa_nil))) pa_nil)))) (pss_one (ps_ret (pe_tup (pa_cons (pv 2) (pa_cons (pe_op op_addA (pv 4) (pe_callB (call_max2 rfl) (by rfl) T.B.n_max (by decide +kernel) (pa_cons pe_int (pa_cons (pe_op op_sub (pv 1) (pv 7)) pa_nil)))) (pa_cons (pe_op op_addA (pv 5) (pe_callB (call_max2 rfl) (by rfl) T.B.n_max (by decide +kernel) (pa_cons pe_int (pa_cons (pe_op op_sub (pv 6) (pv 1)) pa_nil)))) pa_nil)))))))),
    (ss_cons (ss_asg (es_var 0) (gs_tup (gss_cons (gs_name 3) (gss_cons (gs_name 4) (gss_cons (gs_name 5) (gss_cons (gs_name 6) (gss_cons (gs_name 7) gss_nil))))))) (ss_cons (ss_set (es_call (ls_v (es_var 0) (ls_v (es_cb (ls_v (es_cb (ls_v (es_var 1) (ls_v (es_var 6) ls_nil)) pr_max2) (ls_v (es_var 7) ls_nil)) pr_min2) ls_nil)))) (ss_rt (es_tup (ls_v (es_var 2) (ls_v (es_bin (ls_v (es_var 4) (ls_v (es_cb (ls_v (es_int 0) (ls_v (es_bin (ls_v (es_var 1) (ls_v (es_var 7) ls_nil)) pr_sub) ls_nil)) pr_max2) ls_nil)) pr_add) (ls_v (es_bin (ls_v (es_var 5) (ls_v (es_cb (ls_v (es_int 0) (ls_v (es_bin (ls_v (es_var 6) (ls_v (es_var 1) ls_nil)) pr_sub) ls_nil)) pr_max2) ls_nil)) pr_add) ls_nil)))))))⟩
theorem ok_law_size (T : Txt K mg) (hS : SysB base) : FnG P w K mg base 2 T.D.law_size.a T.D.law_size.d ["bag", "kind"] (spD ⟨K, mg, none⟩ [true, false] f_law_size) :=
  fn_okG T.D.law_size.F sc_law_size [true, false] rfl b_law_size fun cdv A outer s H E hr gu => ⟨_,
    (pss_cons (ps_set (i := 2) sc_law_size.nd rfl (Or.inl rfl) (pe_ix ix_seq (pe_lst (pa_cons pe_int (pa_cons pe_int (pa_cons pe_int (pa_cons (pe_op op_sub (pe_op op_powW pe_int pe_int) pe_int) (pa_cons pe_int pa_nil)))))) (pv 1) (fun _ _ => rfl))) (pss_cons (ps_if (pt_cmpR (op_eqB hr.units) (pv 2) pe_int (nomark _)) (pss_one (ps_set (i := 2) sc_law_size.nd rfl (Or.inl rfl) (pe_ix ix_seq (pe_lst (pa_cons pe_int (pa_cons pe_int (pa_cons pe_int (pa_cons (pe_op op_sub (pe_op op_powW pe_int pe_int) pe_int) pa_nil))))) (pe_callG (ok_law_draw T hS) (hr.mono (by decide)) gu (by rfl) T.D.law_draw.g T.D.law_draw.F.kp T.D.law_draw.b (fun σ => L2N.passAt (L2N.takes_of rfl rfl rfl rfl) σ) (pa_cons (pv 0) (pa_cons pe_int pa_nil))) (fun _ _ => rfl)))) pss_nil) (pss_one (ps_ret (pe_callG (ok_law_draw T hS) (hr.mono (by decide)) gu (by rfl) T.D.law_draw.g T.D.law_draw.F.kp T.D.law_draw.b (fun σ => L2N.passAt (L2N.takes_of rfl rfl rfl rfl) σ) (pa_cons (pv 0) (pa_cons (pv 2) pa_nil))))))),
    (ss_cons (ss_set (es_bin (ls_v (es_lst (ls_v (es_int 4) (ls_v (es_int 9) (ls_v (es_int 60) (ls_v (es_bin (ls_v (es_bin (ls_v (es_int 10) (ls_v (es_int 12) ls_nil)) pr_pow) (ls_v (es_int 1) ls_nil)) pr_sub) (ls_v (es_int 0) ls_nil)))))) (ls_v (es_var 1) ls_nil)) pr_idx)) (ss_cons (ss_if (ts_test (es_bin (ls_v (es_var 2) (ls_v (es_int 0) ls_nil)) pr_eq)) (ss_set (es_bin (ls_v (es_lst (ls_v (es_int 2) (ls_v (es_int 4) (ls_v (es_int 30) (ls_v (es_bin (ls_v (es_bin (ls_v (es_int 10) (ls_v (es_int 12) ls_nil)) pr_pow) (ls_v (es_int 1) ls_nil)) pr_sub) ls_nil))))) (ls_v (es_call (ls_b (ls_v (es_int 4) ls_nil))) ls_nil)) pr_idx)) ss_nil) (ss_rt (es_call (ls_b (ls_v (es_var 2) ls_nil))))))⟩
theorem ok_law_cap (T : Txt K mg) (hS : SysB base) : FnG P w K mg base 2 T.D.law_cap.a T.D.law_cap.d ["bag", "line"] (spD ⟨K, mg, none⟩ [true, false] f_law_cap) :=
  fn_okG T.D.law_cap.F sc_law_cap [true, false] rfl b_law_cap fun cdv A outer s H E hr gu => ⟨_,
    (pss_cons (ps_set (i := 2) sc_law_cap.nd rfl (Or.inl rfl) (pe_callB (cr_sum rfl) (by rfl) T.B.n_sum (by decide +kernel) (pa_cons (pe_slice sl_any (pv 1) po_none (po_some (pe_callG (ok_law_draw T hS) (hr.mono (by decide)) gu (by rfl) T.D.law_draw.g T.D.law_draw.F.kp T.D.law_draw.b (fun σ => L2N.passAt (L2N.takes_of rfl rfl rfl rfl) σ) (pa_cons (pv 0) (pa_cons (pe_op op_addA (pe_callB call_len (by rfl) T.B.n_len (by decide +kernel) (pa_cons (pv 1) pa_nil)) pe_int) pa_nil))))) pa_nil))) (pss_cons (ps_set (i := 3) sc_law_cap.nd rfl (Or.inl rfl) (pe_ifExp (pt_cmpR (op_neB hr.units) (pv 1) (pe_lst pa_nil) (nomark _)) (pe_ix ix_seq (pv 1) (pe_callG (ok_law_draw T hS) (hr.mono (by decide)) gu (by rfl) T.D.law_draw.g T.D.law_draw.F.kp T.D.law_draw.b (fun σ => L2N.passAt (L2N.takes_of rfl rfl rfl rfl) σ) (pa_cons (pv 0) (pa_cons (pe_callB call_len (by rfl) T.B.n_len (by decide +kernel) (pa_cons (pv 1) pa_nil)) pa_nil))) (fun _ _ => rfl)) pe_int)) (pss_cons (ps_set (i := 4) sc_law_cap.nd rfl (Or.inl rfl) (pe_lst (pa_cons (pe_callG (ok_law_draw T hS) (hr.mono (by decide)) gu (by rfl) T.D.law_draw.g T.D.law_draw.F.kp T.D.law_draw.b (fun σ => L2N.passAt (L2N.takes_of rfl rfl rfl rfl) σ) (pa_cons (pv 0) (pa_cons pe_int pa_nil))) (pa_cons (pe_callG (ok_law_draw T hS) (hr.mono (by decide)) gu (by rfl) T.D.law_draw.g T.D.law_draw.F.kp T.D.law_draw.b (fun σ => L2N.passAt (L2N.takes_of rfl rfl rfl rfl) σ) (pa_cons (pv 0) (pa_cons pe_int pa_nil))) (pa_cons (pe_callB call_abs (by rfl) T.B.n_abs (by decide +kernel) (pa_cons (pv 3) pa_nil)) (pa_cons (pe_callB call_abs (by rfl) T.B.n_abs (by decide +kernel) (pa_cons (pv 2) pa_nil)) (pa_cons (pe_callG (ok_law_draw T hS) (hr.mono (by decide)) gu (by rfl) T.D.law_draw.g T.D.law_draw.F.kp T.D.law_draw.b (fun σ => L2N.passAt (L2N.takes_of rfl rfl rfl rfl) σ) (pa_cons (pv 0) (pa_cons (pe_op op_powW pe_int pe_int) pa_nil))) pa_nil))))))) (pss_one (ps_ret (pe_callB (call_max2 rfl) (by rfl) T.B.n_max (by decide +kernel) (pa_cons pe_int (pa_cons (pe_callB (call_min2 rfl) (by rfl) T.B.n_min (by decide +kernel) (pa_cons (pe_op op_sub (pe_op op_powW pe_int pe_int) pe_int) (pa_cons (pe_op op_sub (pe_op op_addA (pe_ix ix_seq (pv 4) (pe_callG (ok_law_draw T hS) (hr.mono (by decide)) gu (by rfl) T.D.law_draw.g T.D.law_draw.F.kp T.D.law_draw.b (fun σ => L2N.passAt (L2N.takes_of rfl rfl rfl rfl) σ) (pa_cons (pv 0) (pa_cons pe_int pa_nil))) (fun _ _ => rfl)) (pe_callG (ok_law_draw T hS) (hr.mono (by decide)) gu (by rfl) T.D.law_draw.g T.D.law_draw.F.kp T.D.law_draw.b (fun σ => L2N.passAt (L2N.takes_of rfl rfl rfl rfl) σ) (pa_cons (pv 0) (pa_cons pe_int pa_nil)))) pe_int) pa_nil))) pa_nil)))))))),
    (ss_cons (ss_set (es_cb (ls_v (es_sl (es_var 1) pos_no (pos_some (es_call (ls_b (ls_v (es_bin (ls_v (es_cb (ls_v (es_var 1) ls_nil) pr_len) (ls_v (es_int 1) ls_nil)) pr_add) ls_nil))))) ls_nil) pr_sum)) (ss_cons (ss_set (es_if (ts_test (es_bin (ls_v (es_var 1) (ls_v (es_lst ls_nil) ls_nil)) pr_ne)) (es_bin (ls_v (es_var 1) (ls_v (es_call (ls_b (ls_v (es_cb (ls_v (es_var 1) ls_nil) pr_len) ls_nil))) ls_nil)) pr_idx) (es_int 0))) (ss_cons (ss_set (es_lst (ls_v (es_call (ls_b (ls_v (es_int 6) ls_nil))) (ls_v (es_call (ls_b (ls_v (es_int 50) ls_nil))) (ls_v (es_cb (ls_v (es_var 3) ls_nil) pr_abs) (ls_v (es_cb (ls_v (es_var 2) ls_nil) pr_abs) (ls_v (es_call (ls_b (ls_v (es_bin (ls_v (es_int 10) (ls_v (es_int 12) ls_nil)) pr_pow) ls_nil))) ls_nil))))))) (ss_rt (es_cb (ls_v (es_int 0) (ls_v (es_cb (ls_v (es_bin (ls_v (es_bin (ls_v (es_int 10) (ls_v (es_int 12) ls_nil)) pr_pow) (ls_v (es_int 1) ls_nil)) pr_sub) (ls_v (es_bin (ls_v (es_bin (ls_v (es_bin (ls_v (es_var 4) (ls_v (es_call (ls_b (ls_v (es_int 5) ls_nil))) ls_nil)) pr_idx) (ls_v (es_call (ls_b (ls_v (es_int 3) ls_nil))) ls_nil)) pr_add) (ls_v (es_int 1) ls_nil)) pr_sub) ls_nil)) pr_min2) ls_nil)) pr_max2)))))⟩
theorem ok_law_no_days (T : Txt K mg) (hS : SysB base) : FnG P w K mg base 2 T.D.law_no_days.a T.D.law_no_days.d ["bag"] (spD ⟨K, mg, none⟩ [true] f_law_no_days) :=
  fn_okG T.D.law_no_days.F sc_law_no_days [true] rfl b_law_no_days fun cdv A outer s H E hr gu => ⟨_,
    (pss_cons (ps_set (i := 1) sc_law_no_days.nd rfl (Or.inl rfl) (pe_lst (pa_cons pe_non (pa_cons pe_int (pa_cons pe_str (pa_cons (pe_tup (pa_cons pe_int (pa_cons pe_int pa_nil))) (pa_cons (pe_lst (pa_cons pe_non pa_nil)) (pa_cons (pe_lst (pa_cons pe_bl pa_nil)) (pa_cons (pe_lst (pa_cons pe_str pa_nil)) (pa_cons (pe_lst (pa_cons (pe_lst (pa_cons pe_int pa_nil)) pa_nil)) (pa_cons (pe_lst (pa_cons pe_int (pa_cons (pe_tup (pa_cons pe_int pa_nil)) pa_nil))) (pa_cons pe_dnewK (pa_cons (pe_lst (pa_cons pe_int (pa_cons pe_bl (pa_cons pe_int pa_nil)))) (pa_cons (pe_disp (pps_cons pe_str pe_int pps_nil) (by rfl) (by rfl) (fun z => by cases z) (by decide)) pa_nil)))))))))))))) (pss_one (ps_ret (pe_ix ix_seq (pv 1) (pe_callG (ok_law_draw T hS) (hr.mono (by decide)) gu (by rfl) T.D.law_draw.g T.D.law_draw.F.kp T.D.law_draw.b (fun σ => L2N.passAt (L2N.takes_of rfl rfl rfl rfl) σ) (pa_cons (pv 0) (pa_cons pe_int pa_nil))) (fun _ _ => rfl))))),
    (ss_cons (ss_set (es_lst (ls_v es_non (ls_v (es_int 0) (ls_v (es_str ("1" : Str)) (ls_v (es_tup (ls_v (es_int 1) (ls_v (es_int 2) ls_nil))) (ls_v (es_lst (ls_v es_non ls_nil)) (ls_v (es_lst (ls_v (es_bl true) ls_nil)) (ls_v (es_lst (ls_v (es_str ("1" : Str)) ls_nil)) (ls_v (es_lst (ls_v (es_lst (ls_v (es_int 1) ls_nil)) ls_nil)) (ls_v (es_lst (ls_v (es_int 1) (ls_v (es_tup (ls_v (es_int 2) ls_nil)) ls_nil))) (ls_v es_dnew (ls_v (es_lst (ls_v (es_int 1) (ls_v (es_bl false) (ls_v (es_int 2) ls_nil)))) (ls_v (es_disp1 ("a" : Str) 1) ls_nil)))))))))))))) (ss_rt (es_bin (ls_v (es_var 1) (ls_v (es_call (ls_b (ls_v (es_int 12) ls_nil))) ls_nil)) pr_idx)))⟩
theorem ok_law_no_amount (T : Txt K mg) (hS : SysB base) : FnG P w K mg base 2 T.D.law_no_amount.a T.D.law_no_amount.d ["bag"] (spD ⟨K, mg, none⟩ [true] f_law_no_amount) :=
  fn_okG T.D.law_no_amount.F sc_law_no_amount [true] rfl b_law_no_amount fun cdv A outer s H E hr gu => ⟨_,
    (pss_one (ps_ret (pe_ix ix_seq (pe_lst (pa_cons pe_non (pa_cons (pe_un un_neg pe_int) (pa_cons pe_bl (pa_cons pe_str (pa_cons (pe_lst (pa_cons pe_int pa_nil)) (pa_cons (pe_tup pa_nil) (pa_cons (pe_un un_neg (pe_op op_powW pe_int pe_int)) (pa_cons pe_bl (pa_cons pe_dnewK pa_nil)))))))))) (pe_callG (ok_law_draw T hS) (hr.mono (by decide)) gu (by rfl) T.D.law_draw.g T.D.law_draw.F.kp T.D.law_draw.b (fun σ => L2N.passAt (L2N.takes_of rfl rfl rfl rfl) σ) (pa_cons (pv 0) (pa_cons pe_int pa_nil))) (fun _ _ => rfl)))),
    (ss_rt (es_bin (ls_v (es_lst (ls_v es_non (ls_v (es_un (ls_v (es_int 1) ls_nil) pr_neg) (ls_v (es_bl true) (ls_v (es_str ("0" : Str)) (ls_v (es_lst (ls_v (es_int 1) ls_nil)) (ls_v (es_tup ls_nil) (ls_v (es_un (ls_v (es_bin (ls_v (es_int 10) (ls_v (es_int 11) ls_nil)) pr_pow) ls_nil) pr_neg) (ls_v (es_bl false) (ls_v es_dnew ls_nil)))))))))) (ls_v (es_call (ls_b (ls_v (es_int 9) ls_nil))) ls_nil)) pr_idx))⟩
theorem ok_law_no_five (T : Txt K mg) (hS : SysB base) : FnG P w K mg base 2 T.D.law_no_five.a T.D.law_no_five.d ["bag", "room"] (spD ⟨K, mg, none⟩ [true, false] f_law_no_five) :=
  fn_okG T.D.law_no_five.F sc_law_no_five [true, false] rfl b_law_no_five fun cdv A outer s H E hr gu => ⟨_,
    (pss_cons (ps_set (i := 2) sc_law_no_five.nd rfl (Or.inl rfl) (pe_lst (pa_cons pe_non (pa_cons pe_int (pa_cons (pe_tup (pa_cons pe_int (pa_cons pe_int (pa_cons pe_int (pa_cons pe_int pa_nil))))) (pa_cons (pe_lst (pa_cons pe_int (pa_cons pe_int (pa_cons pe_int (pa_cons pe_int (pa_cons (pv 1) pa_nil)))))) (pa_cons (pe_tup (pa_cons pe_int (pa_cons pe_int (pa_cons pe_int (pa_cons pe_int (pa_cons (pe_op op_addA (pv 1) pe_int) pa_nil)))))) (pa_cons (pe_tup (pa_cons pe_int (pa_cons pe_int (pa_cons pe_int (pa_cons pe_int (pa_cons (pe_op op_addA (pv 1) pe_int) pa_nil)))))) (pa_cons pe_str pa_nil))))))))) (pss_cons (ps_set (i := 2) sc_law_no_five.nd rfl (Or.inl rfl) (pe_op op_addA (pv 2) (pe_lst (pa_cons (pe_tup (pa_cons pe_int (pa_cons (pe_un un_neg pe_int) (pa_cons pe_int (pa_cons pe_int (pa_cons pe_int pa_nil)))))) (pa_cons (pe_tup (pa_cons pe_bl (pa_cons pe_int (pa_cons pe_int (pa_cons pe_int (pa_cons pe_int pa_nil)))))) (pa_cons (pe_tup (pa_cons (pe_op op_addA (pv 1) pe_int) (pa_cons pe_int (pa_cons pe_int (pa_cons pe_int (pa_cons pe_int pa_nil)))))) pa_nil)))))) (pss_one (ps_ret (pe_ix ix_seq (pv 2) (pe_callG (ok_law_draw T hS) (hr.mono (by decide)) gu (by rfl) T.D.law_draw.g T.D.law_draw.F.kp T.D.law_draw.b (fun σ => L2N.passAt (L2N.takes_of rfl rfl rfl rfl) σ) (pa_cons (pv 0) (pa_cons pe_int pa_nil))) (fun _ _ => rfl)))))),
    (ss_cons (ss_set (es_lst (ls_v es_non (ls_v (es_int 5) (ls_v (es_tup (ls_v (es_int 0) (ls_v (es_int 0) (ls_v (es_int 0) (ls_v (es_int 0) ls_nil))))) (ls_v (es_lst (ls_v (es_int 0) (ls_v (es_int 0) (ls_v (es_int 0) (ls_v (es_int 0) (ls_v (es_var 1) ls_nil)))))) (ls_v (es_tup (ls_v (es_int 0) (ls_v (es_int 0) (ls_v (es_int 0) (ls_v (es_int 0) (ls_v (es_bin (ls_v (es_var 1) (ls_v (es_int 1) ls_nil)) pr_add) ls_nil)))))) (ls_v (es_tup (ls_v (es_int 0) (ls_v (es_int 1) (ls_v (es_int 0) (ls_v (es_int 0) (ls_v (es_bin (ls_v (es_var 1) (ls_v (es_int 1) ls_nil)) pr_add) ls_nil)))))) (ls_v (es_str ("five" : Str)) ls_nil))))))))) (ss_cons (ss_set (es_bin (ls_v (es_var 2) (ls_v (es_lst (ls_v (es_tup (ls_v (es_int 0) (ls_v (es_un (ls_v (es_int 1) ls_nil) pr_neg) (ls_v (es_int 0) (ls_v (es_int 0) (ls_v (es_int 0) ls_nil)))))) (ls_v (es_tup (ls_v (es_bl true) (ls_v (es_int 0) (ls_v (es_int 0) (ls_v (es_int 0) (ls_v (es_int 0) ls_nil)))))) (ls_v (es_tup (ls_v (es_bin (ls_v (es_var 1) (ls_v (es_int 1) ls_nil)) pr_add) (ls_v (es_int 0) (ls_v (es_int 0) (ls_v (es_int 0) (ls_v (es_int 0) ls_nil)))))) ls_nil)))) ls_nil)) pr_add)) (ss_rt (es_bin (ls_v (es_var 2) (ls_v (es_call (ls_b (ls_v (es_int 10) ls_nil))) ls_nil)) pr_idx))))⟩
theorem ok_need_days (T : Txt K mg) (hS : SysB base) : FnG P w K mg base 3 T.D.need_days.a T.D.need_days.d ["days"] (spD ⟨K, mg, none⟩ [false] f_need_days) :=
  fn_okG T.D.need_days.F sc_need_days [false] rfl b_need_days fun cdv A outer s H E hr gu => ⟨_,
    (pss_one (ps_if (pt_not (pt_val (pe_callG (ok_is_days T hS) (hr.mono (by decide)) gu (by rfl) T.D.is_days.g T.D.is_days.F.kp T.D.is_days.b (fun σ => L2N.passAt (L2N.takes_of rfl rfl rfl rfl) σ) (pa_cons (pv 0) pa_nil)))) (pss_one (L2N.ps_raise rfl (L2N.takes_of rfl rfl rfl rfl) (pmk_new0 PySem.F.excBase_ValueError T.R_NoDays.x T.C.NoDays.g T.R_NoDays.k (raises_own T.R_NoDays.be T.R_NoDays.ty) (by rfl)))) pss_nil)),
    (ss_if (ts_not (ts_val (es_call (ls_v (es_var 0) ls_nil)))) (ss_raise T.C.NoDays.g) ss_nil)⟩
theorem ok_need_cap (T : Txt K mg) (hS : SysB base) : FnG P w K mg base 3 T.D.need_cap.a T.D.need_cap.d ["cap"] (spD ⟨K, mg, none⟩ [false] f_need_cap) :=
  fn_okG T.D.need_cap.F sc_need_cap [false] rfl b_need_cap fun cdv A outer s H E hr gu => ⟨_,
    (pss_one (ps_if (pt_not (pt_val (pe_callG (ok_is_amount T hS) (hr.mono (by decide)) gu (by rfl) T.D.is_amount.g T.D.is_amount.F.kp T.D.is_amount.b (fun σ => L2N.passAt (L2N.takes_of rfl rfl rfl rfl) σ) (pa_cons (pv 0) pa_nil)))) (pss_one (L2N.ps_raise rfl (L2N.takes_of rfl rfl rfl rfl) (pmk_new0 PySem.F.excBase_ValueError T.R_NoCap.x T.C.NoCap.g T.R_NoCap.k (raises_own T.R_NoCap.be T.R_NoCap.ty) (by rfl)))) pss_nil)),
    (ss_if (ts_not (ts_val (es_call (ls_v (es_var 0) ls_nil)))) (ss_raise T.C.NoCap.g) ss_nil)⟩
theorem ok_need_start (T : Txt K mg) (hS : SysB base) : FnG P w K mg base 3 T.D.need_start.a T.D.need_start.d ["cap", "start"] (spD ⟨K, mg, none⟩ [false, false] f_need_start) :=
  fn_okG T.D.need_start.F sc_need_start [false, false] rfl b_need_start fun cdv A outer s H E hr gu => ⟨_,
    (pss_one (ps_if (PW.pt (pw_or (pt_not (pt_val (pe_callG (ok_is_amount T hS) (hr.mono (by decide)) gu (by rfl) T.D.is_amount.g T.D.is_amount.F.kp T.D.is_amount.b (fun σ => L2N.passAt (L2N.takes_of rfl rfl rfl rfl) σ) (pa_cons (pv 1) pa_nil)))) (pw_or1 (pt_cmpR op_gt (pv 1) (pv 0) (nomark _))))) (pss_one (L2N.ps_raise rfl (L2N.takes_of rfl rfl rfl rfl) (pmk_new0 PySem.F.excBase_ValueError T.R_NoStart.x T.C.NoStart.g T.R_NoStart.k (raises_own T.R_NoStart.be T.R_NoStart.ty) (by rfl)))) pss_nil)),
    (ss_if (ts_or (ts_not (ts_val (es_call (ls_v (es_var 1) ls_nil)))) (ts_test (es_bin (ls_v (es_var 1) (ls_v (es_var 0) ls_nil)) pr_gt))) (ss_raise T.C.NoStart.g) ss_nil)⟩
theorem ok_five_of (T : Txt K mg) (hS : SysB base) : FnG P w K mg base 3 T.D.five_of.a T.D.five_of.d ["days", "cap"] (spD ⟨K, mg, none⟩ [false, false] f_five_of) :=
  fn_okG T.D.five_of.F sc_five_of [false, false] rfl b_five_of fun cdv A outer s H E hr gu => ⟨_,
    (pss_cons (ps_set (i := 2) sc_five_of.nd rfl (Or.inl rfl) (pe_tup (pa_cons pe_int (pa_cons pe_int (pa_cons pe_int (pa_cons pe_int (pa_cons (pv 1) pa_nil))))))) (pss_cons (ps_for (passes_of rfl) rfl (pi_seq (pv 0)) (pg_name (i := 3) sc_five_of.nd rfl (Or.inl rfl)) (pss_one (ps_set (i := 2) sc_five_of.nd rfl (Or.inl rfl) (pe_callG (ok_put_behind T hS) (hr.mono (by decide)) gu (by rfl) T.D.put_behind.g T.D.put_behind.F.kp T.D.put_behind.b (fun σ => L2N.passAt (L2N.takes_of rfl rfl rfl rfl) σ) (pa_cons (pv 2) (pa_cons (pe_callG (ok_five_of_day T hS) (hr.mono (by decide)) gu (by rfl) T.D.five_of_day.g T.D.five_of_day.F.kp T.D.five_of_day.b (fun σ => L2N.passAt (L2N.takes_of rfl rfl rfl rfl) σ) (pa_cons (pv 1) (pa_cons (pv 3) pa_nil))) pa_nil)))))) (pss_one (ps_ret (pv 2))))),
    (ss_cons (ss_set (es_tup (ls_v (es_int 0) (ls_v (es_int 0) (ls_v (es_int 0) (ls_v (es_int 0) (ls_v (es_var 1) ls_nil))))))) (ss_cons (ss_for (is_seq (es_var 0)) (gs_name 3) (ss_set (es_call (ls_v (es_var 2) (ls_v (es_call (ls_v (es_var 1) (ls_v (es_var 3) ls_nil))) ls_nil))))) (ss_rt (es_mv 2))))⟩
theorem ok_law_row (T : Txt K mg) (hS : SysB base) : FnG P w K mg base 3 T.D.law_row.a T.D.law_row.d ["bag", "longest"] (spD ⟨K, mg, none⟩ [true, false] f_law_row) :=
  fn_okG T.D.law_row.F sc_law_row [true, false] rfl b_law_row fun cdv A outer s H E hr gu => ⟨_,
    (pss_cons (ps_asg (pe_tup (pa_cons (pe_callG (ok_law_draw T hS) (hr.mono (by decide)) gu (by rfl) T.D.law_draw.g T.D.law_draw.F.kp T.D.law_draw.b (fun σ => L2N.passAt (L2N.takes_of rfl rfl rfl rfl) σ) (pa_cons (pv 0) (pa_cons pe_int pa_nil))) (pa_cons (pe_callG (ok_law_draw T hS) (hr.mono (by decide)) gu (by rfl) T.D.law_draw.g T.D.law_draw.F.kp T.D.law_draw.b (fun σ => L2N.passAt (L2N.takes_of rfl rfl rfl rfl) σ) (pa_cons (pv 0) (pa_cons pe_int pa_nil))) pa_nil))) (pg_tup rfl (pgs_cons (pg_name (i := 5) sc_law_row.nd rfl (Or.inr rfl)) (pgs_cons (pg_name (i := 6) sc_law_row.nd rfl (Or.inl rfl)) pgs_nil)))) (pss_cons (ps_setLc (i := 2) (own := [("k", 8)]) rfl sc_law_row.nd rfl rfl (sw_true rfl rfl rfl (by decide +kernel)) (pi_range1 (by rfl) T.B.n_range (pa_cons (pe_callG (ok_law_draw T hS) (hr.mono (by decide)) gu (by rfl) T.D.law_draw.g T.D.law_draw.F.kp T.D.law_draw.b (fun σ => L2N.passAt (L2N.takes_of rfl rfl rfl rfl) σ) (pa_cons (pv 0) (pa_cons (pe_op op_addA (pv 1) pe_int) pa_nil))) pa_nil)) (blkOk_by (own := [("k", 8)]) (N := N_law_row) (sc := defScope s_law_row) (by decide +kernel)) (fun _ _ _ _ _ => (pg_name (i := 8) sc_law_row.nd rfl (Or.inl rfl))) (fun _ _ _ _ _ => pts_nil) (fun _ _ _ _ _ => (pe_callG (ok_law_size T hS) (hr.mono (by decide)) gu (by rfl) T.D.law_size.g T.D.law_size.F.kp T.D.law_size.b (fun σ => L2N.passAt takesN0 σ) (pa_cons (pv 0) (pa_cons (pv 5) pa_nil))))) (pss_cons (ps_if (pt_cmpR (op_eqB hr.units) (pv 6) pe_int (nomark _)) (pss_cons (ps_set (i := 7) sc_law_row.nd rfl (Or.inl rfl) (pe_callG (ok_law_draw T hS) (hr.mono (by decide)) gu (by rfl) T.D.law_draw.g T.D.law_draw.F.kp T.D.law_draw.b (fun σ => L2N.passAt (L2N.takes_of rfl rfl rfl rfl) σ) (pa_cons (pv 0) (pa_cons (pe_op op_addA (pe_callB call_len (by rfl) T.B.n_len (by decide +kernel) (pa_cons (pv 2) pa_nil)) pe_int) pa_nil)))) (pss_one (ps_set (i := 2) sc_law_row.nd rfl (Or.inl rfl) (pe_op op_addA (pe_callB cr_sortedI (by rfl) T.B.n_sorted (by decide +kernel) (pa_cons (pe_slice sl_any (pv 2) po_none (po_some (pv 7))) pa_nil)) (pe_revL (pe_callB cr_sortedI (by rfl) T.B.n_sorted (by decide +kernel) (pa_cons (pe_slice sl_any (pv 2) (po_some (pv 7)) po_none) pa_nil))))))) pss_nil) (pss_cons (ps_if (pt_cmpR (op_eqB hr.units) (pv 6) pe_int (nomark _)) (pss_one (ps_set (i := 2) sc_law_row.nd rfl (Or.inl rfl) (pe_ifExp (pt_cmpR (op_neB hr.units) (pv 2) (pe_lst pa_nil) (nomark _)) (pe_op op_mulA (pe_lst (pa_cons (pe_ix ix_seq (pv 2) pe_int (fun _ _ => rfl)) pa_nil)) (pe_callB call_len (by rfl) T.B.n_len (by decide +kernel) (pa_cons (pv 2) pa_nil))) (pe_lst pa_nil)))) pss_nil) (pss_cons (ps_set (i := 3) sc_law_row.nd rfl (Or.inl rfl) (pe_callG (ok_law_draw T hS) (hr.mono (by decide)) gu (by rfl) T.D.law_draw.g T.D.law_draw.F.kp T.D.law_draw.b (fun σ => L2N.passAt (L2N.takes_of rfl rfl rfl rfl) σ) (pa_cons (pv 0) (pa_cons pe_int pa_nil)))) (pss_cons (ps_set (i := 4) sc_law_row.nd rfl (Or.inl rfl) (pe_lst pa_nil)) (pss_cons (ps_for (passes_of rfl) rfl (pi_enum (by rfl) T.B.n_enumerate (pa_cons (pv 2) pa_nil)) (pg_tup rfl (pgs_cons (pg_name (i := 8) sc_law_row.nd rfl (Or.inl rfl)) (pgs_cons (pg_name (i := 9) sc_law_row.nd rfl (Or.inl rfl)) pgs_nil))) (pss_cons (ps_set (i := 10) sc_law_row.nd rfl (Or.inl rfl) (pe_ifExp (pt_cmpR op_in_seq (pv 6) (pe_tup (pa_cons pe_int (pa_cons pe_int pa_nil))) (by rfl)) (pe_op op_mod (pe_op op_addA (pv 8) (pv 3)) pe_int) (pe_callG (ok_law_draw T hS) (hr.mono (by decide)) gu (by rfl) T.D.law_draw.g T.D.law_draw.F.kp T.D.law_draw.b (fun σ => L2N.passAt (L2N.takes_of rfl rfl rfl rfl) σ) (pa_cons (pv 0) (pa_cons pe_int pa_nil))))) (pss_one (ps_expr (pe_bm PySem.F.plainAttrs_list PySem.F.slot_list_append PySem.F.type_list_append mt_append (pv 4) (pa_cons (pe_ix ix_seq (pe_lst (pa_cons (pv 9) (pa_cons (pe_un un_neg (pv 9)) pa_nil))) (pv 10) (fun _ _ => rfl)) pa_nil)))))) (pss_one (ps_ret (pv 4)))))))))),
    (ss_cons (ss_asg (es_tup (ls_v (es_call (ls_b (ls_v (es_int 5) ls_nil))) (ls_v (es_call (ls_b (ls_v (es_int 4) ls_nil))) ls_nil))) (gs_tup (gss_cons (gs_name 5) (gss_cons (gs_name 6) gss_nil)))) (ss_cons (ss_asg (es_lc (vs := [8]) (is_rng1 (ls_v (es_call (ls_b (ls_v (es_bin (ls_v (es_var 1) (ls_v (es_int 1) ls_nil)) pr_add) ls_nil))) ls_nil)) (gs_name 8) gin_name ts_yes (es_call (ls_b (ls_v (es_var 5) ls_nil)))) (gs_name 2)) (ss_cons (ss_if (ts_test (es_bin (ls_v (es_var 6) (ls_v (es_int 2) ls_nil)) pr_eq)) (ss_cons (ss_set (es_call (ls_b (ls_v (es_bin (ls_v (es_cb (ls_v (es_var 2) ls_nil) pr_len) (ls_v (es_int 1) ls_nil)) pr_add) ls_nil)))) (ss_set (es_bin (ls_v (es_cb (ls_v (es_sl (es_var 2) pos_no (pos_some (es_var 7))) ls_nil) pr_sorted) (ls_v (es_rev (ls_v (es_cb (ls_v (es_sl (es_var 2) (pos_some (es_var 7)) pos_no) ls_nil) pr_sorted) ls_nil)) ls_nil)) pr_add))) ss_nil) (ss_cons (ss_if (ts_test (es_bin (ls_v (es_var 6) (ls_v (es_int 3) ls_nil)) pr_eq)) (ss_set (es_if (ts_test (es_bin (ls_v (es_var 2) (ls_v (es_lst ls_nil) ls_nil)) pr_ne)) (es_bin (ls_v (es_lst (ls_v (es_bin (ls_v (es_var 2) (ls_v (es_int 0) ls_nil)) pr_idx) ls_nil)) (ls_v (es_cb (ls_v (es_var 2) ls_nil) pr_len) ls_nil)) pr_mul) (es_lst ls_nil))) ss_nil) (ss_cons (ss_set (es_call (ls_b (ls_v (es_int 2) ls_nil)))) (ss_cons (ss_set (es_lst ls_nil)) (ss_cons (ss_for (is_enum (es_var 2)) (gs_tup (gss_cons (gs_name 8) (gss_cons (gs_name 9) gss_nil))) (ss_cons (ss_set (es_if (ts_test (es_bin (ls_v (es_var 6) (ls_v (es_tup (ls_v (es_int 1) (ls_v (es_int 2) ls_nil))) ls_nil)) pr_inF)) (es_bin (ls_v (es_bin (ls_v (es_var 8) (ls_v (es_var 3) ls_nil)) pr_add) (ls_v (es_int 2) ls_nil)) pr_mod) (es_call (ls_b (ls_v (es_int 2) ls_nil))))) (ss_app (es_bin (ls_v (es_lst (ls_v (es_var 9) (ls_v (es_un (ls_v (es_var 9) ls_nil) pr_neg) ls_nil))) (ls_v (es_var 10) ls_nil)) pr_idx)))) (ss_rt (es_mv 4)))))))))⟩
theorem ok_is_five (T : Txt K mg) (hS : SysB base) : FnG P w K mg base 4 T.D.is_five.a T.D.is_five.d ["cap", "thing"] (spD ⟨K, mg, none⟩ [false, false] f_is_five) :=
  fn_okG T.D.is_five.F sc_is_five [false, false] rfl b_is_five fun cdv A outer s H E hr gu => ⟨_,
    (pss_cons (ps_expr (pe_callG (ok_need_cap T hS) (hr.mono (by decide)) gu (by rfl) T.D.need_cap.g T.D.need_cap.F.kp T.D.need_cap.b (fun σ => L2N.passAt (L2N.takes_of rfl rfl rfl rfl) σ) (pa_cons (pv 0) pa_nil))) (pss_cons (ps_if (PW.pt (pw_or (pt_not (pt_val (pe_callB call_isi (by rfl) T.B.n_isinstance (by decide +kernel) (pa_cons (pv 1) (pa_cons (pe_bltn (v := .ty "tuple") (by rfl) T.B.n_tuple (by decide +kernel) rfl) pa_nil))))) (pw_or (pt_cmpR (op_neB hr.units) (pe_callB call_len (by rfl) T.B.n_len (by decide +kernel) (pa_cons (pv 1) pa_nil)) pe_int (nomark _)) (pw_or1 (pt_not (pt_val (pe_callB (cr_all rfl) (by rfl) T.B.n_all (by decide +kernel) (pa_cons (pe_lc (own := [("one", 7)]) rfl sc_is_five.nd (pi_seq (pv 1)) (blkOk_by (own := [("one", 7)]) (N := N_is_five) (sc := defScope s_is_five) (by decide +kernel)) (fun _ _ _ _ _ => (pg_name (i := 7) sc_is_five.nd rfl (Or.inl rfl))) (fun _ _ _ _ _ => pts_nil) (fun _ _ _ _ _ => (pe_callG (ok_is_whole T hS) (hr.mono (by decide)) gu (by rfl) T.D.is_whole.g T.D.is_whole.F.kp T.D.is_whole.b (fun σ => L2N.passAt takesN0 σ) (pa_cons (pv 7) pa_nil)))) pa_nil)))))))) (pss_one (ps_ret pe_bl)) pss_nil) (pss_cons (ps_asg (pv 1) (pg_tup rfl (pgs_cons (pg_name (i := 2) sc_is_five.nd rfl (Or.inl rfl)) (pgs_cons (pg_name (i := 3) sc_is_five.nd rfl (Or.inl rfl)) (pgs_cons (pg_name (i := 4) sc_is_five.nd rfl (Or.inl rfl)) (pgs_cons (pg_name (i := 5) sc_is_five.nd rfl (Or.inl rfl)) (pgs_cons (pg_name (i := 6) sc_is_five.nd rfl (Or.inl rfl)) pgs_nil))))))) (pss_cons (ps_if (PW.pt (pw_or (pt_not (pt_chain3 op_le op_le op_le pe_int (pv 5) (pv 6) (pv 0))) (pw_or (pt_cmpR op_lt (pv 3) pe_int (nomark _)) (pw_or1 (pt_cmpR op_lt (pv 4) pe_int (nomark _)))))) (pss_one (ps_ret pe_bl)) pss_nil) (pss_cons (ps_if (PW.pt (pw_and (pt_cmpR op_lt (pv 5) (pv 6) (nomark _)) (pw_and1 (PW.pt (pw_or (pt_cmpR op_gt (pv 3) pe_int (nomark _)) (pw_or1 (pt_cmpR op_gt (pv 4) pe_int (nomark _)))))))) (pss_one (ps_ret pe_bl)) pss_nil) (pss_one (ps_ret (pe_and (pe_cmpR op_le pe_int (pe_callG (ok_end_of T hS) (hr.mono (by decide)) gu (by rfl) T.D.end_of.g T.D.end_of.F.kp T.D.end_of.b (fun σ => L2N.passAt (L2N.takes_of rfl rfl rfl rfl) σ) (pa_cons (pv 1) (pa_cons (pv 5) pa_nil))) (nomark _)) (pe_one (pe_cmpR op_le (pe_callG (ok_end_of T hS) (hr.mono (by decide)) gu (by rfl) T.D.end_of.g T.D.end_of.F.kp T.D.end_of.b (fun σ => L2N.passAt (L2N.takes_of rfl rfl rfl rfl) σ) (pa_cons (pv 1) (pa_cons (pv 6) pa_nil))) (pv 0) (nomark _))))))))))),
    (ss_cons (ss_ex (es_call (ls_v (es_var 0) ls_nil))) (ss_cons (ss_if (ts_or (ts_not (ts_val (es_isi .tuple (ls_v (es_var 1) ls_nil)))) (ts_or (ts_test (es_bin (ls_v (es_cb (ls_v (es_var 1) ls_nil) pr_len) (ls_v (es_int 5) ls_nil)) pr_ne)) (ts_not (ts_val (es_cb (ls_v (es_lc (vs := [7]) (is_seq (es_var 1)) (gs_name 7) gin_name ts_yes (es_call (ls_v (es_var 7) ls_nil))) ls_nil) pr_all))))) (ss_rt (es_bl false)) ss_nil) (ss_cons (ss_asg (es_var 1) (gs_tup (gss_cons (gs_name 2) (gss_cons (gs_name 3) (gss_cons (gs_name 4) (gss_cons (gs_name 5) (gss_cons (gs_name 6) gss_nil))))))) (ss_cons (ss_if (ts_or (ts_not (ts_test (es_chI3 (es_int 0) (es_var 5) (es_var 6) (es_var 0)))) (ts_or (ts_test (es_bin (ls_v (es_var 3) (ls_v (es_int 0) ls_nil)) pr_lt)) (ts_test (es_bin (ls_v (es_var 4) (ls_v (es_int 0) ls_nil)) pr_lt)))) (ss_rt (es_bl false)) ss_nil) (ss_cons (ss_if (ts_and (ts_test (es_bin (ls_v (es_var 5) (ls_v (es_var 6) ls_nil)) pr_lt)) (ts_or (ts_test (es_bin (ls_v (es_var 3) (ls_v (es_int 0) ls_nil)) pr_gt)) (ts_test (es_bin (ls_v (es_var 4) (ls_v (es_int 0) ls_nil)) pr_gt)))) (ss_rt (es_bl false)) ss_nil) (ss_rt (es_and (es_bin (ls_v (es_int 0) (ls_v (es_call (ls_v (es_var 1) (ls_v (es_var 5) ls_nil))) ls_nil)) pr_le) (es_bin (ls_v (es_call (ls_v (es_var 1) (ls_v (es_var 6) ls_nil))) (ls_v (es_var 0) ls_nil)) pr_le))))))))⟩
theorem ok_five (T : Txt K mg) (hS : SysB base) : FnG P w K mg base 4 T.D.five.a T.D.five.d ["days", "cap"] (spD ⟨K, mg, none⟩ [false, false] f_five) :=
  fn_okG T.D.five.F sc_five [false, false] rfl b_five fun cdv A outer s H E hr gu => ⟨_,
    (pss_cons (ps_expr (pe_callG (ok_need_days T hS) (hr.mono (by decide)) gu (by rfl) T.D.need_days.g T.D.need_days.F.kp T.D.need_days.b (fun σ => L2N.passAt (L2N.takes_of rfl rfl rfl rfl) σ) (pa_cons (pv 0) pa_nil))) (pss_cons (ps_expr (pe_callG (ok_need_cap T hS) (hr.mono (by decide)) gu (by rfl) T.D.need_cap.g T.D.need_cap.F.kp T.D.need_cap.b (fun σ => L2N.passAt (L2N.takes_of rfl rfl rfl rfl) σ) (pa_cons (pv 1) pa_nil))) (pss_one (ps_ret (pe_callG (ok_five_of T hS) (hr.mono (by decide)) gu (by rfl) T.D.five_of.g T.D.five_of.F.kp T.D.five_of.b (fun σ => L2N.passAt (L2N.takes_of rfl rfl rfl rfl) σ) (pa_cons (pv 0) (pa_cons (pv 1) pa_nil))))))),
    (ss_cons (ss_ex (es_call (ls_v (es_var 0) ls_nil))) (ss_cons (ss_ex (es_call (ls_v (es_var 1) ls_nil))) (ss_rt (es_call (ls_v (es_var 0) (ls_v (es_var 1) ls_nil))))))⟩
theorem ok_need_five (T : Txt K mg) (hS : SysB base) : FnG P w K mg base 5 T.D.need_five.a T.D.need_five.d ["cap", "thing"] (spD ⟨K, mg, none⟩ [false, false] f_need_five) :=
  fn_okG T.D.need_five.F sc_need_five [false, false] rfl b_need_five fun cdv A outer s H E hr gu => ⟨_,
    (pss_one (ps_if (pt_not (pt_val (pe_callG (ok_is_five T hS) (hr.mono (by decide)) gu (by rfl) T.D.is_five.g T.D.is_five.F.kp T.D.is_five.b (fun σ => L2N.passAt (L2N.takes_of rfl rfl rfl rfl) σ) (pa_cons (pv 0) (pa_cons (pv 1) pa_nil))))) (pss_one (L2N.ps_raise rfl (L2N.takes_of rfl rfl rfl rfl) (pmk_new0 PySem.F.excBase_ValueError T.R_NoFive.x T.C.NoFive.g T.R_NoFive.k (raises_own T.R_NoFive.be T.R_NoFive.ty) (by rfl)))) pss_nil)),
    (ss_if (ts_not (ts_val (es_call (ls_v (es_var 0) (ls_v (es_var 1) ls_nil))))) (ss_raise T.C.NoFive.g) ss_nil)⟩
theorem ok_ends_from (T : Txt K mg) (hS : SysB base) : FnG P w K mg base 5 T.D.ends_from.a T.D.ends_from.d ["days", "cap"] (spD ⟨K, mg, none⟩ [false, false] f_ends_from) :=
  fn_okG T.D.ends_from.F sc_ends_from [false, false] rfl b_ends_from fun cdv A outer s H E hr gu => ⟨_,
    (pss_cons (ps_set (i := 2) sc_ends_from.nd rfl (Or.inl rfl) (pe_callG (ok_five T hS) (hr.mono (by decide)) gu (by rfl) T.D.five.g T.D.five.F.kp T.D.five.b (fun σ => L2N.passAt (L2N.takes_of rfl rfl rfl rfl) σ) (pa_cons (pv 0) (pa_cons (pv 1) pa_nil)))) (pss_one (ps_ret (pe_tup (pa_cons (pe_callG (ok_end_of T hS) (hr.mono (by decide)) gu (by rfl) T.D.end_of.g T.D.end_of.F.kp T.D.end_of.b (fun σ => L2N.passAt (L2N.takes_of rfl rfl rfl rfl) σ) (pa_cons (pv 2) (pa_cons (pe_ix ix_seq (pv 2) pe_int (fun _ _ => rfl)) pa_nil))) (pa_cons (pe_callG (ok_end_of T hS) (hr.mono (by decide)) gu (by rfl) T.D.end_of.g T.D.end_of.F.kp T.D.end_of.b (fun σ => L2N.passAt (L2N.takes_of rfl rfl rfl rfl) σ) (pa_cons (pv 2) (pa_cons (pe_ix ix_seq (pv 2) pe_int (fun _ _ => rfl)) pa_nil))) pa_nil)))))),
    (ss_cons (ss_set (es_call (ls_v (es_var 0) (ls_v (es_var 1) ls_nil)))) (ss_rt (es_tup (ls_v (es_call (ls_v (es_var 2) (ls_v (es_bin (ls_v (es_var 2) (ls_v (es_int 3) ls_nil)) pr_idx) ls_nil))) (ls_v (es_call (ls_v (es_var 2) (ls_v (es_bin (ls_v (es_var 2) (ls_v (es_int 4) ls_nil)) pr_idx) ls_nil))) ls_nil)))))⟩
theorem ok_led (T : Txt K mg) (hS : SysB base) : FnG P w K mg base 6 T.D.led.a T.D.led.d ["cap", "five", "start"] (spD ⟨K, mg, none⟩ [false, false, false] f_led) :=
  fn_okG T.D.led.F sc_led [false, false, false] rfl b_led fun cdv A outer s H E hr gu => ⟨_,
    (pss_cons (ps_expr (pe_callG (ok_need_cap T hS) (hr.mono (by decide)) gu (by rfl) T.D.need_cap.g T.D.need_cap.F.kp T.D.need_cap.b (fun σ => L2N.passAt (L2N.takes_of rfl rfl rfl rfl) σ) (pa_cons (pv 0) pa_nil))) (pss_cons (ps_expr (pe_callG (ok_need_five T hS) (hr.mono (by decide)) gu (by rfl) T.D.need_five.g T.D.need_five.F.kp T.D.need_five.b (fun σ => L2N.passAt (L2N.takes_of rfl rfl rfl rfl) σ) (pa_cons (pv 0) (pa_cons (pv 1) pa_nil)))) (pss_cons (ps_expr (pe_callG (ok_need_start T hS) (hr.mono (by decide)) gu (by rfl) T.D.need_start.g T.D.need_start.F.kp T.D.need_start.b (fun σ => L2N.passAt (L2N.takes_of rfl rfl rfl rfl) σ) (pa_cons (pv 0) (pa_cons (pv 2) pa_nil)))) (pss_one (ps_ret (pe_callG (ok_led_by T hS) (hr.mono (by decide)) gu (by rfl) T.D.led_by.g T.D.led_by.F.kp T.D.led_by.b (fun σ => L2N.passAt (L2N.takes_of rfl rfl rfl rfl) σ) (pa_cons (pv 1) (pa_cons (pv 2) pa_nil)))))))),
    (ss_cons (ss_ex (es_call (ls_v (es_var 0) ls_nil))) (ss_cons (ss_ex (es_call (ls_v (es_var 0) (ls_v (es_var 1) ls_nil)))) (ss_cons (ss_ex (es_call (ls_v (es_var 0) (ls_v (es_var 2) ls_nil)))) (ss_rt (es_call (ls_v (es_var 1) (ls_v (es_var 2) ls_nil)))))))⟩
theorem ok_joined (T : Txt K mg) (hS : SysB base) : FnG P w K mg base 6 T.D.joined.a T.D.joined.d ["cap", "five", "other"] (spD ⟨K, mg, none⟩ [false, false, false] f_joined) :=
  fn_okG T.D.joined.F sc_joined [false, false, false] rfl b_joined fun cdv A outer s H E hr gu => ⟨_,
    (pss_cons (ps_expr (pe_callG (ok_need_cap T hS) (hr.mono (by decide)) gu (by rfl) T.D.need_cap.g T.D.need_cap.F.kp T.D.need_cap.b (fun σ => L2N.passAt (L2N.takes_of rfl rfl rfl rfl) σ) (pa_cons (pv 0) pa_nil))) (pss_cons (ps_expr (pe_callG (ok_need_five T hS) (hr.mono (by decide)) gu (by rfl) T.D.need_five.g T.D.need_five.F.kp T.D.need_five.b (fun σ => L2N.passAt (L2N.takes_of rfl rfl rfl rfl) σ) (pa_cons (pv 0) (pa_cons (pv 1) pa_nil)))) (pss_cons (ps_expr (pe_callG (ok_need_five T hS) (hr.mono (by decide)) gu (by rfl) T.D.need_five.g T.D.need_five.F.kp T.D.need_five.b (fun σ => L2N.passAt (L2N.takes_of rfl rfl rfl rfl) σ) (pa_cons (pv 0) (pa_cons (pv 2) pa_nil)))) (pss_one (ps_ret (pe_callG (ok_put_behind T hS) (hr.mono (by decide)) gu (by rfl) T.D.put_behind.g T.D.put_behind.F.kp T.D.put_behind.b (fun σ => L2N.passAt (L2N.takes_of rfl rfl rfl rfl) σ) (pa_cons (pv 1) (pa_cons (pv 2) pa_nil)))))))),
    (ss_cons (ss_ex (es_call (ls_v (es_var 0) ls_nil))) (ss_cons (ss_ex (es_call (ls_v (es_var 0) (ls_v (es_var 1) ls_nil)))) (ss_cons (ss_ex (es_call (ls_v (es_var 0) (ls_v (es_var 2) ls_nil)))) (ss_rt (es_call (ls_v (es_var 1) (ls_v (es_var 2) ls_nil)))))))⟩
theorem ok_few_days (T : Txt K mg) (hS : SysB base) : FnG P w K mg base 6 T.D.few_days.a T.D.few_days.d ["cap", "five"] (spD ⟨K, mg, none⟩ [false, false] f_few_days) :=
  fn_okG T.D.few_days.F sc_few_days [false, false] rfl b_few_days fun cdv A outer s H E hr gu => ⟨_,
    (pss_cons (ps_expr (pe_callG (ok_need_cap T hS) (hr.mono (by decide)) gu (by rfl) T.D.need_cap.g T.D.need_cap.F.kp T.D.need_cap.b (fun σ => L2N.passAt (L2N.takes_of rfl rfl rfl rfl) σ) (pa_cons (pv 0) pa_nil))) (pss_cons (ps_expr (pe_callG (ok_need_five T hS) (hr.mono (by decide)) gu (by rfl) T.D.need_five.g T.D.need_five.F.kp T.D.need_five.b (fun σ => L2N.passAt (L2N.takes_of rfl rfl rfl rfl) σ) (pa_cons (pv 0) (pa_cons (pv 1) pa_nil)))) (pss_cons (ps_asg (pv 1) (pg_tup rfl (pgs_cons (pg_name (i := 2) sc_few_days.nd rfl (Or.inl rfl)) (pgs_cons (pg_name (i := 3) sc_few_days.nd rfl (Or.inl rfl)) (pgs_cons (pg_name (i := 4) sc_few_days.nd rfl (Or.inl rfl)) (pgs_cons (pg_name (i := 5) sc_few_days.nd rfl (Or.inl rfl)) (pgs_cons (pg_name (i := 6) sc_few_days.nd rfl (Or.inl rfl)) pgs_nil))))))) (pss_cons (ps_if (pt_cmpR op_lt (pv 5) (pv 6) (nomark _)) (pss_one (ps_ret (pe_lst (pa_cons (pe_op op_sub pe_int (pv 5)) (pa_cons (pe_op op_sub (pe_op op_addA (pv 5) (pv 0)) (pv 6)) (pa_cons (pe_op op_sub (pe_op op_addA (pv 2) (pv 6)) (pv 0)) pa_nil)))))) pss_nil) (pss_one (ps_ret (pe_lst (pa_cons (pe_op op_sub pe_int (pv 5)) (pa_cons (pv 0) (pa_cons (pv 3) (pa_cons (pe_op op_sub (pe_op op_sub pe_int (pv 0)) (pv 4)) (pa_cons (pe_callG (ok_end_of T hS) (hr.mono (by decide)) gu (by rfl) T.D.end_of.g T.D.end_of.F.kp T.D.end_of.b (fun σ => L2N.passAt (L2N.takes_of rfl rfl rfl rfl) σ) (pa_cons (pv 1) (pa_cons (pv 5) pa_nil))) pa_nil)))))))))))),
    (ss_cons (ss_ex (es_call (ls_v (es_var 0) ls_nil))) (ss_cons (ss_ex (es_call (ls_v (es_var 0) (ls_v (es_var 1) ls_nil)))) (ss_cons (ss_asg (es_var 1) (gs_tup (gss_cons (gs_name 2) (gss_cons (gs_name 3) (gss_cons (gs_name 4) (gss_cons (gs_name 5) (gss_cons (gs_name 6) gss_nil))))))) (ss_cons (ss_if (ts_test (es_bin (ls_v (es_var 5) (ls_v (es_var 6) ls_nil)) pr_lt)) (ss_rt (es_lst (ls_v (es_bin (ls_v (es_int 0) (ls_v (es_var 5) ls_nil)) pr_sub) (ls_v (es_bin (ls_v (es_bin (ls_v (es_var 5) (ls_v (es_var 0) ls_nil)) pr_add) (ls_v (es_var 6) ls_nil)) pr_sub) (ls_v (es_bin (ls_v (es_bin (ls_v (es_var 2) (ls_v (es_var 6) ls_nil)) pr_add) (ls_v (es_var 0) ls_nil)) pr_sub) ls_nil))))) ss_nil) (ss_rt (es_lst (ls_v (es_bin (ls_v (es_int 0) (ls_v (es_var 5) ls_nil)) pr_sub) (ls_v (es_var 0) (ls_v (es_var 3) (ls_v (es_bin (ls_v (es_bin (ls_v (es_int 0) (ls_v (es_var 0) ls_nil)) pr_sub) (ls_v (es_var 4) ls_nil)) pr_sub) (ls_v (es_call (ls_v (es_var 1) (ls_v (es_var 5) ls_nil))) ls_nil)))))))))))⟩
theorem ok_law_said (T : Txt K mg) (hS : SysB base) : FnG P w K mg base 7 T.D.law_said.a T.D.law_said.d ["door", "some"] (spD ⟨K, mg, none⟩ [false, false] f_law_said) :=
  fn_okG T.D.law_said.F sc_law_said [false, false] rfl b_law_said fun cdv A outer s H E hr gu => ⟨_,
    (pss_cons (ps_asg (pe_slice sl_any (pe_op op_addA (pv 1) (pe_tup (pa_cons pe_int (pa_cons pe_int pa_nil)))) po_none (po_some pe_int)) (pg_tup rfl (pgs_cons (pg_name (i := 4) sc_law_said.nd rfl (Or.inl rfl)) (pgs_cons (pg_name (i := 5) sc_law_said.nd rfl (Or.inl rfl)) (pgs_cons (pg_name (i := 6) sc_law_said.nd rfl (Or.inl rfl)) pgs_nil))))) (pss_cons (ps_set (i := 2) sc_law_said.nd rfl (Or.inl rfl) (pe_lst pa_nil)) (pss_cons (L2N.ps_try_as (i := 3) rfl rfl sc_law_said.nd rfl rfl ⟨by rfl, by decide, .inl T.C.TankError.g⟩ (L2N.takes_of rfl rfl rfl rfl) (fun W pn xe tk hp => (pss_one (ps_if (pt_cmpR (op_eqB hr.units) (pv 0) pe_int (nomark _)) (pss_one (ps_expr (pe_callG (ok_five T hS) (hr.mono (by decide)) gu (by rfl) T.D.five.g T.D.five.F.kp T.D.five.b (fun σ => L2N.passAt tk σ) (pa_cons (pv 4) (pa_cons (pv 5) pa_nil))))) (pss_one (ps_if (pt_cmpR (op_eqB hr.units) (pv 0) pe_int (nomark _)) (pss_one (ps_expr (pe_callG (ok_ends_from T hS) (hr.mono (by decide)) gu (by rfl) T.D.ends_from.g T.D.ends_from.F.kp T.D.ends_from.b (fun σ => L2N.passAt tk σ) (pa_cons (pv 4) (pa_cons (pv 5) pa_nil))))) (pss_one (ps_if (pt_cmpR (op_eqB hr.units) (pv 0) pe_int (nomark _)) (pss_one (ps_expr (pe_callG (ok_led T hS) (hr.mono (by decide)) gu (by rfl) T.D.led.g T.D.led.F.kp T.D.led.b (fun σ => L2N.passAt tk σ) (pa_cons (pv 4) (pa_cons (pv 5) (pa_cons (pv 6) pa_nil)))))) (pss_one (ps_if (pt_cmpR (op_eqB hr.units) (pv 0) pe_int (nomark _)) (pss_one (ps_expr (pe_callG (ok_joined T hS) (hr.mono (by decide)) gu (by rfl) T.D.joined.g T.D.joined.F.kp T.D.joined.b (fun σ => L2N.passAt tk σ) (pa_cons (pv 4) (pa_cons (pv 5) (pa_cons (pv 6) pa_nil)))))) (pss_one (ps_if (pt_cmpR (op_eqB hr.units) (pv 0) pe_int (nomark _)) (pss_one (ps_expr (pe_callG (ok_few_days T hS) (hr.mono (by decide)) gu (by rfl) T.D.few_days.g T.D.few_days.F.kp T.D.few_days.b (fun σ => L2N.passAt tk σ) (pa_cons (pv 4) (pa_cons (pv 5) pa_nil))))) (pss_one (ps_expr (pe_callG (ok_is_five T hS) (hr.mono (by decide)) gu (by rfl) T.D.is_five.g T.D.is_five.F.kp T.D.is_five.b (fun σ => L2N.passAt tk σ) (pa_cons (pv 4) (pa_cons (pv 5) pa_nil)))))))))))))))) (fun a oe cls d pn hz hf => pss_pick (P := fun C x => mg x = some (.ref C) ∧ tb_TankError x = some true) hz (fun C x hz hP => pss_one (ps_set (i := 2) sc_law_said.nd rfl (Or.inl rfl) (pe_callX (oe := oe) (okX_law_words T hS hP.1 hP.2) (roomM (hr.mono (by decide))) rfl List.mem_cons_self hz hf (by rfl) T.D.law_words.g T.D.law_words.F.kp T.D.law_words.b (fun σ => L2N.passAt takesN0 σ) (pa_cons (pv 3) pa_nil)))))) (pss_one (ps_ret (pv 2)))))),
    (ss_cons (ss_asg (es_sl (es_bin (ls_v (es_var 1) (ls_v (es_tup (ls_v (es_int 0) (ls_v (es_int 0) ls_nil))) ls_nil)) pr_add) pos_no (pos_some (es_int 3))) (gs_tup (gss_cons (gs_name 4) (gss_cons (gs_name 5) (gss_cons (gs_name 6) gss_nil))))) (ss_cons (ss_set (es_lst ls_nil)) (ss_cons (ss_try (i := 3) rfl (fun W => (ss_if (ts_test (es_bin (ls_v (es_var 0) (ls_v (es_int 0) ls_nil)) pr_eq)) (ss_ex (es_call (ls_v (es_var 4) (ls_v (es_var 5) ls_nil)))) (ss_if (ts_test (es_bin (ls_v (es_var 0) (ls_v (es_int 1) ls_nil)) pr_eq)) (ss_ex (es_call (ls_v (es_var 4) (ls_v (es_var 5) ls_nil)))) (ss_if (ts_test (es_bin (ls_v (es_var 0) (ls_v (es_int 2) ls_nil)) pr_eq)) (ss_ex (es_call (ls_v (es_var 4) (ls_v (es_var 5) (ls_v (es_var 6) ls_nil))))) (ss_if (ts_test (es_bin (ls_v (es_var 0) (ls_v (es_int 3) ls_nil)) pr_eq)) (ss_ex (es_call (ls_v (es_var 4) (ls_v (es_var 5) (ls_v (es_var 6) ls_nil))))) (ss_if (ts_test (es_bin (ls_v (es_var 0) (ls_v (es_int 4) ls_nil)) pr_eq)) (ss_ex (es_call (ls_v (es_var 4) (ls_v (es_var 5) ls_nil)))) (ss_ex (es_call (ls_v (es_var 4) (ls_v (es_var 5) ls_nil)))))))))) (tx_TankError T) (fun a x C hC ht => ss_pick (P := fun C x => mg x = some (.ref C) ∧ tb_TankError x = some true) ⟨hC, ht⟩ (ss_set (es_callX rfl)))) (ss_rt (es_mv 2)))))⟩
theorem ok_law (T : Txt K mg) (hS : SysB base) : FnG P w K mg base 8 T.D.law.a T.D.law.d ["script"] (spD ⟨K, mg, none⟩ [false] f_law) :=
  fn_okG T.D.law.F sc_law [false] rfl b_law fun cdv A outer s H E hr gu => ⟨_,
    (pss_cons (ps_for (passes_of rfl) rfl (pi_range1 (by rfl) T.B.n_range (pa_cons (pe_callB (call_max2 rfl) (by rfl) T.B.n_max (by decide +kernel) (pa_cons pe_int (pa_cons (pe_callB (call_min2 rfl) (by rfl) T.B.n_min (by decide +kernel) (pa_cons pe_int (pa_cons (pe_callB call_len (by rfl) T.B.n_len (by decide +kernel) (pa_cons (pv 0) pa_nil)) pa_nil))) pa_nil))) pa_nil)) (pg_name (i := 1) sc_law.nd rfl (Or.inl rfl)) (pss_cons (ps_set (i := 2) sc_law.nd rfl (Or.inl rfl) (pe_callG (ok_law_bag T hS) (hr.mono (by decide)) gu (by rfl) T.D.law_bag.g T.D.law_bag.F.kp T.D.law_bag.b (fun σ => L2N.passAt (L2N.takes_of rfl rfl rfl rfl) σ) (pa_cons (pe_op op_addA (pe_callG (ok_law_cell_at T hS) (hr.mono (by decide)) gu (by rfl) T.D.law_cell_at.g T.D.law_cell_at.F.kp T.D.law_cell_at.b (fun σ => L2N.passAt (L2N.takes_of rfl rfl rfl rfl) σ) (pa_cons (pv 0) (pa_cons (pv 1) pa_nil))) pe_int) pa_nil))) (pss_cons (ps_set (i := 3) sc_law.nd rfl (Or.inl rfl) (pe_callG (ok_law_row T hS) (hr.mono (by decide)) gu (by rfl) T.D.law_row.g T.D.law_row.F.kp T.D.law_row.b (fun σ => L2N.passAt (L2N.takes_of rfl rfl rfl rfl) σ) (pa_cons (pv 2) (pa_cons pe_int pa_nil)))) (pss_cons (ps_set (i := 4) sc_law.nd rfl (Or.inl rfl) (pe_callG (ok_law_cap T hS) (hr.mono (by decide)) gu (by rfl) T.D.law_cap.g T.D.law_cap.F.kp T.D.law_cap.b (fun σ => L2N.passAt (L2N.takes_of rfl rfl rfl rfl) σ) (pa_cons (pv 2) (pa_cons (pv 3) pa_nil)))) (pss_cons (ps_set (i := 5) sc_law.nd rfl (Or.inl rfl) (pe_callG (ok_five T hS) (hr.mono (by decide)) gu (by rfl) T.D.five.g T.D.five.F.kp T.D.five.b (fun σ => L2N.passAt (L2N.takes_of rfl rfl rfl rfl) σ) (pa_cons (pv 3) (pa_cons (pv 4) pa_nil)))) (pss_cons (ps_set (i := 6) sc_law.nd rfl (Or.inl rfl) (pe_callG (ok_law_no_days T hS) (hr.mono (by decide)) gu (by rfl) T.D.law_no_days.g T.D.law_no_days.F.kp T.D.law_no_days.b (fun σ => L2N.passAt (L2N.takes_of rfl rfl rfl rfl) σ) (pa_cons (pv 2) pa_nil))) (pss_cons (ps_set (i := 7) sc_law.nd rfl (Or.inl rfl) (pe_callG (ok_law_no_amount T hS) (hr.mono (by decide)) gu (by rfl) T.D.law_no_amount.g T.D.law_no_amount.F.kp T.D.law_no_amount.b (fun σ => L2N.passAt (L2N.takes_of rfl rfl rfl rfl) σ) (pa_cons (pv 2) pa_nil))) (pss_cons (ps_set (i := 8) sc_law.nd rfl (Or.inl rfl) (pe_callG (ok_law_no_five T hS) (hr.mono (by decide)) gu (by rfl) T.D.law_no_five.g T.D.law_no_five.F.kp T.D.law_no_five.b (fun σ => L2N.passAt (L2N.takes_of rfl rfl rfl rfl) σ) (pa_cons (pv 2) (pa_cons (pv 4) pa_nil)))) (pss_cons (ps_set (i := 9) sc_law.nd rfl (Or.inl rfl) (pe_ix ix_seq (pe_lst (pa_cons (pe_callG (ok_law_no_amount T hS) (hr.mono (by decide)) gu (by rfl) T.D.law_no_amount.g T.D.law_no_amount.F.kp T.D.law_no_amount.b (fun σ => L2N.passAt (L2N.takes_of rfl rfl rfl rfl) σ) (pa_cons (pv 2) pa_nil)) (pa_cons (pe_op op_addA (pv 4) pe_int) pa_nil))) (pe_callG (ok_law_draw T hS) (hr.mono (by decide)) gu (by rfl) T.D.law_draw.g T.D.law_draw.F.kp T.D.law_draw.b (fun σ => L2N.passAt (L2N.takes_of rfl rfl rfl rfl) σ) (pa_cons (pv 2) (pa_cons pe_int pa_nil))) (fun _ _ => rfl))) (pss_cons (ps_set (i := 10) sc_law.nd rfl (Or.inl rfl) (pe_lst (pa_cons (pe_tup (pa_cons pe_int (pa_cons (pe_tup (pa_cons (pv 6) (pa_cons (pv 7) pa_nil))) (pa_cons pe_str pa_nil)))) (pa_cons (pe_tup (pa_cons pe_int (pa_cons (pe_tup (pa_cons (pv 3) (pa_cons (pv 7) pa_nil))) (pa_cons pe_str pa_nil)))) pa_nil)))) (pss_cons (ps_expr (pe_bm PySem.F.plainAttrs_list PySem.F.slot_list_append PySem.F.type_list_append mt_append (pv 10) (pa_cons (pe_tup (pa_cons pe_int (pa_cons (pe_tup (pa_cons (pv 6) (pa_cons (pv 4) pa_nil))) (pa_cons pe_str pa_nil)))) pa_nil))) (pss_cons (ps_expr (pe_bm PySem.F.plainAttrs_list PySem.F.slot_list_append PySem.F.type_list_append mt_append (pv 10) (pa_cons (pe_tup (pa_cons pe_int (pa_cons (pe_tup (pa_cons (pv 3) (pa_cons (pv 7) pa_nil))) (pa_cons pe_str pa_nil)))) pa_nil))) (pss_cons (ps_expr (pe_bm PySem.F.plainAttrs_list PySem.F.slot_list_append PySem.F.type_list_append mt_append (pv 10) (pa_cons (pe_tup (pa_cons pe_int (pa_cons (pe_tup (pa_cons (pv 7) (pa_cons (pv 8) (pa_cons (pv 9) pa_nil)))) (pa_cons pe_str pa_nil)))) pa_nil))) (pss_cons (ps_expr (pe_bm PySem.F.plainAttrs_list PySem.F.slot_list_append PySem.F.type_list_append mt_append (pv 10) (pa_cons (pe_tup (pa_cons pe_int (pa_cons (pe_tup (pa_cons (pv 4) (pa_cons (pv 8) (pa_cons (pv 9) pa_nil)))) (pa_cons pe_str pa_nil)))) pa_nil))) (pss_cons (ps_expr (pe_bm PySem.F.plainAttrs_list PySem.F.slot_list_append PySem.F.type_list_append mt_append (pv 10) (pa_cons (pe_tup (pa_cons pe_int (pa_cons (pe_tup (pa_cons (pv 4) (pa_cons (pv 5) (pa_cons (pv 9) pa_nil)))) (pa_cons pe_str pa_nil)))) pa_nil))) (pss_cons (ps_expr (pe_bm PySem.F.plainAttrs_list PySem.F.slot_list_append PySem.F.type_list_append mt_append (pv 10) (pa_cons (pe_tup (pa_cons pe_int (pa_cons (pe_tup (pa_cons (pv 7) (pa_cons (pv 8) (pa_cons (pv 8) pa_nil)))) (pa_cons pe_str pa_nil)))) pa_nil))) (pss_cons (ps_expr (pe_bm PySem.F.plainAttrs_list PySem.F.slot_list_append PySem.F.type_list_append mt_append (pv 10) (pa_cons (pe_tup (pa_cons pe_int (pa_cons (pe_tup (pa_cons (pv 4) (pa_cons (pv 8) (pa_cons (pv 5) pa_nil)))) (pa_cons pe_str pa_nil)))) pa_nil))) (pss_cons (ps_expr (pe_bm PySem.F.plainAttrs_list PySem.F.slot_list_append PySem.F.type_list_append mt_append (pv 10) (pa_cons (pe_tup (pa_cons pe_int (pa_cons (pe_tup (pa_cons (pv 4) (pa_cons (pv 5) (pa_cons (pv 8) pa_nil)))) (pa_cons pe_str pa_nil)))) pa_nil))) (pss_cons (ps_expr (pe_bm PySem.F.plainAttrs_list PySem.F.slot_list_append PySem.F.type_list_append mt_append (pv 10) (pa_cons (pe_tup (pa_cons pe_int (pa_cons (pe_tup (pa_cons (pv 7) (pa_cons (pv 8) pa_nil))) (pa_cons pe_str pa_nil)))) pa_nil))) (pss_cons (ps_expr (pe_bm PySem.F.plainAttrs_list PySem.F.slot_list_append PySem.F.type_list_append mt_append (pv 10) (pa_cons (pe_tup (pa_cons pe_int (pa_cons (pe_tup (pa_cons (pv 4) (pa_cons (pv 8) pa_nil))) (pa_cons pe_str pa_nil)))) pa_nil))) (pss_cons (ps_expr (pe_bm PySem.F.plainAttrs_list PySem.F.slot_list_append PySem.F.type_list_append mt_append (pv 10) (pa_cons (pe_tup (pa_cons pe_int (pa_cons (pe_tup (pa_cons (pv 7) (pa_cons (pv 5) pa_nil))) (pa_cons pe_str pa_nil)))) pa_nil))) (pss_cons (ps_for (passes_of rfl) rfl (pi_seq (pv 10)) (pg_tup rfl (pgs_cons (pg_name (i := 12) sc_law.nd rfl (Or.inl rfl)) (pgs_cons (pg_name (i := 13) sc_law.nd rfl (Or.inl rfl)) (pgs_cons (pg_name (i := 14) sc_law.nd rfl (Or.inl rfl)) pgs_nil)))) (pss_cons (ps_set (i := 15) sc_law.nd rfl (Or.inl rfl) (pe_callB (call_reprA gu hS hr.units) (by rfl) T.B.n_repr (by decide +kernel) (pa_cons (pv 13) pa_nil))) (pss_one (ps_if (PW.pt (pw_or (pt_cmpR (op_neB hr.units) (pe_callG (ok_law_said T hS) (hr.mono (by decide)) gu (by rfl) T.D.law_said.g T.D.law_said.F.kp T.D.law_said.b (fun σ => L2N.passAt (L2N.takes_of rfl rfl rfl rfl) σ) (pa_cons (pv 12) (pa_cons (pv 13) pa_nil))) (pe_lst (pa_cons (pv 14) (pa_cons pe_str pa_nil))) (nomark _)) (pw_or1 (pt_cmpR (op_neB hr.units) (pe_callB (call_reprA gu hS hr.units) (by rfl) T.B.n_repr (by decide +kernel) (pa_cons (pv 13) pa_nil)) (pv 15) (nomark _))))) (pss_one (ps_ret pe_bl)) pss_nil)))) (pss_cons (ps_set (i := 11) sc_law.nd rfl (Or.inl rfl) (pe_lst (pa_cons (pe_tup (pa_cons pe_int (pa_cons (pe_tup (pa_cons (pv 3) (pa_cons (pv 4) pa_nil))) pa_nil))) (pa_cons (pe_tup (pa_cons pe_int (pa_cons (pe_tup (pa_cons (pv 3) (pa_cons (pv 4) pa_nil))) pa_nil))) (pa_cons (pe_tup (pa_cons pe_int (pa_cons (pe_tup (pa_cons (pv 4) (pa_cons (pv 5) (pa_cons (pv 4) pa_nil)))) pa_nil))) (pa_cons (pe_tup (pa_cons pe_int (pa_cons (pe_tup (pa_cons (pv 4) (pa_cons (pv 5) (pa_cons (pv 5) pa_nil)))) pa_nil))) pa_nil)))))) (pss_one (ps_for (passes_of rfl) rfl (pi_seq (pe_op op_addA (pv 11) (pe_lst (pa_cons (pe_tup (pa_cons pe_int (pa_cons (pe_tup (pa_cons (pv 4) (pa_cons (pv 5) pa_nil))) pa_nil))) (pa_cons (pe_tup (pa_cons pe_int (pa_cons (pe_tup (pa_cons (pv 4) (pa_cons (pv 8) pa_nil))) pa_nil))) pa_nil))))) (pg_tup rfl (pgs_cons (pg_name (i := 12) sc_law.nd rfl (Or.inl rfl)) (pgs_cons (pg_name (i := 13) sc_law.nd rfl (Or.inl rfl)) pgs_nil))) (pss_one (ps_if (pt_cmpR (op_neB hr.units) (pe_callG (ok_law_said T hS) (hr.mono (by decide)) gu (by rfl) T.D.law_said.g T.D.law_said.F.kp T.D.law_said.b (fun σ => L2N.passAt (L2N.takes_of rfl rfl rfl rfl) σ) (pa_cons (pv 12) (pa_cons (pv 13) pa_nil))) (pe_lst pa_nil) (nomark _)) (pss_one (ps_ret pe_bl)) pss_nil))))))))))))))))))))))))))) (pss_one (ps_ret pe_bl))),
    (ss_cons (ss_for (is_rng1 (ls_v (es_cb (ls_v (es_int 1) (ls_v (es_cb (ls_v (es_int 6) (ls_v (es_cb (ls_v (es_var 0) ls_nil) pr_len) ls_nil)) pr_min2) ls_nil)) pr_max2) ls_nil)) (gs_name 1) (ss_cons (ss_set (es_call (ls_v (es_bin (ls_v (es_call (ls_v (es_var 0) (ls_v (es_var 1) ls_nil))) (ls_v (es_int 4) ls_nil)) pr_add) ls_nil))) (ss_cons (ss_set (es_call (ls_b (ls_v (es_int 8) ls_nil)))) (ss_cons (ss_set (es_call (ls_b (ls_v (es_var 3) ls_nil)))) (ss_cons (ss_set (es_call (ls_v (es_var 3) (ls_v (es_var 4) ls_nil)))) (ss_cons (ss_set (es_call (ls_b ls_nil))) (ss_cons (ss_set (es_call (ls_b ls_nil))) (ss_cons (ss_set (es_call (ls_b (ls_v (es_var 4) ls_nil)))) (ss_cons (ss_set (es_bin (ls_v (es_lst (ls_v (es_call (ls_b ls_nil)) (ls_v (es_bin (ls_v (es_var 4) (ls_v (es_int 1) ls_nil)) pr_add) ls_nil))) (ls_v (es_call (ls_b (ls_v (es_int 2) ls_nil))) ls_nil)) pr_idx)) (ss_cons (ss_set (es_lst (ls_v (es_tup (ls_v (es_int 0) (ls_v (es_tup (ls_v (es_var 6) (ls_v (es_var 7) ls_nil))) (ls_v (es_str ("NoDays" : Str)) ls_nil)))) (ls_v (es_tup (ls_v (es_int 0) (ls_v (es_tup (ls_v (es_var 3) (ls_v (es_var 7) ls_nil))) (ls_v (es_str ("NoCap" : Str)) ls_nil)))) ls_nil)))) (ss_cons (ss_app (es_tup (ls_v (es_int 1) (ls_v (es_tup (ls_v (es_var 6) (ls_v (es_var 4) ls_nil))) (ls_v (es_str ("NoDays" : Str)) ls_nil))))) (ss_cons (ss_app (es_tup (ls_v (es_int 1) (ls_v (es_tup (ls_v (es_var 3) (ls_v (es_var 7) ls_nil))) (ls_v (es_str ("NoCap" : Str)) ls_nil))))) (ss_cons (ss_app (es_tup (ls_v (es_int 2) (ls_v (es_tup (ls_v (es_var 7) (ls_v (es_var 8) (ls_v (es_var 9) ls_nil)))) (ls_v (es_str ("NoCap" : Str)) ls_nil))))) (ss_cons (ss_app (es_tup (ls_v (es_int 2) (ls_v (es_tup (ls_v (es_var 4) (ls_v (es_var 8) (ls_v (es_var 9) ls_nil)))) (ls_v (es_str ("NoFive" : Str)) ls_nil))))) (ss_cons (ss_app (es_tup (ls_v (es_int 2) (ls_v (es_tup (ls_v (es_var 4) (ls_v (es_var 5) (ls_v (es_var 9) ls_nil)))) (ls_v (es_str ("NoStart" : Str)) ls_nil))))) (ss_cons (ss_app (es_tup (ls_v (es_int 3) (ls_v (es_tup (ls_v (es_var 7) (ls_v (es_var 8) (ls_v (es_var 8) ls_nil)))) (ls_v (es_str ("NoCap" : Str)) ls_nil))))) (ss_cons (ss_app (es_tup (ls_v (es_int 3) (ls_v (es_tup (ls_v (es_var 4) (ls_v (es_var 8) (ls_v (es_var 5) ls_nil)))) (ls_v (es_str ("NoFive" : Str)) ls_nil))))) (ss_cons (ss_app (es_tup (ls_v (es_int 3) (ls_v (es_tup (ls_v (es_var 4) (ls_v (es_var 5) (ls_v (es_var 8) ls_nil)))) (ls_v (es_str ("NoFive" : Str)) ls_nil))))) (ss_cons (ss_app (es_tup (ls_v (es_int 4) (ls_v (es_tup (ls_v (es_var 7) (ls_v (es_var 8) ls_nil))) (ls_v (es_str ("NoCap" : Str)) ls_nil))))) (ss_cons (ss_app (es_tup (ls_v (es_int 4) (ls_v (es_tup (ls_v (es_var 4) (ls_v (es_var 8) ls_nil))) (ls_v (es_str ("NoFive" : Str)) ls_nil))))) (ss_cons (ss_app (es_tup (ls_v (es_int 5) (ls_v (es_tup (ls_v (es_var 7) (ls_v (es_var 5) ls_nil))) (ls_v (es_str ("NoCap" : Str)) ls_nil))))) (ss_cons (ss_for (is_seq (es_var 10)) (gs_tup (gss_cons (gs_name 12) (gss_cons (gs_name 13) (gss_cons (gs_name 14) gss_nil)))) (ss_cons (ss_set (es_cb (ls_v (es_var 13) ls_nil) pr_repr)) (ss_if (ts_or (ts_test (es_bin (ls_v (es_call (ls_v (es_var 12) (ls_v (es_var 13) ls_nil))) (ls_v (es_lst (ls_v (es_var 14) (ls_v (es_str ("value" : Str)) ls_nil))) ls_nil)) pr_ne)) (ts_test (es_bin (ls_v (es_cb (ls_v (es_var 13) ls_nil) pr_repr) (ls_v (es_var 15) ls_nil)) pr_ne))) (ss_rt (es_bl false)) ss_nil))) (ss_cons (ss_set (es_lst (ls_v (es_tup (ls_v (es_int 0) (ls_v (es_tup (ls_v (es_var 3) (ls_v (es_var 4) ls_nil))) ls_nil))) (ls_v (es_tup (ls_v (es_int 1) (ls_v (es_tup (ls_v (es_var 3) (ls_v (es_var 4) ls_nil))) ls_nil))) (ls_v (es_tup (ls_v (es_int 2) (ls_v (es_tup (ls_v (es_var 4) (ls_v (es_var 5) (ls_v (es_var 4) ls_nil)))) ls_nil))) (ls_v (es_tup (ls_v (es_int 3) (ls_v (es_tup (ls_v (es_var 4) (ls_v (es_var 5) (ls_v (es_var 5) ls_nil)))) ls_nil))) ls_nil)))))) (ss_for (is_seq (es_bin (ls_v (es_var 11) (ls_v (es_lst (ls_v (es_tup (ls_v (es_int 4) (ls_v (es_tup (ls_v (es_var 4) (ls_v (es_var 5) ls_nil))) ls_nil))) (ls_v (es_tup (ls_v (es_int 5) (ls_v (es_tup (ls_v (es_var 4) (ls_v (es_var 8) ls_nil))) ls_nil))) ls_nil))) ls_nil)) pr_add)) (gs_tup (gss_cons (gs_name 12) (gss_cons (gs_name 13) gss_nil))) (ss_if (ts_test (es_bin (ls_v (es_call (ls_v (es_var 12) (ls_v (es_var 13) ls_nil))) (ls_v (es_lst ls_nil) ls_nil)) pr_ne)) (ss_rt (es_bl false)) ss_nil))))))))))))))))))))))))) (ss_rt (es_bl true)))⟩
end
end LW
namespace LW
open PySem PySem.Spec PyProof.Rows FS FH
/-! ### the draws -/
theorem p39 : okPow 10 39 = true := okPow_of (k := 4) (by decide) (by decide) (by decide)
theorem p36 : okPow 10 36 = true := okPow_of (k := 4) (by decide) (by decide) (by decide)
theorem draw_a (a x c n : Int) (h0 : 0 < n) (hn : n < 2 ^ 60) (ha : 1 < a) :
    f_law_draw [.list [.int a, .int x, .int c], .int n] = .ok .sh (.int (a % n)) [.list [.int (a / n), .int x, .int c]] := by
  refine fp_ok (run_fp ⟨rfl, by decide⟩ ?_)
  simp [b_law_draw, argE, outsOf, ha, okMod_of h0, okDiv_of h0 (by omega)]
theorem draw_b (a x c n : Int) (h0 : 0 < n) (hn : n < 2 ^ 60) (ha : ¬ 1 < a) (e1 : okMul (c + 1) 982451653 = true) (e2 : okMul (c + 1) 15485863 = true) (e3 : okPow (x + (c + 1) * 982451653) 5 = true) (p q z : Int) (hp : (10 : Int) ^ 39 + 3 = p) (hq : (10 : Int) ^ 36 + 67 = q) (p0 : 0 < p) (q0 : 0 < q)
    (hz : (x + (c + 1) * 982451653) ^ 5 % p = z) (e4 : okPow (z + (c + 1) * 15485863) 3 = true) :
    f_law_draw [.list [.int a, .int x, .int c], .int n] = .ok .sh (.int ((z + (c + 1) * 15485863) ^ 3 % q / 1024 % n)) [.list [.int a, .int x, .int (c + 1)]] := by
  refine fp_ok (run_fp ⟨rfl, by decide⟩ ?_)
  have t39 : Int.toNat 39 = 39 := rfl
  have t36 : Int.toNat 36 = 36 := rfl
  have t5 : Int.toNat 5 = 5 := rfl
  have t3 : Int.toNat 3 = 3 := rfl
  have ed : okDiv ((z + (c + 1) * 15485863) ^ 3 % q) 1024 = true := okDiv_of (by decide) (by decide)
  simp [-Int.reducePow, b_law_draw, argE, outsOf, ha, okMod_of h0, e1, e2, e3, p39, p36, hp, hq, okMod_of p0, okMod_of q0, hz, e4, ed]
def BagOk (m : Nat) (d : PyData) : Prop := ∃ a x c : Int, d = .list [.int a, .int x, .int c] ∧ 0 ≤ x ∧ x < 10 ^ 41 ∧ 0 ≤ c ∧ c ≤ m
theorem fv_draw {m : Nat} {b : PyData} {n : Int} (hb : BagOk m b) (h0 : 0 < n) (hn : n < 2 ^ 60) (hm : m < 10 ^ 12) : ∃ (d : Int) (b' : PyData), 0 ≤ d ∧ d < n ∧ BagOk (m + 1) b' ∧ f_law_draw [b, .int n] = .ok .sh (.int d) [b'] := by
  obtain ⟨a, x, c, rfl, hx0, hx, hc0, hc⟩ := hb
  by_cases ha : 1 < a
  · exact ⟨a % n, .list [.int (a / n), .int x, .int c], Int.emod_nonneg _ (by omega), Int.emod_lt_of_pos _ h0, ⟨_, _, _, rfl, hx0, hx, hc0, by omega⟩, draw_a a x c n h0 hn ha⟩
  · have e1 : okMul (c + 1) 982451653 = true := okMul_of (k := 64) (l := 64) (by omega) (by decide) (by decide)
    have e2 : okMul (c + 1) 15485863 = true := okMul_of (k := 64) (l := 64) (by omega) (by decide) (by decide)
    have e3 : okPow (x + (c + 1) * 982451653) 5 = true := okPow_of (k := 200) (by decide) (by omega) (by decide)
    generalize hp : (10 : Int) ^ 39 + 3 = p
    generalize hq : (10 : Int) ^ 36 + 67 = q
    have p0 : 0 < p := by omega
    have q0 : 0 < q := by omega
    generalize hz : (x + (c + 1) * 982451653) ^ 5 % p = z
    have z0 : 0 ≤ z := by rw [← hz]; exact Int.emod_nonneg _ (by omega)
    have z1 : z < p := by rw [← hz]; exact Int.emod_lt_of_pos _ p0
    have e4 : okPow (z + (c + 1) * 15485863) 3 = true := okPow_of (k := 200) (by decide) (by omega) (by decide)
    exact ⟨_, _, Int.emod_nonneg _ (by omega), Int.emod_lt_of_pos _ h0, ⟨_, _, _, rfl, hx0, hx, by omega, by omega⟩, draw_b a x c n h0 hn ha e1 e2 e3 p q z hp hq p0 q0 hz e4⟩
theorem wpR_draw {m : Nat} {b : PyData} {n : Int} {is : List Nat} {ε : Fe} {Q : Own × PyData → Fe → Prop} {X : Str → Fe → Prop} (hb : BagOk m b) (h0 : 0 < n) (hn : n < 2 ^ 60) (hm : m < 10 ^ 12)
    (h : ∀ (d : Int) (b' : PyData), 0 ≤ d → d < n → BagOk (m + 1) b' → Q (.sh, .int d) (putO is [b'] ε)) : WpR (f_law_draw [b, .int n]) is ε Q X := by
  obtain ⟨d, b', h1, h2, h3, e⟩ := fv_draw hb h0 hn hm
  rw [e]
  exact h d b' h1 h2 h3
theorem BagOk.lst {m : Nat} {b : PyData} (h : BagOk m b) : ∃ ds, b = .list ds := let ⟨_, _, _, e, _⟩ := h; ⟨_, e⟩
theorem p18 : okPow 10 18 = true := okPow_of (k := 4) (by decide) (by decide) (by decide)
theorem p40 : okPow 10 40 = true := okPow_of (k := 4) (by decide) (by decide) (by decide)
theorem fv_bag (c : Int) : ∃ b, BagOk 0 b ∧ f_law_bag [.int c] = .ok .top b [] := by
  have t18 : Int.toNat 18 = 18 := rfl
  have t40 : Int.toNat 40 = 40 := rfl
  generalize hp : (10 : Int) ^ 40 + 121 = p
  have p0 : 0 < p := by omega
  refine ⟨.list [.int (if c - 10 ^ 18 > 1 then c - 10 ^ 18 else 1), .int (c % p), .int 0], ⟨_, _, _, rfl, Int.emod_nonneg _ (by omega), ?_, by omega, by omega⟩, ?_⟩
  · have := Int.emod_lt_of_pos c p0
    omega
  refine fp_ok (run_fp ⟨rfl, by decide⟩ ?_)
  simp [-Int.reducePow, b_law_bag, argE, outsOf, p18, p40, hp, okMod_of p0, sizeLine]
theorem fv_cell (ns : List Int) (k : Nat) : ∃ c : Int, f_law_cell_at [scrD ns, .int k] = .ok .sh (.int c) [] := by
  by_cases h : k < ns.length
  · obtain ⟨x, _, _, h2⟩ := atI_in (xs := ns) (i := k) (by omega) (by omega)
    refine ⟨x, fp_ok (run_fp ⟨rfl, by decide⟩ ?_)⟩
    simp [b_law_cell_at, argE, outsOf, h, h2]
  · refine ⟨0, fp_ok (run_fp ⟨rfl, by decide⟩ ?_)⟩
    simp [b_law_cell_at, argE, outsOf, h]
theorem p12 : okPow 10 12 = true := okPow_of (k := 4) (by decide) (by decide) (by decide)
/-- a def that hands on its bag: what it tells and the bag behind it -/
theorem fp_bag {r : FR} {P : Own → PyData → PyData → Prop} (h : FP r (fun o d outs => ∃ b, outs = [b] ∧ P o d b) fun _ _ => False) : ∃ o d b, P o d b ∧ r = .ok o d [b] := by
  cases r with
  | ok o d outs => obtain ⟨b, rfl, p⟩ := h; exact ⟨o, d, b, p, rfl⟩
  | exc _ _ => exact h.elim
  | stuck => exact h.elim
theorem wpR_drawC {m : Nat} {b : PyData} (n : Int) {is : List Nat} {ε : Fe} {Q : Own × PyData → Fe → Prop} {X : Str → Fe → Prop} (hb : BagOk m b) (hm : m < 10 ^ 12) (h0 : 0 < n := by omega) (hn : n < 2 ^ 60 := by omega)
    (h : ∀ (d : Int) (b' : PyData), 0 ≤ d → d < n → BagOk (m + 1) b' → Q (.sh, .int d) (putO is [b'] ε)) : WpR (f_law_draw [b, .int n]) is ε Q X := wpR_draw hb h0 hn hm h
theorem BagOk.up {m n : Nat} {b : PyData} (h : BagOk m b) (hn : m ≤ n) : BagOk n b := let ⟨a, x, c, e, h1, h2, h3, h4⟩ := h; ⟨a, x, c, e, h1, h2, h3, by omega⟩
theorem fv_size {m : Nat} {b : PyData} {k : Int} (hb : BagOk m b) (h0 : 0 ≤ k) (h1 : k < 5) (hm : m < 10 ^ 11) : ∃ (d : Int) (b' : PyData), 0 ≤ d ∧ d < 10 ^ 12 ∧ BagOk (m + 2) b' ∧ f_law_size [b, .int k] = .ok .sh (.int d) [b'] := by
  have key : ∃ o d b', (o = .sh ∧ ∃ z : Int, d = .int z ∧ 0 ≤ z ∧ z < 10 ^ 12 ∧ BagOk (m + 2) b') ∧ f_law_size [b, .int k] = .ok o d [b'] := by
    refine fp_bag (run_fp ⟨rfl, by decide⟩ ?_)
    have t12 : Int.toNat 12 = 12 := rfl
    generalize hp : (10 : Int) ^ 12 = p
    have hp' : p = 1000000000000 := by omega
    have np : ¬ (p - 1 = 0) := by omega
    rcases (show k = 0 ∨ k = 1 ∨ k = 2 ∨ k = 3 ∨ k = 4 by omega) with rfl | rfl | rfl | rfl | rfl
    · simp [-Int.reducePow, b_law_size, argE, okM, ownI, sizeLine, p12, hp]
      refine wpR_drawC 4 hb (by omega) (h := fun d b' d0 d1 hb' => ?_)
      simp [putO, outsOf]
      exact ⟨d0, by omega, hb'.up (by omega)⟩
    · simp [-Int.reducePow, b_law_size, argE, okM, ownI, sizeLine, p12, hp]
      refine wpR_drawC 9 hb (by omega) (h := fun d b' d0 d1 hb' => ?_)
      simp [putO, outsOf]
      exact ⟨d0, by omega, hb'.up (by omega)⟩
    · simp [-Int.reducePow, b_law_size, argE, okM, ownI, sizeLine, p12, hp]
      refine wpR_drawC 60 hb (by omega) (h := fun d b' d0 d1 hb' => ?_)
      simp [putO, outsOf]
      exact ⟨d0, by omega, hb'.up (by omega)⟩
    · simp [-Int.reducePow, b_law_size, argE, okM, ownI, sizeLine, p12, hp, np]
      refine wpR_drawC (p - 1) hb (by omega) (h := fun d b' d0 d1 hb' => ?_)
      simp [putO, outsOf]
      exact ⟨d0, by omega, hb'.up (by omega)⟩
    · simp [-Int.reducePow, b_law_size, argE, okM, ownI, sizeLine, p12, hp]
      refine wpR_drawC 4 hb (by omega) (h := fun d b' d0 d1 hb' => ?_)
      rcases (show d = 0 ∨ d = 1 ∨ d = 2 ∨ d = 3 by omega) with rfl | rfl | rfl | rfl
      · simp [putO, outsOf, okM, ownI]
        refine wpR_drawC 2 hb' (by omega) (h := fun d b' d0 d1 hb' => ?_)
        simp [putO, outsOf]
        exact ⟨d0, by omega, hb'.up (by omega)⟩
      · simp [putO, outsOf, okM, ownI]
        refine wpR_drawC 4 hb' (by omega) (h := fun d b' d0 d1 hb' => ?_)
        simp [putO, outsOf]
        exact ⟨d0, by omega, hb'.up (by omega)⟩
      · simp [putO, outsOf, okM, ownI]
        refine wpR_drawC 30 hb' (by omega) (h := fun d b' d0 d1 hb' => ?_)
        simp [putO, outsOf]
        exact ⟨d0, by omega, hb'.up (by omega)⟩
      · simp [putO, outsOf, okM, ownI]
        refine wpR_drawC (p - 1) hb' (by omega) (h := fun d b' d0 d1 hb' => ?_)
        simp [putO, outsOf]
        exact ⟨d0, by omega, hb'.up (by omega)⟩
  obtain ⟨_, _, b', ⟨rfl, z, rfl, z0, z1, hb'⟩, e⟩ := key
  exact ⟨z, b', z0, z1, hb', e⟩
theorem wpR_size {m : Nat} {b : PyData} {k : Int} {is : List Nat} {ε : Fe} {Q : Own × PyData → Fe → Prop} {X : Str → Fe → Prop} (hb : BagOk m b) (h0 : 0 ≤ k) (h1 : k < 5) (hm : m < 10 ^ 11)
    (h : ∀ (d : Int) (b' : PyData), 0 ≤ d → d < 10 ^ 12 → BagOk (m + 2) b' → Q (.sh, .int d) (putO is [b'] ε)) : WpR (f_law_size [b, .int k]) is ε Q X := by
  obtain ⟨d, b', q1, q2, q3, e⟩ := fv_size hb h0 h1 hm
  rw [e]
  exact h d b' q1 q2 q3
/-! ### the rows -/
/-- numbers of a row -/
def Few (n : Nat) (ns : List Int) : Prop := ns.length ≤ n ∧ ∀ z ∈ ns, -(10 ^ 12) < z ∧ z < 10 ^ 12
theorem sIx_le (n d : Nat) (o : Option Int) (h : d ≤ n) : HT.sIx n d o ≤ n := by
  unfold HT.sIx
  split
  · exact h
  · split <;> omega
theorem cut_ints (ns : List Int) (lo hi : Option Int) : ∃ ms : List Int, FS.cutD (ns.map PyData.int) lo hi = ms.map PyData.int ∧ ms.Sublist ns ∧ ms = (ns.drop (HT.sIx ns.length 0 lo)).take (HT.sIx ns.length ns.length hi - HT.sIx ns.length 0 lo) := by
  refine ⟨(ns.drop (HT.sIx ns.length 0 lo)).take (HT.sIx ns.length ns.length hi - HT.sIx ns.length 0 lo), ?_, (List.take_sublist _ _).trans (List.drop_sublist _ _), rfl⟩
  unfold FS.cutD
  rw [List.map_take, List.map_drop, List.length_map]
theorem mem_enD : ∀ {ns : List Int} {i : Nat} {d : PyData}, d ∈ enD i (ns.map PyData.int) → ∃ (j : Nat) (z : Int), z ∈ ns ∧ d = .tuple [.int j, .int z]
  | [], _, _, h => by simp [enD] at h
  | n :: ns, i, d, h => by
    simp only [List.map_cons, enD] at h
    rcases List.mem_cons.mp h with e | h
    · exact ⟨i, n, List.mem_cons_self, e⟩
    · obtain ⟨j, z, h1, h2⟩ := mem_enD h
      exact ⟨j, z, List.mem_cons_of_mem _ h1, h2⟩
/-- what a row is to be -/
abbrev RowQ (m L : Nat) : Fl → Fe → Prop := Ret [true, false] fun o d outs => ∃ b, outs = [b] ∧ o = .top ∧ ∃ ns : List Int, d = .list (ns.map PyData.int) ∧ Few L ns ∧ BagOk (m + 4 * L + 10) b
abbrev NoX : Str → Fe → Prop := fun x ε => some? (outsOf 0 [true, false] ε) fun _ => False
theorem row_t5 {m L : Nat} {b : PyData} {fs : List Int} {o : Own} {kd shape : Int} {x7 x8 x9 x10 : Option (Own × PyData)} (hb : BagOk (m + 2 * L + 5) b) (hm : m < 10 ^ 10) (hL : L ≤ 1000) (ho : o = .top ∨ o = .sh) (hl : fs.length ≤ L) (hz : ∀ z ∈ fs, 0 ≤ z ∧ z < 10 ^ 12) :
    Wp (b_law_row_t5 [some (.par 0, b), some (.sh, .int L), some (o, .list (fs.map PyData.int)), none, none, some (.sh, .int kd), some (.sh, .int shape), x7, x8, x9, x10]) (RowQ m L) NoX := by
  simp [b_law_row_t5, b_law_row_5, b_law_row_t6, okM, ownI]
  refine wpR_drawC 2 hb (by omega) (h := fun turn b1 t0 t1 hb1 => ?_)
  simp [putO, b_law_row_6, b_law_row_t7, b_law_row_7, sizeLine]
  have main : ∀ {x : Option (Own × PyData)}, WpF (gtTup 2 (gtCons (gtName 8) (gtCons (gtName 9) gtNil))) b_law_row_7b (enD 0 (fs.map PyData.int)) [some (.par 0, b1), some (.sh, .int L), some (.sh, .list (fs.map PyData.int)), some (.sh, .int turn), some (.top, .list []), some (.sh, .int kd), some (.sh, .int shape), x7, x8, x9, x10]
      (go (RowQ m L) fun ε' => Wp (b_law_row_8 ε') (RowQ m L) NoX) NoX := fun {x} => by
    refine wpF_inv (I := fun r ε => ∃ (out : List Int) (b' : PyData) (x8 x9 x10 : Option (Own × PyData)), ε = [some (.par 0, b'), some (.sh, .int L), some (.sh, .list (fs.map PyData.int)), some (.sh, .int turn), some (.top, .list (out.map PyData.int)), some (.sh, .int kd), some (.sh, .int shape), x7, x8, x9, x10] ∧
      out.length + r.length = fs.length ∧ (∀ z ∈ out, -(10 ^ 12) < z ∧ z < 10 ^ 12) ∧ BagOk (m + 2 * L + 6 + out.length) b') ⟨[], b1, x8, x9, x10, rfl, by simp, by simp, hb1⟩ ?_ ?_
    · rintro ε ⟨out, b', x8, x9, x10, rfl, hl', ho', hb'⟩
      simp at hl'
      simp [b_law_row_8, outsOf]
      exact ⟨out, rfl, ⟨by omega, ho'⟩, hb'.up (by omega)⟩
    · rintro d r ε hd ⟨out, b', x8, x9, x10, rfl, hl', ho', hb'⟩
      obtain ⟨j, z, hz1, rfl⟩ := mem_enD hd
      obtain ⟨z0, z1⟩ := hz z hz1
      simp at hl'
      have fin : ∀ (side : Int) (b2 : PyData), 0 ≤ side → side < 2 → BagOk (m + 2 * L + 6 + (out.length + 1)) b2 → ∀ (w : Int), (side = 0 ∧ w = z ∨ side = 1 ∧ w = -z) → ∃ (out' : List Int) (b' : PyData) (x8 x9 x10' : Option (Own × PyData)),
          [some (Own.par 0, b2), some (Own.sh, PyData.int L), some (Own.sh, PyData.list (fs.map PyData.int)), some (Own.sh, PyData.int turn), some (Own.top, PyData.list (out.map PyData.int ++ [.int w])), some (Own.sh, PyData.int kd), some (Own.sh, PyData.int shape), x7, some (Own.sh, .int j), some (Own.sh, .int z), some (.sh, .int side)] = [some (.par 0, b'), some (.sh, .int L), some (.sh, .list (fs.map PyData.int)), some (.sh, .int turn), some (.top, .list (out'.map PyData.int)), some (.sh, .int kd), some (.sh, .int shape), x7, x8, x9, x10'] ∧
          out'.length + r.length = fs.length ∧ (∀ z ∈ out', -(10 ^ 12) < z ∧ z < 10 ^ 12) ∧ BagOk (m + 2 * L + 6 + out'.length) b' := fun side b2 q0 q1 hb2 w hw => by
        refine ⟨out ++ [w], b2, some (.sh, .int j), some (.sh, .int z), some (.sh, .int side), by simp, by simp; omega, fun y hy => ?_, by simpa using hb2⟩
        rcases List.mem_append.mp hy with h | h
        · exact ho' y h
        · simp at h
          subst h
          rcases hw with ⟨_, rfl⟩ | ⟨_, rfl⟩ <;> omega
      have pick : ∀ (side : Int) (b2 : PyData), 0 ≤ side → side < 2 → BagOk (m + 2 * L + 6 + (out.length + 1)) b2 →
          Wp (b_law_row_7b_2 [some (Own.par 0, b2), some (Own.sh, PyData.int L), some (Own.sh, PyData.list (fs.map PyData.int)), some (Own.sh, PyData.int turn), some (Own.top, PyData.list (out.map PyData.int)), some (Own.sh, PyData.int kd), some (Own.sh, PyData.int shape), x7, some (Own.sh, .int j), some (Own.sh, .int z), some (.sh, .int side)])
            (rnd (go (RowQ m L) fun ε' => Wp (b_law_row_8 ε') (RowQ m L) NoX) fun ε => ∃ (out : List Int) (b' : PyData) (x8 x9 x10 : Option (Own × PyData)), ε = [some (.par 0, b'), some (.sh, .int L), some (.sh, .list (fs.map PyData.int)), some (.sh, .int turn), some (.top, .list (out.map PyData.int)), some (.sh, .int kd), some (.sh, .int shape), x7, x8, x9, x10] ∧
              out.length + r.length = fs.length ∧ (∀ z ∈ out, -(10 ^ 12) < z ∧ z < 10 ^ 12) ∧ BagOk (m + 2 * L + 6 + out.length) b') NoX := fun side b2 q0 q1 hb2 => by
        rcases (show side = 0 ∨ side = 1 by omega) with rfl | rfl
        · have := fin 0 b2 q0 q1 hb2 z (.inl ⟨rfl, rfl⟩)
          simp [b_law_row_7b_2, sizeLine] at this ⊢
          exact ⟨by omega, this⟩
        · have := fin 1 b2 q0 q1 hb2 (-z) (.inr ⟨rfl, rfl⟩)
          simp [b_law_row_7b_2, sizeLine] at this ⊢
          exact ⟨by omega, this⟩
      rcases (show shape = 1 ∨ shape = 2 ∨ (shape ≠ 1 ∧ shape ≠ 2) by omega) with rfl | rfl | ⟨n1, n2⟩
      · have := pick ((j + turn) % 2) b' (by omega) (by omega) (hb'.up (by omega))
        simp [b_law_row_7b, b_law_row_7b_1, sizeLine, flatD, okMod] at this ⊢
        exact this
      · have := pick ((j + turn) % 2) b' (by omega) (by omega) (hb'.up (by omega))
        simp [b_law_row_7b, b_law_row_7b_1, sizeLine, flatD, okMod] at this ⊢
        exact this
      · simp [b_law_row_7b, b_law_row_7b_1, sizeLine, flatD, n1, n2, okM, ownI, Ne.symm n1, Ne.symm n2]
        refine wpR_drawC 2 hb' (by omega) (h := fun side b2 q0 q1 hb2 => ?_)
        have := pick side b2 q0 q1 (hb2.up (by omega))
        simp [putO] at this ⊢
        exact this
  rcases ho with rfl | rfl
  · simp
    exact main (x := none)
  · simp
    exact main (x := none)
theorem sorted_mem {ns : List Int} {z : Int} (h : z ∈ sortI ns) : z ∈ ns := (sortI_perm ns).mem_iff.mp h
theorem fv_row {m L : Nat} {b : PyData} (hb : BagOk m b) (hm : m < 10 ^ 9) (hL : L ≤ 1000) : ∃ (ns : List Int) (b' : PyData), Few L ns ∧ BagOk (m + 4 * L + 10) b' ∧ f_law_row [b, .int L] = .ok .top (.list (ns.map PyData.int)) [b'] := by
  have key : ∃ o d b', (o = .top ∧ ∃ ns : List Int, d = .list (ns.map PyData.int) ∧ Few L ns ∧ BagOk (m + 4 * L + 10) b') ∧ f_law_row [b, .int L] = .ok o d [b'] := by
    refine fp_bag (run_fp ⟨rfl, by decide⟩ ?_)
    show Wp _ (RowQ m L) NoX
    simp [b_law_row, b_law_row_1, b_law_row_t2, argE, okM, ownI, sizeLine]
    refine wpR_drawC 5 hb (by omega) (h := fun kd b1 d0 d1 hb1 => ?_)
    simp [putO, okM, ownI]
    refine wpR_drawC 4 hb1 (by omega) (h := fun shape b2 s0 s1 hb2 => ?_)
    simp [putO, okM, ownI, b_law_row_2]
    refine wpR_drawC (L + 1) hb2 (by omega) (h := fun n b3 n0 n1 hb3 => ?_)
    simp [putO, wpE]
    refine ⟨by omega, wpC_inv (I := fun ds acc ε => ∃ (ms : List Int) (b' : PyData), acc = ms.map PyData.int ∧ ms.length + ds.length = n.toNat ∧ (∀ z ∈ ms, 0 ≤ z ∧ z < 10 ^ 12) ∧ BagOk (m + 3 + 2 * ms.length) b' ∧
      ε = [some (.par 0, b'), some (.sh, .int L), none, none, none, some (.sh, .int kd), some (.sh, .int shape), none, none, none, none]) ?_ ⟨[], b3, rfl, by simp [rngD], by simp, hb3, rfl⟩ ?_ ?_⟩
    · simp [rngD, sizeLine]; omega
    · rintro acc ε ⟨ms, b4, rfl, hl, hz, hb4, rfl⟩
      simp at hl
      have hms : ms.length ≤ L := by omega
      simp [b_law_row_t3]
      rcases (show shape = 2 ∨ shape = 3 ∨ (shape ≠ 2 ∧ shape ≠ 3) by omega) with rfl | rfl | ⟨n2, n3⟩
      · simp [b_law_row_3, okM, ownI]
        refine wpR_drawC (ms.length + 1) hb4 (by omega) (h := fun top b5 q0 q1 hb5 => ?_)
        simp [putO]
        obtain ⟨xs, ex, sx, _⟩ := cut_ints ms none (some top)
        obtain ⟨ys, ey, sy, eys⟩ := cut_ints ms (some top) none
        obtain ⟨xs', ex', _, exs⟩ := cut_ints ms none (some top)
        have exx : xs = xs' := List.map_inj_right (fun a b h => by cases h; rfl) |>.mp (ex.symm.trans ex')
        subst exx
        rw [ex, ey]
        simp only [g_sorted]
        have lx : (sortI xs).length = xs.length := (sortI_perm xs).length_eq
        have ly : (sortI ys).length = ys.length := (sortI_perm ys).length_eq
        have hlen : xs.length + ys.length ≤ ms.length := by
          rw [exs, eys]
          have e1 : HT.sIx ms.length ms.length (some top) = top.toNat := by unfold HT.sIx; dsimp only; rw [if_neg (by omega)]; omega
          have e2 : HT.sIx ms.length 0 (some top) = top.toNat := by unfold HT.sIx; dsimp only; rw [if_neg (by omega)]; omega
          simp [e1, e2, HT.sIx_none]
          omega
        simp [lx, ly]
        refine ⟨by rw [sizeLine_eq]; omega, ?_⟩
        simp [b_law_row_t4, b_law_row_4]
        have := row_t5 (m := m) (L := L) (b := b5) (fs := sortI xs ++ (sortI ys).reverse) (o := .top) (kd := kd) (shape := 2) (x7 := some (.sh, .int top)) (x8 := none) (x9 := none) (x10 := none) (hb5.up (by omega)) (by omega) hL (.inl rfl) (by simp [lx, ly]; omega) (fun z hz' => by
          rcases List.mem_append.mp hz' with h | h
          · exact hz z (sx.subset (sorted_mem h))
          · exact hz z (sy.subset (sorted_mem (List.mem_reverse.mp h))))
        simpa using this
      · simp [b_law_row_3, b_law_row_t4, b_law_row_4, okM, ownI, sizeLine]
        cases ms with
        | nil =>
          simp
          exact row_t5 (fs := []) (hb4.up (by simp; omega)) (by omega) hL (.inl rfl) (Nat.zero_le _) (by simp)
        | cons x r =>
          simp
          have := row_t5 (m := m) (L := L) (b := b4) (fs := List.replicate (r.length + 1) x) (o := .top) (kd := kd) (shape := 3) (x7 := none) (x8 := none) (x9 := none) (x10 := none) (hb4.up (by omega)) (by omega) hL (.inl rfl) (by simpa using hms) (fun z hz' => by
            obtain ⟨_, rfl⟩ := List.mem_replicate.mp hz'
            exact hz z List.mem_cons_self)
          refine ⟨by simp at hms; omega, ?_⟩
          simpa using this
      · simp [b_law_row_3, b_law_row_t4, b_law_row_4, n2, n3]
        exact row_t5 (hb4.up (by omega)) (by omega) hL (.inl rfl) hms hz
    · rintro d r acc ε hd ⟨ms, b4, rfl, hl, hz, hb4, rfl⟩
      simp [okM, ownI]
      refine wpR_size hb4 d0 d1 (by simp at hl; omega) (fun z b5 z0 z1 hb5 => ?_)
      simp [putO, wpE]
      refine ⟨ms ++ [z], by simp, by simp at hl ⊢; omega, fun y hy => ?_, hb5.up (by simp; omega)⟩
      rcases List.mem_append.mp hy with h | h
      · exact hz y h
      · simp at h; subst h; exact ⟨z0, z1⟩
  obtain ⟨_, _, b', ⟨rfl, z, rfl, z0, hb'⟩, e⟩ := key
  exact ⟨z, b', z0, hb', e⟩
theorem wpR_row {m L : Nat} {b : PyData} {is : List Nat} {ε : Fe} {Q : Own × PyData → Fe → Prop} {X : Str → Fe → Prop} (hb : BagOk m b) (hm : m < 10 ^ 9) (hL : L ≤ 1000)
    (h : ∀ (ns : List Int) (b' : PyData), Few L ns → BagOk (m + 4 * L + 10) b' → Q (.top, .list (ns.map PyData.int)) (putO is [b'] ε)) : WpR (f_law_row [b, .int L]) is ε Q X := by
  obtain ⟨ns, b', q1, q2, e⟩ := fv_row hb hm hL
  rw [e]
  exact h ns b' q1 q2
theorem p11 : okPow 10 11 = true := okPow_of (k := 4) (by decide) (by decide) (by decide)
abbrev CapQ (m : Nat) : Fl → Fe → Prop := Ret [true, false] fun o d outs => ∃ b, outs = [b] ∧ o = Own.sh ∧ ∃ z : Int, d = .int z ∧ 0 ≤ z ∧ z < 10 ^ 12 ∧ BagOk (m + 8) b
theorem cap_t3 {m : Nat} {b : PyData} {near one : Int} {x : PyData} (hb : BagOk (m + 2) b) (hm : m < 10 ^ 10) : Wp (b_law_cap_t3 [some (.par 0, b), some (.sh, x), some (.sh, .int near), some (.sh, .int one), none]) (CapQ m) NoX := by
  have t12 : Int.toNat 12 = 12 := rfl
  generalize hp : (10 : Int) ^ 12 = p
  have hp' : p = 1000000000000 := by omega
  simp [-Int.reducePow, b_law_cap_t3, b_law_cap_3, b_law_cap_4, okM, ownI, hp]
  refine wpR_drawC 6 hb (by omega) (h := fun d1 b1 _ _ hb1 => ?_)
  simp [-Int.reducePow, putO, okM, ownI, p12, hp]
  refine wpR_drawC 50 hb1 (by omega) (h := fun d2 b2 _ _ hb2 => ?_)
  simp [-Int.reducePow, putO, okM, ownI, p12, hp]
  refine wpR_drawC p hb2 (by omega) (h := fun d3 b3 _ _ hb3 => ?_)
  simp [-Int.reducePow, putO, okM, ownI, sizeLine, p12, hp]
  refine wpR_drawC 5 hb3 (by omega) (h := fun d4 b4 q0 q1 hb4 => ?_)
  simp [-Int.reducePow, putO, okM, ownI, sizeLine, p12, hp]
  refine some?_atI q0 (by simpa using q1) (fun y hy => ?_)
  have : ∃ z : Int, y = .int z := by
    simp at hy
    rcases hy with h | h | h | h | h <;> exact ⟨_, h⟩
  obtain ⟨z, rfl⟩ := this
  refine wpR_drawC 3 hb4 (by omega) (h := fun d5 b5 _ _ hb5 => ?_)
  simp [-Int.reducePow, putO, outsOf, hp]
  exact ⟨by split <;> omega, by split <;> split <;> omega, hb5.up (by omega)⟩
theorem fv_cap {m L : Nat} {b : PyData} {ns : List Int} (hb : BagOk m b) (hm : m < 10 ^ 10) (hL : L ≤ 1000) (hf : Few L ns) : ∃ (c : Int) (b' : PyData), 0 ≤ c ∧ c < 10 ^ 12 ∧ BagOk (m + 8) b' ∧ f_law_cap [b, .list (ns.map PyData.int)] = .ok .sh (.int c) [b'] := by
  have key : ∃ o d b', (o = .sh ∧ ∃ z : Int, d = .int z ∧ 0 ≤ z ∧ z < 10 ^ 12 ∧ BagOk (m + 8) b') ∧ f_law_cap [b, .list (ns.map PyData.int)] = .ok o d [b'] := by
    refine fp_bag (run_fp ⟨rfl, by decide⟩ ?_)
    show Wp _ (CapQ m) NoX
    obtain ⟨hl, hz⟩ := hf
    simp [b_law_cap, b_law_cap_1, b_law_cap_t2, argE, okM, ownI]
    refine wpR_drawC (ns.length + 1) hb (by omega) (h := fun t b1 t0 t1 hb1 => ?_)
    simp [putO]
    obtain ⟨xs, ex, _, _⟩ := cut_ints ns none (some t)
    rw [ex]
    simp only [g_sum]
    simp [b_law_cap_2, eqvAll_nilR, sizeLine, okM, ownI]
    split
    · exact cap_t3 (hb1.up (by omega)) hm
    · rename_i hn
      refine wpR_drawC ns.length hb1 (by omega) (by cases ns with | nil => exact absurd rfl hn | cons x r => simp) (h := fun d b2 q0 q1 hb2 => ?_)
      simp [putO]
      refine some?_atI q0 (by simpa using q1) (fun y hy => ?_)
      obtain ⟨z, _, rfl⟩ := List.mem_map.mp hy
      exact cap_t3 (hb2.up (by omega)) hm
  obtain ⟨_, _, b', ⟨rfl, z, rfl, z0, z1, hb'⟩, e⟩ := key
  exact ⟨z, b', z0, z1, hb', e⟩
theorem wpR_cap {m L : Nat} {b : PyData} {ns : List Int} {is : List Nat} {ε : Fe} {Q : Own × PyData → Fe → Prop} {X : Str → Fe → Prop} (hb : BagOk m b) (hm : m < 10 ^ 10) (hL : L ≤ 1000) (hf : Few L ns)
    (h : ∀ (c : Int) (b' : PyData), 0 ≤ c → c < 10 ^ 12 → BagOk (m + 8) b' → Q (.sh, .int c) (putO is [b'] ε)) : WpR (f_law_cap [b, .list (ns.map PyData.int)]) is ε Q X := by
  obtain ⟨c, b', q1, q2, q3, e⟩ := fv_cap hb hm hL hf
  rw [e]
  exact h c b' q1 q2 q3
end LW
namespace LW
open PySem PySem.Spec PyProof.Rows FS FH
/-! ### what is asked of what is handed in -/
theorem fv_whole (i : Int) : f_is_whole [.int i] = .ok .sh (.bool true) [] := by
  refine fp_ok (run_fp ⟨rfl, by decide⟩ ?_)
  simp [b_is_whole, argE, outsOf, isA, noScr]
theorem fv_amount (i : Int) : f_is_amount [.int i] = .ok .sh (.bool (decide (0 ≤ i))) [] := by
  refine fp_ok (run_fp ⟨rfl, by decide⟩ ?_)
  simp [b_is_amount, argE, outsOf, fv_whole, okM, ownI, putO]
theorem fv_isdays (ns : List Int) (h : ns.length ≤ 1000) : f_is_days [.list (ns.map PyData.int)] = .ok .sh (.bool true) [] := by
  refine fp_ok (run_fp ⟨rfl, by decide⟩ ?_)
  simp [b_is_days, argE, isA, noScr, wpE]
  refine wpC_inv (I := fun ds acc ε => ∃ bs : List Bool, acc = bs.map PyData.bool ∧ bs.all id = true ∧ bs.length + ds.length = ns.length ∧ ε = [some (.sh, .list (ns.map PyData.int)), none]) ?_ ⟨[], rfl, rfl, by simp, rfl⟩ ?_ ?_
  · simp [sizeLine]; omega
  · rintro acc ε ⟨bs, rfl, hb, _, rfl⟩
    simp [outsOf, hb]
  · rintro d r acc ε hd ⟨bs, rfl, hb, hl, rfl⟩
    obtain ⟨z, _, rfl⟩ := List.mem_map.mp hd
    simp [fv_whole, okM, ownI, putO, wpE]
    exact ⟨bs ++ [true], by simp, by simpa using hb, by simp at hl ⊢; omega⟩
theorem fv_need_days (ns : List Int) (h : ns.length ≤ 1000) : f_need_days [.list (ns.map PyData.int)] = .ok .sh .none [] := by
  refine fp_ok (run_fp ⟨rfl, by decide⟩ ?_)
  simp [b_need_days, argE, outsOf, fv_isdays ns h, okM, ownI, putO]
/-- none of the menus -/
def NoDaysD (d : PyData) : Prop := f_is_days [d] = .ok .sh (.bool false) []
def NoAmtD (d : PyData) : Prop := f_is_amount [d] = .ok .sh (.bool false) []
theorem fx_need_days {d : PyData} (h : NoDaysD d) : f_need_days [d] = .exc "NoDays" [] := by
  refine fp_exc (run_fp ⟨rfl, by decide⟩ ?_)
  unfold NoDaysD at h
  cases d <;> simp [b_need_days, argE, outsOf, h, okM, ownI, putO]
theorem fv_need_cap {c : Int} (h : 0 ≤ c) : f_need_cap [.int c] = .ok .sh .none [] := by
  refine fp_ok (run_fp ⟨rfl, by decide⟩ ?_)
  simp [b_need_cap, argE, outsOf, fv_amount, h, okM, ownI, putO]
theorem fx_need_cap {d : PyData} (h : NoAmtD d) : f_need_cap [d] = .exc "NoCap" [] := by
  refine fp_exc (run_fp ⟨rfl, by decide⟩ ?_)
  unfold NoAmtD at h
  simp [b_need_cap, argE, outsOf, h, okM, ownI, putO]
theorem fv_need_start {c s : Int} (h : 0 ≤ s) (h2 : s ≤ c) : f_need_start [.int c, .int s] = .ok .sh .none [] := by
  refine fp_ok (run_fp ⟨rfl, by decide⟩ ?_)
  simp [b_need_start, argE, outsOf, fv_amount, h, h2, okM, ownI, putO]
theorem fx_need_start {c : Int} {d : PyData} (h : NoAmtD d ∨ d = .int (c + 1)) (hc : 0 ≤ c) : f_need_start [.int c, d] = .exc "NoStart" [] := by
  refine fp_exc (run_fp ⟨rfl, by decide⟩ ?_)
  rcases h with h | rfl
  · unfold NoAmtD at h
    simp [b_need_start, argE, outsOf, h, okM, ownI, putO]
  · simp [b_need_start, argE, outsOf, fv_amount, okM, ownI, putO, show (0 : Int) ≤ c + 1 by omega, show c < c + 1 by omega]
theorem whole_of_amt {d : PyData} (h : NoAmtD d) (hs : noScr d = true) : f_is_whole [d] = .ok .sh (.bool false) [] ∨ ∃ i : Int, d = .int i ∧ i < 0 := by
  cases d with
  | int i =>
    unfold NoAmtD at h
    rw [fv_amount] at h
    refine .inr ⟨i, rfl, ?_⟩
    have : decide (0 ≤ i) = false := by
      injection h with _ h _
      injection h
    simpa using this
  | _ =>
    refine .inl (fp_ok (run_fp ⟨rfl, by decide⟩ ?_))
    simp [b_is_whole, argE, outsOf, isA, hs]
end LW
namespace LW
open PySem PySem.Spec PyProof.Rows FS FH
abbrev tup5 (a b c d e : Int) : PyData := .tuple [.int a, .int b, .int c, .int d, .int e]
/-! ### fives -/
theorem fv_end_of (a b c d e s : Int) : f_end_of [tup5 a b c d e, .int s] = .ok .sh (.int (s + a - b + c)) [] := by
  refine fp_ok (run_fp ⟨rfl, by decide⟩ ?_)
  simp [b_end_of, argE, outsOf]
structure F5 where
  a : Int
  b : Int
  c : Int
  d : Int
  e : Int
def F5.t (f : F5) : PyData := tup5 f.a f.b f.c f.d f.e
/-- no greater than M -/
structure F5.le (f : F5) (M : Int) : Prop where
  a : -M ≤ f.a ∧ f.a ≤ M
  b : -M ≤ f.b ∧ f.b ≤ M
  c : -M ≤ f.c ∧ f.c ≤ M
  d : -M ≤ f.d ∧ f.d ≤ M
  e : -M ≤ f.e ∧ f.e ≤ M
def dayF (c d : Int) : F5 := if c < d then ⟨d, d - c, 0, 0, 0⟩ else if 0 ≤ d then ⟨d, 0, 0, 0, c - d⟩ else if 0 - d ≤ c then ⟨d, 0, 0, 0 - d, c⟩ else ⟨d, 0, 0 - d - c, c, c⟩
theorem fv_five_of_day (c d : Int) : f_five_of_day [.int c, .int d] = .ok .sh (dayF c d).t [] := by
  refine fp_ok (run_fp ⟨rfl, by decide⟩ ?_)
  simp [b_five_of_day, argE, outsOf, dayF, F5.t, sizeLine]
  repeat' split
  all_goals simp_all
def putF (x y : F5) : F5 :=
  if x.e + x.a - x.b + x.c < y.d then ⟨x.a + y.a, x.b + y.b, x.c + y.c + y.d - (x.e + x.a - x.b + x.c), x.e, x.e⟩
  else if y.e < x.d + x.a - x.b + x.c then ⟨x.a + y.a, x.b + y.b + (x.d + x.a - x.b + x.c) - y.e, x.c + y.c, x.d, x.d⟩
  else ⟨x.a + y.a, x.b + y.b, x.c + y.c, x.d + max (x.d + x.a - x.b + x.c) y.d - (x.d + x.a - x.b + x.c), x.d + min (x.e + x.a - x.b + x.c) y.e - (x.d + x.a - x.b + x.c)⟩
theorem if_max (a b : Int) : (if b > a then b else a) = max a b := by split <;> omega
theorem if_min (a b : Int) : (if b < a then b else a) = min a b := by split <;> omega
theorem fv_put_behind (x y : F5) : f_put_behind [x.t, y.t] = .ok .sh (putF x y).t [] := by
  refine fp_ok (run_fp ⟨rfl, by decide⟩ ?_)
  simp [b_put_behind, argE, outsOf, F5.t, sizeLine, fv_end_of, okM, ownI, putO, putF]
  repeat' split
  all_goals simp_all [if_max, if_min]
  all_goals omega
theorem putF_le {x y : F5} {M : Int} (hx : x.le M) (hy : y.le M) : (putF x y).le (16 * M) := by
  obtain ⟨a, b, c, d, e⟩ := x
  obtain ⟨a', b', c', d', e'⟩ := y
  obtain ⟨⟨h1, h2⟩, ⟨h3, h4⟩, ⟨h5, h6⟩, ⟨h7, h8⟩, ⟨h9, g1⟩⟩ := hx
  obtain ⟨⟨k1, k2⟩, ⟨k3, k4⟩, ⟨k5, k6⟩, ⟨k7, k8⟩, ⟨k9, m1⟩⟩ := hy
  dsimp only at h1 h2 h3 h4 h5 h6 h7 h8 h9 g1 k1 k2 k3 k4 k5 k6 k7 k8 k9 m1
  unfold putF
  dsimp only
  split
  · exact ⟨by constructor <;> dsimp only <;> omega, by constructor <;> dsimp only <;> omega, by constructor <;> dsimp only <;> omega, by constructor <;> dsimp only <;> omega, by constructor <;> dsimp only <;> omega⟩
  · split
    · exact ⟨by constructor <;> dsimp only <;> omega, by constructor <;> dsimp only <;> omega, by constructor <;> dsimp only <;> omega, by constructor <;> dsimp only <;> omega, by constructor <;> dsimp only <;> omega⟩
    · have hu : max (d + a - b + c) d' ≤ 4 * M ∧ -(4 * M) ≤ max (d + a - b + c) d' := by omega
      have hv : min (e + a - b + c) e' ≤ 4 * M ∧ -(4 * M) ≤ min (e + a - b + c) e' := by omega
      generalize max (d + a - b + c) d' = u at *
      generalize min (e + a - b + c) e' = v at *
      exact ⟨by constructor <;> dsimp only <;> omega, by constructor <;> dsimp only <;> omega, by constructor <;> dsimp only <;> omega, by constructor <;> dsimp only <;> omega, by constructor <;> dsimp only <;> omega⟩
theorem dayF_le {c d : Int} {M : Int} (hc : -M ≤ c ∧ c ≤ M) (hd : -M ≤ d ∧ d ≤ M) : (dayF c d).le (2 * M) := by
  unfold dayF
  split
  · exact ⟨by dsimp only; omega, by dsimp only; omega, by dsimp only; omega, by dsimp only; omega, by dsimp only; omega⟩
  · split
    · exact ⟨by dsimp only; omega, by dsimp only; omega, by dsimp only; omega, by dsimp only; omega, by dsimp only; omega⟩
    · split
      · exact ⟨by dsimp only; omega, by dsimp only; omega, by dsimp only; omega, by dsimp only; omega, by dsimp only; omega⟩
      · exact ⟨by dsimp only; omega, by dsimp only; omega, by dsimp only; omega, by dsimp only; omega, by dsimp only; omega⟩
def foldF (c : Int) : F5 → List Int → F5
  | f, [] => f
  | f, d :: ds => foldF c (putF f (dayF c d)) ds
theorem fv_five_of (ns : List Int) (c : Int) : f_five_of [.list (ns.map PyData.int), .int c] = .ok .sh (foldF c ⟨0, 0, 0, 0, c⟩ ns).t [] := by
  refine fp_ok (run_fp ⟨rfl, by decide⟩ ?_)
  simp [b_five_of, b_five_of_1, b_five_of_t2, b_five_of_2, argE, sizeLine]
  refine wpF_inv (I := fun r ε => ∃ (ms : List Int) (f : F5) (x : Option (Own × PyData)), r = ms.map PyData.int ∧ foldF c f ms = foldF c ⟨0, 0, 0, 0, c⟩ ns ∧ ε = [some (.sh, .list (ns.map PyData.int)), some (.sh, .int c), some (.sh, f.t), x]) ⟨ns, ⟨0, 0, 0, 0, c⟩, none, rfl, rfl, rfl⟩ ?_ ?_
  · rintro ε ⟨ms, f, x, e, h, rfl⟩
    have : ms = [] := by cases ms; rfl; cases e
    subst this
    simp [b_five_of_3, outsOf]
    rw [← h]
    rfl
  · rintro d r ε hd ⟨ms, f, x, e, h, rfl⟩
    cases ms with
    | nil => cases e
    | cons z ms =>
      cases e
      simp [b_five_of_2b, fv_five_of_day, fv_put_behind, okM, ownI, putO]
      exact ⟨ms, rfl, putF f (dayF c z), h, rfl⟩
theorem foldF_le {c : Int} : ∀ {ns : List Int} {f : F5} {M : Int}, 0 ≤ M → (∀ z ∈ ns, -M ≤ z ∧ z ≤ M) → (-M ≤ c ∧ c ≤ M) → f.le (2 * M) → (foldF c f ns).le (16 ^ ns.length * (2 * M))
  | [], f, M, _, _, _, hf => by simpa [foldF] using hf
  | z :: ns, f, M, h1, hz, hc, hf => by
    have e : 16 ^ (z :: ns).length * (2 * M) = 16 ^ ns.length * (2 * (16 * M)) := by
      rw [List.length_cons, Int.pow_succ, Int.mul_assoc]
      congr 1
      omega
    rw [e]
    show (foldF c (putF f (dayF c z)) ns).le _
    refine foldF_le (M := 16 * M) (by omega) (fun y hy => ?_) (by omega) ?_
    · have := hz y (List.mem_cons_of_mem _ hy)
      omega
    · have := putF_le hf (dayF_le hc (hz z List.mem_cons_self))
      rw [show 2 * (16 * M) = 16 * (2 * M) by omega]
      exact this
def fiveF (ns : List Int) (c : Int) : F5 := foldF c ⟨0, 0, 0, 0, c⟩ ns
theorem fv_five (ns : List Int) {c : Int} (h : ns.length ≤ 1000) (hc : 0 ≤ c) : f_five [.list (ns.map PyData.int), .int c] = .ok .sh (fiveF ns c).t [] := by
  refine fp_ok (run_fp ⟨rfl, by decide⟩ ?_)
  simp [b_five, argE, outsOf, fv_need_days ns h, fv_need_cap hc, fv_five_of, okM, ownI, putO, fiveF]
theorem fx_fiveD {d c : PyData} (h : NoDaysD d) : f_five [d, c] = .exc "NoDays" [] := by
  refine fp_exc (run_fp ⟨rfl, by decide⟩ ?_)
  simp [b_five, argE, outsOf, fx_need_days h, okM, ownI, putO]
theorem fx_fiveC (ns : List Int) {c : PyData} (h : ns.length ≤ 1000) (hc : NoAmtD c) : f_five [.list (ns.map PyData.int), c] = .exc "NoCap" [] := by
  refine fp_exc (run_fp ⟨rfl, by decide⟩ ?_)
  simp [b_five, argE, outsOf, fv_need_days ns h, fx_need_cap hc, okM, ownI, putO]
theorem fv_led_by (f : F5) (s : Int) : f_led_by [f.t, .int s] = .ok .sh (.tuple [.int (min (max s f.d) f.e + f.a - f.b + f.c), .int (f.b + max 0 (s - f.e)), .int (f.c + max 0 (f.d - s))]) [] := by
  refine fp_ok (run_fp ⟨rfl, by decide⟩ ?_)
  simp [b_led_by, argE, outsOf, F5.t, fv_end_of, okM, ownI, putO, sizeLine, if_max, if_min]
  constructor <;> (split <;> omega)
end LW
namespace LW
open PySem PySem.Spec PyProof.Rows FS FH
/-! ### the menus -/
def menuD : List PyData := [.none, .int 0, .str "1", .tuple [.int 1, .int 2], .list [.none], .list [.bool true], .list [.str "1"], .list [.list [.int 1]], .list [.int 1, .tuple [.int 2]], .dict [], .list [.int 1, .bool false, .int 2], .dict [(.str "a", .int 1)]]
def menuA : List PyData := [.none, .int (-1), .bool true, .str "0", .list [.int 1], .tuple [], .int (-100000000000), .bool false, .dict []]
theorem menuD_no : ∀ d ∈ menuD, NoDaysD d := by
  intro d hd
  simp [menuD] at hd
  rcases hd with rfl | rfl | rfl | rfl | rfl | rfl | rfl | rfl | rfl | rfl | rfl | rfl <;> rfl
theorem menuA_no : ∀ d ∈ menuA, NoAmtD d := by
  intro d hd
  simp [menuA] at hd
  rcases hd with rfl | rfl | rfl | rfl | rfl | rfl | rfl | rfl | rfl <;> rfl
theorem fv_no_days {m : Nat} {b : PyData} (hb : BagOk m b) (hm : m < 10 ^ 11) : ∃ d b', d ∈ menuD ∧ BagOk (m + 1) b' ∧ f_law_no_days [b] = .ok .sh d [b'] := by
  have key : ∃ o d b', (o = .sh ∧ d ∈ menuD ∧ BagOk (m + 1) b') ∧ f_law_no_days [b] = .ok o d [b'] := by
    refine fp_bag (run_fp ⟨rfl, by decide⟩ ?_)
    simp [b_law_no_days, argE, okM, ownI, sizeLine]
    refine wpR_drawC 12 hb (by omega) (h := fun t b1 t0 t1 hb1 => ?_)
    simp [putO]
    refine some?_atI t0 (by simpa using t1) (fun y hy => ?_)
    simp [outsOf]
    exact ⟨hy, hb1⟩
  obtain ⟨_, d, b', ⟨rfl, h1, h2⟩, e⟩ := key
  exact ⟨d, b', h1, h2, e⟩
theorem fv_no_amount {m : Nat} {b : PyData} (hb : BagOk m b) (hm : m < 10 ^ 11) : ∃ d b', d ∈ menuA ∧ BagOk (m + 1) b' ∧ f_law_no_amount [b] = .ok .sh d [b'] := by
  have key : ∃ o d b', (o = .sh ∧ d ∈ menuA ∧ BagOk (m + 1) b') ∧ f_law_no_amount [b] = .ok o d [b'] := by
    refine fp_bag (run_fp ⟨rfl, by decide⟩ ?_)
    simp [b_law_no_amount, argE, okM, ownI, sizeLine, p11]
    refine wpR_drawC 9 hb (by omega) (h := fun t b1 t0 t1 hb1 => ?_)
    simp [putO]
    refine some?_atI t0 (by simpa using t1) (fun y hy => ?_)
    simp [outsOf]
    exact ⟨hy, hb1⟩
  obtain ⟨_, d, b', ⟨rfl, h1, h2⟩, e⟩ := key
  exact ⟨d, b', h1, h2, e⟩
/-! ### the words -/
def wordsD (x : Str) : PyData := .list [.str x, .str "value"]
end LW
namespace LW
open PySem PySem.Spec PyProof.Rows FS FH
/-! ### repr of what is small -/
structure Little (n : Nat) (d : PyData) : Prop where
  pl : plainD d = true
  sb : d.showable = true
  dp : d.depth ≤ 10
  ln : d.shown.length ≤ n
theorem little_int {i : Int} (h : -(10 ^ 12) ≤ i ∧ i ≤ 10 ^ 12) : Little 20 (.int i) := by
  refine ⟨by simp [plainD], ?_, by simp [PyData.depth], ?_⟩
  · simp only [PyData.showable, decide_eq_true_eq]
    by_cases h0 : i.natAbs = 0
    · rw [h0]; decide
    · have := (Nat.log2_lt h0).mpr (show i.natAbs < 2 ^ 64 by omega)
      omega
  · by_cases hs : i.natAbs < 10 ^ 12
    · exact Nat.le_trans (PyData.shown_int_le hs) (by omega)
    · rcases (show i = 10 ^ 12 ∨ i = -(10 ^ 12) by omega) with rfl | rfl
      · decide +kernel
      · decide +kernel
theorem plainDs_all : ∀ {ds : List PyData}, (∀ d ∈ ds, plainD d = true) → plainDs ds = true
  | [], _ => rfl
  | d :: ds, h => by
    unfold plainDs
    rw [h d List.mem_cons_self, plainDs_all fun x hx => h x (List.mem_cons_of_mem _ hx)]
    rfl
theorem showAll_all : ∀ {ds : List PyData}, (∀ d ∈ ds, d.showable = true) → PyData.showableAll ds = true
  | [], _ => rfl
  | d :: ds, h => by
    unfold PyData.showableAll
    rw [h d List.mem_cons_self, showAll_all fun x hx => h x (List.mem_cons_of_mem _ hx)]
    rfl
theorem depthAll_all : ∀ {ds : List PyData} {n : Nat}, (∀ d ∈ ds, d.depth ≤ n) → PyData.depthAll ds ≤ n
  | [], _, _ => by unfold PyData.depthAll; omega
  | d :: ds, n, h => by
    unfold PyData.depthAll
    have h1 := h d List.mem_cons_self
    have h2 := depthAll_all (n := n) fun x hx => h x (List.mem_cons_of_mem _ hx)
    omega
theorem shownAll_all : ∀ {ds : List PyData} {n : Nat}, (∀ d ∈ ds, d.shown.length ≤ n) → ((PyData.shownAll ds).map (·.length)).sum ≤ n * ds.length
  | [], _, _ => by simp [PyData.shownAll]
  | d :: ds, n, h => by
    have h1 := h d List.mem_cons_self
    have h2 := shownAll_all (n := n) fun x hx => h x (List.mem_cons_of_mem _ hx)
    simp only [PyData.shownAll, List.map_cons, List.sum_cons, List.length_cons]
    rw [Nat.mul_succ]
    omega
theorem rp_tuple {ds : List PyData} {n : Nat} (h : ∀ d ∈ ds, Little n d) (hn : (n + 2) * ds.length + 3 ≤ sizeLine) : rpOk (.tuple ds) = true := by
  unfold rpOk
  simp only [Bool.and_eq_true, decide_eq_true_eq]
  refine ⟨⟨⟨?_, ?_⟩, ?_⟩, ?_⟩
  · unfold plainD; exact plainDs_all fun d hd => (h d hd).pl
  · unfold PyData.showable; exact showAll_all fun d hd => (h d hd).sb
  · unfold PyData.depth
    have := depthAll_all (n := 10) fun d hd => (h d hd).dp
    omega
  · simp only [PyData.shown]
    have h1 := tupleText_len_le (PyData.shownAll ds)
    have h2 := shownAll_all fun d hd => (h d hd).ln
    have h3 := PyData.shownAll_length ds
    have e : (n + 2) * ds.length = n * ds.length + 2 * ds.length := Nat.add_mul _ _ _
    omega
theorem little_ints {ns : List Int} {L : Nat} (h : Few L ns) (hL : L ≤ 1000) : Little 30000 (.list (ns.map PyData.int)) := by
  have hi : ∀ d ∈ ns.map PyData.int, Little 20 d := fun d hd => by
    obtain ⟨z, hz, rfl⟩ := List.mem_map.mp hd
    exact little_int (by have := h.2 z hz; omega)
  refine ⟨?_, ?_, ?_, ?_⟩
  · unfold plainD; exact plainDs_all fun d hd => (hi d hd).pl
  · unfold PyData.showable; exact showAll_all fun d hd => (hi d hd).sb
  · unfold PyData.depth
    rw [(canLay_ints ns).2]
    omega
  · simp only [PyData.shown]
    have h1 := listText_len_le (PyData.shownAll (ns.map PyData.int))
    have h2 := shownAll_all fun d hd => (hi d hd).ln
    have h3 := PyData.shownAll_length (ns.map PyData.int)
    have h4 : (ns.map PyData.int).length = ns.length := List.length_map _
    have h5 := h.1
    omega
theorem Little.up {n m : Nat} {d : PyData} (h : Little n d) (hn : n ≤ m) : Little m d := ⟨h.pl, h.sb, h.dp, Nat.le_trans h.ln hn⟩
theorem menuD_little : ∀ d ∈ menuD, Little 30 d := by
  intro d hd
  simp [menuD] at hd
  rcases hd with rfl | rfl | rfl | rfl | rfl | rfl | rfl | rfl | rfl | rfl | rfl | rfl <;> exact ⟨by decide +kernel, by decide +kernel, by decide +kernel, by decide +kernel⟩
theorem menuA_little : ∀ d ∈ menuA, Little 30 d := by
  intro d hd
  simp [menuA] at hd
  rcases hd with rfl | rfl | rfl | rfl | rfl | rfl | rfl | rfl | rfl <;> exact ⟨by decide +kernel, by decide +kernel, by decide +kernel, by decide +kernel⟩
theorem menuA_scr : ∀ d ∈ menuA, noScr d = true := by
  intro d hd
  simp [menuA] at hd
  rcases hd with rfl | rfl | rfl | rfl | rfl | rfl | rfl | rfl | rfl <;> rfl
end LW
namespace LW
open PySem PySem.Spec PyProof.Rows FS FH
theorem fw_NoDays : f_law_words "NoDays" = .ok .top (wordsD "NoDays") [] := by rfl
theorem fw_NoCap : f_law_words "NoCap" = .ok .top (wordsD "NoCap") [] := by rfl
theorem fw_NoStart : f_law_words "NoStart" = .ok .top (wordsD "NoStart") [] := by rfl
theorem fw_NoFive : f_law_words "NoFive" = .ok .top (wordsD "NoFive") [] := by rfl
/-! ### a five of a cap -/
structure F5.ok (f : F5) (k : Int) : Prop where
  hd : 0 ≤ f.d
  de : f.d ≤ f.e
  he : f.e ≤ k
  hb : 0 ≤ f.b
  hc : 0 ≤ f.c
  hn : f.d < f.e → f.b = 0 ∧ f.c = 0
  lo : 0 ≤ f.d + f.a - f.b + f.c
  hi : f.e + f.a - f.b + f.c ≤ k
theorem dayF_ok {c d : Int} (hc : 0 ≤ c) : (dayF c d).ok c := by
  unfold dayF
  split
  · constructor <;> dsimp only <;> omega
  · split
    · constructor <;> dsimp only <;> omega
    · split
      · constructor <;> dsimp only <;> omega
      · constructor <;> dsimp only <;> omega
theorem putF_ok {x y : F5} {k : Int} (hx : x.ok k) (hy : y.ok k) : (putF x y).ok k := by
  obtain ⟨a, b, c, d, e⟩ := x
  obtain ⟨a', b', c', d', e'⟩ := y
  obtain ⟨h1, h2, h3, h4, h5, h6, h7, h8⟩ := hx
  obtain ⟨k1, k2, k3, k4, k5, k6, k7, k8⟩ := hy
  dsimp only at h1 h2 h3 h4 h5 h6 h7 h8 k1 k2 k3 k4 k5 k6 k7 k8
  unfold putF
  dsimp only
  split
  · constructor <;> dsimp only <;> omega
  · split
    · constructor <;> dsimp only <;> omega
    · rename_i n1 n2
      by_cases q : d < e
      · obtain ⟨rfl, rfl⟩ := h6 q
        by_cases q' : d' < e'
        · obtain ⟨rfl, rfl⟩ := k6 q'
          constructor <;> dsimp only <;> omega
        · constructor <;> dsimp only <;> omega
      · constructor <;> dsimp only <;> omega
theorem foldF_ok {c : Int} (hc : 0 ≤ c) : ∀ {ns : List Int} {f : F5}, f.ok c → (foldF c f ns).ok c
  | [], f, h => h
  | z :: ns, f, h => foldF_ok hc (ns := ns) (putF_ok h (dayF_ok hc))
theorem fiveF_ok (ns : List Int) {c : Int} (hc : 0 ≤ c) : (fiveF ns c).ok c := foldF_ok hc ⟨Int.le_refl _, hc, Int.le_refl _, Int.le_refl _, Int.le_refl _, fun _ => ⟨rfl, rfl⟩, by dsimp only; omega, by dsimp only; omega⟩
/-! ### is_five -/
theorem fx_is_fiveC {c d : PyData} (h : NoAmtD c) : f_is_five [c, d] = .exc "NoCap" [] := by
  refine fp_exc (run_fp ⟨rfl, by decide⟩ ?_)
  simp [b_is_five, argE, outsOf, fx_need_cap h, okM, ownI, putO]
def wholeB (d : PyData) : Bool := isA d .int && !isA d .bool
theorem fv_wholeB (d : PyData) (h : noScr d = true) : f_is_whole [d] = .ok .sh (.bool (wholeB d)) [] := by
  refine fp_ok (run_fp ⟨rfl, by decide⟩ ?_)
  cases e : isA d .int <;> simp [b_is_whole, argE, outsOf, e, h, wholeB]
theorem wholes {ds : List PyData} {s0 s1 s2 s3 s4 s5 s6 : Option (Own × PyData)} {P : List PyData → Fe → Prop} (h : ∀ d ∈ ds, noScr d = true) (hl : ds.length ≤ 1000)
    (q : P ((ds.map wholeB).map PyData.bool) [s0, s1, s2, s3, s4, s5, s6, none]) : WpC (gtName 7) tYesF (eCall [false] f_is_whole [.v (eVar 7)]) [7] ds [s0, s1, s2, s3, s4, s5, s6, none] [] P := by
  refine wpC_inv (I := fun r acc ε => ∃ bs : List Bool, acc = bs.map PyData.bool ∧ bs ++ r.map wholeB = ds.map wholeB ∧ ε = [s0, s1, s2, s3, s4, s5, s6, none]) (by simp [sizeLine]; omega) ⟨[], rfl, rfl, rfl⟩ ?_ ?_
  · rintro acc ε ⟨bs, rfl, e, rfl⟩
    simp at e
    rw [e]
    exact q
  · rintro d r acc ε hd ⟨bs, rfl, e, rfl⟩
    simp [fv_wholeB d (h d hd), okM, ownI, putO, wpE]
    exact ⟨bs ++ [wholeB d], by simp, by simpa using e⟩
theorem fv_is_five5 (a b c d e k : Int) (hk : 0 ≤ k) : f_is_five [.int k, tup5 a b c d e] = .ok .sh (.bool (decide ((0 ≤ d ∧ d ≤ e ∧ e ≤ k) ∧ 0 ≤ b ∧ 0 ≤ c ∧ (d < e → b ≤ 0 ∧ c ≤ 0) ∧ 0 ≤ d + a - b + c ∧ e + a - b + c ≤ k))) [] := by
  refine fp_ok (run_fp ⟨rfl, by decide⟩ ?_)
  simp [b_is_five, argE, fv_need_cap hk, isA, noScr, okM, ownI, putO, wpE]
  refine wholes (fun d hd => ?_) (by simp) ?_
  · simp at hd
    rcases hd with rfl | rfl | rfl | rfl | rfl <;> rfl
  · have e5 : (List.map wholeB [PyData.int a, PyData.int b, PyData.int c, PyData.int d, PyData.int e]).all id = true := rfl
    rw [g_all, e5]
    simp [fv_end_of, okM, ownI, putO, outsOf]
    repeat' split
    all_goals first
      | omega
      | (intros; omega)
      | (rw [Bool.eq_iff_iff]; simp only [Bool.and_eq_true, Bool.or_eq_true, Bool.not_eq_true', decide_eq_true_eq, decide_eq_false_iff_not]; omega)
theorem fv_is_five_ok {f : F5} {k : Int} (hk : 0 ≤ k) (h : f.ok k) : f_is_five [.int k, f.t] = .ok .sh (.bool true) [] := by
  have e := fv_is_five5 f.a f.b f.c f.d f.e k hk
  have d := decide_eq_true (show (0 ≤ f.d ∧ f.d ≤ f.e ∧ f.e ≤ k) ∧ 0 ≤ f.b ∧ 0 ≤ f.c ∧ (f.d < f.e → f.b ≤ 0 ∧ f.c ≤ 0) ∧ 0 ≤ f.d + f.a - f.b + f.c ∧ f.e + f.a - f.b + f.c ≤ k from
    ⟨⟨h.hd, h.de, h.he⟩, h.hb, h.hc, fun q => by have := h.hn q; omega, h.lo, h.hi⟩)
  rw [d] at e
  exact e
/-- what is no five of the cap -/
def menuF (k : Int) : List PyData := [.none, .int 5, .tuple [.int 0, .int 0, .int 0, .int 0], .list [.int 0, .int 0, .int 0, .int 0, .int k], tup5 0 0 0 0 (k + 1), tup5 0 1 0 0 (k + 1), .str "five", tup5 0 (-1) 0 0 0, .tuple [.bool true, .int 0, .int 0, .int 0, .int 0], tup5 (k + 1) 0 0 0 0]
theorem menuF_no {k : Int} (hk : 0 ≤ k) : ∀ d ∈ menuF k, f_is_five [.int k, d] = .ok .sh (.bool false) [] := by
  have five : ∀ {a b c d e : Int}, ¬ ((0 ≤ d ∧ d ≤ e ∧ e ≤ k) ∧ 0 ≤ b ∧ 0 ≤ c ∧ (d < e → b ≤ 0 ∧ c ≤ 0) ∧ 0 ≤ d + a - b + c ∧ e + a - b + c ≤ k) → f_is_five [.int k, tup5 a b c d e] = .ok .sh (.bool false) [] := fun {a b c d e} h => by
    rw [fv_is_five5 a b c d e k hk, decide_eq_false h]
  intro d hd
  simp [menuF] at hd
  rcases hd with rfl | rfl | rfl | rfl | rfl | rfl | rfl | rfl | rfl | rfl
  · refine fp_ok (run_fp ⟨rfl, by decide⟩ ?_)
    simp [b_is_five, argE, fv_need_cap hk, isA, noScr, okM, ownI, putO, wpE, outsOf]
  · refine fp_ok (run_fp ⟨rfl, by decide⟩ ?_)
    simp [b_is_five, argE, fv_need_cap hk, isA, noScr, okM, ownI, putO, wpE, outsOf]
  · refine fp_ok (run_fp ⟨rfl, by decide⟩ ?_)
    simp [b_is_five, argE, fv_need_cap hk, isA, noScr, okM, ownI, putO, wpE, outsOf]
  · refine fp_ok (run_fp ⟨rfl, by decide⟩ ?_)
    simp [b_is_five, argE, fv_need_cap hk, isA, noScr, okM, ownI, putO, wpE, outsOf]
  · exact five (by omega)
  · exact five (by omega)
  · refine fp_ok (run_fp ⟨rfl, by decide⟩ ?_)
    simp [b_is_five, argE, fv_need_cap hk, isA, noScr, okM, ownI, putO, wpE, outsOf]
  · exact five (by omega)
  · refine fp_ok (run_fp ⟨rfl, by decide⟩ ?_)
    simp [b_is_five, argE, fv_need_cap hk, isA, noScr, okM, ownI, putO, wpE]
    refine wholes (fun d hd => ?_) (by simp) ?_
    · simp at hd
      rcases hd with rfl | rfl <;> rfl
    · have e5 : (List.map wholeB [PyData.bool true, PyData.int 0, PyData.int 0, PyData.int 0, PyData.int 0]).all id = false := rfl
      rw [g_all, e5]
      simp [outsOf]
  · exact five (by omega)
/-! ### what needs a five -/
theorem fv_need_five {f : F5} {k : Int} (hk : 0 ≤ k) (h : f.ok k) : f_need_five [.int k, f.t] = .ok .sh .none [] := by
  refine fp_ok (run_fp ⟨rfl, by decide⟩ ?_)
  simp [b_need_five, argE, outsOf, fv_is_five_ok hk h, okM, ownI, putO]
theorem fx_need_five {d : PyData} {k : Int} (h : f_is_five [.int k, d] = .ok .sh (.bool false) []) : f_need_five [.int k, d] = .exc "NoFive" [] := by
  refine fp_exc (run_fp ⟨rfl, by decide⟩ ?_)
  simp [b_need_five, argE, outsOf, h, okM, ownI, putO]
/-- the answer of an asking that goes well -/
def Fine (r : FR) : Prop := ∃ d, (r = .ok .sh d [] ∨ r = .ok .top d [])
theorem fine_fp {r : FR} (h : FP r (fun o _ outs => (o = .sh ∨ o = .top) ∧ outs = []) fun _ _ => False) : Fine r := by
  cases r with
  | ok o d outs => obtain ⟨rfl | rfl, rfl⟩ := h; exact ⟨d, .inl rfl⟩; exact ⟨d, .inr rfl⟩
  | exc _ _ => exact h.elim
  | stuck => exact h.elim
theorem fx_endsD {d c : PyData} (h : NoDaysD d) : f_ends_from [d, c] = .exc "NoDays" [] := by
  refine fp_exc (run_fp ⟨rfl, by decide⟩ ?_)
  simp [b_ends_from, argE, outsOf, fx_fiveD h, okM, ownI, putO]
theorem fx_endsC (ns : List Int) {c : PyData} (h : ns.length ≤ 1000) (hc : NoAmtD c) : f_ends_from [.list (ns.map PyData.int), c] = .exc "NoCap" [] := by
  refine fp_exc (run_fp ⟨rfl, by decide⟩ ?_)
  simp [b_ends_from, argE, outsOf, fx_fiveC ns h hc, okM, ownI, putO]
theorem fv_ends (ns : List Int) {c : Int} (h : ns.length ≤ 1000) (hc : 0 ≤ c) : Fine (f_ends_from [.list (ns.map PyData.int), .int c]) := by
  refine fine_fp (run_fp ⟨rfl, by decide⟩ ?_)
  simp [b_ends_from, argE, outsOf, fv_five ns h hc, okM, ownI, putO]
  have e : (fiveF ns c).t = tup5 (fiveF ns c).a (fiveF ns c).b (fiveF ns c).c (fiveF ns c).d (fiveF ns c).e := rfl
  simp [e, fv_end_of, putO, outsOf, sizeLine]
theorem fx_ledC {c f s : PyData} (h : NoAmtD c) : f_led [c, f, s] = .exc "NoCap" [] := by
  refine fp_exc (run_fp ⟨rfl, by decide⟩ ?_)
  simp [b_led, argE, outsOf, fx_need_cap h, okM, ownI, putO]
theorem fx_ledF {k : Int} {f s : PyData} (hk : 0 ≤ k) (h : f_is_five [.int k, f] = .ok .sh (.bool false) []) : f_led [.int k, f, s] = .exc "NoFive" [] := by
  refine fp_exc (run_fp ⟨rfl, by decide⟩ ?_)
  simp [b_led, argE, outsOf, fv_need_cap hk, fx_need_five h, okM, ownI, putO]
theorem fx_ledS {k : Int} {f : F5} {s : PyData} (hk : 0 ≤ k) (hf : f.ok k) (hs : NoAmtD s ∨ s = .int (k + 1)) : f_led [.int k, f.t, s] = .exc "NoStart" [] := by
  refine fp_exc (run_fp ⟨rfl, by decide⟩ ?_)
  simp [b_led, argE, outsOf, fv_need_cap hk, fv_need_five hk hf, fx_need_start hs hk, okM, ownI, putO]
theorem fv_led {k s : Int} {f : F5} (hk : 0 ≤ k) (hf : f.ok k) (h0 : 0 ≤ s) (h1 : s ≤ k) : Fine (f_led [.int k, f.t, .int s]) := by
  refine fine_fp (run_fp ⟨rfl, by decide⟩ ?_)
  simp [b_led, argE, outsOf, fv_need_cap hk, fv_need_five hk hf, fv_need_start h0 h1, fv_led_by, okM, ownI, putO]
theorem fx_joinedC {c f s : PyData} (h : NoAmtD c) : f_joined [c, f, s] = .exc "NoCap" [] := by
  refine fp_exc (run_fp ⟨rfl, by decide⟩ ?_)
  simp [b_joined, argE, outsOf, fx_need_cap h, okM, ownI, putO]
theorem fx_joinedF {k : Int} {f s : PyData} (hk : 0 ≤ k) (h : f_is_five [.int k, f] = .ok .sh (.bool false) []) : f_joined [.int k, f, s] = .exc "NoFive" [] := by
  refine fp_exc (run_fp ⟨rfl, by decide⟩ ?_)
  simp [b_joined, argE, outsOf, fv_need_cap hk, fx_need_five h, okM, ownI, putO]
theorem fx_joinedG {k : Int} {f : F5} {s : PyData} (hk : 0 ≤ k) (hf : f.ok k) (h : f_is_five [.int k, s] = .ok .sh (.bool false) []) : f_joined [.int k, f.t, s] = .exc "NoFive" [] := by
  refine fp_exc (run_fp ⟨rfl, by decide⟩ ?_)
  simp [b_joined, argE, outsOf, fv_need_cap hk, fv_need_five hk hf, fx_need_five h, okM, ownI, putO]
theorem fv_joined {k : Int} {f g : F5} (hk : 0 ≤ k) (hf : f.ok k) (hg : g.ok k) : Fine (f_joined [.int k, f.t, g.t]) := by
  refine fine_fp (run_fp ⟨rfl, by decide⟩ ?_)
  simp [b_joined, argE, outsOf, fv_need_cap hk, fv_need_five hk hf, fv_need_five hk hg, fv_put_behind, okM, ownI, putO]
theorem fx_fewC {c f : PyData} (h : NoAmtD c) : f_few_days [c, f] = .exc "NoCap" [] := by
  refine fp_exc (run_fp ⟨rfl, by decide⟩ ?_)
  simp [b_few_days, argE, outsOf, fx_need_cap h, okM, ownI, putO]
theorem fx_fewF {k : Int} {f : PyData} (hk : 0 ≤ k) (h : f_is_five [.int k, f] = .ok .sh (.bool false) []) : f_few_days [.int k, f] = .exc "NoFive" [] := by
  refine fp_exc (run_fp ⟨rfl, by decide⟩ ?_)
  simp [b_few_days, argE, outsOf, fv_need_cap hk, fx_need_five h, okM, ownI, putO]
theorem fv_few {k : Int} {f : F5} (hk : 0 ≤ k) (hf : f.ok k) : Fine (f_few_days [.int k, f.t]) := by
  refine fine_fp (run_fp ⟨rfl, by decide⟩ ?_)
  simp [b_few_days, argE, fv_need_cap hk, fv_need_five hk hf, okM, ownI, putO]
  have e : f.t = tup5 f.a f.b f.c f.d f.e := rfl
  simp [e, fv_end_of, okM, ownI, putO, outsOf, sizeLine]
end LW
namespace LW
open PySem PySem.Spec PyProof.Rows FS FH
/-! ### one asking -/
def call29 (door : Int) (a b c : PyData) : FR := if door = 0 then f_five [a, b] else if door = 1 then f_ends_from [a, b] else if door = 2 then f_led [a, b, c] else if door = 3 then f_joined [a, b, c] else if door = 4 then f_few_days [a, b] else f_is_five [a, b]
/-- the three parts of what is handed in -/
inductive Parts : PyData → PyData → PyData → PyData → Prop
  | two (a b : PyData) : Parts (.tuple [a, b]) a b (.int 0)
  | three (a b c : PyData) : Parts (.tuple [a, b, c]) a b c
theorem said_1 {door : Int} {s a b c : PyData} (p : Parts s a b c) {Q : Fl → Fe → Prop} {X : Str → Fe → Prop} {x2 x3 x4 x5 x6 : Option (Own × PyData)} (h : Q .nx [some (.sh, .int door), some (.sh, s), x2, x3, some (.sh, a), some (.sh, b), some (.sh, c)]) :
    Wp (b_law_said_1 [some (.sh, .int door), some (.sh, s), x2, x3, x4, x5, x6]) Q X := by
  cases p with
  | two a b => simpa [b_law_said_1, sizeLine, FS.cutD, HT.sIx] using h
  | three a b c => simpa [b_law_said_1, sizeLine, FS.cutD, HT.sIx] using h
theorem fv_said {door : Int} {s a b c : PyData} (p : Parts s a b c) (x : Str) (hx : tb_TankError x = some true) (hw : f_law_words x = .ok .top (wordsD x) []) (h : call29 door a b c = .exc x []) :
    f_law_said [.int door, s] = .ok .top (wordsD x) [] := by
  refine fp_ok (run_fp ⟨rfl, by decide⟩ ?_)
  simp only [b_law_said, wp_seq, argE]
  refine said_1 p ?_
  simp [b_law_said_t2, b_law_said_2, b_law_said_t3, b_law_said_3, b_law_said_4, sizeLine, wp_try]
  unfold call29 at h
  by_cases h0 : door = 0
  · simp [h0] at h
    simp [b_law_said_3b, h0, h, okM, ownI, putO, hx, wp_callX (i := 3) (x := x) (b := true), hw, unX, outsOf]
  by_cases h1 : door = 1
  · simp [h1] at h
    simp [b_law_said_3b, h1, h, okM, ownI, putO, hx, wp_callX (i := 3) (x := x) (b := true), hw, unX, outsOf]
  by_cases h2 : door = 2
  · simp [h2] at h
    simp [b_law_said_3b, h2, h, okM, ownI, putO, hx, wp_callX (i := 3) (x := x) (b := true), hw, unX, outsOf]
  by_cases h3 : door = 3
  · simp [h3] at h
    simp [b_law_said_3b, h3, h, okM, ownI, putO, hx, wp_callX (i := 3) (x := x) (b := true), hw, unX, outsOf]
  by_cases h4 : door = 4
  · simp [h4] at h
    simp [b_law_said_3b, h4, h, okM, ownI, putO, hx, wp_callX (i := 3) (x := x) (b := true), hw, unX, outsOf]
  · simp [h0, h1, h2, h3, h4] at h
    simp [b_law_said_3b, h0, h1, h2, h3, h4, h, okM, ownI, putO, hx, wp_callX (i := 3) (x := x) (b := true), hw, unX, outsOf]
theorem fv_said0 {door : Int} {s a b c : PyData} (p : Parts s a b c) (h : Fine (call29 door a b c)) : f_law_said [.int door, s] = .ok .top (.list []) [] := by
  refine fp_ok (run_fp ⟨rfl, by decide⟩ ?_)
  simp only [b_law_said, wp_seq, argE]
  refine said_1 p ?_
  simp [b_law_said_t2, b_law_said_2, b_law_said_t3, b_law_said_3, b_law_said_4, sizeLine, wp_try]
  obtain ⟨d, h⟩ := h
  unfold call29 at h
  by_cases h0 : door = 0
  · simp [h0] at h
    rcases h with h | h <;> simp [b_law_said_3b, h0, h, okM, ownI, putO, outsOf]
  by_cases h1 : door = 1
  · simp [h1] at h
    rcases h with h | h <;> simp [b_law_said_3b, h1, h, okM, ownI, putO, outsOf]
  by_cases h2 : door = 2
  · simp [h2] at h
    rcases h with h | h <;> simp [b_law_said_3b, h2, h, okM, ownI, putO, outsOf]
  by_cases h3 : door = 3
  · simp [h3] at h
    rcases h with h | h <;> simp [b_law_said_3b, h3, h, okM, ownI, putO, outsOf]
  by_cases h4 : door = 4
  · simp [h4] at h
    rcases h with h | h <;> simp [b_law_said_3b, h4, h, okM, ownI, putO, outsOf]
  · simp [h0, h1, h2, h3, h4] at h
    rcases h with h | h <;> simp [b_law_said_3b, h0, h1, h2, h3, h4, h, okM, ownI, putO, outsOf]
structure AskOk (door : Int) (s : PyData) (x : Str) : Prop where
  tb : tb_TankError x = some true
  fw : f_law_words x = .ok .top (wordsD x) []
  sh : SeqAt.shaped (wordsD x) = true
  rs : ∃ a b c, Parts s a b c ∧ call29 door a b c = .exc x []
  rp : rpOk s = true
abbrev LawQ : Fl → Fe → Prop := Ret [false] fun o d _ => o = .sh ∧ d = .bool true
abbrev NoY : Str → Fe → Prop := fun x ε => some? (outsOf 0 [false] ε) fun _ => False
abbrev Slot := Option (Own × PyData)
theorem asks_loop {asks : List PyData} {s0 s1 s2 s3 s4 s5 s6 s7 s8 s9 s11 x12 x13 x14 x15 : Slot} {Q : Fl → Fe → Prop} (h : ∀ d ∈ asks, ∃ door s x, d = .tuple [.int door, s, .str x] ∧ AskOk door s x)
    (hQ : ∀ x12 x13 x14 x15 : Slot, Q .nx [s0, s1, s2, s3, s4, s5, s6, s7, s8, s9, some (.sh, .list asks), s11, x12, x13, x14, x15]) :
    WpF (gtTup 3 (gtCons (gtName 12) (gtCons (gtName 13) (gtCons (gtName 14) gtNil)))) b_law_1b_21b asks [s0, s1, s2, s3, s4, s5, s6, s7, s8, s9, some (.sh, .list asks), s11, x12, x13, x14, x15] Q NoY := by
  refine wpF_inv (I := fun _ ε => ∃ x12 x13 x14 x15 : Slot, ε = [s0, s1, s2, s3, s4, s5, s6, s7, s8, s9, some (.sh, .list asks), s11, x12, x13, x14, x15]) ⟨_, _, _, _, rfl⟩ ?_ ?_
  · rintro ε ⟨x12, x13, x14, x15, rfl⟩
    exact hQ _ _ _ _
  · rintro d r ε hd ⟨x12, x13, x14, x15, rfl⟩
    obtain ⟨door, s, x, rfl, ok⟩ := h d hd
    obtain ⟨a, b, c, p, rs⟩ := ok.rs
    have hw := fv_said p x ok.tb ok.fw rs
    have hs := ok.sh
    unfold wordsD at hw hs
    simp [b_law_1b_21b, b_law_1b_21b_1, b_law_1b_21b_2, ok.rp, hw, hs, okM, ownI, putO, sizeLine]
theorem goods_loop {goods : List PyData} {s0 s1 s2 s3 s4 s5 s6 s7 s8 s9 s10 s11 x12 x13 x14 x15 : Slot} {Q : Fl → Fe → Prop} (h : ∀ d ∈ goods, ∃ door s a b c, d = .tuple [.int door, s] ∧ Parts s a b c ∧ Fine (call29 door a b c))
    (hQ : ∀ x12 x13 x14 x15 : Slot, Q .nx [s0, s1, s2, s3, s4, s5, s6, s7, s8, s9, s10, s11, x12, x13, x14, x15]) :
    WpF (gtTup 2 (gtCons (gtName 12) (gtCons (gtName 13) gtNil))) b_law_1b_23b goods [s0, s1, s2, s3, s4, s5, s6, s7, s8, s9, s10, s11, x12, x13, x14, x15] Q NoY := by
  refine wpF_inv (I := fun _ ε => ∃ x12 x13 x14 x15 : Slot, ε = [s0, s1, s2, s3, s4, s5, s6, s7, s8, s9, s10, s11, x12, x13, x14, x15]) ⟨_, _, _, _, rfl⟩ ?_ ?_
  · rintro ε ⟨x12, x13, x14, x15, rfl⟩
    exact hQ _ _ _ _
  · rintro d r ε hd ⟨x12, x13, x14, x15, rfl⟩
    obtain ⟨door, s, a, b, c, rfl, p, rs⟩ := h d hd
    have hw := fv_said0 p rs
    simp [b_law_1b_23b, hw, okM, ownI, putO, sizeLine]
end LW
namespace LW
open PySem PySem.Spec PyProof.Rows FS FH
theorem little_big {i : Int} (h : i.natAbs < 10 ^ 30) : Little 40 (.int i) := by
  refine ⟨by simp [plainD], ?_, by simp [PyData.depth], ?_⟩
  · simp only [PyData.showable, decide_eq_true_eq]
    by_cases h0 : i.natAbs = 0
    · rw [h0]; decide
    · have := (Nat.log2_lt h0).mpr (show i.natAbs < 2 ^ 120 by omega)
      omega
  · have e := int_text_length_le10 (k := 30) (by decide) h
    show (Str.ofString (toString i)).length ≤ 40
    rw [PySem.ofString_length]
    omega
theorem little_tuple {ds : List PyData} {n : Nat} (h : ∀ d ∈ ds, Little n d ∧ d.depth ≤ 5) : Little ((n + 2) * ds.length + 3) (.tuple ds) := by
  refine ⟨?_, ?_, ?_, ?_⟩
  · unfold plainD; exact plainDs_all fun d hd => (h d hd).1.pl
  · unfold PyData.showable; exact showAll_all fun d hd => (h d hd).1.sb
  · unfold PyData.depth
    have := depthAll_all (n := 5) fun d hd => (h d hd).2
    omega
  · simp only [PyData.shown]
    have h1 := tupleText_len_le (PyData.shownAll ds)
    have h2 := shownAll_all fun d hd => (h d hd).1.ln
    have h3 := PyData.shownAll_length ds
    have e : (n + 2) * ds.length = n * ds.length + 2 * ds.length := Nat.add_mul _ _ _
    omega
theorem little_list {ds : List PyData} {n : Nat} (h : ∀ d ∈ ds, Little n d ∧ d.depth ≤ 5) : Little ((n + 2) * ds.length + 3) (.list ds) := by
  refine ⟨?_, ?_, ?_, ?_⟩
  · unfold plainD; exact plainDs_all fun d hd => (h d hd).1.pl
  · unfold PyData.showable; exact showAll_all fun d hd => (h d hd).1.sb
  · unfold PyData.depth
    have := depthAll_all (n := 5) fun d hd => (h d hd).2
    omega
  · simp only [PyData.shown]
    have h1 := listText_len_le (PyData.shownAll ds)
    have h2 := shownAll_all fun d hd => (h d hd).1.ln
    have h3 := PyData.shownAll_length ds
    have e : (n + 2) * ds.length = n * ds.length + 2 * ds.length := Nat.add_mul _ _ _
    omega
theorem depth_int (i : Int) : (PyData.int i).depth = 0 := by simp [PyData.depth]
theorem little_five {a b c d e : Int} (ha : a.natAbs < 10 ^ 30) (hb : b.natAbs < 10 ^ 30) (hc : c.natAbs < 10 ^ 30) (hd : d.natAbs < 10 ^ 30) (he : e.natAbs < 10 ^ 30) : Little 300 (tup5 a b c d e) :=
  (little_tuple (n := 40) (fun x hx => by
    simp at hx
    rcases hx with rfl | rfl | rfl | rfl | rfl <;> exact ⟨little_big (by assumption), by rw [depth_int]; omega⟩)).up (by simp)
theorem menuF_little {k : Int} (h0 : 0 ≤ k) (h1 : k < 10 ^ 12) : ∀ d ∈ menuF k, Little 300 d := by
  intro d hd
  simp [menuF] at hd
  rcases hd with rfl | rfl | rfl | rfl | rfl | rfl | rfl | rfl | rfl | rfl
  · exact ⟨by decide +kernel, by decide +kernel, by decide +kernel, by decide +kernel⟩
  · exact ⟨by decide +kernel, by decide +kernel, by decide +kernel, by decide +kernel⟩
  · exact ⟨by decide +kernel, by decide +kernel, by decide +kernel, by decide +kernel⟩
  · exact (little_list (n := 40) (fun x hx => by
      simp at hx
      rcases hx with rfl | rfl <;> exact ⟨little_big (by omega), by rw [depth_int]; omega⟩)).up (by simp)
  · exact little_five (by omega) (by omega) (by omega) (by omega) (by omega)
  · exact little_five (by omega) (by omega) (by omega) (by omega) (by omega)
  · exact ⟨by decide +kernel, by decide +kernel, by decide +kernel, by decide +kernel⟩
  · exact little_five (by omega) (by omega) (by omega) (by omega) (by omega)
  · exact ⟨by decide +kernel, by decide +kernel, by decide +kernel, by decide +kernel⟩
  · exact little_five (by omega) (by omega) (by omega) (by omega) (by omega)
theorem fv_no_five {m : Nat} {b : PyData} {k : Int} (hb : BagOk m b) (hm : m < 10 ^ 11) : ∃ d b', d ∈ menuF k ∧ BagOk (m + 1) b' ∧ f_law_no_five [b, .int k] = .ok .sh d [b'] := by
  have key : ∃ o d b', (o = .sh ∧ d ∈ menuF k ∧ BagOk (m + 1) b') ∧ f_law_no_five [b, .int k] = .ok o d [b'] := by
    refine fp_bag (run_fp ⟨rfl, by decide⟩ ?_)
    simp [b_law_no_five, argE, okM, ownI, sizeLine]
    refine wpR_drawC 10 hb (by omega) (h := fun t b1 t0 t1 hb1 => ?_)
    simp [putO]
    refine some?_atI t0 (by simpa using t1) (fun y hy => ?_)
    simp [outsOf]
    exact ⟨by simpa [menuF, tup5] using hy, hb1⟩
  obtain ⟨_, d, b', ⟨rfl, h1, h2⟩, e⟩ := key
  exact ⟨d, b', h1, h2, e⟩
theorem mem_rng {lo : Int} {n : Nat} {d : PyData} (h : d ∈ rngD lo n) : ∃ i : Nat, i < n ∧ d = .int (lo + i) := by
  simp [rngD] at h
  obtain ⟨i, h1, h2⟩ := h
  exact ⟨i, h1, h2.symm⟩
theorem five_small {ns : List Int} {c : Int} (hf : Few 8 ns) (r0 : 0 ≤ c) (r1 : c < 10 ^ 12) : Little 300 (fiveF ns c).t := by
  have : (fiveF ns c).le _ := foldF_le (c := c) (ns := ns) (f := ⟨0, 0, 0, 0, c⟩) (M := 10 ^ 12) (by omega) (fun z hz => by have := hf.2 z hz; omega) (by omega) ⟨by dsimp only; omega, by dsimp only; omega, by dsimp only; omega, by dsimp only; omega, by dsimp only; omega⟩
  have hp : (16 : Int) ^ ns.length * (2 * 10 ^ 12) ≤ 10 ^ 29 := by
    have h16 : (16 : Int) ^ ns.length ≤ 16 ^ 8 := by
      have : (16 : Nat) ^ ns.length ≤ 16 ^ 8 := Nat.pow_le_pow_right (by omega) hf.1
      exact_mod_cast this
    have e16 : (16 : Int) ^ 8 = 4294967296 := by decide
    omega
  exact little_five (by have := this.a; omega) (by have := this.b; omega) (by have := this.c; omega) (by have := this.d; omega) (by have := this.e; omega)
theorem rp2 {a b : PyData} (h1 : Little 30000 a) (h2 : Little 30000 b) : rpOk (.tuple [a, b]) = true :=
  rp_tuple (n := 30000) (fun d hd => by simp at hd; rcases hd with rfl | rfl <;> assumption) (by simp [sizeLine])
theorem rp3 {a b c : PyData} (h1 : Little 30000 a) (h2 : Little 30000 b) (h3 : Little 30000 c) : rpOk (.tuple [a, b, c]) = true :=
  rp_tuple (n := 30000) (fun d hd => by simp at hd; rcases hd with rfl | rfl | rfl <;> assumption) (by simp [sizeLine])
theorem round_ok {ns : List Int} {k : Nat} {x2 x3 x4 x5 x6 x7 x8 x9 x10 x11 x12 x13 x14 x15 : Slot} :
    Wp (b_law_1b [some (.sh, scrD ns), some (.sh, .int k), x2, x3, x4, x5, x6, x7, x8, x9, x10, x11, x12, x13, x14, x15]) (rnd (go LawQ fun ε' => Wp (b_law_2 ε') LawQ NoY) fun ε => ∃ x1 x2 x3 x4 x5 x6 x7 x8 x9 x10 x11 x12 x13 x14 x15 : Slot, ε = [some (.sh, scrD ns), x1, x2, x3, x4, x5, x6, x7, x8, x9, x10, x11, x12, x13, x14, x15]) NoY := by
  obtain ⟨c, ec⟩ := fv_cell ns k
  obtain ⟨b, hb, eb⟩ := fv_bag (c + 4)
  simp [b_law_1b, b_law_1b_1, b_law_1b_t2, ec, eb, okM, ownI, putO, b_law_1b_2]
  obtain ⟨z, rfl⟩ := hb.lst
  refine wpR_row (L := 8) hb (by omega) (by omega) (fun ms b1 hf hb1 => ?_)
  simp [putO, b_law_1b_t3, b_law_1b_3, okM, ownI]
  refine wpR_cap hb1 (by omega) (show 8 ≤ 1000 by omega) hf (fun room b2 r0 r1 hb2 => ?_)
  have hl : ms.length ≤ 1000 := by have := hf.1; omega
  simp [putO, b_law_1b_t4, b_law_1b_4, okM, ownI, fv_five ms hl r0]
  obtain ⟨bl, b3, m1, hb3, e3⟩ := fv_no_days hb2 (by omega)
  simp [e3, putO, b_law_1b_t5, b_law_1b_5, okM, ownI]
  obtain ⟨br, b4, m2, hb4, e4⟩ := fv_no_amount hb3 (by omega)
  simp [e4, putO, b_law_1b_t6, b_law_1b_6, okM, ownI]
  obtain ⟨bf, b5, m3, hb5, e5⟩ := fv_no_five (k := room) hb4 (by omega)
  simp [e5, putO, b_law_1b_t7, b_law_1b_7, okM, ownI]
  obtain ⟨bs0, b6, m4, hb6, e6⟩ := fv_no_amount hb5 (by omega)
  simp [e6, putO, b_law_1b_t8, b_law_1b_8, okM, ownI, sizeLine]
  refine wpR_drawC 2 hb6 (by omega) (h := fun t b7 t0 t1 hb7 => ?_)
  simp [putO]
  refine some?_atI t0 (by simpa using t1) (fun bs hbs => ?_)
  have hbs' : bs ∈ menuA ∨ bs = .int (room + 1) := by
    simp at hbs
    rcases hbs with rfl | rfl
    · exact .inl m4
    · exact .inr rfl
  have lLine := little_ints hf (by omega)
  have lRoom := (little_int (i := room) (by omega)).up (show 20 ≤ 30000 by omega)
  have lBl := (menuD_little bl m1).up (show 30 ≤ 30000 by omega)
  have lBr := (menuA_little br m2).up (show 30 ≤ 30000 by omega)
  have lBf := (menuF_little r0 r1 bf m3).up (show 300 ≤ 30000 by omega)
  have lG := (five_small hf r0 r1).up (show 300 ≤ 30000 by omega)
  have lBs : Little 30000 bs := hbs'.elim (fun h => (menuA_little bs h).up (by omega)) fun h => by rw [h]; exact (little_int (by omega)).up (by omega)
  have nD := menuD_no bl m1
  have nR := menuA_no br m2
  have nF := menuF_no r0 bf m3
  have nS : NoAmtD bs ∨ bs = .int (room + 1) := hbs'.imp_left (menuA_no bs)
  have gG := fiveF_ok ms r0
  have sD : SeqAt.shaped (wordsD "NoDays") = true := by decide +kernel
  have sC : SeqAt.shaped (wordsD "NoCap") = true := by decide +kernel
  have sF : SeqAt.shaped (wordsD "NoFive") = true := by decide +kernel
  have sS : SeqAt.shaped (wordsD "NoStart") = true := by decide +kernel
  simp [b_law_1b_t9, b_law_1b_9, b_law_1b_t10, b_law_1b_10, b_law_1b_t11, b_law_1b_11, b_law_1b_t12, b_law_1b_12, b_law_1b_t13, b_law_1b_13, b_law_1b_t14, b_law_1b_14, b_law_1b_t15, b_law_1b_15, b_law_1b_t16, b_law_1b_16, b_law_1b_t17, b_law_1b_17, b_law_1b_t18, b_law_1b_18, b_law_1b_t19, b_law_1b_19, b_law_1b_t20, b_law_1b_20, b_law_1b_t21, b_law_1b_21, sizeLine]
  refine asks_loop (fun d hd => ?_) fun x12 x13 x14 x15 => ?_
  · simp at hd
    rcases hd with rfl | rfl | rfl | rfl | rfl | rfl | rfl | rfl | rfl | rfl | rfl | rfl | rfl
    · exact ⟨_, _, _, rfl, by decide, fw_NoDays, sD, ⟨_, _, _, .two _ _, fx_fiveD nD⟩, rp2 lBl lBr⟩
    · exact ⟨_, _, _, rfl, by decide, fw_NoCap, sC, ⟨_, _, _, .two _ _, fx_fiveC ms hl nR⟩, rp2 lLine lBr⟩
    · exact ⟨_, _, _, rfl, by decide, fw_NoDays, sD, ⟨_, _, _, .two _ _, fx_endsD nD⟩, rp2 lBl lRoom⟩
    · exact ⟨_, _, _, rfl, by decide, fw_NoCap, sC, ⟨_, _, _, .two _ _, fx_endsC ms hl nR⟩, rp2 lLine lBr⟩
    · exact ⟨_, _, _, rfl, by decide, fw_NoCap, sC, ⟨_, _, _, .three _ _ _, fx_ledC nR⟩, rp3 lBr lBf lBs⟩
    · exact ⟨_, _, _, rfl, by decide, fw_NoFive, sF, ⟨_, _, _, .three _ _ _, fx_ledF r0 nF⟩, rp3 lRoom lBf lBs⟩
    · exact ⟨_, _, _, rfl, by decide, fw_NoStart, sS, ⟨_, _, _, .three _ _ _, fx_ledS r0 gG nS⟩, rp3 lRoom lG lBs⟩
    · exact ⟨_, _, _, rfl, by decide, fw_NoCap, sC, ⟨_, _, _, .three _ _ _, fx_joinedC nR⟩, rp3 lBr lBf lBf⟩
    · exact ⟨_, _, _, rfl, by decide, fw_NoFive, sF, ⟨_, _, _, .three _ _ _, fx_joinedF r0 nF⟩, rp3 lRoom lBf lG⟩
    · exact ⟨_, _, _, rfl, by decide, fw_NoFive, sF, ⟨_, _, _, .three _ _ _, fx_joinedG r0 gG nF⟩, rp3 lRoom lG lBf⟩
    · exact ⟨_, _, _, rfl, by decide, fw_NoCap, sC, ⟨_, _, _, .two _ _, fx_fewC nR⟩, rp2 lBr lBf⟩
    · exact ⟨_, _, _, rfl, by decide, fw_NoFive, sF, ⟨_, _, _, .two _ _, fx_fewF r0 nF⟩, rp2 lRoom lBf⟩
    · exact ⟨_, _, _, rfl, by decide, fw_NoCap, sC, ⟨_, _, _, .two _ _, fx_is_fiveC nR⟩, rp2 lBr lG⟩
  · simp [b_law_1b_t22, b_law_1b_22, b_law_1b_23, sizeLine]
    refine goods_loop (fun d hd => ?_) fun x12 x13 x14 x15 => ?_
    · simp at hd
      rcases hd with rfl | rfl | rfl | rfl | rfl | rfl
      · exact ⟨_, _, _, _, _, rfl, .two _ _, _, .inl (fv_five ms hl r0)⟩
      · exact ⟨_, _, _, _, _, rfl, .two _ _, fv_ends ms hl r0⟩
      · exact ⟨_, _, _, _, _, rfl, .three _ _ _, fv_led r0 gG r0 (Int.le_refl _)⟩
      · exact ⟨_, _, _, _, _, rfl, .three _ _ _, fv_joined r0 gG gG⟩
      · exact ⟨_, _, _, _, _, rfl, .two _ _, fv_few r0 gG⟩
      · exact ⟨_, _, _, _, _, rfl, .two _ _, _, .inl nF⟩
    · exact ⟨_, _, _, _, _, _, _, _, _, _, _, _, _, _, _, rfl⟩
theorem law_true (ns : List Int) (hl : ns.length ≤ 63) (_ : ∀ z ∈ ns, Builtin.Int.intBits z ≤ 1048576) : ∃ outs, f_law [scrD ns] = .ok .sh (.bool true) outs := by
  have key : FP (f_law [scrD ns]) (fun o d _ => o = .sh ∧ d = .bool true) fun _ _ => False := by
    refine run_fp ⟨rfl, by decide⟩ ?_
    show Wp _ LawQ NoY
    simp [b_law, b_law_1, argE]
    refine ⟨by split <;> split <;> omega, wpF_inv (I := fun _ ε => ∃ x1 x2 x3 x4 x5 x6 x7 x8 x9 x10 x11 x12 x13 x14 x15 : Slot, ε = [some (.sh, scrD ns), x1, x2, x3, x4, x5, x6, x7, x8, x9, x10, x11, x12, x13, x14, x15]) ⟨_, _, _, _, _, _, _, _, _, _, _, _, _, _, _, rfl⟩ ?_ ?_⟩
    · rintro ε ⟨x1, x2, x3, x4, x5, x6, x7, x8, x9, x10, x11, x12, x13, x14, x15, rfl⟩
      simp [b_law_2, outsOf]
    · rintro d r ε hd ⟨x1, x2, x3, x4, x5, x6, x7, x8, x9, x10, x11, x12, x13, x14, x15, rfl⟩
      obtain ⟨i, hi, rfl⟩ := mem_rng hd
      rw [Int.zero_add]
      simp
      exact round_ok
  cases e : f_law [scrD ns] with
  | ok o d outs => rw [e] at key; obtain ⟨rfl, rfl⟩ := key; exact ⟨outs, rfl⟩
  | exc _ _ => rw [e] at key; exact key.elim
  | stuck => rw [e] at key; exact key.elim
end LW
namespace LW
open PySem PySem.Spec PyProof.Rows L2 RZ FS FH
section
variable {P : Program} {w : World} {K : PySem.W.Frag} {mg : Str → Option Value} {base : Heap}
theorem bd_is_whole {f : Addr} {fd : FuncData} (F : Fun K "is_whole" "is_whole" s_is_whole f fd) : Binds K fd ["thing"] [] := F.binds fun _ _ _ _ _ _ us hl => match us, hl with | [_], _ => rfl
theorem bd_end_of {f : Addr} {fd : FuncData} (F : Fun K "end_of" "end_of" s_end_of f fd) : Binds K fd ["five", "start"] [] := F.binds fun _ _ _ _ _ _ us hl => match us, hl with | [_, _], _ => rfl
theorem bd_five_of_day {f : Addr} {fd : FuncData} (F : Fun K "five_of_day" "five_of_day" s_five_of_day f fd) : Binds K fd ["cap", "day"] [] := F.binds fun _ _ _ _ _ _ us hl => match us, hl with | [_, _], _ => rfl
theorem bd_law_cell_at {f : Addr} {fd : FuncData} (F : Fun K "_law_cell_at" "_law_cell_at" s_law_cell_at f fd) : Binds K fd ["script", "k"] [] := F.binds fun _ _ _ _ _ _ us hl => match us, hl with | [_, _], _ => rfl
theorem bd_law_bag {f : Addr} {fd : FuncData} (F : Fun K "_law_bag" "_law_bag" s_law_bag f fd) : Binds K fd ["cell"] [] := F.binds fun _ _ _ _ _ _ us hl => match us, hl with | [_], _ => rfl
theorem bd_law_draw {f : Addr} {fd : FuncData} (F : Fun K "_law_draw" "_law_draw" s_law_draw f fd) : Binds K fd ["bag", "sides"] [] := F.binds fun _ _ _ _ _ _ us hl => match us, hl with | [_, _], _ => rfl
theorem bd_law_words {f : Addr} {fd : FuncData} (F : Fun K "_law_words" "_law_words" s_law_words f fd) : Binds K fd ["e"] [] := F.binds fun _ _ _ _ _ _ us hl => match us, hl with | [_], _ => rfl
theorem bd_is_amount {f : Addr} {fd : FuncData} (F : Fun K "is_amount" "is_amount" s_is_amount f fd) : Binds K fd ["thing"] [] := F.binds fun _ _ _ _ _ _ us hl => match us, hl with | [_], _ => rfl
theorem bd_is_days {f : Addr} {fd : FuncData} (F : Fun K "is_days" "is_days" s_is_days f fd) : Binds K fd ["thing"] [] := F.binds fun _ _ _ _ _ _ us hl => match us, hl with | [_], _ => rfl
theorem bd_put_behind {f : Addr} {fd : FuncData} (F : Fun K "put_behind" "put_behind" s_put_behind f fd) : Binds K fd ["one", "two"] [] := F.binds fun _ _ _ _ _ _ us hl => match us, hl with | [_, _], _ => rfl
theorem bd_led_by {f : Addr} {fd : FuncData} (F : Fun K "led_by" "led_by" s_led_by f fd) : Binds K fd ["five", "start"] [] := F.binds fun _ _ _ _ _ _ us hl => match us, hl with | [_, _], _ => rfl
theorem bd_law_size {f : Addr} {fd : FuncData} (F : Fun K "_law_size" "_law_size" s_law_size f fd) : Binds K fd ["bag", "kind"] [] := F.binds fun _ _ _ _ _ _ us hl => match us, hl with | [_, _], _ => rfl
theorem bd_law_cap {f : Addr} {fd : FuncData} (F : Fun K "_law_cap" "_law_cap" s_law_cap f fd) : Binds K fd ["bag", "line"] [] := F.binds fun _ _ _ _ _ _ us hl => match us, hl with | [_, _], _ => rfl
theorem bd_law_no_days {f : Addr} {fd : FuncData} (F : Fun K "_law_no_days" "_law_no_days" s_law_no_days f fd) : Binds K fd ["bag"] [] := F.binds fun _ _ _ _ _ _ us hl => match us, hl with | [_], _ => rfl
theorem bd_law_no_amount {f : Addr} {fd : FuncData} (F : Fun K "_law_no_amount" "_law_no_amount" s_law_no_amount f fd) : Binds K fd ["bag"] [] := F.binds fun _ _ _ _ _ _ us hl => match us, hl with | [_], _ => rfl
theorem bd_law_no_five {f : Addr} {fd : FuncData} (F : Fun K "_law_no_five" "_law_no_five" s_law_no_five f fd) : Binds K fd ["bag", "room"] [] := F.binds fun _ _ _ _ _ _ us hl => match us, hl with | [_, _], _ => rfl
theorem bd_need_days {f : Addr} {fd : FuncData} (F : Fun K "need_days" "need_days" s_need_days f fd) : Binds K fd ["days"] [] := F.binds fun _ _ _ _ _ _ us hl => match us, hl with | [_], _ => rfl
theorem bd_need_cap {f : Addr} {fd : FuncData} (F : Fun K "need_cap" "need_cap" s_need_cap f fd) : Binds K fd ["cap"] [] := F.binds fun _ _ _ _ _ _ us hl => match us, hl with | [_], _ => rfl
theorem bd_need_start {f : Addr} {fd : FuncData} (F : Fun K "need_start" "need_start" s_need_start f fd) : Binds K fd ["cap", "start"] [] := F.binds fun _ _ _ _ _ _ us hl => match us, hl with | [_, _], _ => rfl
theorem bd_five_of {f : Addr} {fd : FuncData} (F : Fun K "five_of" "five_of" s_five_of f fd) : Binds K fd ["days", "cap"] [] := F.binds fun _ _ _ _ _ _ us hl => match us, hl with | [_, _], _ => rfl
theorem bd_law_row {f : Addr} {fd : FuncData} (F : Fun K "_law_row" "_law_row" s_law_row f fd) : Binds K fd ["bag", "longest"] [] := F.binds fun _ _ _ _ _ _ us hl => match us, hl with | [_, _], _ => rfl
theorem bd_is_five {f : Addr} {fd : FuncData} (F : Fun K "is_five" "is_five" s_is_five f fd) : Binds K fd ["cap", "thing"] [] := F.binds fun _ _ _ _ _ _ us hl => match us, hl with | [_, _], _ => rfl
theorem bd_five {f : Addr} {fd : FuncData} (F : Fun K "five" "five" s_five f fd) : Binds K fd ["days", "cap"] [] := F.binds fun _ _ _ _ _ _ us hl => match us, hl with | [_, _], _ => rfl
theorem bd_need_five {f : Addr} {fd : FuncData} (F : Fun K "need_five" "need_five" s_need_five f fd) : Binds K fd ["cap", "thing"] [] := F.binds fun _ _ _ _ _ _ us hl => match us, hl with | [_, _], _ => rfl
theorem bd_ends_from {f : Addr} {fd : FuncData} (F : Fun K "ends_from" "ends_from" s_ends_from f fd) : Binds K fd ["days", "cap"] [] := F.binds fun _ _ _ _ _ _ us hl => match us, hl with | [_, _], _ => rfl
theorem bd_led {f : Addr} {fd : FuncData} (F : Fun K "led" "led" s_led f fd) : Binds K fd ["cap", "five", "start"] [] := F.binds fun _ _ _ _ _ _ us hl => match us, hl with | [_, _, _], _ => rfl
theorem bd_joined {f : Addr} {fd : FuncData} (F : Fun K "joined" "joined" s_joined f fd) : Binds K fd ["cap", "five", "other"] [] := F.binds fun _ _ _ _ _ _ us hl => match us, hl with | [_, _, _], _ => rfl
theorem bd_few_days {f : Addr} {fd : FuncData} (F : Fun K "few_days" "few_days" s_few_days f fd) : Binds K fd ["cap", "five"] [] := F.binds fun _ _ _ _ _ _ us hl => match us, hl with | [_, _], _ => rfl
theorem bd_law_said {f : Addr} {fd : FuncData} (F : Fun K "_law_said" "_law_said" s_law_said f fd) : Binds K fd ["door", "some"] [] := F.binds fun _ _ _ _ _ _ us hl => match us, hl with | [_, _], _ => rfl
theorem bd_law {f : Addr} {fd : FuncData} (F : Fun K "law" "law" s_law f fd) : Binds K fd ["script"] [] := F.binds fun _ _ _ _ _ _ us hl => match us, hl with | [_], _ => rfl
theorem def_mk {n : Str} {st : Stmt} {ps : List Str} {h : Heap} {f : Addr} {od an : Option Addr} {sl : Array (Option Value)} {oc kV dc pm cd ct : Value} (X : K.In h) (G : h.Ns mainGlobals mg) (hb : ∀ {f : Addr} {fd : FuncData}, Fun K n n st f fd → Binds K fd ps [])
    (a : PySem.W.nsIn K mainGlobals n = some (some (.ref f))) (l : K.lookup f = some ⟨oc, od, .func (PySem.W.fnOf n n (defArgs st) (defBody st) (defScope st) .none kV dc pm an cd ct), sl⟩) (c : PySem.W.codeIn K cd n = true) (k : PySem.W.keepIn K (.ref f) = true) :
    Nonempty (DefT K mg n st ps) := ⟨_, _, fun_mk l c k, PySem.W.mg_of X G a, hb (fun_mk l c k)⟩
theorem cls_mk {n : Str} {h : Heap} {f : Addr} (X : K.In h) (G : h.Ns mainGlobals mg) (a : PySem.W.nsIn K mainGlobals n = some (some (.ref f))) : mg n = some (.ref f) := PySem.W.mg_of X G a
theorem fd_law {fa : Addr} {l : PySem.W.OpenLaw} (T : Txt K mg) (hfa : mg "law" = some (.ref fa)) : ∃ fd : FuncData, (∀ (s : Shared) (v : Value), BindsTo s fd ⟨[v], []⟩ [("script", v)]) ∧ ∀ base : Heap, K.In base → base.Ns mainGlobals mg → SysB base → FnG l.prog w K mg base 8 fa fd ["script"] (spD ⟨K, mg, none⟩ [false] f_law) := by
  cases hfa.symm.trans T.D.law.g
  refine ⟨T.D.law.d, fun s v => ?_, fun base _ _ hS => ok_law T hS⟩
  obtain ⟨oc, od, kV, doc, pm, an, cdv, ct, osl, e, _, _⟩ := T.D.law.F.ex
  rw [e]
  exact .of_eq rfl
end
end LW
open PySem PySem.W PyProof.Rows
set_option maxHeartbeats 0 in
theorem PySem.Challenge.cw_spillmirror_k29_fives_refused_holds : PySem.Challenge.rw_spillmirror_k29_fives_refused.Holds := by
  w_on; o_law; k_head; (case hw => w_witness2)
  k_fill
  refine FS.walk_G (l := PySem.Challenge.rw_spillmirror_k29_fives_refused) (n := 63) (k := 8) (x := "script") (FL := LW.f_law) rfl (by decide) rfl ⟨rfl, by decide, by decide⟩ (by decide +kernel) (fun w h Y => PySem.W.kIn_of Y) ?F LW.law_true
  case F =>
    intro w mg fa h KX G hmg
    obtain ⟨D_is_whole⟩ := LW.def_mk (n := "is_whole") (st := LW.s_is_whole) KX G LW.bd_is_whole (by k_is) (by k_is) (by k_is) (by k_is)
    obtain ⟨D_end_of⟩ := LW.def_mk (n := "end_of") (st := LW.s_end_of) KX G LW.bd_end_of (by k_is) (by k_is) (by k_is) (by k_is)
    obtain ⟨D_five_of_day⟩ := LW.def_mk (n := "five_of_day") (st := LW.s_five_of_day) KX G LW.bd_five_of_day (by k_is) (by k_is) (by k_is) (by k_is)
    obtain ⟨D_law_cell_at⟩ := LW.def_mk (n := "_law_cell_at") (st := LW.s_law_cell_at) KX G LW.bd_law_cell_at (by k_is) (by k_is) (by k_is) (by k_is)
    obtain ⟨D_law_bag⟩ := LW.def_mk (n := "_law_bag") (st := LW.s_law_bag) KX G LW.bd_law_bag (by k_is) (by k_is) (by k_is) (by k_is)
    obtain ⟨D_law_draw⟩ := LW.def_mk (n := "_law_draw") (st := LW.s_law_draw) KX G LW.bd_law_draw (by k_is) (by k_is) (by k_is) (by k_is)
    obtain ⟨D_law_words⟩ := LW.def_mk (n := "_law_words") (st := LW.s_law_words) KX G LW.bd_law_words (by k_is) (by k_is) (by k_is) (by k_is)
    obtain ⟨D_is_amount⟩ := LW.def_mk (n := "is_amount") (st := LW.s_is_amount) KX G LW.bd_is_amount (by k_is) (by k_is) (by k_is) (by k_is)
    obtain ⟨D_is_days⟩ := LW.def_mk (n := "is_days") (st := LW.s_is_days) KX G LW.bd_is_days (by k_is) (by k_is) (by k_is) (by k_is)
    obtain ⟨D_put_behind⟩ := LW.def_mk (n := "put_behind") (st := LW.s_put_behind) KX G LW.bd_put_behind (by k_is) (by k_is) (by k_is) (by k_is)
    obtain ⟨D_led_by⟩ := LW.def_mk (n := "led_by") (st := LW.s_led_by) KX G LW.bd_led_by (by k_is) (by k_is) (by k_is) (by k_is)
    obtain ⟨D_law_size⟩ := LW.def_mk (n := "_law_size") (st := LW.s_law_size) KX G LW.bd_law_size (by k_is) (by k_is) (by k_is) (by k_is)
    obtain ⟨D_law_cap⟩ := LW.def_mk (n := "_law_cap") (st := LW.s_law_cap) KX G LW.bd_law_cap (by k_is) (by k_is) (by k_is) (by k_is)
    obtain ⟨D_law_no_days⟩ := LW.def_mk (n := "_law_no_days") (st := LW.s_law_no_days) KX G LW.bd_law_no_days (by k_is) (by k_is) (by k_is) (by k_is)
    obtain ⟨D_law_no_amount⟩ := LW.def_mk (n := "_law_no_amount") (st := LW.s_law_no_amount) KX G LW.bd_law_no_amount (by k_is) (by k_is) (by k_is) (by k_is)
    obtain ⟨D_law_no_five⟩ := LW.def_mk (n := "_law_no_five") (st := LW.s_law_no_five) KX G LW.bd_law_no_five (by k_is) (by k_is) (by k_is) (by k_is)
    obtain ⟨D_need_days⟩ := LW.def_mk (n := "need_days") (st := LW.s_need_days) KX G LW.bd_need_days (by k_is) (by k_is) (by k_is) (by k_is)
    obtain ⟨D_need_cap⟩ := LW.def_mk (n := "need_cap") (st := LW.s_need_cap) KX G LW.bd_need_cap (by k_is) (by k_is) (by k_is) (by k_is)
    obtain ⟨D_need_start⟩ := LW.def_mk (n := "need_start") (st := LW.s_need_start) KX G LW.bd_need_start (by k_is) (by k_is) (by k_is) (by k_is)
    obtain ⟨D_five_of⟩ := LW.def_mk (n := "five_of") (st := LW.s_five_of) KX G LW.bd_five_of (by k_is) (by k_is) (by k_is) (by k_is)
    obtain ⟨D_law_row⟩ := LW.def_mk (n := "_law_row") (st := LW.s_law_row) KX G LW.bd_law_row (by k_is) (by k_is) (by k_is) (by k_is)
    obtain ⟨D_is_five⟩ := LW.def_mk (n := "is_five") (st := LW.s_is_five) KX G LW.bd_is_five (by k_is) (by k_is) (by k_is) (by k_is)
    obtain ⟨D_five⟩ := LW.def_mk (n := "five") (st := LW.s_five) KX G LW.bd_five (by k_is) (by k_is) (by k_is) (by k_is)
    obtain ⟨D_need_five⟩ := LW.def_mk (n := "need_five") (st := LW.s_need_five) KX G LW.bd_need_five (by k_is) (by k_is) (by k_is) (by k_is)
    obtain ⟨D_ends_from⟩ := LW.def_mk (n := "ends_from") (st := LW.s_ends_from) KX G LW.bd_ends_from (by k_is) (by k_is) (by k_is) (by k_is)
    obtain ⟨D_led⟩ := LW.def_mk (n := "led") (st := LW.s_led) KX G LW.bd_led (by k_is) (by k_is) (by k_is) (by k_is)
    obtain ⟨D_joined⟩ := LW.def_mk (n := "joined") (st := LW.s_joined) KX G LW.bd_joined (by k_is) (by k_is) (by k_is) (by k_is)
    obtain ⟨D_few_days⟩ := LW.def_mk (n := "few_days") (st := LW.s_few_days) KX G LW.bd_few_days (by k_is) (by k_is) (by k_is) (by k_is)
    obtain ⟨D_law_said⟩ := LW.def_mk (n := "_law_said") (st := LW.s_law_said) KX G LW.bd_law_said (by k_is) (by k_is) (by k_is) (by k_is)
    obtain ⟨D_law⟩ := LW.def_mk (n := "law") (st := LW.s_law) KX G LW.bd_law (by k_is) (by k_is) (by k_is) (by k_is)
    have g_NoDays := LW.cls_mk (n := "NoDays") KX G (by k_is)
    have g_NoCap := LW.cls_mk (n := "NoCap") KX G (by k_is)
    have g_NoStart := LW.cls_mk (n := "NoStart") KX G (by k_is)
    have g_NoFive := LW.cls_mk (n := "NoFive") KX G (by k_is)
    have g_NoMany := LW.cls_mk (n := "NoMany") KX G (by k_is)
    have g_NoLot := LW.cls_mk (n := "NoLot") KX G (by k_is)
    have g_NotBest := LW.cls_mk (n := "NotBest") KX G (by k_is)
    have g_NoNumber := LW.cls_mk (n := "NoNumber") KX G (by k_is)
    have g_NoMirror := LW.cls_mk (n := "NoMirror") KX G (by k_is)
    have g_NoMost := LW.cls_mk (n := "NoMost") KX G (by k_is)
    have g_NoCaps := LW.cls_mk (n := "NoCaps") KX G (by k_is)
    have g_NoBounds := LW.cls_mk (n := "NoBounds") KX G (by k_is)
    have g_NoLooks := LW.cls_mk (n := "NoLooks") KX G (by k_is)
    have g_NoMoment := LW.cls_mk (n := "NoMoment") KX G (by k_is)
    have g_NoContent := LW.cls_mk (n := "NoContent") KX G (by k_is)
    have g_NoCore := LW.cls_mk (n := "NoCore") KX G (by k_is)
    have g_NoText := LW.cls_mk (n := "NoText") KX G (by k_is)
    have g_TooMany := LW.cls_mk (n := "TooMany") KX G (by k_is)
    have g_TankError := LW.cls_mk (n := "TankError") KX G (by k_is)
    exact LW.fd_law ⟨⟨D_is_whole, D_end_of, D_five_of_day, D_law_cell_at, D_law_bag, D_law_draw, D_law_words, D_is_amount, D_is_days, D_put_behind, D_led_by, D_law_size, D_law_cap, D_law_no_days, D_law_no_amount, D_law_no_five, D_need_days, D_need_cap, D_need_start, D_five_of, D_law_row, D_is_five, D_five, D_need_five, D_ends_from, D_led, D_joined, D_few_days, D_law_said, D_law⟩, ⟨trivial, ⟨_, g_NoDays⟩, ⟨_, g_NoCap⟩, ⟨_, g_NoStart⟩, ⟨_, g_NoFive⟩, ⟨_, g_NoMany⟩, ⟨_, g_NoLot⟩, ⟨_, g_NotBest⟩, ⟨_, g_NoNumber⟩, ⟨_, g_NoMirror⟩, ⟨_, g_NoMost⟩, ⟨_, g_NoCaps⟩, ⟨_, g_NoBounds⟩, ⟨_, g_NoLooks⟩, ⟨_, g_NoMoment⟩, ⟨_, g_NoContent⟩, ⟨_, g_NoCore⟩, ⟨_, g_NoText⟩, ⟨_, g_TooMany⟩, ⟨_, g_TankError⟩⟩, ⟨trivial, PySem.W.mg_none_of KX G (by k_is), PySem.W.mg_none_of KX G (by k_is), PySem.W.mg_none_of KX G (by k_is), PySem.W.mg_none_of KX G (by k_is), PySem.W.mg_none_of KX G (by k_is), PySem.W.mg_none_of KX G (by k_is), PySem.W.mg_none_of KX G (by k_is), PySem.W.mg_none_of KX G (by k_is), PySem.W.mg_none_of KX G (by k_is), PySem.W.mg_none_of KX G (by k_is), PySem.W.mg_none_of KX G (by k_is), PySem.W.mg_none_of KX G (by k_is), PySem.W.mg_none_of KX G (by k_is), PySem.W.mg_none_of KX G (by k_is), PySem.W.mg_none_of KX G (by k_is), PySem.W.mg_none_of KX G (by k_is)⟩, ⟨by (try dsimp only); k_exc, by (try dsimp only); k_is, by (try dsimp only); k_is, by (try dsimp only); k_is⟩, ⟨by (try dsimp only); k_is, by (try dsimp only); k_is, by (try dsimp only); k_is, by (try dsimp only); k_is, by (try dsimp only); k_is, by (try dsimp only); k_is⟩, ⟨by (try dsimp only); k_is, by (try dsimp only); k_is, by (try dsimp only); k_is, by (try dsimp only); k_is, by (try dsimp only); k_is, by (try dsimp only); k_is, by (try dsimp only); k_is, by (try dsimp only); k_is, by (try dsimp only); k_is, by (try dsimp only); k_is, by (try dsimp only); k_is, by (try dsimp only); k_is, by (try dsimp only); k_is, by (try dsimp only); k_is, by (try dsimp only); k_is, by (try dsimp only); k_is, by (try dsimp only); k_is, by (try dsimp only); k_is, by (try dsimp only); k_is, by (try dsimp only); k_is⟩, ⟨by (try dsimp only); k_exc, by (try dsimp only); k_is, by (try dsimp only); k_is, by (try dsimp only); k_is⟩, ⟨by (try dsimp only); k_is, by (try dsimp only); k_is, by (try dsimp only); k_is, by (try dsimp only); k_is, by (try dsimp only); k_is, by (try dsimp only); k_is⟩, ⟨by (try dsimp only); k_is, by (try dsimp only); k_is, by (try dsimp only); k_is, by (try dsimp only); k_is, by (try dsimp only); k_is, by (try dsimp only); k_is, by (try dsimp only); k_is, by (try dsimp only); k_is, by (try dsimp only); k_is, by (try dsimp only); k_is, by (try dsimp only); k_is, by (try dsimp only); k_is, by (try dsimp only); k_is, by (try dsimp only); k_is, by (try dsimp only); k_is, by (try dsimp only); k_is, by (try dsimp only); k_is, by (try dsimp only); k_is, by (try dsimp only); k_is, by (try dsimp only); k_is⟩, ⟨by (try dsimp only); k_exc, by (try dsimp only); k_is, by (try dsimp only); k_is, by (try dsimp only); k_is⟩, ⟨by (try dsimp only); k_is, by (try dsimp only); k_is, by (try dsimp only); k_is, by (try dsimp only); k_is, by (try dsimp only); k_is, by (try dsimp only); k_is⟩, ⟨by (try dsimp only); k_is, by (try dsimp only); k_is, by (try dsimp only); k_is, by (try dsimp only); k_is, by (try dsimp only); k_is, by (try dsimp only); k_is, by (try dsimp only); k_is, by (try dsimp only); k_is, by (try dsimp only); k_is, by (try dsimp only); k_is, by (try dsimp only); k_is, by (try dsimp only); k_is, by (try dsimp only); k_is, by (try dsimp only); k_is, by (try dsimp only); k_is, by (try dsimp only); k_is, by (try dsimp only); k_is, by (try dsimp only); k_is, by (try dsimp only); k_is, by (try dsimp only); k_is⟩, ⟨by (try dsimp only); k_exc, by (try dsimp only); k_is, by (try dsimp only); k_is, by (try dsimp only); k_is⟩, ⟨by (try dsimp only); k_is, by (try dsimp only); k_is, by (try dsimp only); k_is, by (try dsimp only); k_is, by (try dsimp only); k_is, by (try dsimp only); k_is⟩, ⟨by (try dsimp only); k_is, by (try dsimp only); k_is, by (try dsimp only); k_is, by (try dsimp only); k_is, by (try dsimp only); k_is, by (try dsimp only); k_is, by (try dsimp only); k_is, by (try dsimp only); k_is, by (try dsimp only); k_is, by (try dsimp only); k_is, by (try dsimp only); k_is, by (try dsimp only); k_is, by (try dsimp only); k_is, by (try dsimp only); k_is, by (try dsimp only); k_is, by (try dsimp only); k_is, by (try dsimp only); k_is, by (try dsimp only); k_is, by (try dsimp only); k_is, by (try dsimp only); k_is⟩, ⟨by (try dsimp only); k_is, by (try dsimp only); k_is, by (try dsimp only); k_is⟩, ⟨by (try dsimp only); k_is, by (try dsimp only); k_is, by (try dsimp only); k_is⟩, ⟨by (try dsimp only); k_is, by (try dsimp only); k_is, by (try dsimp only); k_is⟩, ⟨by (try dsimp only); k_is, by (try dsimp only); k_is, by (try dsimp only); k_is⟩, ⟨by (try dsimp only); k_is, by (try dsimp only); k_is, by (try dsimp only); k_is⟩, ⟨by (try dsimp only); k_is, by (try dsimp only); k_is, by (try dsimp only); k_is⟩, ⟨by (try dsimp only); k_is, by (try dsimp only); k_is, by (try dsimp only); k_is⟩, ⟨by (try dsimp only); k_is, by (try dsimp only); k_is, by (try dsimp only); k_is⟩, ⟨by (try dsimp only); k_is, by (try dsimp only); k_is, by (try dsimp only); k_is⟩, ⟨by (try dsimp only); k_is, by (try dsimp only); k_is, by (try dsimp only); k_is⟩, ⟨by (try dsimp only); k_is, by (try dsimp only); k_is, by (try dsimp only); k_is⟩, ⟨by (try dsimp only); k_is, by (try dsimp only); k_is, by (try dsimp only); k_is⟩, ⟨by (try dsimp only); k_is, by (try dsimp only); k_is, by (try dsimp only); k_is⟩, ⟨by (try dsimp only); k_is, by (try dsimp only); k_is, by (try dsimp only); k_is⟩, ⟨by (try dsimp only); k_is, by (try dsimp only); k_is, by (try dsimp only); k_is⟩, ⟨by (try dsimp only); k_is, by (try dsimp only); k_is, by (try dsimp only); k_is⟩, ⟨by (try dsimp only); k_is, by (try dsimp only); k_is, by (try dsimp only); k_is⟩, ⟨by (try dsimp only); k_is, by (try dsimp only); k_is, by (try dsimp only); k_is⟩, ⟨by (try dsimp only); k_is, by (try dsimp only); k_is, by (try dsimp only); k_is⟩, ⟨by k_is, by k_is⟩⟩ hmg
