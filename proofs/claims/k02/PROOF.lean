import PyProof.Rows.All
import Wide.All
import OpenK.AllK
import Wide.FinOn
import PySem.Challenge.RW_easykinds_k02_tables_put_together
import HandS.ForMost
import HandS.Exc
import HandS.ExcOwn
import HandS.TryOnly
import HandS.CallSlots
import HandS.Lambda
import HandS.TupAny
import HandS.WordsExc
import HandS.CallLocal
import KE.GoesEnum
import KE.GoesZip
import KE.GoesMore
import PyProof.EnumMake
import HandS.Deep
import KE.KIndexOf
import HandS.IsInst
import HandS.More
import HandS.Codes
import HandS.EndBits
import HandS.SortInts
import HandS.SortRule
import KE.KRevSl
import HandS.Text
import HandS.SetFor
import HandS.Strs
import HandS.TupSets
import HandS.RaiseMore
import PyProof.ReprReads
import HandS.ExcIs
import HandS.ExcValue
import HandS.TupLe
import HandS.Words
import HandS.Conv
import KE.KDictDisplayH
import KE.SortData
import HandS.TupMul
import HandS.EndTab
import KE.KNest
import PyProof.StrLawsRepr
import PyProof.Rows.StrJoinMade
set_option Elab.async false
set_option linter.all false
set_option maxRecDepth 100000
/-! MP1: values as trees, a small store, what relates them to the layer's heap -/
namespace MP
open PySem PySem.Spec PyProof.Rows L2

inductive D where
  | non | bl (b : Bool) | int (i : Int) | str (s : Str) | tup (xs : List D) | lst (xs : List D)
  | obj (c : Nat) (ns : List Str) (fs : List D) | err (c : Nat) | dct (ks vs : List D) | scr (ns : List Int) | fn (x : Str)
  deriving Inhabited
inductive Vl where
  | d (x : D) | p (n : Nat) | t (xs : List Vl)
  deriving Inhabited
/-- what a cell holds: a list; a dict by tuples of whole numbers; a dict by whole numbers -/
inductive Cl where
  | l (ds : List D) | dT (kvs : List (List Int × D)) | dI (kvs : List (Int × D))
  deriving Inhabited
instance : Coe (List D) Cl := ⟨.l⟩
structure Store where
  L : List (Option Cl)
  deriving Inhabited
abbrev En := List (Option Vl)
inductive Res (α : Type) where
  | ok (a : α) (S : Store) | exc (c : Nat) (S : Store) | stuck
@[simp] def Res.bind {α β : Type} (r : Res α) (k : α → Store → Res β) : Res β := match r with
  | .ok a S => k a S
  | .exc c S => .exc c S
  | .stuck => .stuck
/-- what a statement does -/
inductive SR where
  | next (η : En) (S : Store) | ret (v : Vl) (S : Store) | brk (η : En) (S : Store) | cont (η : En) (S : Store)
  | exc (c : Nat) (η : En) (S : Store) | stuck
@[simp] def SR.seq (r : SR) (k : En → Store → SR) : SR := match r with
  | .next η S => k η S
  | r => r
abbrev Ex := En → Store → Res Vl
abbrev Stm := Nat → En → Store → SR

structure GI where
  K : PySem.W.Frag
  cls : Nat → Addr
  fn : Str → Option Addr
  /-- tables of code objects, of lambdas made -/
  T : List (Addr × Str)
  /-- what is known from farther out -/
  low : Hp
/-- no table -/
def NT (o : HO) : Prop := ∀ ps, o ≠ .tbl ps
def noHp : Hp := fun _ => none
abbrev GI.of (K : PySem.W.Frag) (cls : Nat → Addr) (fn : Str → Option Addr) : GI := ⟨K, cls, fn, [], noHp⟩
/-- it stays, but for a table, that may grow -/
structure Kp (o : HO) (x : Option HO) : Prop where
  eq : NT o → x = some o
  tb : ∀ ps, o = .tbl ps → ∃ ps', x = some (.tbl ps')
theorem Kp.of {o : HO} {x : Option HO} (h : x = some o) : Kp o x := ⟨fun _ => h, fun ps e => ⟨ps, by rw [h, e]⟩⟩
theorem Kp.ex {o : HO} {x : Option HO} (h : Kp o x) : ∃ o', x = some o' := by
  by_cases z : ∃ ps, o = .tbl ps
  · obtain ⟨ps, e⟩ := z
    obtain ⟨p2, e2⟩ := h.tb ps e
    exact ⟨_, e2⟩
  · exact ⟨o, h.eq fun ps e => z ⟨ps, e⟩⟩
theorem Kp.thn {o : HO} {x y : Option HO} (h : Kp o x) (k : ∀ u, x = some u → Kp u y) : Kp o y :=
  ⟨fun t => (k o (h.eq t)).eq t, fun ps e => let ⟨p2, e2⟩ := h.tb ps e; (k _ e2).tb p2 rfl⟩
def Sub (M M' : Hp) : Prop := ∀ a o, M a = some o → M' a = some o
theorem Sub.refl (M : Hp) : Sub M M := fun _ _ h => h
theorem Sub.trans {A B C : Hp} (a : Sub A B) (b : Sub B C) : Sub A C := fun x o h => b x o (a x o h)
theorem Sub.new {M : Hp} {p : Addr} {o : HO} (h : M p = none) : Sub M (upd M p o) := fun a u e => by
  rw [upd_ne (ne_of_none e h)]; exact e
theorem Sub.rd {H H' : Hp} {a : Addr} {u : HO} (e : Sub H H') (h : Rd H a u) : Rd H' a u := by
  rcases h with h | ⟨o, h⟩
  · exact Or.inl (e a _ h)
  · exact Or.inr ⟨o, e a _ h⟩
theorem Sub.l {K : PySem.W.Frag} {H H' : Hp} {a : Addr} {xs : List V} (e : Sub H H') (h : SqL K H a xs) : SqL K H' a xs := by
  rcases h with h | h
  · exact Or.inl (e.rd h)
  · exact Or.inr h
theorem Sub.t {K : PySem.W.Frag} {H H' : Hp} {a : Addr} {xs : List V} (e : Sub H H') (h : SqT K H a xs) : SqT K H' a xs := by
  rcases h with h | h
  · exact Or.inl (e.rd h)
  · exact Or.inr h
theorem Sub.free {H H' : Hp} {p : Addr} (e : Sub H H') (h : H' p = none) : H p = none := by
  cases h1 : H p with
  | none => rfl
  | some o => rw [e p o h1] at h; cases h

/-- a tuple that is known as the object it is -/
def TupAt (K : PySem.W.Frag) (M : Hp) (a : Addr) (vs : List V) : Prop :=
  (∃ o, M a = some (.frz o (.tup vs)) ∧ o.dict = none) ∨
    ∃ (o : Obj) (its : Array Value) (n : Nat), K.lookup a = some o ∧ o.cls = .type "tuple" ∧ o.dict = none ∧ o.data = .seq its n ∧ its.size ≤ sizeLine ∧ Vals vs its.toList
theorem TupAt.t {K : PySem.W.Frag} {M : Hp} {a : Addr} {vs : List V} (h : TupAt K M a vs) : SqT K M a vs := by
  rcases h with ⟨o, e, _⟩ | ⟨o, its, n, h1, h2, _, h3, h4, h5⟩
  · exact .inl (.inr ⟨o, e⟩)
  · exact .inr ⟨o, its, n, h1, h2, h3, h4, h5⟩
theorem TupAt.mono {K : PySem.W.Frag} {M M' : Hp} {a : Addr} {vs : List V} (e : Sub M M') (h : TupAt K M a vs) : TupAt K M' a vs := by
  rcases h with ⟨o, h, d⟩ | h
  · exact .inl ⟨o, e _ _ h, d⟩
  · exact .inr h
theorem TupAt.new {K : PySem.W.Frag} {M : Hp} {a : Addr} {o : Obj} {vs : List V} (d : o.dict = none) : TupAt K (upd M a (.frz o (.tup vs))) a vs := .inl ⟨o, upd_same, d⟩
/-- a caught error of the class at C -/
def ErrO (C a : Addr) : HO := .ext fun h => ∃ (oe : Obj) (vs : Array Value), h.get? a = some oe ∧ Zc (.ref C) none oe ∧ oe.data = .fields vs
/-- the sum by which a dict finds a tuple of whole numbers -/
def khash (k : List Int) : Int := reduceHash (Builtin.Tuple.tupleHashOf (k.map hashInt))
/-- a dict by tuples of whole numbers: of each the numbers, where the tuple stands, the value -/
def DctO (a : Addr) (n : Nat) (kvs : List (List Int × Addr × V)) : HO := .ext fun h => kvs.length ≤ sizeLine ∧ (a == sysModules) = false ∧ ∃ xs : List (List Int × Addr × Value),
  Paired (fun (p : List Int × Addr × V) (q : List Int × Addr × Value) => p.1 = q.1 ∧ p.2.1 = q.2.1 ∧ RelV p.2.2 q.2.2) kvs xs ∧
  ∃ o es, h.get? a = some o ∧ o.ExactDict ∧ o.data = .dict es n ∧ es.toList = xs.map (fun x => ⟨khash x.1, .ref x.2.1, x.2.2⟩) ∧ (xs.map (·.1)).Nodup
mutual
inductive RD (G : GI) (M : Hp) : D → V → Prop
  | err {c : Nat} {a : Addr} : M a = some (ErrO (G.cls c) a) → RD G M (.err c) (.ref a)
  | non : RD G M .non .non
  | bl (b : Bool) : RD G M (.bl b) (.bl b)
  | int (i : Int) : RD G M (.int i) (.int i)
  | str (s : Str) : RD G M (.str s) (.str s)
  | tup {a : Addr} {vs : List V} {ds : List D} : TupAt G.K M a vs → RDs G M ds vs → RD G M (.tup ds) (.ref a)
  | lst {a : Addr} {vs : List V} {ds : List D} : M a = some (.lst vs) → RDs G M ds vs → RD G M (.lst ds) (.ref a)
  | scr {a : Addr} {ns : List Int} : SqL G.K M a (ns.map V.int) → RD G M (.scr ns) (.ref a)
  | fn {x : Str} {f : Addr} : G.fn x = some f → RD G M (.fn x) (.ref f)
  | obj {c : Nat} {ns : List Str} {fs : List D} {a dx : Addr} {vs : List V} : M a = some (.ins (G.cls c) dx (ns.zip vs)) → M dx = some (.own a) → ns.length = vs.length → RDs G M fs vs → RD G M (.obj c ns fs) (.ref a)
  | dct {a : Addr} {n : Nat} {xs : List (List Int × Addr × V)} {ks ds : List D} : M a = some (DctO a n xs) → (∀ x ∈ xs, TupAt G.K M x.2.1 (x.1.map V.int)) → ks = xs.map (fun x => .tup (x.1.map .int)) → RDs G M ds (xs.map (·.2.2)) → RD G M (.dct ks ds) (.ref a)
inductive RDs (G : GI) (M : Hp) : List D → List V → Prop
  | nil : RDs G M [] []
  | cons {d : D} {v : V} {ds : List D} {vs : List V} : RD G M d v → RDs G M ds vs → RDs G M (d :: ds) (v :: vs)
end
mutual
theorem RD.mono {G : GI} {M M' : Hp} (e : Sub M M') : ∀ {d : D} {v : V}, RD G M d v → RD G M' d v
  | _, _, .non => .non
  | _, _, .bl b => .bl b
  | _, _, .int i => .int i
  | _, _, .str s => .str s
  | _, _, .tup h t => .tup (h.mono e) (RDs.mono e t)
  | _, _, .lst h t => .lst (e _ _ h) (RDs.mono e t)
  | _, _, .scr h => .scr (e.l h)
  | _, _, .err h => .err (e _ _ h)
  | _, _, .fn h => .fn h
  | _, _, .obj h1 h2 h3 t => .obj (e _ _ h1) (e _ _ h2) h3 (RDs.mono e t)
  | _, _, .dct h1 h2 hk t => .dct (e _ _ h1) (fun x hx => (h2 x hx).mono e) hk (RDs.mono e t)
theorem RDs.mono {G : GI} {M M' : Hp} (e : Sub M M') : ∀ {d : List D} {v : List V}, RDs G M d v → RDs G M' d v
  | _, _, .nil => .nil
  | _, _, .cons h t => .cons (RD.mono e h) (RDs.mono e t)
end
/-- the world: what is known for good, where the cells stand -/
structure Wd where
  M : Hp
  ρ : List Addr
mutual
inductive RV (G : GI) (w : Wd) : Vl → V → Prop
  | d {x : D} {v : V} : RD G w.M x v → RV G w (.d x) v
  | p {n : Nat} {a : Addr} : w.ρ[n]? = some a → RV G w (.p n) (.ref a)
  | t {xs : List Vl} {vs : List V} {a : Addr} : TupAt G.K w.M a vs → RVs G w xs vs → RV G w (.t xs) (.ref a)
inductive RVs (G : GI) (w : Wd) : List Vl → List V → Prop
  | nil : RVs G w [] []
  | cons {d : Vl} {v : V} {ds : List Vl} {vs : List V} : RV G w d v → RVs G w ds vs → RVs G w (d :: ds) (v :: vs)
end
/-- the world grows -/
structure Nxt (w w' : Wd) : Prop where
  m : Sub w.M w'.M
  r : w.ρ <+: w'.ρ
theorem Nxt.refl (w : Wd) : Nxt w w := ⟨Sub.refl _, List.prefix_refl _⟩
theorem Nxt.trans {w w1 w2 : Wd} (a : Nxt w w1) (b : Nxt w1 w2) : Nxt w w2 := ⟨a.m.trans b.m, a.r.trans b.r⟩
/-- what is tracked and no cell stays as it is -/
def Frm (w : Wd) (H : Hp) (w' : Wd) (H' : Hp) : Prop := ∀ a o, H a = some o → a ∉ w.ρ → Kp o (H' a) ∧ a ∉ w'.ρ ∧ (w.M a = none → w'.M a = none)
theorem Frm.refl (w : Wd) (H : Hp) : Frm w H w H := fun _ _ e n => ⟨.of e, n, fun z => z⟩
theorem Frm.trans {w w1 w2 : Wd} {H H1 H2 : Hp} (a : Frm w H w1 H1) (b : Frm w1 H1 w2 H2) : Frm w H w2 H2 := fun x o e n => by
  obtain ⟨e1, n1, m1⟩ := a x o e n
  obtain ⟨o', q⟩ := e1.ex
  obtain ⟨e2, n2, m2⟩ := b x o' q n1
  refine ⟨e1.thn fun u hu => ?_, n2, fun z => m2 (m1 z)⟩
  rw [q] at hu; cases hu; exact e2
structure Go (w : Wd) (H : Hp) (w' : Wd) (H' : Hp) : Prop where
  n : Nxt w w'
  f : Frm w H w' H'
theorem Go.refl (w : Wd) (H : Hp) : Go w H w H := ⟨Nxt.refl w, Frm.refl w H⟩
theorem Go.trans {w w1 w2 : Wd} {H H1 H2 : Hp} (a : Go w H w1 H1) (b : Go w1 H1 w2 H2) : Go w H w2 H2 := ⟨a.n.trans b.n, a.f.trans b.f⟩
theorem pre_get {ρ ρ' : List Addr} (h : ρ <+: ρ') {n : Nat} {a : Addr} (e : ρ[n]? = some a) : ρ'[n]? = some a := by
  obtain ⟨t, rfl⟩ := h
  obtain ⟨hl, e'⟩ := List.getElem?_eq_some_iff.mp e
  rw [List.getElem?_append_left hl]; exact e
mutual
theorem RV.mono {G : GI} {w w' : Wd} (n : Nxt w w') : ∀ {d : Vl} {v : V}, RV G w d v → RV G w' d v
  | _, _, .d h => .d (h.mono n.m)
  | _, _, .p h => .p (pre_get n.r h)
  | _, _, .t h t => .t (h.mono n.m) (RVs.mono n t)
theorem RVs.mono {G : GI} {w w' : Wd} (n : Nxt w w') : ∀ {d : List Vl} {v : List V}, RVs G w d v → RVs G w' d v
  | _, _, .nil => .nil
  | _, _, .cons h t => .cons (RV.mono n h) (RVs.mono n t)
end
theorem RDs.length {G : GI} {M : Hp} : ∀ {d : List D} {v : List V}, RDs G M d v → d.length = v.length
  | _, _, .nil => rfl
  | _, _, .cons _ t => by rw [List.length_cons, List.length_cons, t.length]
theorem RVs.length {G : GI} {w : Wd} : ∀ {d : List Vl} {v : List V}, RVs G w d v → d.length = v.length
  | _, _, .nil => rfl
  | _, _, .cons _ t => by rw [List.length_cons, List.length_cons, t.length]
theorem RDs.get {G : GI} {M : Hp} : ∀ {ds : List D} {vs : List V} {i : Nat} {d : D}, RDs G M ds vs → ds[i]? = some d → ∃ v, vs[i]? = some v ∧ RD G M d v
  | _, _, _, _, .nil, e => by simp at e
  | _, _, 0, _, .cons h _, e => by simp at e; subst e; exact ⟨_, rfl, h⟩
  | _, _, i + 1, d, .cons _ t, e => by
    obtain ⟨v, h1, h2⟩ := t.get (i := i) (d := d) (by simpa using e)
    exact ⟨v, by simpa using h1, h2⟩
theorem RDs.app {G : GI} {M : Hp} : ∀ {a b : List D} {v w : List V}, RDs G M a v → RDs G M b w → RDs G M (a ++ b) (v ++ w)
  | _, _, _, _, .nil, s => s
  | _, _, _, _, .cons h t, s => .cons h (t.app s)
theorem RVs.ofD {G : GI} {w : Wd} : ∀ {ds : List D} {vs : List V}, RDs G w.M ds vs → RVs G w (ds.map .d) vs
  | _, _, .nil => .nil
  | _, _, .cons h t => .cons (.d h) (RVs.ofD t)
theorem RVs.toD {G : GI} {w : Wd} : ∀ {ds : List D} {vs : List V}, RVs G w (ds.map .d) vs → RDs G w.M ds vs
  | [], _, h => by cases h; exact .nil
  | d :: ds, _, h => by cases h with | cons h t => cases h with | d h => exact .cons h (RVs.toD t)

/-- what stands in a cell -/
def CellR (G : GI) (M : Hp) (H : Hp) (a : Addr) : Cl → Prop
  | .l ds => ∃ vs, H a = some (.lst vs) ∧ RDs G M ds vs
  | .dT kvs => ∃ (n : Nat) (xs : List (List Int × Addr × V)), H a = some (DctO a n xs) ∧ kvs.map (·.1) = xs.map (·.1) ∧ (∀ x ∈ xs, TupAt G.K M x.2.1 (x.1.map V.int)) ∧ RDs G M (kvs.map (·.2)) (xs.map (·.2.2))
  | .dI kvs => ∃ xs : List (Int × V), H a = some (.dK (xs.map fun x => (.inl x.1, x.2))) ∧ kvs.map (·.1) = xs.map (·.1) ∧ RDs G M (kvs.map (·.2)) (xs.map (·.2))
theorem CellR.mono {G : GI} {M M' H H' : Hp} {a : Addr} {c : Cl} (e : Sub M M') (h : H' a = H a) (r : CellR G M H a c) : CellR G M' H' a c := by
  cases c with
  | l ds => obtain ⟨vs, q, r⟩ := r; exact ⟨vs, h.trans q, r.mono e⟩
  | dT kvs => obtain ⟨n, xs, q, k, t, r⟩ := r; exact ⟨n, xs, h.trans q, k, fun x hx => (t x hx).mono e, r.mono e⟩
  | dI kvs => obtain ⟨xs, q, k, r⟩ := r; exact ⟨xs, h.trans q, k, r.mono e⟩
/-- it stays where what is there stays -/
theorem CellR.obj {G : GI} {M H : Hp} {a : Addr} {c : Cl} (r : CellR G M H a c) : ∃ o, H a = some o := by
  cases c with
  | l ds => obtain ⟨vs, q, _⟩ := r; exact ⟨_, q⟩
  | dT kvs => obtain ⟨n, xs, q, _⟩ := r; exact ⟨_, q⟩
  | dI kvs => obtain ⟨xs, q, _⟩ := r; exact ⟨_, q⟩
/-- no table, no code object -/
def NC (x : Option HO) : Prop := (∀ ps, x ≠ some (.tbl ps)) ∧ ∀ y q, x ≠ some (LamX.CodeO y q)
theorem NC.nt {o : HO} (h : NC (some o)) : NT o := fun ps z => h.1 ps (by rw [z])
theorem DctO_ne_code {a : Addr} {n : Nat} {xs : List (List Int × Addr × V)} {y : Addr} {q : Str} : DctO a n xs ≠ LamX.CodeO y q := fun z => by
  unfold DctO LamX.CodeO at z
  have z := HO.ext.inj z
  let oc : Obj := { cls := .none, data := .fields #[.none, .str q (Classical.choice ⟨0⟩)] }
  let h : Heap := { objs := Array.replicate (y + 1) oc }
  have hg : ∀ b o, h.get? b = some o → o = oc := fun b o e => by
    unfold Heap.get? at e
    split at e
    · cases e
    · obtain ⟨hb, e⟩ := Array.getElem?_eq_some_iff.mp e
      rw [← e]
      exact Array.getElem_replicate ..
  have h1 : ∃ (oo : Obj) (vs : Array Value) (t : Tok), h.get? y = some oo ∧ oo.data = .fields vs ∧ vs[1]? = some (.str q t) := by
    refine ⟨oc, _, _, ?_, rfl, rfl⟩
    have q : h.objs[y]? = some oc := (by rw [Array.getElem?_replicate, if_pos (Nat.lt_succ_self y)])
    unfold Heap.get?
    rw [q]
  rw [← congrFun z h] at h1
  obtain ⟨_, _, xs, _, o, es, e1, _, e2, _⟩ := h1
  rw [hg a o e1] at e2
  cases e2
theorem CellR.nc {G : GI} {M H : Hp} {a : Addr} {c : Cl} (r : CellR G M H a c) : NC (H a) := by
  cases c with
  | l ds => obtain ⟨vs, q, _⟩ := r; rw [q]; exact ⟨fun _ z => (by cases z), fun _ _ z => (by unfold LamX.CodeO at z; cases z)⟩
  | dT kvs => obtain ⟨n, xs, q, _⟩ := r; rw [q]; exact ⟨fun _ z => (by unfold DctO at z; cases z), fun _ _ z => DctO_ne_code (Option.some.inj z)⟩
  | dI kvs => obtain ⟨xs, q, _⟩ := r; rw [q]; exact ⟨fun _ z => (by cases z), fun _ _ z => (by unfold LamX.CodeO at z; cases z)⟩
theorem CellR.keep {G : GI} {M M' H H' : Hp} {a : Addr} {c : Cl} (e : Sub M M') (h : ∀ o, H a = .some o → H' a = .some o) (r : CellR G M H a c) : CellR G M' H' a c := by
  obtain ⟨o, q⟩ := r.obj
  exact r.mono e ((h o q).trans q.symm)
/-- the table at P, each code object that it tells known for good -/
def TabG (M H : Hp) (P : Addr) (q : Str) : Prop := ∃ ps : Array Value, H P = some (.tbl ps) ∧ TriplesOk ps.toList ∧ ∀ (pos : Pos) (cv : Value), codeAmong pos ps.toList = some cv → ∃ c, cv = .ref c ∧ M c = some (LamX.CodeO c q)
/-- the tables are known, and what is known from farther out is known here -/
structure Gg (G : GI) (w : Wd) (H : Hp) : Prop where
  tab : ∀ p ∈ G.T, TabG w.M H p.1 p.2 ∧ p.1 ∉ w.ρ ∧ w.M p.1 = none
  low : ∀ a o, G.low a = some o → w.M a = some o ∧ a ∉ w.ρ
  nt : ∀ a ∈ w.ρ, NC (H a)
  mt : ∀ a o, w.M a = some o → NT o
theorem Gg.up {G : GI} {w w' : Wd} {H H' : Hp} (g : Gg G w H) (s : ∀ a x q, w.M a = some (LamX.CodeO x q) → w'.M a = some (LamX.CodeO x q)) (hs : ∀ a o, H a = some o → a ∉ w.ρ → H' a = some o)
    (sl : ∀ a o, G.low a = some o → w.M a = some o → w'.M a = some o) (hr : ∀ a, a ∉ w.ρ → a ∉ w'.ρ ∨ G.low a = none) (ht : ∀ a ps, H a = some (.tbl ps) → a ∉ w.ρ → w.M a = none → a ∉ w'.ρ ∧ w'.M a = none) (hd : ∀ a ∈ w'.ρ, NC (H' a)) (hm : ∀ a o, w'.M a = some o → w.M a = some o ∨ NT o := by exact fun _ _ e => .inl e) : Gg G w' H' :=
  ⟨fun p hp => let ⟨⟨ps, e, h1, h2⟩, n, m⟩ := g.tab p hp; ⟨⟨ps, hs _ _ e n, h1, fun pos cv hc => let ⟨c, a, b⟩ := h2 pos cv hc; ⟨c, a, s _ _ _ b⟩⟩, ht _ ps e n m⟩,
    fun a o e => let ⟨q, n⟩ := g.low a o e; ⟨sl a o e q, (hr a n).elim (fun z => z) fun z => by rw [e] at z; cases z⟩, hd, fun a o e => (hm a o e).elim (fun q => g.mt a o q) fun q => q⟩
structure Rel (G : GI) (w : Wd) (S : Store) (H : Hp) : Prop where
  sub : Sub w.M H
  len : w.ρ.length = S.L.length
  nd : w.ρ.Nodup
  dom : ∀ a ∈ w.ρ, ∃ o, H a = some o
  cel : ∀ (n : Nat) (c : Cl) (a : Addr), S.L[n]? = some (some c) → w.ρ[n]? = some a → w.M a = none ∧ CellR G w.M H a c
  gg : Gg G w H
structure EnR (G : GI) (w : Wd) (η : En) (σ : L2.St) : Prop where
  len : η.length = σ.length
  get : ∀ (i : Nat) (v : Vl), η[i]? = some (some v) → ∃ x, σ[i]? = some (some x) ∧ RV G w v x
theorem EnR.mono {G : GI} {w w' : Wd} {η : En} {σ : L2.St} (n : Nxt w w') (h : EnR G w η σ) : EnR G w' η σ :=
  ⟨h.len, fun i v e => let ⟨x, h1, h2⟩ := h.get i v e; ⟨x, h1, h2.mono n⟩⟩

def Post {α β : Type} (G : GI) (w : Wd) (H : Hp) (RR : Hp → Wd → α → β → Prop) (r : Res α) (Q : β → Hp → Prop) (XX : Nat → Hp → Prop) : Prop := match r with
  | .ok v S' => ∀ w' H' x, Go w H w' H' → Rel G w' S' H' → RR H' w' v x → Q x H'
  | .exc c S' => ∀ w' H', Go w H w' H' → Rel G w' S' H' → XX c H'
  | .stuck => False
theorem Post.mono {α β : Type} {G : GI} {w w1 : Wd} {H H1 : Hp} {RR : Hp → Wd → α → β → Prop} {r : Res α} {Q : β → Hp → Prop} {XX : Nat → Hp → Prop} (n : Go w H w1 H1) (h : Post G w H RR r Q XX) : Post G w1 H1 RR r Q XX := by
  cases r with
  | ok v S' => exact fun w' H' x n' => h w' H' x (n.trans n')
  | exc c S' => exact fun w' H' n' => h w' H' (n.trans n')
  | stuck => exact h
theorem Post.thn {α β γ δ : Type} {G : GI} {w : Wd} {H : Hp} {RA : Hp → Wd → α → γ → Prop} {RB : Hp → Wd → β → δ → Prop} {r : Res α} {k : α → Store → Res β} {Q : δ → Hp → Prop} {Q1 : γ → Hp → Prop} {XX : Nat → Hp → Prop} (h : Post G w H RB (r.bind k) Q XX)
    (hk : ∀ w1 S1 H1 x v, Go w H w1 H1 → Rel G w1 S1 H1 → RA H1 w1 x v → Post G w1 H1 RB (k x S1) Q XX → Q1 v H1) : Post G w H RA r Q1 XX := by
  cases r with
  | ok v S' => exact fun w' H' x n hR hv => hk w' S' H' v x n hR hv (Post.mono n h)
  | exc c S' => exact h
  | stuck => exact h
abbrev RB : Hp → Wd → Bool → Bool → Prop := fun _ _ a b => a = b
abbrev rV (G : GI) : Hp → Wd → Vl → V → Prop := fun _ w a b => RV G w a b
abbrev rVs (G : GI) : Hp → Wd → List Vl → List V → Prop := fun _ w a b => RVs G w a b
/-- a wish about an own exception -/
abbrev xw (G : GI) (W : WX) (σ : L2.St) : Nat → Hp → Prop := fun c H => W (.ref (G.cls c)) none σ H
def tE (G : GI) (W : WX) (f : Ex) : TE := fun σ H Q => ∃ w S η, Rel G w S H ∧ EnR G w η σ ∧ Post G w H (rV G) (f η S) Q (xw G W σ)
def tA (G : GI) (W : WX) (f : En → Store → Res (List Vl)) : TA := fun σ H Q => ∃ w S η, Rel G w S H ∧ EnR G w η σ ∧ Post G w H (rVs G) (f η S) Q (xw G W σ)
def tT (G : GI) (W : WX) (f : En → Store → Res Bool) : TT := fun σ H Q => ∃ w S η, Rel G w S H ∧ EnR G w η σ ∧ Post G w H RB (f η S) Q (xw G W σ)
/-- a new list is about to be laid -/
abbrev rL (G : GI) : Hp → Wd → List D → Addr × List V → Prop := fun H w ds pv => H pv.1 = none ∧ RDs G w.M ds pv.2
abbrev qL (Q : VK) : Addr × List V → Hp → Prop := fun pv H => Q (.ref pv.1) (upd H pv.1 (.lst pv.2))
def tL (G : GI) (W : WX) (f : En → Store → Res (List D)) : TE := fun σ H Q => ∃ w S η, Rel G w S H ∧ EnR G w η σ ∧ Post G w H (rL G) (f η S) (qL Q) (xw G W σ)
/-! ### how the world goes on -/
section
variable {G : GI} {w : Wd} {S : Store} {H : Hp}
theorem Rel.at (h : Rel G w S H) {n : Nat} {c : Cl} (e : S.L[n]? = some (some c)) : ∃ a, w.ρ[n]? = some a ∧ CellR G w.M H a c ∧ w.M a = none := by
  have hn : n < S.L.length := (List.getElem?_eq_some_iff.mp e).1
  have hr : n < w.ρ.length := by rw [h.len]; exact hn
  obtain ⟨h1, h2⟩ := h.cel n c _ e (List.getElem?_eq_getElem hr)
  exact ⟨w.ρ[n], List.getElem?_eq_getElem hr, h2, h1⟩
theorem Rel.lowN (h : Rel G w S H) {p : Addr} (hp : H p = none) : G.low p = none := by
  cases q : G.low p with
  | none => rfl
  | some o => rw [h.sub p o (h.gg.low p o q).1] at hp; cases hp
theorem Rel.notin (h : Rel G w S H) {p : Addr} (hp : H p = none) : p ∉ w.ρ := fun hm => by
  obtain ⟨o, e⟩ := h.dom p hm
  rw [hp] at e; cases e
/-- what stood stands, M grows by what no cell is -/
theorem Rel.grow (h : Rel G w S H) {M' H' : Hp} (hs : Sub w.M M') (hs' : Sub M' H') (hH : ∀ a o, H a = some o → H' a = some o) (ho : ∀ a ∈ w.ρ, w.M a = none → M' a = none) (ht : ∀ a ps, H a = some (.tbl ps) → w.M a = none → M' a = none) (hm : ∀ a o, M' a = some o → w.M a = some o ∨ NT o := by exact fun _ _ e => .inl e) : Rel G ⟨M', w.ρ⟩ S H' where
  gg := h.gg.up (fun a x q e => hs a _ e) (fun a o e _ => hH a o e) (fun a o _ e => hs a o e) (fun a n => .inl n) (fun a ps e n m => ⟨n, ht a ps e m⟩) (fun a ha => by
    obtain ⟨o, q⟩ := h.dom a ha
    rw [hH a o q, ← q]
    exact h.gg.nt a ha) hm
  sub := hs'
  len := h.len
  nd := h.nd
  dom := fun a ha => let ⟨o, e⟩ := h.dom a ha; ⟨o, hH a o e⟩
  cel := fun n c a e1 e2 => by
    obtain ⟨h1, r⟩ := h.cel n c a e1 e2
    exact ⟨ho a (List.mem_of_getElem? e2) h1, r.keep hs (hH a)⟩
/-- a new thing that is known for good -/
theorem Rel.fix (h : Rel G w S H) {p : Addr} {o : HO} (hp : H p = none) (ht : NT o := by exact fun _ z => by cases z) : Rel G ⟨upd w.M p o, w.ρ⟩ S (upd H p o) := by
  have hm : w.M p = none := h.sub.free hp
  refine h.grow (Sub.new hm) (fun a u e => ?_) (fun a u e => ?_) (fun a ha e => ?_) ?_ (fun a u e => by
    by_cases q : a = p
    · subst q; rw [upd_same] at e; cases e; exact .inr ht
    · rw [upd_ne q] at e; exact .inl e)
  · by_cases q : a = p
    · subst q; rw [upd_same] at e ⊢; exact e
    · rw [upd_ne q] at e ⊢; exact h.sub a u e
  · rw [upd_ne (ne_of_none e hp)]; exact e
  · rw [upd_ne (show a ≠ p from fun z => h.notin hp (by rw [← z]; exact ha))]; exact e
  · intro a ps e m; rw [upd_ne (ne_of_none e hp)]; exact m
/-- a new thing that is not known for good -/
theorem Rel.add (h : Rel G w S H) {p : Addr} {o : HO} (hp : H p = none) : Rel G w S (upd H p o) := by
  refine h.grow (Sub.refl w.M) (fun a u e => ?_) (fun a u e => ?_) (fun _ _ e => e) (fun _ _ _ e => e)
  · rw [upd_ne (ne_of_none (h.sub a u e) hp)]; exact h.sub a u e
  · rw [upd_ne (ne_of_none e hp)]; exact e
/-- a list that no cell is becomes known for good -/
theorem Rel.frz (h : Rel G w S H) {p : Addr} {o : HO} (hp : H p = some o) (hm : w.M p = none) (hr : p ∉ w.ρ) (ht : NT o := by intro _ z; cases z) : Rel G ⟨upd w.M p o, w.ρ⟩ S H := by
  refine h.grow (Sub.new hm) (fun a u e => ?_) (fun _ _ e => e) (fun a ha e => ?_) (fun a ps e m => by rw [upd_ne (show a ≠ p from fun z => by rw [z, hp] at e; exact ht ps (Option.some.inj e))]; exact m) (fun a u e => by
    by_cases q : a = p
    · subst q; rw [upd_same] at e; cases e; exact .inr ht
    · rw [upd_ne q] at e; exact .inl e)
  · by_cases q : a = p
    · subst q; rw [upd_same] at e; rw [← e]; exact hp
    · rw [upd_ne q] at e; exact h.sub a u e
  · rw [upd_ne (show a ≠ p from fun z => hr (by rw [← z]; exact ha))]; exact e
/-- a new list becomes a cell -/
theorem Rel.cellC (h : Rel G w S H) {p : Addr} {c : Cl} (hl : G.low p = none) (hm : w.M p = none) (hr : p ∉ w.ρ) (hv : CellR G w.M H p c) : Rel G ⟨w.M, w.ρ ++ [p]⟩ ⟨S.L ++ [some c]⟩ H where
  gg := by
    have key : ∀ a, a ∉ w.ρ → a ≠ p → a ∉ w.ρ ++ [p] := fun a n ne hmm => by
      rcases List.mem_append.mp hmm with q | q
      · exact n q
      · exact ne (by simpa using q)
    refine h.gg.up (fun _ _ _ e => e) (fun _ _ e _ => e) (fun _ _ _ e => e) (fun a n => ?_) (fun a ps e n m => ⟨key a n fun z => by rw [z] at e; exact hv.nc.1 ps e, m⟩) fun a ha => by
      rcases List.mem_append.mp ha with q | q
      · exact h.gg.nt a q
      · have : a = p := by simpa using q
        subst this; exact hv.nc
    by_cases z : a = p
    · exact .inr (by rw [z]; exact hl)
    · exact .inl (key a n z)
  sub := h.sub
  len := by rw [List.length_append, List.length_append, h.len] <;> rfl
  nd := List.nodup_append.mpr ⟨h.nd, by simp, fun a ha b hb => by
    have : b = p := by simpa using hb
    subst this; exact fun e => hr (e ▸ ha)⟩
  dom := fun a ha => by
    rcases List.mem_append.mp ha with ha | ha
    · exact h.dom a ha
    · have : a = p := by simpa using ha
      subst this; exact hv.obj
  cel := fun n c a e1 e2 => by
    simp only at e1 e2
    by_cases hn : n < S.L.length
    · rw [List.getElem?_append_left hn] at e1
      rw [List.getElem?_append_left (by rw [h.len]; exact hn)] at e2
      exact h.cel n c a e1 e2
    · rw [List.getElem?_append_right (by omega)] at e1
      rw [List.getElem?_append_right (by rw [h.len]; omega), h.len] at e2
      by_cases hz : n - S.L.length = 0
      · rw [hz] at e1 e2
        simp at e1 e2
        subst e1 e2
        exact ⟨hm, hv⟩
      · rw [List.getElem?_eq_none (by simp; omega)] at e1; cases e1
theorem Rel.cell0 (h : Rel G w S H) {p : Addr} {vs : List V} {ds : List D} (hl : G.low p = none) (hp : H p = some (.lst vs)) (hm : w.M p = none) (hr : p ∉ w.ρ) (hv : RDs G w.M ds vs) : Rel G ⟨w.M, w.ρ ++ [p]⟩ ⟨S.L ++ [some (.l ds)]⟩ H := h.cellC hl hm hr ⟨vs, hp, hv⟩
theorem Go.fix (h : Rel G w S H) {p : Addr} {o : HO} (hp : H p = none) : Go w H ⟨upd w.M p o, w.ρ⟩ (upd H p o) :=
  ⟨⟨Sub.new (h.sub.free hp), List.prefix_refl _⟩, fun a u e n => ⟨.of <| by rw [upd_ne (ne_of_none e hp)]; exact e, n, fun z => by show upd w.M p o a = none; rw [upd_ne (ne_of_none e hp)]; exact z⟩⟩
theorem Go.add {p : Addr} {o : HO} (hp : H p = none) : Go w H w (upd H p o) :=
  ⟨Nxt.refl w, fun a u e n => ⟨.of <| by rw [upd_ne (ne_of_none e hp)]; exact e, n, fun z => z⟩⟩
theorem Go.wr {n : Nat} {a : Addr} {o : HO} (ea : w.ρ[n]? = some a) : Go w H w (upd H a o) :=
  ⟨Nxt.refl w, fun b u e n => ⟨.of <| by rw [upd_ne (show b ≠ a from fun z => n (by rw [z]; exact List.mem_of_getElem? ea))]; exact e, n, fun z => z⟩⟩
/-- a new thing becomes a cell -/
theorem Go.new {p : Addr} {o : HO} (hp : H p = none) : Go w H ⟨w.M, w.ρ ++ [p]⟩ (upd H p o) :=
  ⟨⟨Sub.refl _, List.prefix_append _ _⟩, fun a u e n => ⟨.of <| by rw [upd_ne (ne_of_none e hp)]; exact e, (fun hm => by
    rcases List.mem_append.mp hm with hm | hm
    · exact n hm
    · have : a = p := by simpa using hm
      rw [this, hp] at e; cases e), fun z => z⟩⟩
theorem Rel.cell (h : Rel G w S H) {p : Addr} {vs : List V} {ds : List D} (hp : H p = none) (hv : RDs G w.M ds vs) : Rel G ⟨w.M, w.ρ ++ [p]⟩ ⟨S.L ++ [some (.l ds)]⟩ (upd H p (.lst vs)) :=
  (h.add hp).cell0 (h.lowN hp) upd_same (h.sub.free hp) (h.notin hp) hv
theorem nd_get {l : List Addr} (hN : l.Nodup) {i j : Nat} {x : Addr} (a : l[i]? = some x) (b : l[j]? = some x) : i = j := by
  obtain ⟨h1, e1⟩ := List.getElem?_eq_some_iff.mp a
  obtain ⟨h2, e2⟩ := List.getElem?_eq_some_iff.mp b
  exact (List.getElem_inj hN).mp (e1.trans e2.symm)
/-- a cell's object is another one -/
theorem Rel.wrC (h : Rel G w S H) {n : Nat} {a : Addr} {c c' : Cl} {o' : HO} (e : S.L[n]? = some (some c)) (ea : w.ρ[n]? = some a) (hv : CellR G w.M (upd H a o') a c') : Rel G w ⟨S.L.set n (some c')⟩ (upd H a o') where
  gg := h.gg.up (fun _ _ _ e => e) (fun b o q hb => by rw [upd_ne (show b ≠ a from fun z => hb (by rw [z]; exact List.mem_of_getElem? ea))]; exact q) (fun _ _ _ e => e) (fun _ n => .inl n) (fun _ _ _ n m => ⟨n, m⟩) fun b hb => by
    by_cases z : b = a
    · subst z; exact hv.nc
    · rw [upd_ne z]; exact h.gg.nt b hb
  sub := fun b o q => by
    have hm : w.M a = none := (h.cel n _ a e ea).1
    rw [upd_ne (ne_of_none q hm)]; exact h.sub b o q
  len := by rw [List.length_set]; exact h.len
  nd := h.nd
  dom := fun b hb => by
    by_cases q : b = a
    · subst q; exact ⟨_, upd_same⟩
    · rw [upd_ne q]; exact h.dom b hb
  cel := fun m d b e1 e2 => by
    simp only at e1
    by_cases hm : m = n
    · subst hm
      rw [ea] at e2
      cases e2
      rw [List.getElem?_set_self (List.getElem?_eq_some_iff.mp e).1] at e1
      cases e1
      exact ⟨(h.cel m _ a e ea).1, hv⟩
    · rw [List.getElem?_set_ne (Ne.symm hm)] at e1
      have hb : b ≠ a := fun z => by subst z; exact hm (nd_get h.nd e2 ea)
      obtain ⟨h1, r⟩ := h.cel m d b e1 e2
      exact ⟨h1, r.mono (Sub.refl _) (upd_ne hb)⟩
/-- a cell's list is another one -/
theorem Rel.wr (h : Rel G w S H) {n : Nat} {a : Addr} {c : Cl} {ds' : List D} {vs' : List V} (e : S.L[n]? = some (some c)) (ea : w.ρ[n]? = some a) (hv : RDs G w.M ds' vs') : Rel G w ⟨S.L.set n (some (.l ds'))⟩ (upd H a (.lst vs')) :=
  h.wrC e ea ⟨vs', upd_same, hv⟩
/-- all cells from n on are known for good and no cells any more -/
def Wd.fr (w : Wd) (n : Nat) (H : Hp) : Wd := ⟨fun a => if a ∈ w.ρ.drop n then H a else w.M a, w.ρ.take n⟩
def Wd.tk (w : Wd) (n : Nat) : Wd := ⟨w.M, w.ρ.take n⟩
theorem Rel.fr_sub (h : Rel G w S H) (n : Nat) : Sub w.M (w.fr n H).M := fun a o e => by
  unfold Wd.fr
  simp only
  split
  · exact h.sub a o e
  · exact e
theorem Rel.fr (h : Rel G w S H) (n : Nat) : Rel G (w.fr n H) ⟨S.L.take n⟩ H where
  gg := h.gg.up (fun a x q e => h.fr_sub n a _ e) (fun _ _ e _ => e) (fun a o _ e => h.fr_sub n a o e) (fun _ hn => .inl fun hm => hn (List.mem_of_mem_take hm)) (fun a ps e hn m => ⟨fun hm => hn (List.mem_of_mem_take hm), by unfold Wd.fr; simp only; rw [if_neg (fun hd => hn (List.mem_of_mem_drop hd))]; exact m⟩) (fun a ha => h.gg.nt a (List.mem_of_mem_take ha)) fun a o e => by
    unfold Wd.fr at e
    simp only at e
    split at e
    · rename_i hd
      have := h.gg.nt a (List.mem_of_mem_drop hd)
      rw [e] at this
      exact .inr this.nt
    · exact .inl e
  sub := fun a o e => by
    unfold Wd.fr at e
    simp only at e
    split at e
    · exact e
    · exact h.sub a o e
  len := by unfold Wd.fr; simp only [List.length_take, h.len]
  nd := h.nd.sublist (List.take_sublist n _)
  dom := fun a ha => h.dom a (List.mem_of_mem_take ha)
  cel := fun m c a e1 e2 => by
    have e2 : (w.ρ.take n)[m]? = some a := e2
    simp only at e1
    have hm : m < n := by
      have := (List.getElem?_eq_some_iff.mp e1).1
      rw [List.length_take] at this; omega
    rw [List.getElem?_take_of_lt hm] at e1 e2
    obtain ⟨h1, r⟩ := h.cel m c a e1 e2
    refine ⟨?_, r.mono (h.fr_sub n) rfl⟩
    unfold Wd.fr
    simp only
    rw [if_neg]
    · exact h1
    · intro hd
      obtain ⟨j, hj, ej⟩ := List.mem_iff_getElem.mp hd
      rw [List.getElem_drop] at ej
      have : w.ρ[n + j]? = some a := by rw [List.getElem?_eq_getElem (by rw [List.length_drop] at hj; omega), ej]
      have := nd_get h.nd e2 this
      omega
theorem Nxt.fr (h : Rel G w S H) (n : Nat) : Nxt (w.tk n) (w.fr n H) := ⟨h.fr_sub n, List.prefix_refl _⟩
theorem Nxt.tk_le {w w' : Wd} {n m : Nat} (h : Nxt (w.tk m) w') (hn : n ≤ m) : Nxt (w.tk n) w' := ⟨h.m, by
  refine List.IsPrefix.trans ?_ h.r
  show w.ρ.take n <+: w.ρ.take m
  exact List.take_prefix_take_left hn⟩
theorem Nxt.tk {w w' : Wd} (h : Nxt w w') (n : Nat) : Nxt (w.tk n) w' := ⟨h.m, (List.take_prefix n _).trans h.r⟩
theorem Frm.fr (n : Nat) : Frm w H (w.fr n H) H := fun a o e hn => ⟨.of e, fun hm => hn (List.mem_of_mem_take hm), fun z => by unfold Wd.fr; simp only; rw [if_neg (fun hd => hn (List.mem_of_mem_drop hd))]; exact z⟩
/-- behind a statement -/
theorem Nxt.tkt {w w1 w2 : Wd} {n : Nat} (hn : n ≤ w.ρ.length) (h : Nxt (w.tk n) w1) (h2 : Nxt (w1.tk n) w2) : Nxt (w.tk n) w2 := ⟨h.m.trans h2.m, by
  have e : (w1.ρ.take n) = w.ρ.take n := by
    obtain ⟨t, ht⟩ := h.r
    rw [← ht, List.take_append_of_le_length (by show n ≤ (w.ρ.take n).length; rw [List.length_take]; omega)]
    show (w.ρ.take n).take n = _
    rw [List.take_take, Nat.min_self]
  have := h2.r
  show w.ρ.take n <+: _
  rw [← e]; exact this⟩
theorem Nxt.tk_len {w w1 : Wd} {n : Nat} (hn : n ≤ w.ρ.length) (h : Nxt (w.tk n) w1) : n ≤ w1.ρ.length := by
  have := h.r.length_le
  have e : (w.tk n).ρ.length = n := by show (w.ρ.take n).length = n; rw [List.length_take]; omega
  omega
end
/-! a value when the cells from n on are known for good: a tree, if it speaks of no cell below n -/
mutual
def res (n : Nat) (S : Store) : Vl → Option D
  | .d x => some x
  | .p k => if k < n then none else match S.L[k]? with
    | some (some (.l ds)) => some (.lst ds)
    | _ => none
  | .t xs => (ress n S xs).map .tup
def ress (n : Nat) (S : Store) : List Vl → Option (List D)
  | [] => some []
  | x :: xs => match res n S x, ress n S xs with
    | some d, some ds => some (d :: ds)
    | _, _ => none
end
def frV (n : Nat) (S : Store) (v : Vl) : Option Vl := match v with
  | .d x => some (.d x)
  | .p k => if k < n then some (.p k) else (res n S (.p k)).map .d
  | .t xs => (res n S (.t xs)).map .d
def frEn (n : Nat) (S : Store) (η : En) : En := η.map fun o => o.bind (frV n S)
section
variable {G : GI} {w : Wd} {S : Store} {H : Hp}
mutual
theorem res_ok (h : Rel G w S H) (n : Nat) : ∀ {v : Vl} {x : V} {d : D}, res n S v = some d → RV G w v x → RD G (w.fr n H).M d x
  | .d x, _, _, e, .d r => by unfold res at e; cases e; exact r.mono (h.fr_sub n)
  | .p k, _, _, e, .p r => by
    unfold res at e
    split at e
    · cases e
    · rename_i hk
      split at e
      · rename_i ds q
        cases e
        obtain ⟨h1, vs, e3, rr⟩ := h.cel k (.l ds) _ q r
        refine .lst (vs := vs) ?_ (rr.mono (h.fr_sub n))
        unfold Wd.fr
        simp only
        rw [if_pos]
        · exact e3
        · obtain ⟨hl, e4⟩ := List.getElem?_eq_some_iff.mp r
          refine List.mem_iff_getElem.mpr ⟨k - n, by rw [List.length_drop]; omega, ?_⟩
          rw [List.getElem_drop]
          simp only [show n + (k - n) = k by omega]
          exact e4
      · cases e
  | .t xs, _, _, e, .t s r => by
    unfold res at e
    cases q : ress n S xs with
    | none => rw [q] at e; cases e
    | some ds => rw [q] at e; cases e; exact .tup (s.mono (h.fr_sub n)) (ress_ok h n q r)
theorem ress_ok (h : Rel G w S H) (n : Nat) : ∀ {v : List Vl} {x : List V} {d : List D}, ress n S v = some d → RVs G w v x → RDs G (w.fr n H).M d x
  | [], _, _, e, .nil => by unfold ress at e; cases e; exact .nil
  | v :: vs, _, _, e, .cons r rs => by
    unfold ress at e
    split at e
    · rename_i d ds q1 q2
      cases e
      exact .cons (res_ok h n q1 r) (ress_ok h n q2 rs)
    · cases e
end
theorem frV_ok (h : Rel G w S H) (n : Nat) {v v' : Vl} {x : V} (e : frV n S v = some v') (r : RV G w v x) : RV G (w.fr n H) v' x := by
  unfold frV at e
  split at e
  · cases e; cases r with | d r => exact .d (r.mono (h.fr_sub n))
  · split at e
    · rename_i k hk
      cases e
      cases r with
      | p r => exact .p (by show (w.ρ.take n)[k]? = _; rw [List.getElem?_take_of_lt hk]; exact r)
    · rename_i k hk
      cases q : res n S (.p k) with
      | none => rw [q] at e; cases e
      | some d => rw [q] at e; cases e; exact .d (res_ok h n q r)
  · rename_i xs
    cases q : res n S (.t xs) with
    | none => rw [q] at e; cases e
    | some d => rw [q] at e; cases e; exact .d (res_ok h n q r)
theorem EnR.fr {η : En} {σ : L2.St} (hE : EnR G w η σ) (h : Rel G w S H) (n : Nat) : EnR G (w.fr n H) (frEn n S η) σ where
  len := by unfold frEn; rw [List.length_map]; exact hE.len
  get := fun i v e => by
    unfold frEn at e
    rw [List.getElem?_map] at e
    cases q : η[i]? with
    | none => rw [q] at e; cases e
    | some o => cases o with
      | none => rw [q] at e; cases e
      | some u =>
        rw [q] at e
        have e : frV n S u = some v := by simpa using e
        obtain ⟨x, h1, h2⟩ := hE.get i u q
        exact ⟨x, h1, frV_ok h n e h2⟩
end
end MP

/-! MPT: new tuples, each known as the object that it is -/
namespace MP
open PySem PySem.Spec PyProof.Rows L2
/-- a tuple made of these -/
abbrev TObj (its : List Value) : Obj := { cls := .type "tuple", data := .seq its.toArray }
/-- what a new tuple is to be -/
def NewT (H : Hp) (Q : VK) (vs : List V) : Prop := ∀ (p : Addr) (o : Obj), H p = none → o.dict = none → Q (.ref p) (upd H p (.frz o (.tup vs)))
section
variable {X : Cx} {pins : List (Addr × Obj)} {σ : L2.St} {H : Hp} {s : Shared}
theorem tup_obj {P : Program} {w : World} {vs : List V} {its : List Value} {h : Heap} {a : Addr} (rv : Vals vs its) (hz : vs.length ≤ sizeLine) (e : h.get? a = some (TObj its)) : ObjOk P w H h a (.frz (TObj its) (.tup vs)) :=
  ⟨e, hz, its, rv, _, e, rfl, 0, rfl⟩
theorem inv_tnew {vs : List V} {its : List Value} {t' : Nat} (I : Inv X pins σ H s) (rv : Vals vs its) (hz : vs.length ≤ sizeLine) :
    Inv X pins σ (upd H s.heap.objs.size (.frz (TObj its) (.tup vs))) { s with heap := s.heap.push (TObj its), toks := t' } :=
  I.laid (t' := t') (fun b u e => Heap.get?_push_of_some _ e) (Nat.le_refl _) (tup_obj rv hz (Heap.get?_push_size _ rfl))
theorem new_fin {vs : List V} {its : List Value} {t' : Nat} {Q : VK} (I : Inv X pins σ H s) (rv : Vals vs its) (hz : vs.length ≤ sizeLine) (q : NewT H Q vs) :
    EP X pins σ Q (.ref s.heap.objs.size) { s with heap := s.heap.push (TObj its), toks := t' } :=
  ⟨.ref s.heap.objs.size, _, inv_tnew (t' := t') I rv hz, rfl, q _ _ (I.hok.fresh (Nat.le_refl _)) rfl⟩
end
def tTupF (t : TA) : TE := fun σ H Q => t σ H fun xs H1 => xs.length ≤ sizeLine ∧ NewT H1 Q xs
theorem pe_tupF {X : Cx} {es : List Expr} {k : Nat} {pos : Pos} {t : TA} (h : PA X es t) : PE X (.Tuple es k pos) (tTupF t) :=
  ⟨fun pins s σ H Q I hq => wpAny_Tuple_spliced (thn (h.run pos pins s σ H _ I hq) fun us s1 ⟨xs, H1, I1, r, z, q⟩ => ⟨by rw [← r.length]; exact z, new_fin (t' := s1.toks) I1 r z q⟩)⟩
def rTupOfF (K : PySem.W.Frag) : List V → Hp → VK → Prop := fun xs H Q => ∃ p ys, xs = [.ref p] ∧ ((SqL K H p ys ∧ NewT H Q ys) ∨ (SqT K H p ys ∧ Q (.ref p) H))
theorem call_tuple_ofF {X : Cx} : CallR X (.type "tuple") (rTupOfF X.K) := fun pins s σ H xs us Q I r h => by
  obtain ⟨p, ys, rfl, h⟩ := h
  rcases h with ⟨hq, q⟩ | ⟨hq, q⟩
  · obtain ⟨u, rfl, rx⟩ := vals1 r
    cases rx
    obtain ⟨its, rv, pl, hz⟩ := I.list hq
    have hlen := rv.length
    refine call_tuple_list pl.isList (fun h' kp => ?_) (by simp only [List.size_toArray] <;> omega)
    exact new_fin (t' := s.toks) (I.kept (t' := s.toks) kp) rv hz q
  · exact call_tuple_of pins s σ H _ us Q I r ⟨p, ys, rfl, .inr ⟨hq, q⟩⟩
def rCatF (K : PySem.W.Frag) : R2 := fun x y H Q => ∃ a b xs ys, x = .ref a ∧ y = .ref b ∧ SqT K H a xs ∧ SqT K H b ys ∧ xs.length + ys.length ≤ sizeLine ∧
  (xs = [] → Q (.ref b) H) ∧ (xs ≠ [] → ys = [] → Q (.ref a) H) ∧ (xs ≠ [] → ys ≠ [] → NewT H Q (xs ++ ys))
theorem op_catF {X : Cx} : OpR X (binaryOp .Add) (rCatF X.K) := fun pins s σ H x y v u Q I rx ry h => by
  obtain ⟨a, b, xs, ys, rfl, rfl, ha, hb, hz, q0, q1, q2⟩ := h
  by_cases hx : xs = []
  · subst hx
    exact op_catA pins s σ H _ _ v u Q I rx ry ⟨a, b, [], ys, rfl, rfl, ha, hb, hz, q0, fun z => absurd rfl z, fun z => absurd rfl z⟩
  · by_cases hy : ys = []
    · subst hy
      exact op_catA pins s σ H _ _ v u Q I rx ry ⟨a, b, xs, [], rfl, rfl, ha, hb, hz, fun z => absurd z hx, q1, fun _ z => absurd rfl z⟩
    · cases rx
      cases ry
      obtain ⟨its, r1, p1, _⟩ := I.tuple ha
      obtain ⟨its2, r2, p2, _⟩ := I.tuple hb
      exact HT.cat_tup p1 p2 (fun z => hx (r1.nil_iff.mp z)) (fun z => absurd (r2.nil_iff.mp z) hy) (fun z => new_fin (t' := s.toks) I (r1.append r2) (by rw [List.length_append]; exact hz) (q2 hx hy)) (by rw [← r1.length, ← r2.length]; exact hz)
def rSlF (K : PySem.W.Frag) : V → Option Int → Option Int → Hp → VK → Prop := fun x lo hi H Q => ∃ a xs, x = .ref a ∧ SqT K H a xs ∧
  (HT.sIx xs.length 0 lo = 0 ∧ HT.sIx xs.length xs.length hi = xs.length → Q (.ref a) H) ∧ (¬ (HT.sIx xs.length 0 lo = 0 ∧ HT.sIx xs.length xs.length hi = xs.length) → NewT H Q (cutV xs lo hi))
theorem sl_tupF {X : Cx} : SlR X (rSlF X.K) := fun pins s σ H x v vl vu lo hi sl Q I rx hs pl pu h => by
  obtain ⟨a, xs, rfl, hx, q1, q2⟩ := h
  by_cases hw : HT.sIx xs.length 0 lo = 0 ∧ HT.sIx xs.length xs.length hi = xs.length
  · exact sl_tupA pins s σ H _ v vl vu lo hi sl Q I rx hs pl pu ⟨a, xs, rfl, hx, q1, fun n => absurd hw n⟩
  · cases rx
    obtain ⟨its, r, ht, hz⟩ := I.tuple hx
    have hn : its.toArray.size = xs.length := by rw [List.size_toArray]; exact r.length.symm
    refine ⟨"tuple", _, PyProof.Rows.slot_tuple_getitem.lookup, ht.typeIs, HT.getItem_tuple_cut ht hs pl pu (by rw [hn]; exact hw) ?_ (by rw [hn]; exact hz)⟩
    rw [hn]
    exact new_fin (t' := s.toks) I ((r.drop (HT.sIx xs.length 0 lo)).take (HT.sIx xs.length xs.length hi - HT.sIx xs.length 0 lo)) (Nat.le_trans (cutV_length xs lo hi) hz) (q2 hw)
end MP

/-! MP2: expressions -/
namespace MP
open PySem PySem.Spec PyProof.Rows L2
theorem _root_.L2.PE.imp {X : Cx} {e : Expr} {t t' : TE} (h : PE X e t) (hi : ∀ σ H Q, t' σ H Q → t σ H Q) : PE X e t' := ⟨fun pins s σ H Q I q => h.run pins s σ H Q I (hi σ H Q q)⟩
theorem _root_.L2.PT.imp {X : Cx} {e : Expr} {t t' : TT} (h : PT X e t) (hi : ∀ σ H Q, t' σ H Q → t σ H Q) : PT X e t' := ⟨fun pins s σ H Q I q => h.run pins s σ H Q I (hi σ H Q q)⟩
theorem _root_.L2.PA.imp {X : Cx} {e : List Expr} {t t' : TA} (h : PA X e t) (hi : ∀ σ H Q, t' σ H Q → t σ H Q) : PA X e t' := ⟨fun pos pins s σ H Q I q => h.run pos pins s σ H Q I (hi σ H Q q)⟩
theorem _root_.L2.PS.imp {X : Cx} {e : Stmt} {t t' : TS} (h : PS X e t) (hi : ∀ D σ H, t' D σ H → t D σ H) : PS X e t' := ⟨fun pins s σ H D I q => h.run pins s σ H D I (hi D σ H q)⟩
theorem _root_.L2.PSs.imp {X : Cx} {e : List Stmt} {t t' : TS} (h : PSs X e t) (hi : ∀ D σ H, t' D σ H → t D σ H) : PSs X e t' := ⟨fun pins s σ H D I q => h.run pins s σ H D I (hi D σ H q)⟩

/-! ### the combinators -/
def var (i : Nat) : Ex := fun η S => match η[i]? with
  | some (some v) => .ok v S
  | _ => .stuck
def cst (x : D) : Ex := fun _ S => .ok (.d x) S
def bin (g : Vl → Vl → Store → Res Vl) (a b : Ex) : Ex := fun η S => (a η S).bind fun x S1 => (b η S1).bind fun y S2 => g x y S2
def una (g : Vl → Store → Res Vl) (a : Ex) : Ex := fun η S => (a η S).bind fun x S1 => g x S1
def asB (a : Ex) : En → Store → Res Bool := fun η S => (a η S).bind fun x S1 => match x with
  | .d (.bl b) => .ok b S1
  | _ => .stuck
abbrev Te := En → Store → Res Bool
def andT (a b : Te) : Te := fun η S => (a η S).bind fun c S1 => if c = true then b η S1 else .ok false S1
def orT (a b : Te) : Te := fun η S => (a η S).bind fun c S1 => if c = true then .ok true S1 else b η S1
def notT (a : Te) : Te := fun η S => (a η S).bind fun c S1 => .ok (!c) S1
abbrev As := En → Store → Res (List Vl)
def nilA : As := fun _ S => .ok [] S
def consA (a : Ex) (r : As) : As := fun η S => (a η S).bind fun x S1 => (r η S1).bind fun xs S2 => .ok (x :: xs) S2
/-- all of them trees -/
def allD : List Vl → Option (List D)
  | [] => some []
  | .d x :: r => (allD r).map (x :: ·)
  | _ :: _ => none
def tupE (a : As) : Ex := fun η S => (a η S).bind fun xs S1 => if xs.length ≤ 16777216 then (match allD xs with
  | some ds => .ok (.d (.tup ds)) S1
  | none => .ok (.t xs) S1) else .stuck
abbrev Li := En → Store → Res (List D)
def lstE (a : As) : Li := fun η S => (a η S).bind fun xs S1 => if xs.length ≤ 16777216 then (match allD xs with
  | some ds => .ok ds S1
  | none => .stuck) else .stuck
/-- a new list, known for good; a new list, a cell -/
def frz (l : Li) : Ex := fun η S => (l η S).bind fun ds S1 => .ok (.d (.lst ds)) S1
def new (l : Li) : Ex := fun η S => (l η S).bind fun ds S1 => .ok (.p S1.L.length) ⟨S1.L ++ [some (.l ds)]⟩

theorem szl : (sizeLine : Nat) = 16777216 := by rw [sizeLine_eq] <;> rfl

section
variable {X : Cx} {G : GI} {W : WX} {pos : Pos}
theorem me_var (i : Nat) {x : Str} (hN : X.N[i]? = some x := by rfl) (hv : Vis X.env.scope x := by first | exact Or.inl rfl | exact Or.inr (Or.inl rfl) | exact Or.inr (Or.inr rfl)) (hd : (x == ("__debug__" : Str)) = false := by decide) (hcd : (x == ("__classdict__" : Str)) = false := by decide) :
    PE X (.Name x pos) (tE G W (var i)) := by
  refine (pe_var (i := i) hN hv hd hcd).imp fun σ H Q ⟨w, S, η, hR, hE, h⟩ => ?_
  unfold var at h
  split at h
  · rename_i v e
    obtain ⟨x, e1, r⟩ := hE.get _ _ e
    exact ⟨x, e1, h w H x (Go.refl w H) hR r⟩
  · exact h.elim
theorem me_c {x : D} {v : V} {e : Expr} (h : PE X e (tC v)) (hr : ∀ M, RD G M x v) : PE X e (tE G W (cst x)) :=
  h.imp fun σ H Q ⟨w, S, η, hR, hE, q⟩ => q w H v (Go.refl w H) hR (.d (hr _))
theorem me_int {i j} : PE X (.Constant (.int i) j pos) (tE G W (cst (.int i))) := me_c pe_int fun _ => .int i
theorem me_bl {i j} : PE X (.Constant (.bool i) j pos) (tE G W (cst (.bl i))) := me_c pe_bl fun _ => .bl i
theorem me_str {i j} : PE X (.Constant (.str i) j pos) (tE G W (cst (.str i))) := me_c pe_str fun _ => .str i
theorem me_non {j} : PE X (.Constant .none j pos) (tE G W (cst .non)) := me_c pe_non fun _ => .non

/-- an operation by values, and what it is in trees -/
def OpS (G : GI) (r : R2) (g : Vl → Vl → Store → Res Vl) : Prop := ∀ w S H x y v u (Q : VK), Rel G w S H → RV G w x v → RV G w y u → Post G w H (rV G) (g x y S) Q (fun _ _ => False) → r v u H Q
def noX {α : Type} : Res α → Prop
  | .exc _ _ => False
  | _ => True
theorem Post.noX {α β : Type} {w : Wd} {H : Hp} {RR : Hp → Wd → α → β → Prop} {r : Res α} {Q : β → Hp → Prop} {XX : Nat → Hp → Prop} (h : Post G w H RR r Q XX) (n : MP.noX r) : Post G w H RR r Q (fun _ _ => False) := by
  cases r with
  | ok v S => exact h
  | exc c S => exact n.elim
  | stuck => exact h
theorem binI {ta tb : Ex} {r : R2} {g : Vl → Vl → Store → Res Vl} (hg : OpS G r g) (hn : ∀ x y S, noX (g x y S)) {σ H Q} (h : tE G W (bin g ta tb) σ H Q) : tE G W ta σ H fun x H1 => tE G W tb σ H1 fun y H2 => r x y H2 Q := by
  obtain ⟨w, S, η, hR, hE, h⟩ := h
  exact ⟨w, S, η, hR, hE, Post.thn h fun w1 S1 H1 x v n hR1 rx h2 => ⟨w1, _, η, hR1, hE.mono n.n, Post.thn h2 fun w2 S2 H2 y u n2 hR2 ry h4 =>
    hg w2 _ H2 _ _ v u Q hR2 (rx.mono n2.n) ry (h4.noX (hn _ _ _))⟩⟩
theorem me_op {op : Operator} {r : R2} {g} {a b : Expr} {fa fb : Ex} (ho : OpR X (binaryOp op) r) (hg : OpS G r g) (hn : ∀ x y S, noX (g x y S)) (ha : PE X a (tE G W fa)) (hb : PE X b (tE G W fb)) : PE X (.BinOp a op b pos) (tE G W (bin g fa fb)) :=
  (pe_op ho ha hb).imp fun _ _ _ h => binI hg hn h
theorem asBI {ta : Ex} {σ H Q} (h : tT G W (asB ta) σ H Q) : tE G W ta σ H fun x H' => ∃ k, x = .bl k ∧ Q k H' := by
  obtain ⟨w, S, η, hR, hE, h⟩ := h
  refine ⟨w, S, η, hR, hE, Post.thn h fun w1 S1 H1 x v n hR1 rx h2 => ?_⟩
  cases rx with
  | d r => cases r with
    | bl b => exact ⟨b, rfl, h2 w1 H1 b (Go.refl _ _) hR1 rfl⟩
    | _ => exact h2.elim
  | p _ => exact h2.elim
  | t _ _ => exact h2.elim
theorem mt_cmp {op : CmpOp} {r : R2} {g} {a b : Expr} {fa fb : Ex} (ho : OpR X (compareOp op) r) (hg : OpS G r g) (hn : ∀ x y S, noX (g x y S)) (ha : PE X a (tE G W fa)) (hb : PE X b (tE G W fb)) (hm : behindInMarks op b = false) : PT X (.Compare a [op] [b] pos) (tT G W (asB (bin g fa fb))) :=
  (pt_cmpR ho ha hb hm).imp fun _ _ _ h => binI hg hn (asBI h)
theorem mt_val {e : Expr} {f : Ex} (h : PE X e (tE G W f)) (he : ∀ whole, isTrue e X.env whole = (do let v ← whole; standAt e.pos; holding [v] (truthy v)) := by intro _; rfl) : PT X e (tT G W (asB f)) :=
  (pt_val h he).imp fun _ _ _ h => asBI h
/-! ### tests -/
theorem bT {f : Te} {σ H Q} {R : Bool → Te} {Q1 : Bool → Hp → Prop} (h : tT G W (fun η S => (f η S).bind fun c S1 => R c η S1) σ H Q) (hq : ∀ c H1, tT G W (R c) σ H1 Q → Q1 c H1) : tT G W f σ H Q1 := by
  obtain ⟨w, S, η, hR, hE, h⟩ := h
  refine ⟨w, S, η, hR, hE, Post.thn h fun w1 S1 H1 x v n hR1 rx h2 => ?_⟩
  cases rx
  exact hq _ _ ⟨w1, _, η, hR1, hE.mono n.n, h2⟩
theorem tT_ok {b : Bool} {σ H Q} (h : tT G W (fun _ S => .ok b S) σ H Q) : Q b H := by
  obtain ⟨w, S, η, hR, hE, h⟩ := h
  exact h w H b (Go.refl w H) hR rfl
theorem mw_and1 {a : Expr} {f : Te} (ha : PT X a (tT G W f)) : PW X (.BoolOp .And [a] pos) (tT G W f) := pw_and1 ha
theorem mw_or1 {a : Expr} {f : Te} (ha : PT X a (tT G W f)) : PW X (.BoolOp .Or [a] pos) (tT G W f) := pw_or1 ha
theorem _root_.L2.PW.imp {e : Expr} {t t' : TT} (h : PW X e t) (hi : ∀ σ H Q, t' σ H Q → t σ H Q) : PW X e t' := ⟨fun w pins s σ H Q I q => h.run w pins s σ H Q I (hi σ H Q q)⟩
theorem mw_and {a b : Expr} {rest : List Expr} {f g : Te} (ha : PT X a (tT G W f)) (hb : PW X (.BoolOp .And (b :: rest) pos) (tT G W g)) : PW X (.BoolOp .And (a :: b :: rest) pos) (tT G W (andT f g)) := by
  refine L2.PW.imp (pw_and ha hb) fun σ H Q h => bT (R := fun c η S1 => if c = true then g η S1 else .ok false S1) h fun c H1 q => ?_
  cases c with
  | true => exact q
  | false => exact tT_ok q
theorem mw_or {a b : Expr} {rest : List Expr} {f g : Te} (ha : PT X a (tT G W f)) (hb : PW X (.BoolOp .Or (b :: rest) pos) (tT G W g)) : PW X (.BoolOp .Or (a :: b :: rest) pos) (tT G W (orT f g)) := by
  refine L2.PW.imp (pw_or ha hb) fun σ H Q h => bT (R := fun c η S1 => if c = true then .ok true S1 else g η S1) h fun c H1 q => ?_
  cases c with
  | true => exact tT_ok q
  | false => exact q
theorem mt_not {a : Expr} {f : Te} (ha : PT X a (tT G W f)) : PT X (.UnaryOp .Not a pos) (tT G W (notT f)) :=
  (pt_not ha).imp fun σ H Q h => bT (R := fun c η S1 => .ok (!c) S1) h fun c H1 q => tT_ok q
/-! ### and, or, not as values -/
theorem ok1 {w S H} {x : Vl} {v : V} {Q : VK} {XX} (h : Post G w H (rV G) (.ok x S) Q XX) (hR : Rel G w S H) (r : RV G w x v) : Q v H := h w H v (Go.refl w H) hR r
/-! ### argument lists, displays -/
theorem ma_nil : PA X [] (tA G W nilA) := pa_nil.imp fun σ H Q ⟨w, S, η, hR, hE, h⟩ => h w H [] (Go.refl w H) hR .nil
theorem ma_cons {e : Expr} {es : List Expr} {f : Ex} {g : As} (ha : PE X e (tE G W f)) (hr : PA X es (tA G W g)) (hs : starEach (e :: es) X.env = (false, eval e X.env) :: starEach es X.env := by rfl) : PA X (e :: es) (tA G W (consA f g)) :=
  (pa_cons ha hr hs).imp fun σ H Q ⟨w, S, η, hR, hE, h⟩ => ⟨w, S, η, hR, hE, Post.thn h fun w1 S1 H1 x v n hR1 rx h2 => ⟨w1, _, η, hR1, hE.mono n.n, Post.thn h2 fun w2 S2 H2 y u n2 hR2 ry h4 =>
    h4 w2 H2 (v :: u) (Go.refl _ _) hR2 (.cons (rx.mono n2.n) ry)⟩⟩
theorem allD_ok {w} : ∀ {xs : List Vl} {ds : List D} {vs : List V}, allD xs = some ds → RVs G w xs vs → RDs G w.M ds vs
  | [], ds, vs, e, r => by cases e; cases r; exact .nil
  | .d x :: xs, ds, vs, e, r => by
    unfold allD at e
    cases q : allD xs with
    | none => rw [q] at e; cases e
    | some ds' =>
      rw [q] at e; cases e
      cases r with
      | cons r rs => cases r with
        | d r => exact .cons r (allD_ok q rs)
  | .p _ :: _, _, _, e, _ => by cases e
  | .t _ :: _, _, _, e, _ => by cases e
theorem me_tup {es : List Expr} {k} {f : As} (h : PA X es (tA G W f)) : PE X (.Tuple es k pos) (tE G W (tupE f)) := by
  refine (pe_tupF h).imp fun σ H Q ⟨w, S, η, hR, hE, h⟩ => ⟨w, S, η, hR, hE, Post.thn h fun w1 S1 H1 xs vs n hR1 rx h2 => ?_⟩
  split at h2
  · rename_i hz
    refine ⟨by rw [← rx.length, szl]; exact hz, fun p o hp hd => ?_⟩
    have hs : Sub w1.M (upd w1.M p (.frz o (.tup vs))) := Sub.new (hR1.sub.free hp)
    have hR2 := hR1.fix (o := .frz o (.tup vs)) hp
    have hn := Go.fix (o := .frz o (.tup vs)) hR1 hp
    split at h2
    · rename_i ds e
      exact h2 _ _ _ hn hR2 (.d (.tup (.new hd) ((allD_ok e rx).mono hs)))
    · exact h2 _ _ _ hn hR2 (.t (.new hd) (rx.mono hn.n))
  · exact h2.elim
theorem ml_lst {es : List Expr} {f : As} (h : PA X es (tA G W f)) : PE X (.List es pos) (tL G W (lstE f)) := by
  refine (pe_lst h).imp fun σ H Q ⟨w, S, η, hR, hE, h⟩ => ⟨w, S, η, hR, hE, Post.thn h fun w1 S1 H1 xs vs n hR1 rx h2 => ?_⟩
  split at h2
  · rename_i hz
    refine ⟨by rw [← rx.length, szl]; exact hz, fun p hp => ?_⟩
    split at h2
    · rename_i ds e
      exact h2 w1 _ (p, vs) (Go.refl _ _) hR1 ⟨hp, allD_ok e rx⟩
    · exact h2.elim
  · exact h2.elim
theorem me_frz {e : Expr} {f : Li} (h : PE X e (tL G W f)) : PE X e (tE G W (frz f)) :=
  h.imp fun σ H Q ⟨w, S, η, hR, hE, h⟩ => ⟨w, S, η, hR, hE, Post.thn h fun w1 S1 H1 ds pv n hR1 ⟨e1, r⟩ h2 =>
    h2 ⟨upd w1.M pv.1 (.lst pv.2), w1.ρ⟩ _ _ (Go.fix hR1 e1) (hR1.fix e1) (.d (.lst upd_same (r.mono (Sub.new (hR1.sub.free e1)))))⟩
theorem me_new {e : Expr} {f : Li} (h : PE X e (tL G W f)) : PE X e (tE G W (new f)) :=
  h.imp fun σ H Q ⟨w, S, η, hR, hE, h⟩ => ⟨w, S, η, hR, hE, Post.thn h fun w1 S1 H1 ds pv n hR1 ⟨e1, r⟩ h2 => by
    refine h2 ⟨w1.M, w1.ρ ++ [pv.1]⟩ _ _ (Go.new e1) (hR1.cell e1 r) (.p ?_)
    rw [← hR1.len, List.getElem?_append_right (Nat.le_refl _), Nat.sub_self] <;> rfl⟩
end
end MP

/-! MP3: statements, loops -/
namespace MP
open PySem PySem.Spec PyProof.Rows L2

/-- behind a statement: the cells below n stay -/
structure Gs (n : Nat) (w : Wd) (H : Hp) (w' : Wd) (H' : Hp) : Prop where
  n : Nxt (w.tk n) w'
  f : Frm w H w' H'
theorem Go.s {w w' : Wd} {H H' : Hp} (h : Go w H w' H') (n : Nat) : Gs n w H w' H' := ⟨h.n.tk n, h.f⟩
theorem Gs.refl (n : Nat) (w : Wd) (H : Hp) : Gs n w H w H := (Go.refl w H).s n
theorem Gs.tr {w w1 w2 : Wd} {H H1 H2 : Hp} {n : Nat} (hn : n ≤ w.ρ.length) (a : Gs n w H w1 H1) (b : Gs n w1 H1 w2 H2) : Gs n w H w2 H2 := ⟨a.n.tkt hn b.n, a.f.trans b.f⟩
theorem Gs.len {w w1 : Wd} {H H1 : Hp} {n : Nat} (a : Gs n w H w1 H1) (hn : n ≤ w.ρ.length) : n ≤ w1.ρ.length := a.n.tk_len hn
def PostS (G : GI) (W : WX) (n0 : Nat) (w : Wd) (H : Hp) (r : SR) (Dn : Ends) : Prop := match r with
  | .next η' S' => ∀ w' H' σ', Gs n0 w H w' H' → Rel G w' S' H' → EnR G w' η' σ' → Dn.nx σ' H'
  | .brk η' S' => ∀ w' H' σ', Gs n0 w H w' H' → Rel G w' S' H' → EnR G w' η' σ' → Dn.bk σ' H'
  | .cont η' S' => ∀ w' H' σ', Gs n0 w H w' H' → Rel G w' S' H' → EnR G w' η' σ' → Dn.ct σ' H'
  | .ret v S' => ∀ w' H' x, Gs n0 w H w' H' → Rel G w' S' H' → RV G w' v x → Dn.rt x H'
  | .exc c η' S' => ∀ w' H' σ', Gs n0 w H w' H' → Rel G w' S' H' → EnR G w' η' σ' → W (.ref (G.cls c)) none σ' H'
  | .stuck => False
theorem PostS.mono {G : GI} {W : WX} {n0 : Nat} {w w1 : Wd} {H H1 : Hp} {r : SR} {Dn : Ends} (hn : n0 ≤ w.ρ.length) (n : Gs n0 w H w1 H1) (h : PostS G W n0 w H r Dn) : PostS G W n0 w1 H1 r Dn := by
  cases r with
  | next η S => exact fun w' H' σ' n' => h w' H' σ' (n.tr hn n')
  | brk η S => exact fun w' H' σ' n' => h w' H' σ' (n.tr hn n')
  | cont η S => exact fun w' H' σ' n' => h w' H' σ' (n.tr hn n')
  | ret v S => exact fun w' H' x n' => h w' H' x (n.tr hn n')
  | exc c η S => exact fun w' H' σ' n' => h w' H' σ' (n.tr hn n')
  | stuck => exact h
def tS (G : GI) (W : WX) (n0 : Nat) (f : Stm) : TS := fun Dn σ H => ∃ w S η, Rel G w S H ∧ EnR G w η σ ∧ n0 ≤ w.ρ.length ∧ PostS G W n0 w H (f n0 η S) Dn

/-! ### the combinators -/
def nextS : Stm := fun _ η S => .next η S
def seqS (a b : Stm) : Stm := fun n η S => (a n η S).seq (b n)
/-- an expression, then -/
@[simp] def Res.st {α : Type} (r : Res α) (η : En) (k : α → Store → SR) : SR := match r with
  | .ok a S => k a S
  | .exc c S => .exc c η S
  | .stuck => .stuck
def asg (i : Nat) (e : Ex) : Stm := fun _ η S => (e η S).st η fun v S1 => .next (η.set i (some v)) S1
def ret (e : Ex) : Stm := fun _ η S => (e η S).st η fun v S1 => .ret v S1
def drop (e : Ex) : Stm := fun _ η S => (e η S).st η fun _ S1 => .next η S1
def ifS (c : Te) (a b : Stm) : Stm := fun n η S => (c η S).st η fun k S1 => if k = true then a n η S1 else b n η S1
/-- ghosts: cells made within are known for good behind; slots are forgotten -/
def wipeE : List Nat → En → En
  | [], η => η
  | i :: is, η => (wipeE is η).set i none
def regS (is : List Nat) (s : Stm) : Stm := fun n η S => match s n η S with
  | .next η' S' => .next (wipeE is (frEn S.L.length S' η')) ⟨S'.L.take S.L.length⟩
  | .cont η' S' => .cont (wipeE is (frEn S.L.length S' η')) ⟨S'.L.take S.L.length⟩
  | r => r
def wipS (is : List Nat) (s : Stm) : Stm := fun n η S => match s n η S with
  | .next η' S' => .next (wipeE is η') S'
  | .cont η' S' => .cont (wipeE is η') S'
  | r => r
/-- targets -/
abbrev Tg := Vl → En → Option En
def tgN (i : Nat) : Tg := fun v η => some (η.set i (some v))
def parts : Vl → Option (List Vl)
  | .d (.tup xs) => some (xs.map .d)
  | .t xs => some xs
  | _ => none
abbrev Tgs := List Vl → En → Option En
def tgNil : Tgs := fun vs η => match vs with
  | [] => some η
  | _ => none
def tgCons (t : Tg) (u : Tgs) : Tgs := fun vs η => match vs with
  | v :: r => (t v η).bind (u r)
  | [] => none
def tgT (n : Nat) (t : Tgs) : Tg := fun v η => match parts v with
  | some xs => if xs.length = n then t xs η else none
  | none => none
def asgT (t : Tg) (e : Ex) : Stm := fun _ η S => (e η S).st η fun v S1 => match t v η with
  | some η' => .next η' S1
  | none => .stuck
/-- a loop over known items -/
def loopL (t : Tg) (b : Stm) (n : Nat) : List D → En → Store → SR
  | [], η, S => .next η S
  | d :: ds, η, S => match t (.d d) η with
    | none => .stuck
    | some η1 => match b n η1 S with
      | .next η2 S2 => loopL t b n ds η2 S2
      | .cont η2 S2 => loopL t b n ds η2 S2
      | .brk η2 S2 => .next η2 S2
      | r => r
def forS (t : Tg) (it : Li) (b : Stm) : Stm := fun n η S => (it η S).st η fun ds S1 => loopL t b n ds η S1
def loopW (c : Te) (b : Stm) (n : Nat) : Nat → En → Store → SR
  | 0, _, _ => .stuck
  | k + 1, η, S => (c η S).st η fun q S1 => if q = true then (match b n η S1 with
      | .next η2 S2 => loopW c b n k η2 S2
      | .cont η2 S2 => loopW c b n k η2 S2
      | .brk η2 S2 => .next η2 S2
      | r => r) else .next η S1
def whileS (k : Nat) (c : Te) (b : Stm) : Stm := fun n η S => loopW c b n k η S

section
variable {X : Cx} {G : GI} {W : WX} {pos : Pos} {n0 : Nat}
theorem EnR.set {w : Wd} {η : En} {σ : L2.St} (h : EnR G w η σ) (i : Nat) {v : Vl} {x : V} (r : RV G w v x) : EnR G w (η.set i (some v)) (σ.set i (some x)) where
  len := by rw [List.length_set, List.length_set]; exact h.len
  get := fun j u e => by
    by_cases hj : i = j
    · subst hj
      by_cases hi : i < η.length
      · rw [List.getElem?_set_self hi] at e
        cases e
        exact ⟨x, List.getElem?_set_self (by rw [← h.len]; exact hi), r⟩
      · rw [List.getElem?_eq_none (by simpa using hi)] at e; cases e
    · rw [List.getElem?_set_ne hj] at e
      obtain ⟨y, h1, h2⟩ := h.get j u e
      exact ⟨y, by rw [List.getElem?_set_ne hj]; exact h1, h2⟩
theorem EnR.wipe {w : Wd} {σ : L2.St} : ∀ (is : List Nat) {η : En}, EnR G w η σ → EnR G w (wipeE is η) σ
  | [], _, h => h
  | i :: is, η, h => by
    have h1 := EnR.wipe is h
    refine ⟨by unfold wipeE; rw [List.length_set]; exact h1.len, fun j u e => ?_⟩
    unfold wipeE at e
    by_cases hj : i = j
    · subst hj
      by_cases hi : i < (wipeE is η).length
      · rw [List.getElem?_set_self hi] at e; cases e
      · rw [List.getElem?_eq_none (by simpa using hi)] at e; cases e
    · rw [List.getElem?_set_ne hj] at e
      exact h1.get j u e
theorem Nxt.len {w w' : Wd} (n : Nxt w w') {m : Nat} (h : m ≤ w.ρ.length) : m ≤ w'.ρ.length := Nat.le_trans h n.r.length_le
/-- an expression, then a statement's end -/
theorem PostS.ex {α β : Type} {RA : Hp → Wd → α → β → Prop} {w : Wd} {H : Hp} {r : Res α} {η : En} {σ : L2.St} {k : α → Store → SR} {Dn : Ends} {Q : β → Hp → Prop} (hE : EnR G w η σ) (hn : n0 ≤ w.ρ.length) (h : PostS G W n0 w H (r.st η k) Dn)
    (hq : ∀ w1 S1 H1 v x, Go w H w1 H1 → Rel G w1 S1 H1 → RA H1 w1 v x → PostS G W n0 w1 H1 (k v S1) Dn → Q x H1) : Post G w H RA r Q (xw G W σ) := by
  cases r with
  | ok a S => exact fun w' H' x n hR hv => hq w' S H' a x n hR hv (PostS.mono hn (n.s n0) h)
  | exc c S => exact fun w' H' n hR => h w' H' σ (n.s n0) hR (hE.mono n.n)
  | stuck => exact h
theorem ms_seq {st : Stmt} {rest : List Stmt} {f g : Stm} (h1 : PS X st (tS G W n0 f)) (h2 : PSs X rest (tS G W n0 g)) : PSs X (st :: rest) (tS G W n0 (seqS f g)) := by
  refine (pss_cons h1 h2).imp fun D σ H ⟨w, S, η, hR, hE, hn, h⟩ => ⟨w, S, η, hR, hE, hn, ?_⟩
  revert h
  unfold seqS
  cases f n0 η S with
  | next η1 S1 => exact fun h w' H' σ' n hR' hE' => ⟨w', S1, η1, hR', hE', n.len hn, PostS.mono hn n h⟩
  | brk η S => exact fun h => h
  | cont η S => exact fun h => h
  | ret v S => exact fun h => h
  | exc c η S => exact fun h => h
  | stuck => exact fun h => h
theorem ms_nil : PSs X [] (tS G W n0 nextS) := pss_nil.imp fun D σ H ⟨w, S, η, hR, hE, hn, h⟩ => h w H σ (Gs.refl n0 w H) hR hE
theorem ms_one {st : Stmt} {f : Stm} (h : PS X st (tS G W n0 f)) : PSs X [st] (tS G W n0 f) := pss_one h
theorem ms_ret {e : Expr} {f : Ex} (he : PE X e (tE G W f)) : PS X (.Return (some e) pos) (tS G W n0 (ret f)) :=
  (ps_ret he).imp fun D σ H ⟨w, S, η, hR, hE, hn, h⟩ => ⟨w, S, η, hR, hE, PostS.ex hE hn h fun w1 S1 H1 v x n hR1 r h1 => h1 w1 H1 x (Gs.refl n0 w1 H1) hR1 r⟩
theorem ms_drop {e : Expr} {f : Ex} (he : PE X e (tE G W f)) (hs : swapsWith e none pos.line X.env = pure false := by rfl) : PS X (.Expr e pos) (tS G W n0 (drop f)) :=
  (ps_expr he hs).imp fun D σ H ⟨w, S, η, hR, hE, hn, h⟩ => ⟨w, S, η, hR, hE, PostS.ex hE hn h fun w1 S1 H1 v x n hR1 r h1 => h1 w1 H1 σ (Gs.refl n0 w1 H1) hR1 (hE.mono n.n)⟩
theorem ms_asg {i : Nat} {x : Str} {e : Expr} {f : Ex} {pos' : Pos} (hN : X.N.Nodup) (he : PE X e (tE G W f)) (hi : X.N[i]? = some x := by rfl) (hx : Loc X.env.scope x := by first | exact Or.inl rfl | exact Or.inr rfl) (hs : swapsWith e (some (.Name x pos')) pos.line X.env = pure false := by rfl) (hf : X.fn x = true ∨ X.env.scope.names.lookup x = some .local := by first | exact .inl rfl | exact .inr rfl | assumption) :
    PS X (.Assign [.Name x pos'] e pos) (tS G W n0 (asg i f)) :=
  (ps_set (i := i) hN hi hx he hs hf).imp fun D σ H ⟨w, S, η, hR, hE, hn, h⟩ => ⟨w, S, η, hR, hE, PostS.ex hE hn h fun w1 S1 H1 v x n hR1 r h1 => h1 w1 H1 _ (Gs.refl n0 w1 H1) hR1 ((hE.mono n.n).set i r)⟩
theorem ms_if {c : Expr} {a b : List Stmt} {fc : Te} {f g : Stm} (hc : PT X c (tT G W fc)) (ha : PSs X a (tS G W n0 f)) (hb : PSs X b (tS G W n0 g)) : PS X (.If c a b pos) (tS G W n0 (ifS fc f g)) := by
  refine (ps_if hc ha hb).imp fun D σ H ⟨w, S, η, hR, hE, hn, h⟩ => ⟨w, S, η, hR, hE, PostS.ex (RA := RB) hE hn h fun w1 S1 H1 v x n hR1 r h1 => ?_⟩
  cases r
  cases v with
  | true => exact ⟨w1, S1, η, hR1, hE.mono n.n, n.n.len hn, h1⟩
  | false => exact ⟨w1, S1, η, hR1, hE.mono n.n, n.n.len hn, h1⟩
/-! ### ghosts -/
theorem reg_imp {f : Stm} {is : List Nat} {D σ H} (h : tS G W n0 (regS is f) D σ H) : tS G W n0 f D σ H := by
  obtain ⟨w, S, η, hR, hE, hn, h⟩ := h
  refine ⟨w, S, η, hR, hE, hn, ?_⟩
  have hS : n0 ≤ S.L.length := by rw [← hR.len]; exact hn
  have key : ∀ {w' : Wd} {S' : Store} {H' : Hp} {η' : En} {σ' : L2.St}, Gs n0 w H w' H' → Rel G w' S' H' → EnR G w' η' σ' → Gs n0 w H (w'.fr S.L.length H') H' ∧ Rel G (w'.fr S.L.length H') ⟨S'.L.take S.L.length⟩ H' ∧ EnR G (w'.fr S.L.length H') (wipeE is (frEn S.L.length S' η')) σ' := fun {w' S' H' η' σ'} n hR' hE' =>
    ⟨n.tr hn ⟨(Nxt.fr hR' _).tk_le hS, Frm.fr _⟩, hR'.fr _, (hE'.fr hR' _).wipe is⟩
  revert h
  unfold regS
  cases f n0 η S with
  | next η1 S1 => exact fun h w' H' σ' n hR' hE' => let ⟨a, b, c⟩ := key n hR' hE'; h _ H' σ' a b c
  | brk η S => exact fun h => h
  | cont η S1 => exact fun h w' H' σ' n hR' hE' => let ⟨a, b, c⟩ := key n hR' hE'; h _ H' σ' a b c
  | ret v S => exact fun h => h
  | exc c η S => exact fun h => h
  | stuck => exact fun h => h
theorem wip_imp {f : Stm} {is : List Nat} {D σ H} (h : tS G W n0 (wipS is f) D σ H) : tS G W n0 f D σ H := by
  obtain ⟨w, S, η, hR, hE, hn, h⟩ := h
  refine ⟨w, S, η, hR, hE, hn, ?_⟩
  revert h
  unfold wipS
  cases f n0 η S with
  | next η1 S1 => exact fun h w' H' σ' n hR' hE' => h w' H' σ' n hR' (hE'.wipe is)
  | brk η S => exact fun h => h
  | cont η S1 => exact fun h w' H' σ' n hR' hE' => h w' H' σ' n hR' (hE'.wipe is)
  | ret v S => exact fun h => h
  | exc c η S => exact fun h => h
  | stuck => exact fun h => h
theorem mg_reg {st : List Stmt} {f : Stm} (is : List Nat) (h : PSs X st (tS G W n0 f)) : PSs X st (tS G W n0 (regS is f)) := h.imp fun _ _ _ => reg_imp
theorem mg_wip {st : List Stmt} {f : Stm} (is : List Nat) (h : PSs X st (tS G W n0 f)) : PSs X st (tS G W n0 (wipS is f)) := h.imp fun _ _ _ => wip_imp
theorem mg_wip1 {st : Stmt} {f : Stm} (is : List Nat) (h : PS X st (tS G W n0 f)) : PS X st (tS G W n0 (wipS is f)) := h.imp fun _ _ _ => wip_imp
/-! ### targets -/
def TgR (G : GI) (is : List Nat) (g : TG) (t : Tg) : Prop := ∀ w η σ v x H η' (Q : L2.St → Hp → Prop) (S : Store), Rel G w S H → EnR G w η σ → RV G w v x → t v η = some η' → (∀ σ', EnR G w η' σ' → (∀ vs, (∀ i ∈ is, i ∈ vs) → wipe σ' vs = wipe σ vs) → Q σ' H) → g x σ H Q
def TgsR (G : GI) (is : List Nat) (g : TGs) (t : Tgs) : Prop := ∀ w η σ v x H η' (Q : L2.St → Hp → Prop) (S : Store), Rel G w S H → EnR G w η σ → RVs G w v x → t v η = some η' → (∀ σ', EnR G w η' σ' → (∀ vs, (∀ i ∈ is, i ∈ vs) → wipe σ' vs = wipe σ vs) → Q σ' H) → g x σ H Q
theorem wipe_set {σ : L2.St} {i : Nat} {x : Option V} : ∀ {vs : List Nat}, i ∈ vs → wipe (σ.set i x) vs = wipe σ vs
  | v :: vs, h => by
    unfold wipe
    by_cases hi : i ∈ vs
    · rw [wipe_set hi]
    · have e : i = v := by
        rcases List.mem_cons.mp h with e | e
        · exact e
        · exact absurd e hi
      subst e
      have : ∀ (σ : L2.St) (vs : List Nat), i ∉ vs → wipe (σ.set i x) vs = (wipe σ vs).set i x := by
        intro σ vs
        induction vs with
        | nil => intro _; rfl
        | cons v vs ih =>
          intro h
          have h1 : i ≠ v := fun e => h (by simp [e])
          have h2 : i ∉ vs := fun e => h (by simp [e])
          unfold wipe
          rw [ih h2, List.set_comm _ _ h1]
      rw [this σ vs hi, List.set_set]
  | [], h => by cases h
theorem tg_name (i : Nat) : TgR G [i] (gName i) (tgN i) := fun w η σ v x H η' Q S hR hE r e q => by
  cases e
  exact q _ (hE.set i r) fun vs h => wipe_set (h i (by simp))
theorem tg_nil : TgsR G [] gNil tgNil := fun w η σ v x H η' Q S hR hE r e q => by
  cases r with
  | nil => cases e; exact ⟨rfl, q σ hE fun _ _ => rfl⟩
  | cons _ _ => cases e
theorem tg_cons {is js : List Nat} {g u t s} (h1 : TgR G is g t) (h2 : TgsR G js u s) : TgsR G (is ++ js) (gCons g u) (tgCons t s) := fun w η σ v x H η' Q S hR hE r e q => by
  cases r with
  | nil => cases e
  | cons r rs =>
    rename_i d y ds ys
    unfold tgCons at e
    cases q1 : t d η with
    | none => simp only [q1] at e; cases e
    | some η1 =>
      simp only [q1] at e
      exact ⟨_, _, rfl, h1 w η σ d y H η1 _ S hR hE r q1 fun σ1 hE1 w1 => h2 w η1 σ1 ds ys H η' _ S hR hE1 rs e fun σ2 hE2 w2 => q σ2 hE2 fun vs hv =>
        (w2 vs fun i hi => hv i (List.mem_append_right _ hi)).trans (w1 vs fun i hi => hv i (List.mem_append_left _ hi))⟩
theorem parts_ok {w : Wd} {S : Store} {H : Hp} {v : Vl} {x : V} {xs : List Vl} (hR : Rel G w S H) (e : parts v = some xs) (r : RV G w v x) : ∃ a vs, x = .ref a ∧ SqT G.K H a vs ∧ RVs G w xs vs := by
  unfold parts at e
  split at e
  · cases e
    cases r with | d r => cases r with | tup s t => exact ⟨_, _, rfl, hR.sub.t s.t, RVs.ofD t⟩
  · cases e
    cases r with | t s t => exact ⟨_, _, rfl, hR.sub.t s.t, t⟩
  · cases e
theorem tg_tup {is : List Nat} {u s} {n : Nat} (h : TgsR G is u s) : TgR G is (gTup G.K n u) (tgT n s) := fun w η σ v x H η' Q S hR hE r e q => by
  unfold tgT at e
  split at e
  · rename_i xs e1
    split at e
    · rename_i hl
      obtain ⟨a, vs, rfl, hs, hv⟩ := parts_ok hR e1 r
      exact ⟨a, vs, rfl, hs, by rw [← hv.length]; exact hl, h w η σ xs vs H η' Q S hR hE hv e q⟩
    · cases e
  · cases e
theorem ms_asgT {tg e : Expr} {is : List Nat} {g : TG} {t : Tg} {f : Ex} (he : PE X e (tE G W f)) (hg : PG X tg g) (ht : TgR G is g t) (hs : swapsWithSole [tg] e pos.line X.env = pure false := by rfl) (hw : swappedStores [tg] e X.env = pure none := by rfl)
    (h1 : (assignEach [tg] X.env).map (·.2) = [assign tg X.env] := by rfl) : PS X (.Assign [tg] e pos) (tS G W n0 (asgT t f)) := by
  refine (ps_asg he hg hs hw h1).imp fun D σ H ⟨w, S, η, hR, hE, hn, h⟩ => ⟨w, S, η, hR, hE, PostS.ex hE hn h fun w1 S1 H1 v x n hR1 r h1 => ?_⟩
  split at h1
  · rename_i η' e
    exact ht w1 η σ v x H1 η' _ S1 hR1 (hE.mono n.n) r e fun σ' hE' _ => h1 w1 H1 σ' (Gs.refl n0 w1 H1) hR1 hE'
  · exact h1.elim
/-! ### loops -/
/-- the items ds come by J, as long as what is known for good stays -/
structure ItOk (G : GI) (J : It) (M0 : Hp) (ds : List D) : Prop where
  go : ∀ (i : Nat) w S H, Sub M0 w.M → Rel G w S H → i < ds.length → J.go i H
  yld : ∀ (i : Nat) w S H x H', Sub M0 w.M → Rel G w S H → i < ds.length → J.yld i H x H' → ∃ d w', ds[i]? = some d ∧ Go w H w' H' ∧ Rel G w' S H' ∧ RV G w' (.d d) x
  stop : ∀ w S H, Sub M0 w.M → Rel G w S H → J.stop ds.length H
def tI (G : GI) (W : WX) (f : Li) : TI := fun σ H R => ∃ w S η, Rel G w S H ∧ EnR G w η σ ∧ Post G w H (fun H' w' ds J => ItOk G J w'.M ds) (f η S) R (xw G W σ)
theorem _root_.L2.PI.imp {tg iter : Expr} {t t' : TI} (h : PI X tg iter t) (hi : ∀ σ H R, t' σ H R → t σ H R) : PI X tg iter t' := ⟨fun pins s σ H R I q => h.run pins s σ H R I (hi σ H R q)⟩
theorem mi_for {iter tg : Expr} {body : List Stmt} {fi : Li} {is : List Nat} {g : TG} {t : Tg} {f : Stm} (hp : PassesOwn (model X.prog X.w) X.A X.env X.xe) (hc : X.calm = true) (hi : PI X tg iter (tI G W fi)) (hg : PG X tg g) (ht : TgR G is g t) (hb : PSs X body (tS G W n0 f))
    (hs : ∀ x, foldedSetIterable iter X.env x = pure x := by intro _; rfl) : PS X (.For tg iter body [] pos) (tS G W n0 (forS t fi f)) := by
  refine (ps_for hp hc hi hg hb hs).imp fun D σ H ⟨w, S, η, hR, hE, hn, h⟩ => ⟨w, S, η, hR, hE, PostS.ex hE hn h fun w1 S1 H1 ds J n1 hR1 hJ h1 => ?_⟩
  refine ⟨fun i m σ2 H2 => m = ds.length - i ∧ i ≤ ds.length ∧ ∃ w2 S2 η2, Rel G w2 S2 H2 ∧ EnR G w2 η2 σ2 ∧ n0 ≤ w2.ρ.length ∧ Sub w1.M w2.M ∧ PostS G W n0 w2 H2 (loopL t f n0 (ds.drop i) η2 S2) D,
    ⟨ds.length, by simp, Nat.zero_le _, w1, S1, η, hR1, hE.mono n1.n, n1.n.len hn, Sub.refl _, h1⟩, ?_⟩
  rintro i m σ2 H2 ⟨rfl, hi, w2, S2, η2, hR2, hE2, hn2, hs2, h2⟩
  by_cases hlt : i < ds.length
  · refine .inr ⟨hJ.go i w2 S2 H2 hs2 hR2 hlt, fun σ3 H3 => ∃ w3 S3 η3, Rel G w3 S3 H3 ∧ EnR G w3 η3 σ3 ∧ n0 ≤ w3.ρ.length ∧ Sub w1.M w3.M ∧ PostS G W n0 w3 H3 (loopL t f n0 (ds.drop (i + 1)) η3 S3) D,
      fun σ3 H3 ⟨w3, S3, η3, a, b, c, d, e⟩ => ⟨ds.length - (i + 1), by omega, rfl, hlt, w3, S3, η3, a, b, c, d, e⟩, fun x H3 hy => ?_⟩
    obtain ⟨d, w3, ed, n3, hR3, r3⟩ := hJ.yld i w2 S2 H2 x H3 hs2 hR2 hlt hy
    have edr : ds.drop i = d :: ds.drop (i + 1) := by
      obtain ⟨hl, e⟩ := List.getElem?_eq_some_iff.mp ed
      rw [← e]; exact (List.drop_eq_getElem_cons hl)
    rw [edr] at h2
    unfold loopL at h2
    split at h2
    · exact h2.elim
    · rename_i η1 e1
      refine ht w3 η2 σ2 (.d d) x H3 η1 _ S2 hR3 (hE2.mono n3.n) r3 e1 fun σ4 hE4 _ => ?_
      refine ⟨w3, S2, η1, hR3, hE4, n3.n.len hn2, ?_⟩
      have again : ∀ {η5 : En} {S5 : Store}, PostS G W n0 w2 H2 (loopL t f n0 (ds.drop (i + 1)) η5 S5) D → ∀ w' H' σ', Gs n0 w3 H3 w' H' → Rel G w' S5 H' → EnR G w' η5 σ' →
          ∃ w3 S3 η3, Rel G w3 S3 H' ∧ EnR G w3 η3 σ' ∧ n0 ≤ w3.ρ.length ∧ Sub w1.M w3.M ∧ PostS G W n0 w3 H' (loopL t f n0 (ds.drop (i + 1)) η3 S3) D := fun {η5 S5} h5 w' H' σ' n' hR' hE' =>
        ⟨w', S5, η5, hR', hE', n'.len (n3.n.len hn2), hs2.trans (n3.n.m.trans n'.n.m), PostS.mono hn2 ((n3.s n0).tr hn2 n') h5⟩
      revert h2
      cases f n0 η1 S2 with
      | next η5 S5 => exact fun h2 => again h2
      | cont η5 S5 => exact fun h2 => again h2
      | brk η5 S5 => exact fun h2 w' H' σ' n' => h2 w' H' σ' ((n3.s n0).tr hn2 n')
      | ret v S5 => exact fun h2 w' H' x n' => h2 w' H' x ((n3.s n0).tr hn2 n')
      | exc c η5 S5 => exact fun h2 w' H' σ' n' => h2 w' H' σ' ((n3.s n0).tr hn2 n')
      | stuck => exact fun h2 => h2
  · have e : i = ds.length := by omega
    subst e
    rw [List.drop_eq_nil_of_le (Nat.le_refl _)] at h2
    exact .inl ⟨hJ.stop w2 S2 H2 hs2 hR2, h2 w2 H2 σ2 (Gs.refl n0 w2 H2) hR2 hE2⟩
theorem ms_while {c : Expr} {body : List Stmt} {fc : Te} {f : Stm} (k : Nat) (hp : PassesOwn (model X.prog X.w) X.A X.env X.xe) (hc : PT X c (tT G W fc)) (hb : PSs X body (tS G W n0 f)) : PS X (.While c body [] pos) (tS G W n0 (whileS k fc f)) := by
  refine (ps_while hp hc hb).imp fun D σ H ⟨w, S, η, hR, hE, hn, h⟩ => ?_
  refine ⟨fun m σ2 H2 => ∃ w2 S2 η2, Rel G w2 S2 H2 ∧ EnR G w2 η2 σ2 ∧ n0 ≤ w2.ρ.length ∧ PostS G W n0 w2 H2 (loopW fc f n0 m η2 S2) D, ⟨k, w, S, η, hR, hE, hn, h⟩, ?_⟩
  rintro m σ2 H2 ⟨w2, S2, η2, hR2, hE2, hn2, h2⟩
  cases m with
  | zero => exact h2.elim
  | succ m =>
    unfold loopW at h2
    refine ⟨w2, S2, η2, hR2, hE2, PostS.ex (RA := RB) hE2 hn2 h2 fun w3 S3 H3 v x n3 hR3 r h3 => ?_⟩
    cases r
    cases v with
    | false => exact h3 w3 H3 σ2 (Gs.refl n0 w3 H3) hR3 (hE2.mono n3.n)
    | true =>
      simp only [if_true] at h3
      rw [if_pos rfl]
      refine ⟨fun σ4 H4 => ∃ w4 S4 η4, Rel G w4 S4 H4 ∧ EnR G w4 η4 σ4 ∧ n0 ≤ w4.ρ.length ∧ PostS G W n0 w4 H4 (loopW fc f n0 m η4 S4) D, fun σ4 H4 h4 => ⟨m, Nat.lt_succ_self m, h4⟩, ?_⟩
      have hn3 := n3.n.len hn2
      refine ⟨w3, S3, η2, hR3, hE2.mono n3.n, hn3, ?_⟩
      have again : ∀ {η5 : En} {S5 : Store}, PostS G W n0 w3 H3 (loopW fc f n0 m η5 S5) D → ∀ w' H' σ', Gs n0 w3 H3 w' H' → Rel G w' S5 H' → EnR G w' η5 σ' →
          ∃ w4 S4 η4, Rel G w4 S4 H' ∧ EnR G w4 η4 σ' ∧ n0 ≤ w4.ρ.length ∧ PostS G W n0 w4 H' (loopW fc f n0 m η4 S4) D := fun {η5 S5} h5 w' H' σ' n' hR' hE' =>
        ⟨w', S5, η5, hR', hE', n'.len hn3, PostS.mono hn3 n' h5⟩
      revert h3
      cases f n0 η2 S3 with
      | next η5 S5 => exact fun h2 => again h2
      | cont η5 S5 => exact fun h2 => again h2
      | brk η5 S5 => exact fun h2 => h2
      | ret v S5 => exact fun h2 => h2
      | exc c η5 S5 => exact fun h2 => h2
      | stuck => exact fun h2 => h2
end
end MP

/-! MP4: defs, calls, comprehensions -/
namespace MP
open PySem PySem.Spec PyProof.Rows L2
/-! ### room for a call, while no repr is under way -/
structure Room (k : Nat) (A : Around) : Prop extends L2.Room k A where
  gd : A.guards = some []
theorem Room.mono {j k : Nat} {A : Around} (r : MP.Room k A) (h : j ≤ k) : MP.Room j A := { r.toRoom.mono h with gd := r.gd }
theorem Room.deeper {k : Nat} {A : Around} (r : MP.Room (k + 1) A) (e : Env) : MP.Room k (A.deeper e) := { r.toRoom.deeper e with gd := r.gd }
/-- what a def keeps, called with such room -/
structure FnOk (P : Program) (W0 : World) (K : PySem.W.Frag) (mg : Str → Option Value) (base : Heap) (C : CXT) (k : Nat) (f : Addr) (fd : FuncData) (ps : List Str) (sp : Sp) : Prop where
  len : ∀ xs M Q E, sp xs M Q E → xs.length = ps.length
  go : ∀ (A : Around) (o : List Env) (s : Shared) (M : Hp) (as : Args) (us : List Value) (xs : List V) (Q : VK) (E : XK), MP.Room k A → Env0 P W0 K mg base A o s M → BindsTo s fd as (ps.zip us) → Vals xs us → sp xs M Q E → codeAny (model P W0) A (.call (.ref f) as) (CR C o P W0 M s Q E) s
section
variable {P : Program} {W0 : World} {K : PySem.W.Frag} {mg : Str → Option Value} {base : Heap} {C : CXT} {f : Addr} {fd : FuncData} {ps : List Str} {sp sp' : Sp}
theorem FnOk.mono {j k : Nat} (F : MP.FnOk P W0 K mg base C j f fd ps sp) (h : j ≤ k) : MP.FnOk P W0 K mg base C k f fd ps sp := ⟨F.len, fun A o s M as us xs Q E r => F.go A o s M as us xs Q E (r.mono h)⟩
theorem FnOk.imp {k : Nat} (F : MP.FnOk P W0 K mg base C k f fd ps sp) (h : ∀ xs M Q E, sp' xs M Q E → sp xs M Q E) : MP.FnOk P W0 K mg base C k f fd ps sp' := ⟨fun xs M Q E q => F.len xs M Q E (h _ _ _ _ q), fun A o s M as us xs Q E r e b v q => F.go A o s M as us xs Q E r e b v (h _ _ _ _ q)⟩
/-- a def from its body's walk -/
theorem fn_mk {x qual : Str} {st : Stmt} {N : List Str} {k : Nat} (F : L2.Fun K x qual st f fd) (S : FnScope N ps (defScope st)) (len : ∀ xs M Q E, sp xs M Q E → xs.length = ps.length)
    (hb : ∀ (cdv : Value), fd.code = cdv → ∀ (A : Around) (o : List Env) (s : Shared) (M : Hp) (xs : List V) (Q : VK) (E : XK), MP.Room k (A.deeper (envOfC qual (defScope st) s.heap.objs.size f cdv)) → sp xs M Q E →
      ∃ t, PSs (cxOf C P W0 K mg base N qual (defScope st) f cdv A o s M E) (defBody st) t ∧ t { nx := fun _ M' => Q .non M', rt := Q } (start N xs) M) : MP.FnOk P W0 K mg base C (k + 1) f fd ps sp := by
  obtain ⟨oc, od, kV, doc, pm, an, cdv, ct, osl, rfl, lk, hcd⟩ := F.ex
  refine ⟨len, fun A o s M as us xs Q E r e0 bd rv hq => ?_⟩
  have keep := fun b u (e : base.get? b = some u) => (e0.bs b u e).1
  have inK := e0.mod.kin.keeps keep
  have few := len _ _ _ _ hq
  obtain ⟨t, w1, w2⟩ := hb cdv rfl A o s M xs Q E (r.deeper _) hq
  have loc : ∀ y ∈ ps.zip us, (defScope st).names.lookup y.1 = some .local ∨ ((defScope st).names.lookup y.1 = some .cell ∧ ((cellsFrom (s.heap.objs.size + 1) (defScope st).names []).lookup y.1).isSome = true) := by
    intro y hy
    have z := S.par y.1 (List.of_mem_zip (a := y.1) (b := y.2) hy).1
    exact z.imp (fun z => z) fun z => ⟨z, PySem.W.cellsFrom_some _ _ _ (.inl z)⟩
  refine codeAny_call_function r.toRoom.depth (inK _ _ lk) rfl S.co S.gen rfl (PySem.W.codeRec_of inK hcd) (bd _ _ _ _ (wpAny_newFunctionEnv_cells S.kind loc ?_))
  intro env he s1 ic
  subst he
  have J0 := inv_start (CX := C) (E := E) S r.toRoom.hd e0 few rv ic
  refine ⟨(e0.mod.nolimit.keeps keep).keeps ic.toInCall.keep, codeAny_func (wpAny_mono (w1.run [] s1 (start N xs) M _ J0 w2) ?_ fun _ _ z => z)⟩
  intro fl s2 z
  cases fl with
  | brk => obtain ⟨_, _, _, z⟩ := z; exact z.elim
  | cont => obtain ⟨_, _, _, z⟩ := z; exact z.elim
  | next => obtain ⟨_, M2, J, z⟩ := z; exact ⟨.non, M2, J.os, J.bare, J.base, J.hok, rfl, z⟩
  | ret u => obtain ⟨v, _, M2, J, rv2, z⟩ := z; exact ⟨v, M2, J.os, J.bare, J.base, J.hok, rv2, z⟩
end
section
variable {X : Cx} {x : Str} {C : CXT} {k : Nat} {f : Addr} {fd : FuncData} {ps : List Str} {sp : Sp} {E : L2.St → XK}
theorem run_fnS {pins : List (Addr × Obj)} {σ : L2.St} {M : Hp} {s : Shared} {Q : VK} {us : List Value} {xs : List V} (F : MP.FnOk X.prog X.w X.K X.mg X.base C k f fd ps sp) (r : MP.Room k X.A) (hb : Binds X.K fd ps []) (hx : PassesAt C X σ (E σ)) (I : Inv X pins σ M s) (rv : Vals xs us) (h : sp xs M Q (E σ)) :
    wpAny (model X.prog X.w) X.A (call (.ref f) us) (EP X pins σ Q) X.xe s := by
  have few : (us ++ []).length = ps.length := by rw [List.append_nil, ← rv.length]; exact F.len _ _ _ _ h
  have b := hb s us I.kIn few
  rw [List.append_nil] at b
  refine wpAny_call (codeAny_mono (F.go X.A X.stack s M ⟨us, []⟩ us xs Q (E σ) r I.env0 b rv h) ?_)
  intro q s' z
  cases q with
  | error e => exact hx pins M s e s' I z
  | ok fl => cases fl with
    | ret u => exact I.after z
    | next => exact z.elim
    | brk => exact z.elim
    | cont => exact z.elim
theorem pe_callS {p pos : Pos} {e : Expr} {es : List Expr} {t : TA} (F : MP.FnOk X.prog X.w X.K X.mg X.base C k f fd ps sp) (r : MP.Room k X.A) (hg : Gl X x) (hm : X.mg x = some (.ref f)) (hk : PySem.W.keepIn X.K (.ref f) = true) (hb : Binds X.K fd ps []) (hx : ∀ σ, PassesAt C X σ (E σ)) (ha : PA X (e :: es) t)
    (hdb : (x == ("__debug__" : Str)) = false := by decide) (he : starEach (e :: es) X.env = (false, eval e X.env) :: starEach es X.env := by rfl) (hpl : (backTo pos (starEach es X.env)).any (·.1) = false := by rfl) : PE X (.Call (.Name x p) (e :: es) [] pos) (tCallS sp E t) :=
  ⟨fun pins s σ M Q I h => wpAny_Call_Name_kw (ld_glob I hg hm (PySem.W.callWith_K (h₀ := X.base) I.ok.mod.kin hk (thn (ha.run pos pins s σ M _ I h) fun us s1 ⟨vs, M1, I1, r1, q⟩ => ⟨I1.kIn, MP.run_fnS F r hb (hx σ) I1 r1 q⟩) he hpl) hdb)⟩
end
abbrev Fn := List Vl → Store → Res Vl
inductive FM where | frz | mut | all | frd
def finV (m : FM) (n : Nat) (v : Vl) (S : Store) : Res Vl := match m, v with
  | .all, v => .ok v S
  | .mut, .p k => if k < n then .ok (.p k) ⟨S.L.take n⟩ else match S.L[k]? with
    | some (some (.l ds)) => .ok (.p n) ⟨S.L.take n ++ [some (.l ds)]⟩
    | _ => .stuck
  | .frd, .p k => if k < n then .stuck else match S.L[k]? with
    | some (some (.dT kvs)) => .ok (.d (.dct (kvs.map fun p => .tup (p.1.map .int)) (kvs.map (·.2)))) ⟨S.L.take n⟩
    | _ => .stuck
  | _, v => match frV n S v with
    | some v' => .ok v' ⟨S.L.take n⟩
    | none => .stuck
def fin (m : FM) (n : Nat) : SR → Res Vl
  | .next _ S => finV m n (.d .non) S
  | .ret v S => finV m n v S
  | .exc c _ S => .exc c ⟨S.L.take n⟩
  | _ => .stuck
def fnF (np ns : Nat) (m : FM) (b : Stm) : Fn := fun args S => if args.length = np then fin m S.L.length (b S.L.length (args.map some ++ List.replicate (ns - np) none) S) else .stuck
def spF (G : GI) (F : Fn) : Sp := fun vs H Q E => ∃ w S args, Rel G w S H ∧ RVs G w args vs ∧ Post G w H (rV G) (F args S) Q (fun c H' => E (.ref (G.cls c)) none H')
abbrev wOf (E : XK) : WX := fun cls d _ H => E cls d H

section
variable {G : GI} {w : Wd} {S : Store} {H : Hp}
theorem EnR.begin {N : List Str} {args : List Vl} {vs : List V} (r : RVs G w args vs) : EnR G w (args.map some ++ List.replicate (N.length - args.length) none) (L2.start N vs) where
  len := by unfold L2.start; simp [r.length]
  get := fun i v e => by
    unfold L2.start
    by_cases hi : i < args.length
    · rw [List.getElem?_append_left (by rw [List.length_map]; exact hi)] at e
      rw [List.getElem?_append_left (by rw [List.length_map, ← r.length]; exact hi)]
      rw [List.getElem?_map] at e
      cases q : args[i]? with
      | none => rw [q] at e; cases e
      | some u =>
        rw [q] at e; cases e
        have : ∀ {as : List Vl} {xs : List V} {i : Nat} {v : Vl}, RVs G w as xs → as[i]? = some v → ∃ x, xs[i]? = some x ∧ RV G w v x := by
          intro as xs i v r
          induction r using RVs.rec (motive_1 := fun _ _ _ => True) generalizing i with
          | d _ => trivial
          | p _ => trivial
          | t _ _ _ => trivial
          | nil => intro e; simp at e
          | cons r _ _ ih => cases i with
            | zero => intro e; simp at e; subst e; exact ⟨_, rfl, r⟩
            | succ i => intro e; obtain ⟨x, h1, h2⟩ := ih (i := i) (by simpa using e); exact ⟨x, by simpa using h1, h2⟩
        obtain ⟨x, h1, h2⟩ := this r q
        exact ⟨x, by rw [List.getElem?_map, h1]; rfl, h2⟩
    · rw [List.getElem?_append_right (by rw [List.length_map]; omega)] at e
      rw [List.getElem?_replicate] at e
      split at e
      · cases e
      · cases e
theorem finV_ok (hR : Rel G w S H) {m : FM} {n : Nat} {v : Vl} {x : V} (hn : n ≤ w.ρ.length) (r : RV G w v x) {w0 : Wd} {H0 : Hp} (hg : Gs n w0 H0 w H) (hn0 : n = w0.ρ.length) {Q : VK} {XX : Nat → Hp → Prop} (h : Post G w0 H0 (rV G) (finV m n v S) Q XX) : Q x H := by
  have e0 : w0.tk n = w0 := by
    unfold Wd.tk
    rw [hn0, List.take_length]
  have hg' : ∀ (w1 : Wd), Nxt w0 w1 → (∀ a, a ∉ w.ρ → a ∉ w1.ρ) → (∀ a, a ∉ w.ρ → w.M a = none → w1.M a = none) → Go w0 H0 w1 H := fun w1 h1 h2 h3 => ⟨h1, fun a o e hn => let ⟨p, q, z⟩ := hg.f a o e hn; ⟨p, h2 a q, fun y => h3 a q (z y)⟩⟩
  have frN : ∀ a, a ∉ w.ρ → w.M a = none → (w.fr n H).M a = none := fun a hn z => by unfold Wd.fr; simp only; rw [if_neg (fun hd => hn (List.mem_of_mem_drop hd))]; exact z
  have nf : Nxt w0 (w.fr n H) := by
    have := (hg.n.m)
    refine ⟨this.trans (hR.fr_sub n), ?_⟩
    have h2 := hg.n.r
    rw [e0] at h2
    show w0.ρ <+: w.ρ.take n
    obtain ⟨t, ht⟩ := h2
    rw [← ht, List.take_append_of_le_length (by omega), hn0, List.take_length]
    exact List.prefix_refl _
  have base : ∀ v', frV n S v = some v' → Post G w0 H0 (rV G) (.ok v' ⟨S.L.take n⟩) Q XX → Q x H := fun v' e h =>
    h _ H x (hg' _ nf (fun a hn hm => hn (List.mem_of_mem_take hm)) frN) (hR.fr n) (frV_ok hR n e r)
  have gen : Post G w0 H0 (rV G) (match frV n S v with
    | some v' => .ok v' ⟨S.L.take n⟩
    | none => .stuck) Q XX → Q x H := fun h => by
    split at h
    · rename_i v' e; exact base v' e h
    · exact h.elim
  unfold finV at h
  split at h
  · exact h w H x ⟨e0 ▸ hg.n, hg.f⟩ hR r
  · rename_i k
    split at h
    · rename_i hk
      exact base (.p k) (by unfold frV; simp only; rw [if_pos hk]) h
    · rename_i hk
      split at h
      · rename_i ds q
        cases r with
        | p r =>
          rename_i a
          obtain ⟨hm, vs, ev, rr⟩ := hR.cel k (.l ds) a q r
          have hkl : k < w.ρ.length := (List.getElem?_eq_some_iff.mp r).1
          -- the cells below n, then this one
          have hw : Rel G ⟨w.M, w.ρ.take n ++ [a]⟩ ⟨S.L.take n ++ [some (.l ds)]⟩ H := by
            have inw : ∀ b, b ∉ w.ρ → b ∉ w.ρ.take n ++ [a] := fun b hb hm => by
              rcases List.mem_append.mp hm with hm | hm
              · exact hb (List.mem_of_mem_take hm)
              · have : b = a := by simpa using hm
                subst this; exact hb (List.mem_of_getElem? r)
            refine ⟨hR.sub, ?_, ?_, ?_, ?_, hR.gg.up (fun _ _ _ e => e) (fun _ _ e _ => e) (fun _ _ _ e => e) (fun b hb => .inl (inw b hb)) (fun b _ _ hb m => ⟨inw b hb, m⟩) fun b hb => hR.gg.nt b (Classical.byContradiction fun n => inw b n hb)⟩
            · simp only [List.length_append, List.length_take, hR.len]; rfl
            · refine List.nodup_append.mpr ⟨hR.nd.sublist (List.take_sublist n _), by simp, fun b hb c hc => ?_⟩
              have hc : c = a := by simpa using hc
              subst hc
              intro z
              subst z
              obtain ⟨j, hj, ej⟩ := List.mem_iff_getElem.mp hb
              rw [List.length_take] at hj
              rw [List.getElem_take] at ej
              have := nd_get hR.nd (i := j) (j := k) (by rw [List.getElem?_eq_getElem (by omega), ej]) r
              omega
            · intro b hb
              rcases List.mem_append.mp hb with hb | hb
              · exact hR.dom b (List.mem_of_mem_take hb)
              · have : b = a := by simpa using hb
                subst this; exact ⟨_, ev⟩
            · intro m c b e1 e2
              simp only at e1 e2
              have hlt : (S.L.take n).length = n := by rw [List.length_take, ← hR.len]; omega
              have hlr : (w.ρ.take n).length = n := by rw [List.length_take]; omega
              by_cases hmn : m < n
              · rw [List.getElem?_append_left (by omega), List.getElem?_take_of_lt hmn] at e1 e2
                exact hR.cel m c b e1 e2
              · rw [List.getElem?_append_right (by omega)] at e1 e2
                rw [hlt] at e1
                rw [hlr] at e2
                by_cases hz : m - n = 0
                · rw [hz] at e1 e2
                  simp at e1 e2
                  subst e1 e2
                  exact ⟨hm, vs, ev, rr⟩
                · rw [List.getElem?_eq_none (by simp; omega)] at e1; cases e1
          refine h ⟨w.M, w.ρ.take n ++ [a]⟩ H _ (hg' _ ⟨hg.n.m, ?_⟩ (fun b hb hm => ?_) (fun _ _ z => z)) hw (.p ?_)
          · have h2 := nf.r
            exact h2.trans (List.prefix_append _ _)
          · rcases List.mem_append.mp hm with hm | hm
            · exact hb (List.mem_of_mem_take hm)
            · have : b = a := by simpa using hm
              subst this; exact hb (List.mem_of_getElem? r)
          · show (w.ρ.take n ++ [a])[n]? = some a
            rw [List.getElem?_append_right (by rw [List.length_take]; omega), List.length_take, Nat.min_eq_left hn, Nat.sub_self] <;> rfl
      · exact h.elim
  · rename_i k
    split at h
    · exact h.elim
    · rename_i hk
      split at h
      · rename_i kvs q
        cases r with
        | p r =>
          rename_i a
          obtain ⟨hm, ep, xs, ev, e1, tk, rr⟩ := hR.cel k (.dT kvs) a q r
          have ha : (w.fr n H).M a = some (DctO a ep xs) := by
            unfold Wd.fr
            simp only
            rw [if_pos]
            · exact ev
            · obtain ⟨hl, e4⟩ := List.getElem?_eq_some_iff.mp r
              refine List.mem_iff_getElem.mpr ⟨k - n, by rw [List.length_drop]; omega, ?_⟩
              rw [List.getElem_drop]
              simp only [show n + (k - n) = k by omega]
              exact e4
          refine h _ H _ (hg' _ nf (fun a hn hm => hn (List.mem_of_mem_take hm)) frN) (hR.fr n) (.d (.dct ha (fun x hx => (tk x hx).mono (hR.fr_sub n)) ?_ (rr.mono (hR.fr_sub n))))
          have e2 : kvs.map (fun p => D.tup (p.1.map D.int)) = (kvs.map (·.1)).map fun k => D.tup (k.map D.int) := by rw [List.map_map]; rfl
          rw [e2, e1, List.map_map]; rfl
      · exact h.elim
  · exact gen h
end

section
variable {P : Program} {W0 : World} {K : PySem.W.Frag} {mg : Str → Option Value} {base : Heap} {G : GI}
/-- THE RULE for a def -/
theorem fn_okC {x qual : Str} {st : Stmt} {f : Addr} {fd : FuncData} {N ps : List Str} {k : Nat} (m : FM) (b : Stm) (F : L2.Fun K x qual st f fd) (S : FnScope N ps (defScope st)) (hK : K = G.K)
    (hb : ∀ (cdv : Value), fd.code = cdv → ∀ (A : Around) (outer : List Env) (s : Shared) (H : Hp) (E : XK) (n0 : Nat), MP.Room k (A.deeper (envOfC qual (defScope st) s.heap.objs.size f cdv)) →
      Takes (cxOf (L2.CX P W0) P W0 K mg base N qual (defScope st) f cdv A outer s H E) (wOf E) → PassesOwn (model P W0) (A.deeper (envOfC qual (defScope st) s.heap.objs.size f cdv)) (envOfC qual (defScope st) s.heap.objs.size f cdv) (cxOf (L2.CX P W0) P W0 K mg base N qual (defScope st) f cdv A outer s H E).xe →
      PSs (cxOf (L2.CX P W0) P W0 K mg base N qual (defScope st) f cdv A outer s H E) (defBody st) (tS G (wOf E) n0 b)) :
    MP.FnOk P W0 K mg base (L2.CX P W0) (k + 1) f fd ps (spF G (fnF ps.length N.length m b)) := by
  refine fn_mk F S (fun vs H Q E h => ?_) (fun cdv hcv A outer s H vs Q E hr h => ?_)
  · obtain ⟨w, S, args, hR, r, h⟩ := h
    unfold fnF at h
    split at h
    · rename_i e; rw [← r.length]; exact e
    · exact h.elim
  · obtain ⟨w, S', args, hR, r, h⟩ := h
    unfold fnF at h
    split at h
    · rename_i e
      refine ⟨_, hb cdv hcv A outer s H E S'.L.length hr (takes_of rfl rfl rfl rfl) (passes_of rfl), w, S', _, hR, EnR.begin r, by rw [hR.len]; exact Nat.le_refl _, ?_⟩
      have en : N.length - args.length = N.length - ps.length := by rw [e]
      rw [en]
      have hl : S'.L.length = w.ρ.length := hR.len.symm
      revert h
      cases b S'.L.length (args.map some ++ List.replicate (N.length - ps.length) none) S' with
      | next η1 S1 => exact fun h w' H' σ' g hR' hE' => finV_ok hR' (g.len (by omega)) (.d .non) g hl h
      | ret v S1 => exact fun h w' H' x g hR' r' => finV_ok hR' (g.len (by omega)) r' g hl h
      | exc c η1 S1 =>
        intro h w' H' σ' g hR' hE'
        refine h (w'.fr S'.L.length H') H' ⟨⟨g.n.m.trans (hR'.fr_sub _), ?_⟩, fun a o e hn => let ⟨p, q, z⟩ := g.f a o e hn; ⟨p, fun hm => q (List.mem_of_mem_take hm), fun y => by unfold Wd.fr; simp only; rw [if_neg (fun hd => q (List.mem_of_mem_drop hd))]; exact z y⟩⟩ (hR'.fr _)
        have h2 := g.n.r
        show w.ρ <+: w'.ρ.take S'.L.length
        have e0 : (w.tk S'.L.length).ρ = w.ρ := by show w.ρ.take _ = _; rw [hl, List.take_length]
        rw [e0] at h2
        obtain ⟨t, ht⟩ := h2
        rw [← ht, List.take_append_of_le_length (by omega), hl, List.take_length]
        exact List.prefix_refl _
      | brk η1 S1 => exact fun h => h.elim
      | cont η1 S1 => exact fun h => h.elim
      | stuck => exact fun h => h.elim
    · exact h.elim

theorem fn_ok {x qual : Str} {st : Stmt} {f : Addr} {fd : FuncData} {N ps : List Str} {k : Nat} (m : FM) (b : Stm) (F : L2.Fun K x qual st f fd) (S : FnScope N ps (defScope st)) (hK : K = G.K)
    (hb : ∀ (cdv : Value) (A : Around) (outer : List Env) (s : Shared) (H : Hp) (E : XK) (n0 : Nat), MP.Room k (A.deeper (envOfC qual (defScope st) s.heap.objs.size f cdv)) →
      Takes (cxOf (L2.CX P W0) P W0 K mg base N qual (defScope st) f cdv A outer s H E) (wOf E) → PassesOwn (model P W0) (A.deeper (envOfC qual (defScope st) s.heap.objs.size f cdv)) (envOfC qual (defScope st) s.heap.objs.size f cdv) (cxOf (L2.CX P W0) P W0 K mg base N qual (defScope st) f cdv A outer s H E).xe →
      PSs (cxOf (L2.CX P W0) P W0 K mg base N qual (defScope st) f cdv A outer s H E) (defBody st) (tS G (wOf E) n0 b)) :
    MP.FnOk P W0 K mg base (L2.CX P W0) (k + 1) f fd ps (spF G (fnF ps.length N.length m b)) := fn_okC m b F S hK fun cdv _ => hb cdv
/-- what a def of the text is worth, up to level k -/
structure Def (P : Program) (W0 : World) (K : PySem.W.Frag) (mg : Str → Option Value) (base : Heap) (G : GI) (k : Nat) (x : Str) (F : Fn) : Prop where
  ex : ∃ f fd ps, mg x = some (.ref f) ∧ PySem.W.keepIn K (.ref f) = true ∧ Binds K fd ps [] ∧ MP.FnOk P W0 K mg base (L2.CX P W0) k f fd ps (spF G F)
theorem Def.mono {j k : Nat} {x : Str} {F : Fn} (h : Def P W0 K mg base G j x F) (hk : j ≤ k) : Def P W0 K mg base G k x F := by
  obtain ⟨f, fd, ps, h1, h2, h3, h4⟩ := h.ex
  exact ⟨f, fd, ps, h1, h2, h3, h4.mono hk⟩
end
def callE (F : Fn) (a : As) : Ex := fun η S => (a η S).bind F
section
variable {X : Cx} {G : GI} {W : WX} {pos : Pos} {k : Nat} {x : Str} {F : Fn}
theorem me_call {p : Pos} {e : Expr} {es : List Expr} {fa : As} (O : Def X.prog X.w X.K X.mg X.base G k x F) (hr : MP.Room k X.A) (tk : Takes X W) (hg : Gl X x) (ha : PA X (e :: es) (tA G W fa)) (hdb : (x == ("__debug__" : Str)) = false := by decide)
    (he : starEach (e :: es) X.env = (false, eval e X.env) :: starEach es X.env := by rfl) (hpl : (backTo pos (starEach es X.env)).any (·.1) = false := by rfl) : PE X (.Call (.Name x p) (e :: es) [] pos) (tE G W (callE F fa)) := by
  obtain ⟨f, fd, ps, hm, hk, hb, hf⟩ := O.ex
  exact (MP.pe_callS hf hr hg hm hk hb (fun σ => passAt tk σ) ha hdb he hpl).imp fun σ H Q ⟨w, S, η, hR, hE, h⟩ => ⟨w, S, η, hR, hE, Post.thn h fun w1 S1 H1 xs vs n hR1 rx h2 => ⟨w1, S1, xs, hR1, rx, h2⟩⟩
end
end MP

set_option maxHeartbeats 2000000
/-! MPW: zip of two, of three, enumerate: over lists and tuples, mixed -/
namespace MP
open PySem PySem.Spec PyProof.Rows L2

/-- k: a list, else a tuple -/
def SqK (k : Bool) (K : PySem.W.Frag) (H : Hp) (a : Addr) (xs : List V) : Prop := match k with
  | true => SqL K H a xs
  | false => SqT K H a xs
def ItK (k : Bool) (h : Heap) (it a : Addr) (i : Nat) : Prop := match k with
  | true => h.IsListIter it a i
  | false => h.IsTupleIter it a i
def HpK (k : Bool) (h : Heap) (a : Addr) (its : Array Value) : Prop := match k with
  | true => h.IsList a its
  | false => h.IsTuple a its
def itO (k : Bool) (a : Addr) : Obj := match k with
  | true => { cls := .type "list_iterator", data := .fields #[.ref a, .int 0 0] }
  | false => { cls := .type "tuple_iterator", data := .fields #[.ref a, .int 0 0] }
theorem beginsK (k : Bool) (a : Addr) (its : Array Value) : Begins (.ref a) (itO k a) fun h => HpK k h a its := by
  cases k with
  | true => exact begins_list a its
  | false => exact begins_tuple a its
theorem itO_it {k : Bool} {h : Heap} {it a : Addr} (e : h.get? it = some (itO k a)) : ItK k h it a 0 := by
  cases k with
  | true => exact ⟨_, e, rfl, rfl⟩
  | false => exact ⟨_, e, rfl, rfl⟩
theorem ItK.at {k : Bool} {h h' : Heap} {it a : Addr} {i : Nat} (x : ItK k h it a i) (e : ∀ o, h.get? it = some o → h'.get? it = some o) : ItK k h' it a i := by
  cases k with
  | true => exact Heap.IsListIter.at x e
  | false => exact Heap.IsTupleIter.at x e
theorem ItK.obj {k : Bool} {h : Heap} {it a : Addr} {i : Nat} (x : ItK k h it a i) : ∃ o, h.get? it = some o ∧ ∀ v, o.data ≠ .cell v := by
  cases k with
  | true => obtain ⟨o, e, c, d⟩ := x; exact ⟨o, e, fun v z => by rw [d] at z; cases z⟩
  | false => obtain ⟨o, e, c, d⟩ := x; exact ⟨o, e, fun v z => by rw [d] at z; cases z⟩
theorem drawsK (k : Bool) {P : Program} {w : World} {A : Around} (hh : A.handled = none) (it a : Addr) (hne : a ≠ it) (its : Array Value) :
    Draws P w A it [it, a] its.size (fun i v => its[i]? = some v) (fun i h => ItK k h it a i ∧ HpK k h a its) := by
  cases k with
  | true => exact Draws.list hh it a hne its
  | false => exact Draws.tuple hh it a hne its
section
variable {X : Cx} {pins : List (Addr × Obj)} {σ : L2.St} {H : Hp} {s : Shared}
theorem inv_sqK (I : Inv X pins σ H s) {k : Bool} {a : Addr} {xs : List V} (h : SqK k X.K H a xs) : ∃ its : List Value, Vals xs its ∧ HpK k s.heap a its.toArray ∧ a < s.heap.objs.size := by
  cases k with
  | true => obtain ⟨its, r, p, _⟩ := I.list h; exact ⟨its, r, p.isList, p.lt⟩
  | false => obtain ⟨its, r, p, _⟩ := I.tuple h; exact ⟨its, r, p, p.lt⟩
theorem inv_sqK_inj (I : Inv X pins σ H s) {k : Bool} {a : Addr} {xs ys : List V} (h : SqK k X.K H a xs) (h' : SqK k X.K H a ys) : xs = ys := by
  cases k with
  | true => exact I.list_inj h h'
  | false => exact I.tuple_inj h h'
end

/-! ### enumerate -/
/-! ### zip of two -/
/-! ### zip of three -/
def Itz3 (k1 k2 k3 : Bool) (K : PySem.W.Frag) (a b d : Addr) : It :=
  ⟨fun i H => ∃ (xs ys zs : List V) (x y z : V), SqK k1 K H a xs ∧ SqK k2 K H b ys ∧ SqK k3 K H d zs ∧ xs[i]? = some x ∧ ys[i]? = some y ∧ zs[i]? = some z,
    fun i H v H' => ∃ T o x y z, v = .ref T ∧ H T = none ∧ o.dict = none ∧ H' = upd H T (.frz o (.tup [x, y, z])) ∧ (∀ xs, SqK k1 K H a xs → xs[i]? = some x) ∧ (∀ ys, SqK k2 K H b ys → ys[i]? = some y) ∧ ∀ zs, SqK k3 K H d zs → zs[i]? = some z,
    fun i H => ∃ xs ys zs : List V, SqK k1 K H a xs ∧ SqK k2 K H b ys ∧ SqK k3 K H d zs ∧ i ≤ xs.length ∧ i ≤ ys.length ∧ i ≤ zs.length ∧ (i = xs.length ∨ i = ys.length ∨ i = zs.length)⟩
theorem turn_zip3 (k1 k2 k3 : Bool) {P : Program} {w : World} {K : PySem.W.Frag} {elts : List Expr} {kk : Nat} {tpos : Pos} {a b d z TI TO i1 i2 i3 : Addr} (S : ZipSep3 z TI TO i1 i2 i3 [i1, a] [i2, b] [i3, d]) (ha : a ≠ i1) (hb : b ≠ i2) (hd : d ≠ i3) :
    Turn P w K (.Tuple elts kk tpos) (Itz3 k1 k2 k3 K a b d) [z, TI, TO, i1, i2, i3] z (fun i h => IsZip h z TI TO .none ∧ IsTupOf3 h TI (.ref i1) (.ref i2) (.ref i3) ∧ (∃ x y q, IsTupOf3 h TO x y q) ∧ ItK k1 h i1 a i ∧ ItK k2 h i2 b i ∧ ItK k3 h i3 d i) where
  mem := by simp
  obj := fun i h st c hc => by
    obtain ⟨hz, hTI, ⟨x, y, q, hTO⟩, h1, h2, h3⟩ := st
    have e' : c = z ∨ c = TI ∨ c = TO ∨ c = i1 ∨ c = i2 ∨ c = i3 := by simpa using hc
    rcases e' with q | q | q | q | q | q
    · rw [q]; exact ⟨_, hz, fun v q => nomatch q⟩
    · rw [q]; exact ⟨_, hTI, fun v q => nomatch q⟩
    · rw [q]; exact ⟨_, hTO, fun v q => nomatch q⟩
    · rw [q]; exact h1.obj
    · rw [q]; exact h2.obj
    · rw [q]; exact h3.obj
  keep := fun i h h' st k => by
    obtain ⟨hz, hTI, ⟨x, y, q, hTO⟩, h1, h2, h3⟩ := st
    exact ⟨k z (by simp) _ hz, k TI (by simp) _ hTI, ⟨x, y, q, k TO (by simp) _ hTO⟩, h1.at fun o q => k i1 (by simp) o q, h2.at fun o q => k i2 (by simp) o q, h3.at fun o q => k i3 (by simp) o q⟩
  item := by
    intro X hP hw hK hc i pins s σ H E I hf st hg
    subst hP hw hK
    obtain ⟨hz, hTI, ⟨x0, y0, q0, hTO⟩, h1, h2, h3⟩ := st
    obtain ⟨xs, ys, zs, x, y, v, hqx, hqy, hqz, hx, hy, hv⟩ := hg
    obtain ⟨its, rv, p, _⟩ := inv_sqK I hqx
    obtain ⟨its2, rv2, p2, _⟩ := inv_sqK I hqy
    obtain ⟨its3, rv3, p3, _⟩ := inv_sqK I hqz
    obtain ⟨u, hu, ru⟩ := rv.get hx
    obtain ⟨u2, hu2, ru2⟩ := rv2.get hy
    obtain ⟨u3, hu3, ru3⟩ := rv3.get hv
    have hh : X.A.in1.handled = none := I.ok.hd hc
    have hzl : z < s.heap.objs.size := Heap.lt_size hz
    have hu' : its.toArray[i]? = some u := by simpa using hu
    have hu2' : its2.toArray[i]? = some u2 := by simpa using hu2
    have hu3' : its3.toArray[i]? = some u3 := by simpa using hu3
    refine wpAny_pyNext_zipD3_item S (drawsK k1 hh i1 a ha its.toArray) (drawsK k2 hh i2 b hb its2.toArray) (drawsK k3 hh i3 d hd its3.toArray) hz hTI hTO ⟨h1, p⟩ ⟨h2, p2⟩ ⟨h3, p3⟩ (Array.getElem?_eq_some_iff.mp hu').1 (Array.getElem?_eq_some_iff.mp hu2').1 (Array.getElem?_eq_some_iff.mp hu3').1 fun x1 x2 x3 h' tk e1 e2 e3 z' TO' h1' h2' h3' hT hsz hk => ?_
    obtain rfl : x1 = u := by rw [hu'] at e1; exact (Option.some.inj e1).symm
    obtain rfl : x2 = u2 := by rw [hu2'] at e2; exact (Option.some.inj e2).symm
    obtain rfl : x3 = u3 := by rw [hu3'] at e3; exact (Option.some.inj e3).symm
    refine ⟨_, rfl, wpAny_letOwnedTupleGo_zip (s := { s with heap := h', toks := tk }) z' fun h'' z'' sb => ?_⟩
    have hT2 : h''.get? s.heap.objs.size = some { cls := .type "tuple", data := .seq #[x1, x2, x3] } := (sb.2 _ (Nat.ne_of_gt hzl)).trans hT
    have new : ObjOk X.prog X.w (upd H s.heap.objs.size (.frz (TObj [x1, x2, x3]) (.tup [x, y, v]))) h'' s.heap.objs.size (.frz (TObj [x1, x2, x3]) (.tup [x, y, v])) :=
      tup_obj (its := [x1, x2, x3]) (.cons ru (.cons ru2 (.cons ru3 .nil))) (by show 3 ≤ sizeLine; decide) hT2
    have I1 : Inv X pins σ (upd H s.heap.objs.size (.frz (TObj [x1, x2, x3]) (.tup [x, y, v]))) { s with heap := h'', toks := tk } :=
      I.turnedNew (t' := tk) (ch := [z, TI, TO, i1, i2, i3]) (fun c o hb q => (sb.2 c (fun q' => hb (by simp [q']))).trans (hk c o (fun q' => hb (by simp [q'])) (fun q' => hb (by simp [q'])) (fun q' => hb (by simp [q'])) (fun q' => hb (by simp [q'])) (fun q' => hb (by simp [q'])) q)) hf (Nat.le_refl _) new
    have zi1 : i1 ≠ z := fun q => S.zf1 (by simp [q])
    have zi2 : i2 ≠ z := fun q => S.zf2 (by simp [q])
    have zi3 : i3 ≠ z := fun q => S.zf3 (by simp [q])
    refine ⟨.ref s.heap.objs.size, _, I1, rfl, ⟨_, _, x, y, v, rfl, I.hok.fresh (Nat.le_refl _), rfl, rfl, fun l hl => by rw [inv_sqK_inj I hl hqx]; exact hx, fun l hl => by rw [inv_sqK_inj I hl hqy]; exact hy, fun l hl => by rw [inv_sqK_inj I hl hqz]; exact hv⟩, ⟨z'', ?_, ⟨x1, x2, x3, ?_⟩, ?_, ?_, ?_⟩, fun c hcm => ?_⟩
    · exact (sb.2 _ S.TIz).trans (hk _ _ S.TIz S.TITO S.TIi1 S.TIi2 S.TIi3 hTI)
    · exact (sb.2 _ S.TOz).trans TO'
    · exact h1'.1.at fun o q => (sb.2 _ zi1).trans q
    · exact h2'.1.at fun o q => (sb.2 _ zi2).trans q
    · exact h3'.1.at fun o q => (sb.2 _ zi3).trans q
    · have hlt : c < s.heap.objs.size := by
        have e' : c = z ∨ c = TI ∨ c = TO ∨ c = i1 ∨ c = i2 ∨ c = i3 := by simpa using hcm
        rcases e' with q | q | q | q | q | q
        · rw [q]; exact hzl
        · rw [q]; exact Heap.lt_size hTI
        · rw [q]; exact Heap.lt_size hTO
        · rw [q]; obtain ⟨_, e1, _⟩ := h1.obj; exact Heap.lt_size e1
        · rw [q]; obtain ⟨_, e2, _⟩ := h2.obj; exact Heap.lt_size e2
        · rw [q]; obtain ⟨_, e3, _⟩ := h3.obj; exact Heap.lt_size e3
      rw [upd_ne (Nat.ne_of_lt hlt)]
      exact (hf c hcm).1
  done := by
    intro X hP hw hK hc i pins s σ H E I hf st hg
    subst hP hw hK
    obtain ⟨hz, hTI, ⟨x0, y0, q0, hTO⟩, h1, h2, h3⟩ := st
    obtain ⟨xs, ys, zs, hqx, hqy, hqz, hle1, hle2, hle3, hend⟩ := hg
    obtain ⟨its, rv, p, _⟩ := inv_sqK I hqx
    obtain ⟨its2, rv2, p2, _⟩ := inv_sqK I hqy
    obtain ⟨its3, rv3, p3, _⟩ := inv_sqK I hqz
    have l1 := rv.length
    have l2 := rv2.length
    have l3 := rv3.length
    have hh : X.A.in1.handled = none := I.ok.hd hc
    exact wpAny_pyNext_zipD3_end S (drawsK k1 hh i1 a ha its.toArray) (drawsK k2 hh i2 b hb its2.toArray) (drawsK k3 hh i3 d hd its3.toArray) hz hTI hTO ⟨h1, p⟩ ⟨h2, p2⟩ ⟨h3, p3⟩ (by simp; omega) (by simp; omega) (by simp; omega) (by simp; omega) fun h' tk hk => ⟨rfl, I.turnedL (t' := tk) (ch := [z, TI, TO, i1, i2, i3]) (fun c o hb q =>
      hk c o (fun q' => hb (by simp [q'])) (fun q' => hb (by simp [q'])) (fun q' => hb (by simp [q'])) (fun q' => hb (by simp [q'])) (fun q' => hb (by simp [q'])) q) hf⟩
  self := fun A i s Q E st h => wpAny_pyIter_zip st.1 h
def iZip3 (K : PySem.W.Frag) (ta : TA) : TI := fun σ H R => ta σ H fun vs H1 => ∃ k1 k2 k3 a b d xs ys zs, vs = [.ref a, .ref b, .ref d] ∧ SqK k1 K H1 a xs ∧ SqK k2 K H1 b ys ∧ SqK k3 K H1 d zs ∧ R (Itz3 k1 k2 k3 K a b d) H1
theorem pi_zip3 {X : Cx} {e e2 e3 : Expr} {ta : TA} {p pos tpos : Pos} {elts : List Expr} {kk : Nat} (hg : Gl X "zip") (hm : X.mg "zip" = none) (ha : PA X [e, e2, e3] ta)
    (hs : starEach [e, e2, e3] X.env = (false, eval e X.env) :: starEach [e2, e3] X.env := by rfl) (hpl : (backTo pos (starEach [e2, e3] X.env)).any (·.1) = false := by rfl) :
    PI X (.Tuple elts kk tpos) (.Call (.Name "zip" p) [e, e2, e3] [] pos) (iZip3 X.K ta) := by
  refine ⟨fun pins s σ H R I h => ?_⟩
  refine Call_ (ld_blt I hg hm PyProof.Rows.boot_zip (PyProof.Rows.callWith_type1 (thn (ha.run pos pins s σ H _ I h) fun us s1 ⟨vs, H1, I1, r1, q1⟩ => ?_) hs hpl))
  obtain ⟨k1, k2, k3, a, b, d, xs, ys, zs, ex, hqx, hqy, hqz, q⟩ := q1
  subst ex
  cases r1 with
  | cons r rr =>
    cases rr with
    | cons r' rr =>
      cases rr with
      | cons r'' rr =>
        cases rr
        cases r
        cases r'
        cases r''
        obtain ⟨its, rv, p1, la⟩ := inv_sqK I1 hqx
        obtain ⟨its2, rv2, p2, lb⟩ := inv_sqK I1 hqy
        obtain ⟨its3, rv3, p3, ld⟩ := inv_sqK I1 hqz
        refine zip_begins3 (beginsK k1 a its.toArray) (beginsK k2 b its2.toArray) (beginsK k3 d its3.toArray) p1 p2 p3 fun h' hz hTI hTO h1 h2 h3 hsz hk => wpAny_pyIter_zip hz ?_
        have I2 : Inv X pins σ H1 { s1 with heap := h' } := I1.kept (t' := s1.toks) hk
        refine ⟨s1.heap.objs.size + 5, [s1.heap.objs.size + 5, s1.heap.objs.size + 3, s1.heap.objs.size + 4, s1.heap.objs.size, s1.heap.objs.size + 1, s1.heap.objs.size + 2], _, _, H1, rfl, I2,
          turn_zip3 k1 k2 k3 (zip_sep3 (fp1 := [a]) (fp2 := [b]) (fp3 := [d]) (fun c hc => by rw [List.mem_singleton.mp hc]; exact la) (fun c hc => by rw [List.mem_singleton.mp hc]; exact lb) (fun c hc => by rw [List.mem_singleton.mp hc]; exact ld)) (Nat.ne_of_lt la) (Nat.ne_of_lt (Nat.lt_succ_of_lt lb)) (Nat.ne_of_lt (Nat.lt_succ_of_lt (Nat.lt_succ_of_lt ld))), ⟨hz, hTI, ⟨_, _, _, hTO⟩, itO_it h1, itO_it h2, itO_it h3⟩, fun c hcm => ?_, q⟩
        have e' : c = s1.heap.objs.size + 5 ∨ c = s1.heap.objs.size + 3 ∨ c = s1.heap.objs.size + 4 ∨ c = s1.heap.objs.size ∨ c = s1.heap.objs.size + 1 ∨ c = s1.heap.objs.size + 2 := by simpa using hcm
        have hle : s1.heap.objs.size ≤ c := by
          rcases e' with z | z | z | z | z | z
          · rw [z]; exact Nat.le_add_right _ _
          · rw [z]; exact Nat.le_add_right _ _
          · rw [z]; exact Nat.le_add_right _ _
          · rw [z]; exact Nat.le_refl _
          · rw [z]; exact Nat.le_add_right _ _
          · rw [z]; exact Nat.le_add_right _ _
        exact I1.fpOk hle (I1.hok.fresh hle)
end MP

/-! MP5: what is walked; comprehensions -/
namespace MP
open PySem PySem.Spec PyProof.Rows L2
/-- the items of a known list, of a tuple, the signs of a text -/
def itemsD : Vl → Option (List D)
  | .d (.lst ds) => some ds
  | .d (.tup ds) => some ds
  | .d (.str s) => some (s.cps.toList.map fun c => .str ⟨#[c]⟩)
  | _ => none
def seqI (e : Ex) : Li := fun η S => (e η S).bind fun v S1 => match itemsD v with
  | some ds => .ok ds S1
  | none => .stuck
def rangeD (lo : Int) (n : Nat) : List D := (List.range n).map fun (i : Nat) => .int (lo + i)
def rng1 (vs : List Vl) (S : Store) : Res (List D) := match vs with
  | [.d (.int j)] => if -4611686018427387904 ≤ j ∧ j < 4611686018427387904 then .ok (rangeD 0 j.toNat) S else .stuck
  | _ => .stuck
def rngI1 (a : As) : Li := fun η S => (a η S).bind rng1
def zip3D : List D → List D → List D → List D
  | x :: xs, y :: ys, z :: zs => .tup [x, y, z] :: zip3D xs ys zs
  | _, _, _ => []
/-- lists and tuples alone -/
def itemsT : Vl → Option (List D)
  | .d (.lst ds) => some ds
  | .d (.tup ds) => some ds
  | _ => none
def zip3S (vs : List Vl) (S : Store) : Res (List D) := match vs with
  | [x, y, z] => match itemsT x, itemsT y, itemsT z with
    | some xs, some ys, some zs => .ok (zip3D xs ys zs) S
    | _, _, _ => .stuck
  | _ => .stuck
def zipI3 (a : As) : Li := fun η S => (a η S).bind zip3S
theorem L2PI_or {X : Cx} {tg e : Expr} {t1 t2 : TI} (h1 : PI X tg e t1) (h2 : PI X tg e t2) : PI X tg e (fun σ H R => t1 σ H R ∨ t2 σ H R) :=
  ⟨fun pins s σ H R I q => q.elim (h1.run pins s σ H R I) (h2.run pins s σ H R I)⟩
section
variable {X : Cx} {G : GI} {W : WX} {pos : Pos}
theorem RDs.get2 {M : Hp} : ∀ {ds : List D} {vs : List V} {i : Nat} {v : V}, RDs G M ds vs → vs[i]? = some v → ∃ d, ds[i]? = some d ∧ RD G M d v
  | _, _, _, _, .nil, e => by simp at e
  | _, _, 0, _, .cons h _, e => by simp at e; subst e; exact ⟨_, rfl, h⟩
  | _, _, i + 1, v, .cons _ t, e => by
    obtain ⟨d, h1, h2⟩ := t.get2 (i := i) (v := v) (by simpa using e)
    exact ⟨d, by simpa using h1, h2⟩
theorem ok_list {w : Wd} {a : Addr} {vs : List V} {ds : List D} (h : SqL G.K w.M a vs) (r : RDs G w.M ds vs) : ItOk G (Itl G.K a) w.M ds where
  go := fun i w' S H hs hR hi => by
    obtain ⟨v, e, _⟩ := r.get (List.getElem?_eq_getElem hi)
    exact ⟨vs, v, hR.sub.l (hs.l h), e⟩
  yld := fun i w' S H x H' hs hR hi y => by
    obtain ⟨rfl, y⟩ := y
    obtain ⟨d, e1, e2⟩ := r.get2 (y vs (hR.sub.l (hs.l h)))
    exact ⟨d, w', e1, Go.refl _ _, hR, .d (e2.mono hs)⟩
  stop := fun w' S H hs hR => ⟨vs, hR.sub.l (hs.l h), by rw [r.length]; exact Nat.le_refl _⟩
theorem ok_tup {w : Wd} {a : Addr} {vs : List V} {ds : List D} (h : SqT G.K w.M a vs) (r : RDs G w.M ds vs) : ItOk G (Itt G.K a) w.M ds where
  go := fun i w' S H hs hR hi => by
    obtain ⟨v, e, _⟩ := r.get (List.getElem?_eq_getElem hi)
    exact ⟨vs, v, hR.sub.t (hs.t h), e⟩
  yld := fun i w' S H x H' hs hR hi y => by
    obtain ⟨rfl, y⟩ := y
    obtain ⟨d, e1, e2⟩ := r.get2 (y vs (hR.sub.t (hs.t h)))
    exact ⟨d, w', e1, Go.refl _ _, hR, .d (e2.mono hs)⟩
  stop := fun w' S H hs hR => ⟨vs, hR.sub.t (hs.t h), by rw [r.length]; exact Nat.le_refl _⟩
theorem ok_str {M : Hp} (z : Str) : ItOk G (Its z) M (z.cps.toList.map fun c => .str ⟨#[c]⟩) where
  go := fun i w' S H hs hR hi => by simpa [Its] using hi
  yld := fun i w' S H x H' hs hR hi y => by
    obtain ⟨rfl, c, e, rfl⟩ := y
    exact ⟨_, w', by rw [List.getElem?_map, Array.getElem?_toList, e]; rfl, Go.refl _ _, hR, .d (.str _)⟩
  stop := fun w' S H hs hR => by simp [Its]
theorem mi_seq {tg e : Expr} {f : Ex} (hK : X.K = G.K) (h : PE X e (tE G W f)) : PI X tg e (tI G W (seqI f)) := by
  refine (L2PI_or (L2PI_or (pi_list h) (pi_tup h)) (pi_str h)).imp fun σ H R ⟨w, S, η, hR, hE, q⟩ => ?_
  revert q
  unfold seqI
  cases hf : f η S with
  | ok v S1 =>
    intro q
    simp only [Res.bind] at q
    cases v with
    | d x => cases x with
      | lst ds =>
        refine .inl (.inl ⟨w, S, η, hR, hE, ?_⟩)
        rw [hf]
        intro w1 H1 x g hR1 r
        cases r with | d r => cases r with
          | lst s r => rw [hK]; exact ⟨_, rfl, ⟨_, hR1.sub.l (SqL.of s)⟩, q w1 H1 _ g hR1 (ok_list (SqL.of s) r)⟩
      | tup ds =>
        refine .inl (.inr ⟨w, S, η, hR, hE, ?_⟩)
        rw [hf]
        intro w1 H1 x g hR1 r
        cases r with | d r => cases r with
          | tup s r => rw [hK]; exact ⟨_, rfl, ⟨_, hR1.sub.t s.t⟩, q w1 H1 _ g hR1 (ok_tup s.t r)⟩
      | str z =>
        refine .inr ⟨w, S, η, hR, hE, ?_⟩
        rw [hf]
        intro w1 H1 x g hR1 r
        cases r with | d r => cases r with
          | str z => exact ⟨z, rfl, q w1 H1 _ g hR1 (ok_str z)⟩
      | _ => exact q.elim
    | p _ => exact q.elim
    | t _ => exact q.elim
  | exc c S1 =>
    intro q
    refine .inl (.inl ⟨w, S, η, hR, hE, ?_⟩)
    rw [hf]
    exact q
  | stuck => exact fun q => q.elim
theorem ok_range {M : Hp} (lo : Int) (n : Nat) : ItOk G (Itr lo n) M (rangeD lo n) where
  go := fun i w' S H hs hR hi => by simpa [Itr, rangeD] using hi
  yld := fun i w' S H x H' hs hR hi y => by
    obtain ⟨rfl, rfl⟩ := y
    have hi : i < n := by simpa [rangeD] using hi
    exact ⟨_, w', by unfold rangeD; rw [List.getElem?_map, List.getElem?_range hi]; rfl, Go.refl _ _, hR, .d (.int _)⟩
  stop := fun w' S H hs hR => by simp [Itr, rangeD]
theorem int1 {w : Wd} {j : Int} {v : V} (r : RV G w (.d (.int j)) v) : v = .int j := by
  cases r with | d r => cases r with | int => rfl
theorem mi_range1 {tg a : Expr} {f : As} {p : Pos} (hm : X.mg "range" = none) (hg : Gl X "range") (ha : PA X [a] (tA G W f)) (hs : starEach [a] X.env = [(false, eval a X.env)] := by rfl) : PI X tg (.Call (.Name "range" p) [a] [] pos) (tI G W (rngI1 f)) := by
  refine (pi_range1 hg hm ha hs).imp fun σ H R ⟨w, S, η, hR, hE, q⟩ => ⟨w, S, η, hR, hE, Post.thn q fun w1 S1 H1 vs us g hR1 r q1 => ?_⟩
  unfold rng1 at q1
  split at q1
  · rename_i j
    cases r with | cons r rs =>
      cases rs
      cases int1 r
      split at q1
      · rename_i hj
        exact ⟨j, rfl, by omega, by omega, q1 w1 H1 _ (Go.refl _ _) hR1 (ok_range 0 j.toNat)⟩
      · exact q1.elim
  · exact q1.elim
theorem me_kind {w : Wd} {S : Store} {H : Hp} (hR : Rel G w S H) {v : Vl} {x : V} {ds : List D} (e : itemsT v = some ds) (r : RV G w v x) : ∃ k a xs, x = .ref a ∧ SqK k G.K w.M a xs ∧ RDs G w.M ds xs := by
  unfold itemsT at e
  split at e
  · cases e; cases r with | d r => cases r with | lst s r => exact ⟨true, _, _, rfl, SqL.of s, r⟩
  · cases e; cases r with | d r => cases r with | tup s r => exact ⟨false, _, _, rfl, s.t, r⟩
  · cases e
theorem Sub.k {k : Bool} {K : PySem.W.Frag} {M M' : Hp} {a : Addr} {xs : List V} (e : Sub M M') (h : SqK k K M a xs) : SqK k K M' a xs := by
  cases k with
  | true => exact e.l h
  | false => exact e.t h
theorem tup_new {w : Wd} {S : Store} {H : Hp} (hR : Rel G w S H) {p : Addr} {o : Obj} (hp : H p = none) (hd : o.dict = none) {ds : List D} {xs : List V} (r : RDs G w.M ds xs) : Rel G ⟨upd w.M p (.frz o (.tup xs)), w.ρ⟩ S (upd H p (.frz o (.tup xs))) ∧ Go w H ⟨upd w.M p (.frz o (.tup xs)), w.ρ⟩ (upd H p (.frz o (.tup xs))) ∧ RV G ⟨upd w.M p (.frz o (.tup xs)), w.ρ⟩ (.d (.tup ds)) (.ref p) :=
  ⟨hR.fix hp, Go.fix hR hp, .d (.tup (.new hd) (r.mono (Sub.new (hR.sub.free hp))))⟩
theorem zip3D_len : ∀ (xs ys zs : List D), (zip3D xs ys zs).length = min xs.length (min ys.length zs.length)
  | [], _, _ => by simp [zip3D]
  | _ :: _, [], _ => by simp [zip3D]
  | _ :: _, _ :: _, [] => by simp [zip3D]
  | _ :: xs, _ :: ys, _ :: zs => by
    show (zip3D xs ys zs).length + 1 = _
    rw [zip3D_len xs ys zs]
    simp only [List.length_cons]
    omega
theorem zip3D_get : ∀ {xs ys zs : List D} {i : Nat} {x y z : D}, xs[i]? = some x → ys[i]? = some y → zs[i]? = some z → (zip3D xs ys zs)[i]? = some (.tup [x, y, z])
  | [], _, _, _, _, _, _, h, _, _ => by simp at h
  | _ :: _, [], _, _, _, _, _, _, h, _ => by simp at h
  | _ :: _, _ :: _, [], _, _, _, _, _, _, h => by simp at h
  | _ :: xs, _ :: ys, _ :: zs, 0, _, _, _, h1, h2, h3 => by simp at h1 h2 h3; subst h1 h2 h3; rfl
  | _ :: xs, _ :: ys, _ :: zs, i + 1, _, _, _, h1, h2, h3 => zip3D_get (xs := xs) (ys := ys) (zs := zs) (i := i) (by simpa using h1) (by simpa using h2) (by simpa using h3)
theorem ok_zip3 {w : Wd} {k1 k2 k3 : Bool} {a b d : Addr} {vs us ts : List V} {ds es fs : List D} (h : SqK k1 G.K w.M a vs) (r : RDs G w.M ds vs) (h2 : SqK k2 G.K w.M b us) (r2 : RDs G w.M es us) (h3 : SqK k3 G.K w.M d ts) (r3 : RDs G w.M fs ts) : ItOk G (Itz3 k1 k2 k3 G.K a b d) w.M (zip3D ds es fs) where
  go := fun i w' S H hs hR hi => by
    rw [zip3D_len] at hi
    obtain ⟨v, e, _⟩ := r.get (List.getElem?_eq_getElem (show i < ds.length by omega))
    obtain ⟨u, e2, _⟩ := r2.get (List.getElem?_eq_getElem (show i < es.length by omega))
    obtain ⟨t, e3, _⟩ := r3.get (List.getElem?_eq_getElem (show i < fs.length by omega))
    exact ⟨vs, us, ts, v, u, t, hR.sub.k (hs.k h), hR.sub.k (hs.k h2), hR.sub.k (hs.k h3), e, e2, e3⟩
  yld := fun i w' S H x H' hs hR hi y => by
    obtain ⟨T, o, v, u, t, rfl, hT, hd, rfl, y1, y2, y3⟩ := y
    obtain ⟨d, e1, q1⟩ := r.get2 (y1 vs (hR.sub.k (hs.k h)))
    obtain ⟨d2, e2, q2⟩ := r2.get2 (y2 us (hR.sub.k (hs.k h2)))
    obtain ⟨d3, e3, q3⟩ := r3.get2 (y3 ts (hR.sub.k (hs.k h3)))
    obtain ⟨p1, p2, p3⟩ := tup_new hR hT hd (ds := [d, d2, d3]) (.cons (q1.mono hs) (.cons (q2.mono hs) (.cons (q3.mono hs) .nil)))
    exact ⟨_, _, zip3D_get e1 e2 e3, p2, p1, p3⟩
  stop := fun w' S H hs hR => ⟨vs, us, ts, hR.sub.k (hs.k h), hR.sub.k (hs.k h2), hR.sub.k (hs.k h3), by
    rw [zip3D_len, ← r.length, ← r2.length, ← r3.length]
    omega⟩
theorem mi_zip3 {e e2 e3 : Expr} {f : As} {p tpos : Pos} {elts : List Expr} {kk : Nat} (hK : X.K = G.K) (hm : X.mg "zip" = none) (hg : Gl X "zip") (ha : PA X [e, e2, e3] (tA G W f))
    (hs : starEach [e, e2, e3] X.env = (false, eval e X.env) :: starEach [e2, e3] X.env := by rfl) (hpl : (backTo pos (starEach [e2, e3] X.env)).any (·.1) = false := by rfl) : PI X (.Tuple elts kk tpos) (.Call (.Name "zip" p) [e, e2, e3] [] pos) (tI G W (zipI3 f)) := by
  refine (pi_zip3 hg hm ha hs hpl).imp fun σ H R ⟨w, S, η, hR, hE, q⟩ => ⟨w, S, η, hR, hE, Post.thn q fun w1 S1 H1 vs us g hR1 r q1 => ?_⟩
  unfold zip3S at q1
  split at q1
  · split at q1
    · rename_i xs ys zs e1 e2 e3
      cases r with | cons r rs => cases rs with | cons r2 rs => cases rs with | cons r3 rs =>
        cases rs
        obtain ⟨k, a, vs1, rfl, s, r⟩ := me_kind hR1 e1 r
        obtain ⟨k2, a2, vs2, rfl, s2, r2⟩ := me_kind hR1 e2 r2
        obtain ⟨k3, a3, vs3, rfl, s3, r3⟩ := me_kind hR1 e3 r3
        rw [hK]
        exact ⟨k, k2, k3, a, a2, a3, vs1, vs2, vs3, rfl, hR1.sub.k s, hR1.sub.k s2, hR1.sub.k s3, q1 w1 H1 _ (Go.refl _ _) hR1 (ok_zip3 s r s2 r2 s3 r3)⟩
    · exact q1.elim
  · exact q1.elim
end
/-! ### comprehensions -/
def loopC (t : Tg) (c : Te) (e : Ex) (η : En) : List D → Store → Res (List D)
  | [], S => .ok [] S
  | d :: ds, S => match t (.d d) η with
    | none => .stuck
    | some η1 => match c η1 S with
      | .ok true S1 => match e η1 S1 with
        | .ok (.d y) S2 => match loopC t c e η ds S2 with
          | .ok ys S3 => .ok (y :: ys) S3
          | _ => .stuck
        | _ => .stuck
      | .ok false S1 => match loopC t c e η ds S1 with
          | .ok ys S3 => .ok ys S3
          | _ => .stuck
      | _ => .stuck
def yesT : Te := fun _ S => .ok true S
def lcL (t : Tg) (it : Li) (c : Te) (e : Ex) (vs : List Nat) : Li := fun η S => (it η S).bind fun ds S1 => if ds.length ≤ 16777216 then loopC t c e (wipeE vs η) ds S1 else .stuck
theorem loopC_exc (t : Tg) (c : Te) (e : Ex) (η : En) : ∀ (ds : List D) (S : Store) (k : Nat) (S' : Store), loopC t c e η ds S ≠ .exc k S'
  | [], S, k, S', h => by cases h
  | d :: ds, S, k, S', h => by
    unfold loopC at h
    split at h
    · cases h
    · split at h
      · split at h
        · split at h <;> cases h
        · cases h
      · split at h <;> cases h
      · cases h
def delH (H : Hp) (a : Addr) : Hp := fun b => if b = a then none else H b
theorem delH_same {H : Hp} {a : Addr} : delH H a a = none := by unfold delH; rw [if_pos rfl]
theorem delH_ne {H : Hp} {a b : Addr} (h : b ≠ a) : delH H a b = H b := by unfold delH; rw [if_neg h]
theorem upd_del {H : Hp} {a : Addr} {o : HO} (h : H a = some o) : upd (delH H a) a o = H := by
  funext b
  by_cases e : b = a
  · subst e; rw [upd_same, h]
  · rw [upd_ne e, delH_ne e]
section
variable {X : Cx} {G : GI} {W : WX} {pos : Pos}
abbrev W0 : WX := fun _ _ _ _ => False
theorem EnR.wip2 {w : Wd} {η : En} {σ : L2.St} (h : EnR G w η σ) : ∀ (is : List Nat), EnR G w (wipeE is η) (L2.wipe σ is)
  | [] => h
  | i :: is => by
    have h1 := EnR.wip2 h is
    refine ⟨by unfold wipeE L2.wipe; rw [List.length_set, List.length_set]; exact h1.len, fun j u e => ?_⟩
    unfold wipeE at e
    unfold L2.wipe
    by_cases hj : i = j
    · subst hj
      by_cases hi : i < (wipeE is η).length
      · rw [List.getElem?_set_self hi] at e; cases e
      · rw [List.getElem?_eq_none (by simpa using hi)] at e; cases e
    · rw [List.getElem?_set_ne hj] at e ⊢
      exact h1.get j u e
theorem wipe_wipe {σ : L2.St} : ∀ {vs us : List Nat}, (∀ i ∈ us, i ∈ vs) → wipe (wipe σ us) vs = wipe σ vs
  | vs, [], _ => rfl
  | vs, u :: us, h => by
    show wipe ((wipe σ us).set u none) vs = _
    rw [wipe_set (h u (by simp)), wipe_wipe fun i hi => h i (by simp [hi])]
theorem Rel.del {w : Wd} {S : Store} {H : Hp} {p : Addr} (h : Rel G w S H) (hl : G.low p = none) (ht : ∀ ps, H p ≠ some (.tbl ps)) (hm : w.M p = none) (hr : p ∉ w.ρ) : Rel G w S (delH H p) where
  gg := by
    refine ⟨fun q hq => ?_, fun a o e => ?_, fun a ha => ?_, fun a o e => ?_⟩
    · obtain ⟨⟨ps, e, h1, h2⟩, n, m⟩ := h.gg.tab q hq
      exact ⟨⟨ps, by rw [delH_ne (fun z => ht ps (by rw [← z]; exact e))]; exact e, h1, h2⟩, n, m⟩
    · exact h.gg.low a o e
    · rw [delH_ne (fun z => hr (by rw [← z]; exact ha))]; exact h.gg.nt a ha
    · exact h.gg.mt _ _ e
  sub := fun a o e => by rw [delH_ne (fun z => by rw [z, hm] at e; cases e)]; exact h.sub a o e
  len := h.len
  nd := h.nd
  dom := fun a ha => by rw [delH_ne (fun z => hr (by rw [← z]; exact ha))]; exact h.dom a ha
  cel := fun n c a e1 e2 => by
    obtain ⟨h1, r⟩ := h.cel n c a e1 e2
    exact ⟨h1, r.mono (Sub.refl _) (delH_ne (fun z => hr (by rw [← z]; exact List.mem_of_getElem? e2)))⟩
theorem _root_.L2.PTs.imp {ifs : List Expr} {t t' : TT} (h : PTs X ifs t) (hi : ∀ σ H Q, t' σ H Q → t σ H Q) : PTs X ifs t' := ⟨fun pins s σ H Q I q => h.run pins s σ H Q I (hi σ H Q q)⟩
theorem mt_yes : PTs X [] (tT G W yesT) := pts_nil.imp fun _ _ _ h => tT_ok h
theorem mt_one {c : Expr} {f : Te} (h : PT X c (tT G W f)) : PTs X [c] (tT G W f) := pts_one h
/-- [elt for tg in iter if ..] -/
theorem lc_imp {own : List (Str × Nat)} {fi : Li} {is : List Nat} {g : TG} {t : Tg} {fc : Te} {fe : Ex} (ht : TgR G is g t) (his : ∀ i ∈ is, i ∈ own.map (·.2)) {σ : L2.St} {H : Hp} {Q : VK} (hq : tL G W (lcL t fi fc fe (own.map (·.2))) σ H Q) : tLc (tI G W fi) g (tT G W0 fc) (tE G W0 fe) (own.map (·.2)) σ H Q := by
  obtain ⟨w, S, η, hR, hE, h⟩ := hq
  refine ⟨w, S, η, hR, hE, Post.thn h fun w1 S1 H1 ds J g1 hR1 hJ h1 => ?_⟩
  intro D hD
  generalize hv : own.map (·.2) = vs at h1 his ⊢
  split at h1
  · rename_i hz
    cases hl : loopC t fc fe (wipeE vs η) ds S1 with
    | exc c S' =>
      exact (loopC_exc t fc fe _ _ _ _ _ hl).elim
    | stuck => rw [hl] at h1; exact h1.elim
    | ok ys S3 =>
      rw [hl] at h1
      have hD0 : w1.M D = none := hR1.sub.free hD
      refine ⟨fun i m H2 => m = ds.length - i ∧ i ≤ ds.length ∧ ∃ w2 S2 acc ys2 us, loopC t fc fe (wipeE vs η) (ds.drop i) S2 = .ok ys2 S3 ∧ acc ++ ys2 = ys ∧ Rel G w2 S2 H2 ∧ Go w1 H1 w2 (delH H2 D) ∧ Nxt w1 w2 ∧ H2 D = some (.lst us) ∧ RDs G w2.M acc us ∧ D ∉ w2.ρ ∧ w2.M D = none ∧ acc.length ≤ i,
        ⟨ds.length, by simp, Nat.zero_le _, w1, S1, [], ys, [], hl, rfl, hR1.add hD, ?_, Nxt.refl w1, upd_same, .nil, hR1.notin hD, hD0, Nat.zero_le _⟩, ?_⟩
      · refine ⟨Nxt.refl w1, fun a o e hn => ⟨.of ?_, hn, fun z => z⟩⟩
        have hne : a ≠ D := ne_of_none e hD
        rw [delH_ne hne, upd_ne hne]; exact e
      rintro i m H2 ⟨rfl, hi2, w2, S2, acc, ys2, us, e2, ea, hR2, g2, n2, eD, ra, nD, mD, la⟩
      by_cases hlt : i < ds.length
      · refine .inr ⟨hJ.go i w2 S2 H2 n2.m hR2 hlt, fun H3 => ∃ w2 S2 acc ys2 us, loopC t fc fe (wipeE vs η) (ds.drop (i + 1)) S2 = .ok ys2 S3 ∧ acc ++ ys2 = ys ∧ Rel G w2 S2 H3 ∧ Go w1 H1 w2 (delH H3 D) ∧ Nxt w1 w2 ∧ H3 D = some (.lst us) ∧ RDs G w2.M acc us ∧ D ∉ w2.ρ ∧ w2.M D = none ∧ acc.length ≤ i + 1,
          fun H3 h3 => ⟨ds.length - (i + 1), by omega, rfl, hlt, h3⟩, fun x H3 hy => ?_⟩
        obtain ⟨d, w3, ed, g3, hR3, r3⟩ := hJ.yld i w2 S2 H2 x H3 n2.m hR2 hlt hy
        have edr : ds.drop i = d :: ds.drop (i + 1) := by
          obtain ⟨hl, e⟩ := List.getElem?_eq_some_iff.mp ed
          rw [← e]; exact (List.drop_eq_getElem_cons hl)
        rw [edr] at e2
        unfold loopC at e2
        -- the way on from any state behind
        have del : ∀ {w4 : Wd} {H4 : Hp}, Go w2 H2 w4 H4 → Go w1 H1 w4 (delH H4 D) ∧ Nxt w1 w4 ∧ H4 D = some (.lst us) ∧ D ∉ w4.ρ ∧ w4.M D = none := fun {w4 H4} g4 => by
          obtain ⟨a1, a2, a3⟩ := g4.f D _ eD nD
          refine ⟨⟨n2.trans g4.n, fun a o e hn => ?_⟩, n2.trans g4.n, a1.eq (fun _ z => by cases z), a2, a3 mD⟩
          obtain ⟨b1, b2, b3⟩ := g2.f a o e hn
          obtain ⟨o', q⟩ := b1.ex
          have hne : a ≠ D := fun z => by rw [z, delH_same] at q; cases q
          rw [delH_ne hne] at b1 q
          obtain ⟨c1, c2, c3⟩ := g4.f a o' q b2
          exact ⟨by rw [delH_ne hne]; exact b1.thn fun u hu => by rw [q] at hu; cases hu; exact c1, c2, fun z => c3 (b3 z)⟩
        split at e2
        · cases e2
        · rename_i η1 et
          refine ht w3 (wipeE vs η) (L2.wipe σ vs) (.d d) x H3 η1 _ S2 hR3 ((hE.mono (g1.n.trans (n2.trans g3.n))).wip2 vs) r3 et fun σ4 hE4 w4 => ⟨?_, ?_⟩
          · rw [w4 vs his, wipe_wipe fun i hi => hi]
          refine ⟨w3, S2, η1, hR3, hE4, ?_⟩
          split at e2
          · rename_i S4 ec
            rw [ec]
            intro w5 H5 b g5 hR5 eb
            cases eb
            rw [if_pos rfl]
            refine ⟨w5, S4, η1, hR5, hE4.mono g5.n, ?_⟩
            split at e2
            · rename_i y S5 ee
              rw [ee]
              intro w6 H6 v g6 hR6 r6
              obtain ⟨q1, q2, q3, q4, q5⟩ := del (g3.trans (g5.trans g6))
              refine ⟨us, q3, ?_, ?_⟩
              · have := ra.length
                rw [szl]
                omega
              · split at e2
                · rename_i ys3 S6 e6
                  cases e2
                  cases r6 with
                  | d r6 =>
                    have hne : ∀ a, w6.M a ≠ none → a ≠ D := fun a z e => z (by rw [e]; exact q5)
                    refine ⟨w6, S5, acc ++ [y], ys3, us ++ [v], e6, by rw [← ea, List.append_assoc]; rfl, ?_, ?_, q2, upd_same, (ra.mono ((g3.trans (g5.trans g6)).n.m)).app (.cons r6 .nil), q4, q5, by rw [List.length_append]; simp; omega⟩
                    · have h7 := (hR6.del (hR1.lowN hD) (fun _ z => by rw [q3] at z; cases z) q5 q4).add (p := D) (o := .lst (us ++ [v])) delH_same
                      have e7 : upd (delH H6 D) D (.lst (us ++ [v])) = upd H6 D (.lst (us ++ [v])) := by
                        funext b
                        by_cases z : b = D
                        · rw [z, upd_same, upd_same]
                        · rw [upd_ne z, upd_ne z, delH_ne z]
                      rw [e7] at h7
                      exact h7
                    · have : delH (upd H6 D (.lst (us ++ [v]))) D = delH H6 D := by
                        funext b
                        by_cases z : b = D
                        · rw [z, delH_same, delH_same]
                        · rw [delH_ne z, delH_ne z, upd_ne z]
                      rw [this]; exact q1
                · cases e2
            · cases e2
          · rename_i S4 ec
            rw [ec]
            intro w5 H5 b g5 hR5 eb
            cases eb
            rw [if_neg Bool.false_ne_true]
            split at e2
            · rename_i ys3 S6 e6
              cases e2
              obtain ⟨q1, q2, q3, q4, q5⟩ := del (g3.trans g5)
              exact ⟨w5, S4, acc, ys2, us, e6, ea, hR5, q1, q2, q3, ra.mono ((g3.trans g5).n.m), q4, q5, by omega⟩
            · cases e2
          · cases e2
      · have ei : i = ds.length := by omega
        subst ei
        rw [List.drop_eq_nil_of_le (Nat.le_refl _)] at e2
        have e2 : Res.ok [] S2 = Res.ok ys2 S3 := e2
        injection e2 with e2a e2b
        subst e2a e2b
        refine .inl ⟨hJ.stop w2 S2 H2 n2.m hR2, ?_⟩
        rw [List.append_nil] at ea
        subst ea
        have := h1 w2 (delH H2 D) (D, us) g2 (hR2.del (hR1.lowN hD) (fun _ z => by rw [eD] at z; cases z) mD nD) ⟨delH_same, ra⟩
        have e3 : upd (delH H2 D) D (.lst us) = H2 := upd_del eD
        simp only [qL] at this
        rw [e3] at this
        exact this
  · exact h1.elim
theorem ml_lc {elt tg iter : Expr} {ifs : List Expr} {scope : Scope} {own : List (Str × Nat)} {fi : Li} {is : List Nat} {g : TG} {t : Tg} {fc : Te} {fe : Ex} (hc : X.calm = true) (hN : X.N.Nodup) (hi : PI X tg iter (tI G W fi)) (ok : BlkOk X.N X.env.scope scope own) (ht : TgR G is g t) (his : ∀ i ∈ is, i ∈ own.map (·.2))
    (hg : ∀ (s : Shared) (H : Hp) (C : Addr) (cl : List (Str × Addr)) (fp : List Addr), PG (X.blk s H scope (compEnvC scope cl C X.env) fp) tg g) (htt : ∀ (s : Shared) (H : Hp) (C : Addr) (cl : List (Str × Addr)) (fp : List Addr), PTs (X.blk s H scope (compEnvC scope cl C X.env) fp) ifs (tT G W0 fc))
    (he : ∀ (s : Shared) (H : Hp) (C : Addr) (cl : List (Str × Addr)) (fp : List Addr), PE (X.blk s H scope (compEnvC scope cl C X.env) fp) elt (tE G W0 fe)) (hs : ∀ x, foldedSetIterable iter X.env x = pure x := by intro _; rfl) :
    PE X (.ListComp elt [⟨tg, iter, ifs, 0⟩] scope pos) (tL G W (lcL t fi fc fe (own.map (·.2)))) :=
  (pe_lc hc hN hi ok hg htt he hs).imp fun σ H Q h => lc_imp ht his h
theorem asg_imp {n0 i : Nat} {f : Ex} {D σ H} (h : tS G W n0 (asg i f) D σ H) : tAsg (tE G W f) (gName i) D σ H := by
  obtain ⟨w, S, η, hR, hE, hn, h⟩ := h
  exact ⟨w, S, η, hR, hE, PostS.ex hE hn h fun w1 S1 H1 v x n hR1 r h1 => h1 w1 H1 _ (Gs.refl n0 w1 H1) hR1 ((hE.mono n.n).set i r)⟩
theorem frz_imp {f : Li} (σ H Q) : tE G W (frz f) σ H Q → tL G W f σ H Q := fun ⟨w, S, η, hR, hE, h⟩ => ⟨w, S, η, hR, hE, Post.thn h fun w1 S1 H1 ds pv n hR1 ⟨e1, r⟩ h2 =>
    h2 ⟨upd w1.M pv.1 (.lst pv.2), w1.ρ⟩ _ _ (Go.fix hR1 e1) (hR1.fix e1) (.d (.lst upd_same (r.mono (Sub.new (hR1.sub.free e1)))))⟩
theorem ms_lc0 {i : Nat} {y : Str} {py spos : Pos} {n0 : Nat} {fL : Li → Ex} {elt tg iter : Expr} {ifs : List Expr} {scope : Scope} {own : List (Str × Nat)} {fi : Li} {is : List Nat} {g : TG} {t : Tg} {fc : Te} {fe : Ex} (hF : ∀ l σ H Q, tE G W (fL l) σ H Q → tL G W l σ H Q) (hc : X.calm = true) (hN : X.N.Nodup) (hi : PI X tg iter (tI G W fi)) (ok : BlkOk X.N X.env.scope scope own) (ht : TgR G is g t) (his : ∀ i ∈ is, i ∈ own.map (·.2))
    (hg : ∀ (s : Shared) (H : Hp) (C : Addr) (cl : List (Str × Addr)) (fp : List Addr), PG (X.blk s H scope (compEnvC scope cl C X.env) fp) tg g) (htt : ∀ (s : Shared) (H : Hp) (C : Addr) (cl : List (Str × Addr)) (fp : List Addr), PTs (X.blk s H scope (compEnvC scope cl C X.env) fp) ifs (tT G W0 fc))
    (he : ∀ (s : Shared) (H : Hp) (C : Addr) (cl : List (Str × Addr)) (fp : List Addr), PE (X.blk s H scope (compEnvC scope cl C X.env) fp) elt (tE G W0 fe)) (hs : ∀ x, foldedSetIterable iter X.env x = pure x := by intro _; rfl) (hy : X.N[i]? = some y := by rfl) (hyl : X.env.scope.names.lookup y = some .local := by rfl)
    (hsw : swapsWith (.ListComp elt [⟨tg, iter, ifs, 0⟩] scope pos) (some (.Name y py)) spos.line X.env = pure true := by rfl) :
    PS X (.Assign [.Name y py] (.ListComp elt [⟨tg, iter, ifs, 0⟩] scope pos) spos) (tS G W n0 (asg i (fL (lcL t fi fc fe (own.map (·.2)))))) :=
  (ps_setLc hc hN hy hyl hsw hi ok hg htt he hs).imp fun D σ H h => lc_imp ht his (hF _ _ _ _ (asg_imp h))

end
end MP

/-! MP6: operations, built-ins -/
namespace MP
open PySem PySem.Spec PyProof.Rows L2
mutual
def rd (S : Store) : Vl → Option D
  | .d x => some x
  | .p k => match S.L[k]? with
    | some (some (.l ds)) => some (.lst ds)
    | _ => none
  | .t xs => (rds S xs).map .tup
def rds (S : Store) : List Vl → Option (List D)
  | [] => some []
  | x :: xs => match rd S x, rds S xs with
    | some d, some ds => some (d :: ds)
    | _, _ => none
end
mutual
def toPy : D → PyData
  | .non => .none
  | .bl b => .bool b
  | .int i => .int i
  | .str s => .str s
  | .tup xs => .tuple (toPys xs)
  | .lst xs => .list (toPys xs)
  | .obj _ _ _ => .dict []
  | .err _ => .dict []
  | .dct _ _ => .dict []
  | .scr _ => .dict []
  | .fn _ => .dict []
def toPys : List D → List PyData
  | [] => []
  | x :: xs => toPy x :: toPys xs
end
mutual
def eqvD : D → D → Bool
  | .non, .non => true
  | .bl a, .bl b => a == b
  | .bl a, .int j => (if a then 1 else 0) == j
  | .int i, .bl b => i == (if b then 1 else 0)
  | .int i, .int j => i == j
  | .str a, .str b => a == b
  | .tup a, .tup b => eqvDs a b
  | .lst a, .lst b => eqvDs a b
  | _, _ => false
def eqvDs : List D → List D → Bool
  | [], [] => true
  | x :: xs, y :: ys => eqvD x y && eqvDs xs ys
  | _, _ => false
end
def okD : Nat → D → Bool
  | 0, d => match d with
    | .non => true
    | .bl _ => true
    | .int _ => true
    | .str s => PyData.strOk s
    | _ => false
  | n + 1, d => match d with
    | .non => true
    | .bl _ => true
    | .int _ => true
    | .str s => PyData.strOk s
    | .tup xs => xs.all (okD n)
    | .lst xs => xs.all (okD n)
    | _ => false
def flatD : D → Bool
  | .non => true
  | .bl _ => true
  | .int _ => true
  | .str _ => true
  | _ => false
/-- the items of a list, known or a cell; of a list or tuple -/
def seqL (S : Store) : Vl → Option (List D)
  | .d (.lst ds) => some ds
  | .p k => match S.L[k]? with
    | some (some (.l ds)) => some ds
    | _ => none
  | _ => none
def seqV (S : Store) : Vl → Option (List D)
  | .d (.tup ds) => some ds
  | v => seqL S v
mutual
theorem eqv_toPy : ∀ a b : D, PyData.eqv (toPy a) (toPy b) = eqvD a b
  | .tup a, .tup b => by simp only [toPy, PyData.eqv, eqvD]; exact eqv_toPys a b
  | .lst a, .lst b => by simp only [toPy, PyData.eqv, eqvD]; exact eqv_toPys a b
  | .non, b => by cases b <;> simp only [toPy, PyData.eqv, eqvD]
  | .bl _, b => by cases b <;> simp only [toPy, PyData.eqv, eqvD]
  | .int _, b => by cases b <;> simp only [toPy, PyData.eqv, eqvD]
  | .str _, b => by cases b <;> simp only [toPy, PyData.eqv, eqvD]
  | .obj _ _ _, b => by cases b <;> simp only [toPy, PyData.eqv, eqvD]
  | .err _, b => by cases b <;> simp only [toPy, PyData.eqv, eqvD]
  | .dct _ _, b => by cases b <;> simp only [toPy, PyData.eqv, eqvD]
  | .scr _, b => by cases b <;> simp only [toPy, PyData.eqv, eqvD]
  | .fn _, b => by cases b <;> simp only [toPy, PyData.eqv, eqvD]
  | .tup _, .non => by simp only [toPy, PyData.eqv, eqvD]
  | .tup _, .bl _ => by simp only [toPy, PyData.eqv, eqvD]
  | .tup _, .int _ => by simp only [toPy, PyData.eqv, eqvD]
  | .tup _, .str _ => by simp only [toPy, PyData.eqv, eqvD]
  | .tup _, .lst _ => by simp only [toPy, PyData.eqv, eqvD]
  | .tup _, .obj _ _ _ => by simp only [toPy, PyData.eqv, eqvD]
  | .tup _, .err _ => by simp only [toPy, PyData.eqv, eqvD]
  | .tup _, .dct _ _ => by simp only [toPy, PyData.eqv, eqvD]
  | .tup _, .scr _ => by simp only [toPy, PyData.eqv, eqvD]
  | .tup _, .fn _ => by simp only [toPy, PyData.eqv, eqvD]
  | .lst _, .non => by simp only [toPy, PyData.eqv, eqvD]
  | .lst _, .bl _ => by simp only [toPy, PyData.eqv, eqvD]
  | .lst _, .int _ => by simp only [toPy, PyData.eqv, eqvD]
  | .lst _, .str _ => by simp only [toPy, PyData.eqv, eqvD]
  | .lst _, .tup _ => by simp only [toPy, PyData.eqv, eqvD]
  | .lst _, .obj _ _ _ => by simp only [toPy, PyData.eqv, eqvD]
  | .lst _, .err _ => by simp only [toPy, PyData.eqv, eqvD]
  | .lst _, .dct _ _ => by simp only [toPy, PyData.eqv, eqvD]
  | .lst _, .scr _ => by simp only [toPy, PyData.eqv, eqvD]
  | .lst _, .fn _ => by simp only [toPy, PyData.eqv, eqvD]
theorem eqv_toPys : ∀ a b : List D, PyData.eqvAll (toPys a) (toPys b) = eqvDs a b
  | [], [] => by simp only [toPys, PyData.eqvAll, eqvDs]
  | [], _ :: _ => by simp only [toPys, PyData.eqvAll, eqvDs]
  | _ :: _, [] => by simp only [toPys, PyData.eqvAll, eqvDs]
  | x :: xs, y :: ys => by simp only [toPys, PyData.eqvAll, eqvDs]; rw [eqv_toPy x y, eqv_toPys xs ys]
end
theorem toPys_map (ds : List D) : toPys ds = ds.map toPy := by
  induction ds with
  | nil => rfl
  | cons d ds ih => unfold toPys; rw [ih]; rfl
theorem okD_lay : ∀ (n : Nat) (d : D), okD n d = true → (toPy d).canLay0 = true ∧ (toPy d).depth ≤ n
  | 0, d, h => by cases d <;> simp [okD, toPy, PyData.canLay0, PyData.depth] at h ⊢ <;> assumption
  | n + 1, d, h => by
    have all : ∀ xs : List D, xs.all (okD n) = true → PyData.canLayAll0 (toPys xs) = true ∧ PyData.depthAll (toPys xs) ≤ n := by
      intro xs
      induction xs with
      | nil => intro _; simp [toPys, PyData.canLayAll0, PyData.depthAll]
      | cons x xs ih =>
        intro h
        rw [List.all_cons, Bool.and_eq_true] at h
        obtain ⟨h1, h2⟩ := okD_lay n x h.1
        obtain ⟨h3, h4⟩ := ih h.2
        simp only [toPys, PyData.canLayAll0, PyData.depthAll, h1, h3, Bool.and_self, true_and]
        omega
    cases d with
    | tup xs =>
      obtain ⟨h1, h2⟩ := all xs (by simpa [okD] using h)
      simp only [toPy, PyData.canLay0, PyData.depth, h1, true_and]; omega
    | lst xs =>
      obtain ⟨h1, h2⟩ := all xs (by simpa [okD] using h)
      simp only [toPy, PyData.canLay0, PyData.depth, h1, true_and]; omega
    | _ => simp [okD, toPy, PyData.canLay0, PyData.depth] at h ⊢ <;> assumption
theorem okD_shaped {n : Nat} {d : D} (hn : n ≤ 64) (h : okD n d = true) : SeqAt.shaped (toPy d) = true := by
  obtain ⟨h1, h2⟩ := okD_lay n d h
  unfold SeqAt.shaped
  rw [h1, decide_eq_true (by omega)] <;> rfl
section
variable {G : GI} {w : Wd} {S : Store} {H : Hp}
mutual
theorem rd_ok (h : Rel G w S H) : ∀ {v : Vl} {x : V} {d : D}, rd S v = some d → RV G w v x → RD G H d x
  | .d x, _, _, e, .d r => by unfold rd at e; cases e; exact r.mono h.sub
  | .p k, _, _, e, .p r => by
    unfold rd at e
    split at e
    · rename_i ds q
      cases e
      obtain ⟨h1, vs, e3, rr⟩ := h.cel k (.l ds) _ q r
      exact .lst e3 (rr.mono h.sub)
    · cases e
  | .t xs, _, _, e, .t s r => by
    unfold rd at e
    cases q : rds S xs with
    | none => rw [q] at e; cases e
    | some ds => rw [q] at e; cases e; exact .tup (s.mono h.sub) (rds_ok h q r)
theorem rds_ok (h : Rel G w S H) : ∀ {v : List Vl} {x : List V} {d : List D}, rds S v = some d → RVs G w v x → RDs G H d x
  | [], _, _, e, .nil => by unfold rds at e; cases e; exact .nil
  | v :: vs, _, _, e, .cons r rs => by
    unfold rds at e
    split at e
    · rename_i d ds q1 q2
      cases e
      exact .cons (rd_ok h q1 r) (rds_ok h q2 rs)
    · cases e
end
theorem seqL_ok (h : Rel G w S H) {v : Vl} {x : V} {ds : List D} (e : seqL S v = some ds) (r : RV G w v x) : ∃ a vs, x = .ref a ∧ H a = some (.lst vs) ∧ RDs G w.M ds vs := by
  cases r with
  | d r => cases r with
    | lst s r => cases e; exact ⟨_, _, rfl, h.sub _ _ s, r⟩
    | _ => cases e
  | t _ _ => cases e
  | p r =>
    rename_i k a
    unfold seqL at e
    cases q : S.L[k]? with
    | none => simp [q] at e
    | some o => cases o with
      | none => simp [q] at e
      | some c => cases c with
        | l ds' =>
          simp [q] at e
          subst e
          obtain ⟨h1, vs, e3, rr⟩ := h.cel k _ _ q r
          exact ⟨_, vs, rfl, e3, rr⟩
        | _ => simp [q] at e
theorem seqV_ok (h : Rel G w S H) {v : Vl} {x : V} {ds : List D} (e : seqV S v = some ds) (r : RV G w v x) : ∃ a vs, x = .ref a ∧ (SqL G.K H a vs ∨ SqT G.K H a vs) ∧ RDs G w.M ds vs := by
  unfold seqV at e
  split at e
  · cases e; cases r with | d r => cases r with | tup s r => exact ⟨_, _, rfl, .inr (h.sub.t s.t), r⟩
  · obtain ⟨a, vs, h1, h2, h3⟩ := seqL_ok h e r
    exact ⟨a, vs, h1, .inl (SqL.of h2), h3⟩
mutual
theorem RD.dp : ∀ {n : Nat} {d : D} {x : V}, RD G H d x → okD n d = true → Dp G.K H x (toPy d)
  | _, _, _, .non, _ => .non
  | _, _, _, .bl b, _ => .bl b
  | _, _, _, .int b, _ => .int b
  | _, _, _, .str b, _ => .str b
  | 0, _, _, .tup _ _, h => by cases h
  | 0, _, _, .lst _ _, h => by cases h
  | n + 1, _, _, .tup s r, h => .tup s.t (RDs.dp (n := n) r (by simpa [okD] using h))
  | n + 1, _, _, .lst s r, h => .lst (SqL.of s) (RDs.dp (n := n) r (by simpa [okD] using h))
  | 0, _, _, .obj _ _ _ _, h => by cases h
  | n + 1, _, _, .obj _ _ _ _, h => by cases h
  | 0, _, _, .scr _, h => by cases h
  | n + 1, _, _, .scr _, h => by cases h
  | 0, _, _, .fn _, h => by cases h
  | n + 1, _, _, .fn _, h => by cases h
  | 0, _, _, .err _, h => by cases h
  | n + 1, _, _, .err _, h => by cases h
  | 0, _, _, .dct _ _ _ _, h => by cases h
  | n + 1, _, _, .dct _ _ _ _, h => by cases h
theorem RDs.dp : ∀ {n : Nat} {d : List D} {x : List V}, RDs G H d x → (∀ y ∈ d, okD n y = true) → DpAll G.K H x (toPys d)
  | _, _, _, .nil, _ => .nil
  | _, _, _, .cons r rs, h => .cons (RD.dp r (h _ (by simp))) (RDs.dp rs fun y hy => h y (by simp [hy]))
end
end
/-! ### comparisons -/
def oEq (neg : Bool) (x y : Vl) (S : Store) : Res Vl := match rd S x, rd S y with
  | some a, some b => if (okD 60 a && okD 60 b) = true then .ok (.d (.bl (if neg then !eqvD a b else eqvD a b))) S else .stuck
  | _, _ => .stuck
def cmpI (f : Int → Int → Bool) (x y : Vl) (S : Store) : Res Vl := match x, y with
  | .d (.int a), .d (.int b) => .ok (.d (.bl (f a b))) S
  | _, _ => .stuck
abbrev oGt := cmpI fun a b => decide (b < a)
def intsD : List D → Option (List Int)
  | [] => some []
  | .int i :: r => (intsD r).map (i :: ·)
  | _ :: _ => none
/-- ints; tuples of ints -/
def oLt (x y : Vl) (S : Store) : Res Vl := match x, y with
  | .d (.int a), .d (.int b) => .ok (.d (.bl (decide (a < b)))) S
  | .d (.tup a), .d (.tup b) => match intsD a, intsD b with
    | some ns, some ms => .ok (.d (.bl (HT.lexLt ns ms))) S
    | _, _ => .stuck
  | _, _ => .stuck
def oIn (neg : Bool) (x y : Vl) (S : Store) : Res Vl := match y with
  | .d (.tup ds) => match x with
    | .d a => if (flatD a && ds.all flatD) = true then .ok (.d (.bl (if neg then !ds.any (fun z => eqvD z a) else ds.any (fun z => eqvD z a)))) S else .stuck
    | _ => .stuck
  | .d (.str b) => match x with
    | .d (.str a) => .ok (.d (.bl (if neg then !(!(Builtin.Str.occurrences b a 0 b.length 1).isEmpty) else !(Builtin.Str.occurrences b a 0 b.length 1).isEmpty))) S
    | _ => .stuck
  | y => match rd S x, seqL S y with
    | some a, some ds => if (okD 60 a && okD 60 (.lst ds)) = true then .ok (.d (.bl (if neg then !ds.any (fun z => eqvD z a) else ds.any (fun z => eqvD z a)))) S else .stuck
    | _, _ => .stuck
/-! ### arithmetic -/
def oAdd (x y : Vl) (S : Store) : Res Vl := match x, y with
  | .d (.scr ns), .d (.lst b) => if ns.length + b.length ≤ 16777216 then .ok (.d (.lst (ns.map .int ++ b))) S else .stuck
  | .d (.int a), .d (.int b) => .ok (.d (.int (a + b))) S
  | .d (.str a), .d (.str b) => if a.length + b.length ≤ 16777216 then .ok (.d (.str (a ++ b))) S else .stuck
  | .d (.tup a), .d (.tup b) => if a.length + b.length ≤ 16777216 then .ok (.d (.tup (a ++ b))) S else .stuck
  | x, y => match seqL S x, seqL S y with
    | some a, some b => if a.length + b.length ≤ 16777216 then .ok (.d (.lst (a ++ b))) S else .stuck
    | _, _ => .stuck
def arI (c : Int → Int → Bool) (f : Int → Int → Int) (x y : Vl) (S : Store) : Res Vl := match x, y with
  | .d (.int a), .d (.int b) => if c a b = true then .ok (.d (.int (f a b))) S else .stuck
  | _, _ => .stuck
abbrev oSub := arI (fun _ _ => true) fun a b => a - b
def mulOk (a b : Int) : Bool := decide ((-18446744073709551616 < a ∧ a < 18446744073709551616) ∨ (-18446744073709551616 < b ∧ b < 18446744073709551616))
abbrev oMod := arI (fun _ b => decide (0 < b)) fun a b => a % b
abbrev oDiv := arI (fun _ b => decide (0 < b ∧ b < 1073741824)) fun a b => a / b
abbrev oPow := arI (fun a b => decide (0 ≤ b ∧ (Builtin.Int.intBits a : Int) * b ≤ 134217728)) fun a b => a ^ b.toNat
/-- ints; a list times an int -/
def oMul (x y : Vl) (S : Store) : Res Vl := match x, y with
  | .d (.int a), .d (.int b) => if mulOk a b = true then .ok (.d (.int (a * b))) S else .stuck
  | x, .d (.int k) => match seqL S x with
    | some ds => if -1048576 ≤ k ∧ k ≤ 1048576 ∧ ds.length * k.toNat ≤ 16777216 then .ok (.d (.lst (List.replicate k.toNat ds).flatten)) S else .stuck
    | none => .stuck
  | _, _ => .stuck
/-! ### places -/
def oIx (x y : Vl) (S : Store) : Res Vl := match y with
  | .d (.int i) => match x with
    | .d (.str z) => if z.length ≤ 16777216 then (match atI z.cps.toList i with
      | some c => .ok (.d (.str ⟨#[c]⟩)) S
      | none => .stuck) else .stuck
    | .t xs => match atI xs i with
      | some v => .ok v S
      | none => .stuck
    | x => match seqV S x with
      | some ds => match atI ds i with
        | some d => .ok (.d d) S
        | none => .stuck
      | none => .stuck
  | _ => .stuck
/-! ### the operations keep what they say -/
section
variable {X : Cx} {G : GI} {W : WX} {pos : Pos}
theorem oEq_s (hK : X.K = G.K) {neg : Bool} : OpS G (if neg then rNeD X.K else rEqD X.K) (oEq neg) := fun w S H x y v u Q hR rx ry h => by
  unfold oEq at h
  split at h
  · rename_i a b ea eb
    split at h
    · rename_i hk
      rw [Bool.and_eq_true] at hk
      rw [hK]
      have d1 := (rd_ok hR ea rx).dp hk.1
      have d2 := (rd_ok hR eb ry).dp hk.2
      have s1 := okD_shaped (by decide) hk.1
      have s2 := okD_shaped (by decide) hk.2
      cases neg with
      | true => exact ⟨_, _, d1, d2, s1, s2, by rw [eqv_toPy]; exact ok1 h hR (.d (.bl _))⟩
      | false => exact ⟨_, _, d1, d2, s1, s2, by rw [eqv_toPy]; exact ok1 h hR (.d (.bl _))⟩
    · exact h.elim
  · exact h.elim
theorem cmpI_s {f : Int → Int → Bool} : OpS G (rI0 fun i j => .bl (f i j)) (cmpI f) := fun w S H x y v u Q hR rx ry h => by
  unfold cmpI at h
  split at h
  · cases int1 rx; cases int1 ry
    exact ⟨_, _, rfl, rfl, ok1 h hR (.d (.bl _))⟩
  · exact h.elim
theorem intsD_ok {M : Hp} : ∀ {ds : List D} {ns : List Int} {vs : List V}, intsD ds = some ns → RDs G M ds vs → vs = ns.map V.int
  | [], _, _, e, .nil => by cases e; rfl
  | .int i :: r, ns, _, e, .cons h t => by
    unfold intsD at e
    cases q : intsD r with
    | none => rw [q] at e; cases e
    | some ms =>
      rw [q] at e; cases e
      cases h
      rw [intsD_ok q t]; rfl
  | .non :: _, _, _, e, _ => by cases e
  | .bl _ :: _, _, _, e, _ => by cases e
  | .str _ :: _, _, _, e, _ => by cases e
  | .tup _ :: _, _, _, e, _ => by cases e
  | .lst _ :: _, _, _, e, _ => by cases e
  | .obj _ _ _ :: _, _, _, e, _ => by cases e
  | .err _ :: _, _, _, e, _ => by cases e
  | .dct _ _ :: _, _, _, e, _ => by cases e
  | .scr _ :: _, _, _, e, _ => by cases e
  | .fn _ :: _, _, _, e, _ => by cases e
def rLt (K : PySem.W.Frag) : R2 := fun x y H Q => (rI0 fun i j => .bl (decide (i < j))) x y H Q ∨ rLtT K x y H Q
theorem op_lt2 (hu : X.A.units < cLine) : OpR X (compareOp .Lt) (rLt X.K) := op_lt.or (op_ltT hu)
theorem oLt_s (hK : X.K = G.K) : OpS G (rLt X.K) oLt := fun w S H x y v u Q hR rx ry h => by
  unfold oLt at h
  split at h
  · cases int1 rx; cases int1 ry
    exact .inl ⟨_, _, rfl, rfl, ok1 h hR (.d (.bl _))⟩
  · split at h
    · rename_i ns ms e1 e2
      cases rx with | d rx => cases rx with | tup s1 r1 => cases ry with | d ry => cases ry with | tup s2 r2 =>
        rw [hK]
        have q1 := intsD_ok e1 r1
        have q2 := intsD_ok e2 r2
        subst q1 q2
        exact .inr ⟨_, _, ns, ms, rfl, rfl, hR.sub.t s1.t, hR.sub.t s2.t, ok1 h hR (.d (.bl _))⟩
    · exact h.elim
  · exact h.elim
theorem flat_ok {M : Hp} {d : D} {v : V} (h : flatD d = true) (r : RD G M d v) : flatV v = true := by
  cases r <;> first | rfl | cases h
theorem flats_ok {M : Hp} : ∀ {ds : List D} {vs : List V}, ds.all flatD = true → RDs G M ds vs → vs.all flatV = true
  | [], _, _, .nil => rfl
  | d :: ds, _, h, .cons r t => by
    rw [List.all_cons, Bool.and_eq_true] at h ⊢
    exact ⟨flat_ok h.1 r, flats_ok h.2 t⟩
theorem eqV_ok {M : Hp} {a b : D} {v u : V} (ha : flatD a = true) (hb : flatD b = true) (r : RD G M a v) (s : RD G M b u) : eqV v u = eqvD a b := by
  cases r <;> first | (cases ha; done) | skip
  all_goals (cases s <;> first | (cases hb; done) | (simp only [eqV, eqvD]))
theorem inV_ok {M : Hp} {a : D} {u : V} (ha : flatD a = true) (s : RD G M a u) : ∀ {ds : List D} {vs : List V}, ds.all flatD = true → RDs G M ds vs → inV u vs = ds.any fun z => eqvD z a
  | [], _, _, .nil => rfl
  | d :: ds, _, h, .cons r t => by
    rw [List.all_cons, Bool.and_eq_true] at h
    unfold inV
    rw [List.any_cons, List.any_cons, eqV_ok h.1 ha r s]
    have := inV_ok ha s h.2 t
    unfold inV at this
    rw [this]
theorem any_toPy (a : D) (ds : List D) : ((toPys ds).any fun z => PyData.eqv z (toPy a)) = ds.any fun z => eqvD z a := by
  induction ds with
  | nil => rfl
  | cons d ds ih => unfold toPys; rw [List.any_cons, List.any_cons, ih, eqv_toPy]
def rInS2 (neg : Bool) : R2 := fun x y H Q => ∃ i j, x = .str i ∧ y = .str j ∧ Q (.bl (if neg then !(!(Builtin.Str.occurrences j i 0 j.length 1).isEmpty) else !(Builtin.Str.occurrences j i 0 j.length 1).isEmpty)) H
def rInA (K : PySem.W.Frag) (neg : Bool) : R2 := fun x y H Q => ((if neg then rNotInD K else rInD K) x y H Q ∨ rIn K neg x y H Q) ∨ rInS2 neg x y H Q
theorem op_inA (hu : X.A.units + 65 < cLine) : OpR X (compareOp .In) (rInA X.K false) := ((op_inD hu).or op_in_seq).or op_in_str
theorem op_notInA (hu : X.A.units + 65 < cLine) : OpR X (compareOp .NotIn) (rInA X.K true) := ((op_notInD hu).or op_notIn_seq).or op_notIn_str
theorem oIn_s (hK : X.K = G.K) {neg : Bool} : OpS G (rInA X.K neg) (oIn neg) := fun w S H x y v u Q hR rx ry h => by
  unfold oIn at h
  rw [hK]
  split at h
  · rename_i ds
    split at h
    · rename_i a
      split at h
      · rename_i hk
        rw [Bool.and_eq_true] at hk
        cases ry with | d ry => cases ry with | tup s r => cases rx with | d rx =>
          refine .inl (.inr ⟨_, _, rfl, .inr (hR.sub.t s.t), flat_ok hk.1 rx, flats_ok hk.2 r, ?_⟩)
          rw [inV_ok hk.1 rx hk.2 r]
          exact ok1 h hR (.d (.bl _))
      · exact h.elim
    · exact h.elim
  · split at h
    · cases rx with | d rx => cases rx with | str a => cases ry with | d ry => cases ry with | str b =>
        exact .inr ⟨_, _, rfl, rfl, ok1 h hR (.d (.bl _))⟩
    · exact h.elim
  · split at h
    · rename_i a ds ea eb
      split at h
      · rename_i hk
        rw [Bool.and_eq_true] at hk
        obtain ⟨p, vs, rfl, s, r⟩ := seqL_ok hR eb ry
        have d1 := (rd_ok hR ea rx).dp hk.1
        have hk2 : ∀ y ∈ ds, okD 59 y = true := by simpa [okD] using hk.2
        have d2 : Dp G.K H (.ref p) (.list (toPys ds)) := .lst (SqL.of s) (RDs.dp (r.mono hR.sub) hk2)
        have s1 := okD_shaped (by decide) hk.1
        have s2 : SeqAt.shaped (.list (toPys ds)) = true := okD_shaped (d := .lst ds) (by decide) hk.2
        refine .inl (.inl ?_)
        cases neg with
        | true => exact ⟨_, _, d1, d2, s1, s2, by rw [any_toPy]; exact ok1 h hR (.d (.bl _))⟩
        | false => exact ⟨_, _, d1, d2, s1, s2, by rw [any_toPy]; exact ok1 h hR (.d (.bl _))⟩
      · exact h.elim
    · exact h.elim
theorem RDs.ints {M : Hp} : ∀ (ns : List Int), RDs G M (ns.map .int) (ns.map V.int)
  | [] => .nil
  | n :: ns => .cons (.int n) (RDs.ints ns)
/-- list + list, where one may be locked -/
def rCatR (K : PySem.W.Frag) : R2 := fun x y H Q => ∃ l b xs zs, x = .ref l ∧ y = .ref b ∧ SqL K H l xs ∧ SqL K H b zs ∧ xs.length + zs.length ≤ sizeLine ∧ ∀ p, H p = none → Q (.ref p) (upd H p (.lst (xs ++ zs)))
theorem op_catR : OpR X (binaryOp .Add) (rCatR X.K) := by
  intro pins s σ H x y v u Q I rx ry h
  obtain ⟨l, b, xs, zs, rfl, rfl, hH, hB, hz, q⟩ := h
  cases rx
  cases ry
  obtain ⟨its, r, ht, z⟩ := I.list hH
  obtain ⟨its2, r2, ht2, z2⟩ := I.list hB
  have hl := r.length
  have hl2 := r2.length
  obtain ⟨⟨cls, dd, data, sl⟩, ho, hc, n, hd⟩ := ht.isList
  obtain ⟨⟨cls2, dd2, data2, sl2⟩, ho2, hc2, n2, hd2⟩ := ht2.isList
  simp only at hc hd hc2 hd2
  subst hc hd hc2 hd2
  have ea : its.toArray ++ its2.toArray = (its ++ its2).toArray := by simp
  refine concat_meets ⟨_, ho, rfl⟩ ⟨_, ho2, rfl⟩ noFill_list_add seq_list_add PySem.F.slot_list_add PySem.F.entry_list_add (PySem.F.args_list_add_2 _ _) (list_addW l b its.toArray its2.toArray n n2 dd dd2 sl sl2 (by rw [List.size_toArray, List.size_toArray]; omega)) ⟨ho, ho2, ?_⟩
  rw [ea]
  exact ⟨.ref _, _, I.lnew (t' := s.toks) (r.append r2) (by rw [List.length_append]; omega), rfl, q _ I.fresh⟩
def rAddA (K : PySem.W.Frag) : R2 := fun x y H Q => (((rI0 fun i j => .int (i + j)) x y H Q ∨ (fun x y H Q => ∃ i j, x = .str i ∧ y = .str j ∧ i.length + j.length ≤ sizeLine ∧ Q (.str (i ++ j)) H) x y H Q) ∨ rCatF K x y H Q) ∨ rCatR K x y H Q
theorem op_addA : OpR X (binaryOp .Add) (rAddA X.K) := ((op_add.or op_add_str).or op_catF).or op_catR
theorem fix_lst {w : Wd} {S : Store} {H : Hp} (hR : Rel G w S H) {p : Addr} (hp : H p = none) {ds : List D} {vs : List V} (r : RDs G w.M ds vs) {Q : VK} {XX} (h : Post G w H (rV G) (.ok (.d (.lst ds)) S) Q XX) : Q (.ref p) (upd H p (.lst vs)) :=
  h ⟨upd w.M p (.lst vs), w.ρ⟩ _ _ (Go.fix hR hp) (hR.fix hp) (.d (.lst upd_same (r.mono (Sub.new (hR.sub.free hp)))))
theorem fix_tup {w : Wd} {S : Store} {H : Hp} (hR : Rel G w S H) {ds : List D} {vs : List V} (r : RDs G w.M ds vs) {Q : VK} {XX} (h : Post G w H (rV G) (.ok (.d (.tup ds)) S) Q XX) : NewT H Q vs := fun p o hp hd =>
  h ⟨upd w.M p (.frz o (.tup vs)), w.ρ⟩ _ _ (Go.fix hR hp) (hR.fix hp) (.d (.tup (.new hd) (r.mono (Sub.new (hR.sub.free hp)))))
theorem oAdd_s (hK : X.K = G.K) : OpS G (rAddA X.K) oAdd := fun w S H x y v u Q hR rx ry h => by
  unfold oAdd at h
  rw [hK]
  split at h
  · split at h
    · rename_i ns b hz
      cases rx with | d rx => cases rx with | scr s1 => cases ry with | d ry => cases ry with | lst s2 r2 =>
        exact .inr ⟨_, _, _, _, rfl, rfl, hR.sub.l s1, SqL.of (hR.sub _ _ s2), by rw [List.length_map, ← r2.length, szl]; exact hz, fun p hp => fix_lst hR hp ((RDs.ints ns).app r2) h⟩
    · exact h.elim
  · cases int1 rx; cases int1 ry
    exact .inl (.inl (.inl ⟨_, _, rfl, rfl, ok1 h hR (.d (.int _))⟩))
  · split at h
    · rename_i hz
      cases rx with | d rx => cases rx with | str a => cases ry with | d ry => cases ry with | str b =>
        exact .inl (.inl (.inr ⟨_, _, rfl, rfl, by rw [szl]; exact hz, ok1 h hR (.d (.str _))⟩))
    · exact h.elim
  · split at h
    · rename_i a b hz
      cases rx with | d rx => cases rx with | tup s1 r1 => cases ry with | d ry => cases ry with | tup s2 r2 =>
        refine .inl (.inr ⟨_, _, _, _, rfl, rfl, hR.sub.t s1.t, hR.sub.t s2.t, by rw [← r1.length, ← r2.length, szl]; exact hz, fun e => ?_, fun _ e => ?_, fun _ _ => fix_tup hR (r1.app r2) h⟩)
        · subst e
          have : a = [] := by cases r1; rfl
          subst this
          exact ok1 h hR (.d (.tup s2 r2))
        · subst e
          have : b = [] := by cases r2; rfl
          subst this
          rw [List.append_nil] at h
          exact ok1 h hR (.d (.tup s1 r1))
    · exact h.elim
  · split at h
    · rename_i a b e1 e2
      split at h
      · rename_i hz
        obtain ⟨p1, vs1, rfl, s1, r1⟩ := seqL_ok hR e1 rx
        obtain ⟨p2, vs2, rfl, s2, r2⟩ := seqL_ok hR e2 ry
        exact .inr ⟨_, _, _, _, rfl, rfl, SqL.of s1, SqL.of s2, by rw [← r1.length, ← r2.length, szl]; exact hz, fun p hp => fix_lst hR hp (r1.app r2) h⟩
      · exact h.elim
    · exact h.elim
theorem arI_s {c : Int → Int → Bool} {f : Int → Int → Int} : OpS G (rI (fun i j => c i j = true) fun i j => .int (f i j)) (arI c f) := fun w S H x y v u Q hR rx ry h => by
  unfold arI at h
  split at h
  · split at h
    · rename_i hc
      cases int1 rx; cases int1 ry
      exact ⟨_, _, rfl, rfl, hc, ok1 h hR (.d (.int _))⟩
    · exact h.elim
  · exact h.elim
theorem OpR.cond {f : Value → Value → Sem Value} {C C' : Int → Int → Prop} {g : Int → Int → V} (h : OpR X f (rI C g)) (hc : ∀ i j, C' i j → C i j) : OpR X f (rI C' g) := fun pins s σ H x y v u Q I rx ry ⟨i, j, e1, e2, c, q⟩ => h pins s σ H x y v u Q I rx ry ⟨i, j, e1, e2, hc i j c, q⟩
theorem op_sub' : OpR X (binaryOp .Sub) (rI (fun i j => (fun _ _ => true : Int → Int → Bool) i j = true) fun i j => .int (i - j)) := fun pins s σ H x y v u Q I rx ry ⟨i, j, e1, e2, _, q⟩ => op_sub pins s σ H x y v u Q I rx ry ⟨i, j, e1, e2, q⟩
theorem op_mod' : OpR X (binaryOp .Mod) (rI (fun i j => (fun _ b => decide (0 < b) : Int → Int → Bool) i j = true) fun i j => .int (i % j)) := OpR.cond op_mod fun i j h => of_decide_eq_true h
theorem op_div' : OpR X (binaryOp .FloorDiv) (rI (fun i j => (fun _ b => decide (0 < b ∧ b < 1073741824) : Int → Int → Bool) i j = true) fun i j => .int (i / j)) := OpR.cond op_fdiv fun i j h => by have := of_decide_eq_true (p := 0 < j ∧ j < 1073741824) h; exact this
theorem op_pow' : OpR X (binaryOp .Pow) (rI (fun i j => (fun a b => decide (0 ≤ b ∧ (Builtin.Int.intBits a : Int) * b ≤ 134217728) : Int → Int → Bool) i j = true) fun i j => .int (i ^ j.toNat)) := opI fun _ _ _ _ _ _ _ hc q => by
  have h := of_decide_eq_true hc
  exact pow_int h.1 h.2 q
def rMulA : R2 := fun x y H Q => (rI CMul fun i j => .int (i * j)) x y H Q ∨ rRep x y H Q
theorem op_mulA : OpR X (binaryOp .Mult) rMulA := op_mul.or op_rep
theorem RDs.rep {M : Hp} {ds : List D} {vs : List V} (h : RDs G M ds vs) : ∀ n, RDs G M (List.replicate n ds).flatten (List.replicate n vs).flatten
  | 0 => .nil
  | n + 1 => by rw [List.replicate_succ, List.replicate_succ, List.flatten_cons, List.flatten_cons]; exact h.app (h.rep n)
theorem oMul_s : OpS G rMulA oMul := fun w S H x y v u Q hR rx ry h => by
  unfold oMul at h
  split at h
  · split at h
    · rename_i hc
      cases int1 rx; cases int1 ry
      refine .inl ⟨_, _, rfl, rfl, ?_, ok1 h hR (.d (.int _))⟩
      simpa [mulOk, CMul] using hc
    · exact h.elim
  · split at h
    · rename_i ds e1
      split at h
      · rename_i hz
        obtain ⟨p1, vs1, rfl, s1, r1⟩ := seqL_ok hR e1 rx
        cases int1 ry
        exact .inr ⟨_, _, _, rfl, rfl, s1, by omega, by omega, by rw [← r1.length, szl]; exact hz.2.2, fun p hp => fix_lst hR hp (r1.rep _) h⟩
      · exact h.elim
    · exact h.elim
  · exact h.elim
theorem RVs.get {w : Wd} : ∀ {ds : List Vl} {vs : List V} {i : Nat} {d : Vl}, RVs G w ds vs → ds[i]? = some d → ∃ v, vs[i]? = some v ∧ RV G w d v
  | _, _, _, _, .nil, e => by simp at e
  | _, _, 0, _, .cons h _, e => by simp at e; subst e; exact ⟨_, rfl, h⟩
  | _, _, i + 1, d, .cons _ t, e => by
    obtain ⟨v, h1, h2⟩ := t.get (i := i) (d := d) (by simpa using e)
    exact ⟨v, by simpa using h1, h2⟩
theorem atI_len {α β : Type} {xs : List α} {ys : List β} {i : Int} {x : α} (hl : xs.length = ys.length) (h : atI xs i = some x) : ∃ j : Nat, xs[j]? = some x ∧ ∀ y, ys[j]? = some y → atI ys i = some y := by
  unfold atI at h ⊢
  rw [hl] at h
  cases e : ixN ys.length i with
  | none => rw [e] at h; cases h
  | some j => rw [e] at h; exact ⟨j, h, fun y hy => by simpa using hy⟩
theorem oIx_s (hK : X.K = G.K) : OpS G (rIx X.K) oIx := fun w S H x y v u Q hR rx ry h => by
  unfold oIx at h
  rw [hK]
  split at h
  · rename_i i
    cases int1 ry
    split at h
    · rename_i z
      split at h
      · rename_i hz
        split at h
        · rename_i c e
          cases rx with | d rx => cases rx with | str z =>
            exact .inr (.inr ⟨_, _, c, rfl, rfl, by rw [szl]; exact hz, e, ok1 h hR (.d (.str _))⟩)
        · exact h.elim
      · exact h.elim
    · split at h
      · rename_i xs d e
        cases rx with | t s r =>
          obtain ⟨j, e1, e2⟩ := atI_len r.length e
          obtain ⟨y, e3, r3⟩ := r.get e1
          exact .inr (.inl ⟨_, _, _, y, rfl, rfl, hR.sub.t s.t, e2 y e3, ok1 h hR r3⟩)
      · exact h.elim
    · split at h
      · rename_i ds e
        split at h
        · rename_i d e0
          obtain ⟨a, vs, rfl, s, r⟩ := seqV_ok hR e rx
          obtain ⟨j, e1, e2⟩ := atI_len r.length e0
          obtain ⟨y, e3, r3⟩ := r.get e1
          rcases s with s | s
          · exact .inl ⟨_, _, _, y, rfl, rfl, s, e2 y e3, ok1 h hR (.d r3)⟩
          · exact .inr (.inl ⟨_, _, _, y, rfl, rfl, s, e2 y e3, ok1 h hR (.d r3)⟩)
        · exact h.elim
      · exact h.elim
  · exact h.elim
end
end MP

/-! MP7: built-in functions, methods -/
namespace MP
open PySem PySem.Spec PyProof.Rows L2
def CallS (G : GI) (r : List V → Hp → VK → Prop) (g : List Vl → Store → Res Vl) : Prop := ∀ w S H xs vs (Q : VK), Rel G w S H → RVs G w xs vs → Post G w H (rV G) (g xs S) Q (fun _ _ => False) → r vs H Q
def CallL (G : GI) (r : List V → Hp → VK → Prop) (g : List Vl → Store → Res (List D)) : Prop := ∀ w S H xs vs (Q : VK), Rel G w S H → RVs G w xs vs → Post G w H (rL G) (g xs S) (qL Q) (fun _ _ => False) → r vs H Q
def cal (g : List Vl → Store → Res Vl) (a : As) : Ex := fun η S => (a η S).bind g
def calL (g : List Vl → Store → Res (List D)) (a : As) : Li := fun η S => (a η S).bind g
section
variable {X : Cx} {G : GI} {W : WX} {pos : Pos} {x : Str} {p : Pos} {e : Expr} {es : List Expr} {id T : String} {r : List V → Hp → VK → Prop} {f : As}
theorem me_callB {g : List Vl → Store → Res Vl} (hc : CallR X (.builtin id) r) (hs : CallS G r g) (hx : ∀ a S, noX (g a S)) (hm : X.mg x = none) (hv : bootBuiltins x = some (.builtin id)) (hg : Gl X x) (ha : PA X (e :: es) (tA G W f)) (hn : x ≠ "__name__" := by decide) (hdb : (x == ("__debug__" : Str)) = false := by decide)
    (he : starEach (e :: es) X.env = (false, eval e X.env) :: starEach es X.env := by rfl) (hpl : (backTo pos (starEach es X.env)).any (·.1) = false := by rfl) : PE X (.Call (.Name x p) (e :: es) [] pos) (tE G W (cal g f)) :=
  (pe_callB hc hg hm hv ha hn hdb he hpl).imp fun σ H Q ⟨w, S, η, hR, hE, h⟩ => ⟨w, S, η, hR, hE, Post.thn h fun w1 S1 H1 xs vs n hR1 rx h2 => hs w1 S1 H1 xs vs Q hR1 rx (h2.noX (hx _ _))⟩
theorem me_callTy {g : List Vl → Store → Res Vl} (hc : CallR X (.type T) r) (hs : CallS G r g) (hx : ∀ a S, noX (g a S)) (hm : X.mg x = none) (hv : bootBuiltins x = some (.type T)) (hg : Gl X x) (ha : PA X (e :: es) (tA G W f)) (hn : x ≠ "__name__" := by decide) (hdb : (x == ("__debug__" : Str)) = false := by decide)
    (he : starEach (e :: es) X.env = (false, eval e X.env) :: starEach es X.env := by rfl) (hpl : (backTo pos (starEach es X.env)).any (·.1) = false := by rfl) : PE X (.Call (.Name x p) (e :: es) [] pos) (tE G W (cal g f)) :=
  (pe_callTy hc hg hm hv ha hn hdb he hpl).imp fun σ H Q ⟨w, S, η, hR, hE, h⟩ => ⟨w, S, η, hR, hE, Post.thn h fun w1 S1 H1 xs vs n hR1 rx h2 => hs w1 S1 H1 xs vs Q hR1 rx (h2.noX (hx _ _))⟩
theorem ml_callB {g : List Vl → Store → Res (List D)} (hc : CallR X (.builtin id) r) (hs : CallL G r g) (hx : ∀ a S, noX (g a S)) (hm : X.mg x = none) (hv : bootBuiltins x = some (.builtin id)) (hg : Gl X x) (ha : PA X (e :: es) (tA G W f)) (hn : x ≠ "__name__" := by decide) (hdb : (x == ("__debug__" : Str)) = false := by decide)
    (he : starEach (e :: es) X.env = (false, eval e X.env) :: starEach es X.env := by rfl) (hpl : (backTo pos (starEach es X.env)).any (·.1) = false := by rfl) : PE X (.Call (.Name x p) (e :: es) [] pos) (tL G W (calL g f)) :=
  (pe_callB hc hg hm hv ha hn hdb he hpl).imp fun σ H Q ⟨w, S, η, hR, hE, h⟩ => ⟨w, S, η, hR, hE, Post.thn h fun w1 S1 H1 xs vs n hR1 rx h2 => hs w1 S1 H1 xs vs Q hR1 rx (h2.noX (hx _ _))⟩
theorem ml_callTy {g : List Vl → Store → Res (List D)} (hc : CallR X (.type T) r) (hs : CallL G r g) (hx : ∀ a S, noX (g a S)) (hm : X.mg x = none) (hv : bootBuiltins x = some (.type T)) (hg : Gl X x) (ha : PA X (e :: es) (tA G W f)) (hn : x ≠ "__name__" := by decide) (hdb : (x == ("__debug__" : Str)) = false := by decide)
    (he : starEach (e :: es) X.env = (false, eval e X.env) :: starEach es X.env := by rfl) (hpl : (backTo pos (starEach es X.env)).any (·.1) = false := by rfl) : PE X (.Call (.Name x p) (e :: es) [] pos) (tL G W (calL g f)) :=
  (pe_callTy hc hg hm hv ha hn hdb he hpl).imp fun σ H Q ⟨w, S, η, hR, hE, h⟩ => ⟨w, S, η, hR, hE, Post.thn h fun w1 S1 H1 xs vs n hR1 rx h2 => hs w1 S1 H1 xs vs Q hR1 rx (h2.noX (hx _ _))⟩
end
theorem RVs.one {G : GI} {w : Wd} {x : Vl} {vs : List V} (r : RVs G w [x] vs) : ∃ v, vs = [v] ∧ RV G w x v := by
  cases r with | cons r t => cases t; exact ⟨_, rfl, r⟩
theorem RVs.two {G : GI} {w : Wd} {x y : Vl} {vs : List V} (r : RVs G w [x, y] vs) : ∃ v u, vs = [v, u] ∧ RV G w x v ∧ RV G w y u := by
  cases r with | cons r t => cases t with | cons r2 t => cases t; exact ⟨_, _, rfl, r, r2⟩
def lenV (S : Store) : Vl → Option Nat
  | .d (.str s) => if s.length ≤ 16777216 then some s.length else none
  | .d (.scr ns) => some ns.length
  | .t xs => some xs.length
  | v => (seqV S v).map List.length
def bLen (vs : List Vl) (S : Store) : Res Vl := match vs with
  | [v] => match lenV S v with
    | some n => .ok (.d (.int n)) S
    | none => .stuck
  | _ => .stuck
theorem lenV_ok {G : GI} {w : Wd} {S : Store} {H : Hp} (hR : Rel G w S H) {v : Vl} {x : V} {n : Nat} (e : lenV S v = some n) (r : RV G w v x) : LenV G.K x H n := by
  unfold lenV at e
  split at e
  · split at e
    · rename_i hz
      cases e
      cases r with | d r => cases r; exact ⟨by rw [szl]; exact hz, rfl⟩
    · cases e
  · cases e
    cases r with | d r => cases r with | scr h => exact .inl ⟨_, hR.sub.l h, by rw [List.length_map]⟩
  · cases e
    cases r with | t s r => exact .inr ⟨_, hR.sub.t s.t, r.length⟩
  · cases q : seqV S v with
    | none => rw [q] at e; cases e
    | some ds =>
      rw [q] at e; cases e
      obtain ⟨a, vs, rfl, s, r⟩ := seqV_ok hR q r
      rcases s with s | s
      · exact .inl ⟨vs, s, r.length⟩
      · exact .inr ⟨vs, s, r.length⟩
theorem bLen_s {X : Cx} {G : GI} (hK : X.K = G.K) : CallS G (fun xs H Q => ∃ x n, xs = [x] ∧ LenV X.K x H n ∧ Q (.int n) H) bLen := fun w S H xs vs Q hR rx h => by
  unfold bLen at h
  split at h
  · split at h
    · rename_i n e
      obtain ⟨v, rfl, r⟩ := rx.one
      rw [hK]
      exact ⟨v, n, rfl, lenV_ok hR e r, ok1 h hR (.d (.int _))⟩
    · exact h.elim
  · exact h.elim
def bMin2 (vs : List Vl) (S : Store) : Res Vl := match vs with
  | [.d (.int i), .d (.int j)] => .ok (.d (.int (if j < i then j else i))) S
  | _ => .stuck
def bTuple (vs : List Vl) (S : Store) : Res Vl := match vs with
  | [.d (.tup ds)] => .ok (.d (.tup ds)) S
  | [v] => match seqL S v with
    | some ds => .ok (.d (.tup ds)) S
    | none => .stuck
  | _ => .stuck
def bList (vs : List Vl) (S : Store) : Res (List D) := match vs with
  | [v] => match seqV S v with
    | some ds => .ok ds S
    | none => .stuck
  | _ => .stuck
section
variable {X : Cx} {G : GI}
theorem bMin2_s : CallS G (fun xs H Q => ∃ i j, xs = [.int i, .int j] ∧ Q (.int (if j < i then j else i)) H) bMin2 := fun w S H xs vs Q hR rx h => by
  unfold bMin2 at h
  split at h
  · obtain ⟨v, u, rfl, r1, r2⟩ := rx.two
    cases int1 r1; cases int1 r2
    exact ⟨_, _, rfl, ok1 h hR (.d (.int _))⟩
  · exact h.elim
theorem bTuple_s (hK : X.K = G.K) : CallS G (rTupOfF X.K) bTuple := fun w S H xs vs Q hR rx h => by
  unfold bTuple at h
  rw [hK]
  split at h
  · obtain ⟨v, rfl, r⟩ := rx.one
    cases r with | d r => cases r with | tup s r => exact ⟨_, _, rfl, .inr ⟨hR.sub.t s.t, ok1 h hR (.d (.tup s r))⟩⟩
  · split at h
    · rename_i ds e
      obtain ⟨v, rfl, r⟩ := rx.one
      obtain ⟨a, us, rfl, s, r⟩ := seqL_ok hR e r
      exact ⟨_, _, rfl, .inl ⟨SqL.of s, fix_tup hR r h⟩⟩
    · exact h.elim
  · exact h.elim
theorem bList_s (hK : X.K = G.K) : CallL G (fun xs H Q => ∃ p ys, xs = [.ref p] ∧ (SqL X.K H p ys ∨ SqT X.K H p ys) ∧ ∀ l, H l = none → Q (.ref l) (upd H l (.lst ys))) bList := fun w S H xs vs Q hR rx h => by
  unfold bList at h
  rw [hK]
  split at h
  · split at h
    · rename_i ds e
      obtain ⟨v, rfl, r⟩ := rx.one
      obtain ⟨a, us, rfl, s, r⟩ := seqV_ok hR e r
      exact ⟨_, _, rfl, s, fun l hl => h w H (l, us) (Go.refl _ _) hR ⟨hl, r⟩⟩
    · exact h.elim
  · exact h.elim
end
end MP

/-! MP8: slices, isinstance, methods of lists -/
namespace MP
open PySem PySem.Spec PyProof.Rows L2
/-! ### slices -/
def cutD {α : Type} (xs : List α) (lo hi : Option Int) : List α := (xs.drop (HT.sIx xs.length 0 lo)).take (HT.sIx xs.length xs.length hi - HT.sIx xs.length 0 lo)
def slV (x : Vl) (lo hi : Option Int) (S : Store) : Res Vl := match x with
  | .d (.tup ds) => .ok (.d (.tup (cutD ds lo hi))) S
  | .d (.str s) => if s.length ≤ 16777216 then .ok (.d (.str (Txt.slice s lo hi))) S else .stuck
  | .d (.scr ns) => .ok (.d (.lst (cutD (ns.map .int) lo hi))) S
  | x => match seqL S x with
    | some ds => .ok (.d (.lst (cutD ds lo hi))) S
    | none => .stuck
/-- a slice's part -/
abbrev Pa := En → Store → Res (Option Int)
def paN : Pa := fun _ S => .ok none S
def paI (e : Ex) : Pa := fun η S => (e η S).bind fun v S1 => match v with
  | .d (.int i) => .ok (some i) S1
  | _ => .stuck
def slE (e : Ex) (lo hi : Pa) : Ex := fun η S => (e η S).bind fun x S1 => (lo η S1).bind fun l S2 => (hi η S2).bind fun h S3 => slV x l h S3
def rP : Hp → Wd → Option Int → Option Int → Prop := fun _ _ a b => a = b
def tP (G : GI) (W : WX) (f : Pa) : TO := fun σ H Q => ∃ w S η, Rel G w S H ∧ EnR G w η σ ∧ Post G w H rP (f η S) Q (xw G W σ)
def rSlAll (K : PySem.W.Frag) : V → Option Int → Option Int → Hp → VK → Prop := fun x lo hi H Q => (rSlL K x lo hi H Q ∨ rSlF K x lo hi H Q) ∨ C8.rSlX x lo hi H Q
theorem RDs.cut {G : GI} {M : Hp} {ds : List D} {vs : List V} (r : RDs G M ds vs) (lo hi : Option Int) : RDs G M (cutD ds lo hi) (cutV vs lo hi) := by
  unfold cutD cutV
  rw [r.length]
  have tk : ∀ {ds : List D} {vs : List V} (n : Nat), RDs G M ds vs → RDs G M (ds.take n) (vs.take n) := by
    intro ds vs n r
    induction n generalizing ds vs with
    | zero => exact .nil
    | succ n ih => cases r with
      | nil => exact .nil
      | cons h t => exact .cons h (ih t)
  have dp : ∀ {ds : List D} {vs : List V} (n : Nat), RDs G M ds vs → RDs G M (ds.drop n) (vs.drop n) := by
    intro ds vs n r
    induction n generalizing ds vs with
    | zero => exact r
    | succ n ih => cases r with
      | nil => exact .nil
      | cons h t => exact ih t
  exact tk _ (dp _ r)
section
variable {X : Cx} {G : GI} {W : WX} {pos p2 : Pos}
theorem mp_none : PO X none (tP G W paN) := ⟨fun pins s σ H Q I ⟨w, S, η, hR, hE, h⟩ => po_none.run pins s σ H Q I (h w H none (Go.refl w H) hR rfl)⟩
theorem mp_some {e : Expr} {f : Ex} (h : PE X e (tE G W f)) : PO X (some e) (tP G W (paI f)) := ⟨fun pins s σ H Q I ⟨w, S, η, hR, hE, hh⟩ => (po_some h).run pins s σ H Q I ⟨w, S, η, hR, hE, Post.thn hh fun w1 S1 H1 x v n hR1 rx h2 => by
  split at h2
  · cases int1 rx; exact ⟨_, rfl, h2 w1 H1 _ (Go.refl _ _) hR1 rfl⟩
  · exact h2.elim⟩⟩
theorem slV_nx (x : Vl) (lo hi : Option Int) (S : Store) : noX (slV x lo hi S) := by
  unfold slV; repeat' split
  all_goals trivial
theorem slV_s {K : PySem.W.Frag} (hK : K = G.K) {w : Wd} {S : Store} {H : Hp} {x : Vl} {v : V} {lo hi : Option Int} {Q : VK} (hR : Rel G w S H) (rx : RV G w x v) (h : Post G w H (rV G) (slV x lo hi S) Q (fun _ _ => False)) : rSlAll K v lo hi H Q := by
  unfold slV at h
  subst hK
  split at h
  · rename_i ds
    cases rx with | d r => cases r with
      | tup s r =>
        rename_i a vs
        have rc := r.cut lo hi
        refine .inl (.inr ⟨_, vs, rfl, hR.sub.t s.t, fun ⟨e1, e2⟩ => ?_, fun _ => fix_tup hR rc h⟩)
        refine ok1 h hR (.d (.tup s ?_))
        have : cutV vs lo hi = vs := by unfold cutV; rw [e1, e2, List.drop_zero, Nat.sub_zero, List.take_length]
        rw [this] at rc
        exact rc
  · split at h
    · rename_i z hz
      cases rx with | d r => cases r; exact .inr ⟨_, rfl, by rw [szl]; exact hz, ok1 h hR (.d (.str _))⟩
    · exact h.elim
  · cases rx with | d r => cases r with | scr e =>
      rename_i ns a
      have rc : RDs G w.M (cutD (ns.map .int) lo hi) (cutV (ns.map V.int) lo hi) := (RDs.ints ns).cut lo hi
      exact .inl (.inl ⟨_, _, rfl, hR.sub.l e, fun p hp => fix_lst hR hp rc h⟩)
  · split at h
    · rename_i ds e
      obtain ⟨a, vs, rfl, s, r⟩ := seqL_ok hR e rx
      exact .inl (.inl ⟨_, vs, rfl, SqL.of s, fun p hp => fix_lst hR hp (r.cut lo hi) h⟩)
    · exact h.elim
theorem me_sl {e : Expr} {lo hi : Option Expr} {f : Ex} {a b : Pa} (hK : X.K = G.K) (he : PE X e (tE G W f)) (hl : PO X lo (tP G W a)) (hu : PO X hi (tP G W b)) : PE X (.Subscript e (.Slice lo hi none p2) pos) (tE G W (slE f a b)) :=
  (pe_slice ((sl_list.or sl_tupF).or C8.sl_txt) he hl hu).imp fun σ H Q ⟨w, S, η, hR, hE, h⟩ => ⟨w, S, η, hR, hE, Post.thn h fun w1 S1 H1 x v n hR1 rx h2 => ⟨w1, S1, η, hR1, hE.mono n.n, Post.thn h2 fun w2 S2 H2 l l' n2 hR2 rl h3 =>
    ⟨w2, S2, η, hR2, (hE.mono n.n).mono n2.n, Post.thn h3 fun w3 S3 H3 u u' n3 hR3 ru h4 => by
      cases rl; cases ru
      exact slV_s hK hR3 ((rx.mono n2.n).mono n3.n) (h4.noX (slV_nx _ _ _ _))⟩⟩⟩
end
/-! ### isinstance, one built-in class -/
def tyN (S : Store) : Vl → Option String
  | .d .non => some "NoneType"
  | .d (.bl _) => some "bool"
  | .d (.int _) => some "int"
  | .d (.str _) => some "str"
  | .d (.tup _) => some "tuple"
  | .d (.lst _) => some "list"
  | .p k => match S.L[k]? with
    | some (some (.l _)) => some "list"
    | _ => none
  | .t _ => some "tuple"
  | _ => none
def isD (T : String) (x : Vl) (S : Store) : Res Vl := match tyN S x with
  | some t => .ok (.d (.bl (t == T || (t == "bool" && T == "int")))) S
  | none => .stuck
section
variable {X : Cx} {G : GI} {W : WX} {pos : Pos}
theorem tyN_ok {K : PySem.W.Frag} (hK : K = G.K) {w : Wd} {S : Store} {H : Hp} (hR : Rel G w S H) {x : Vl} {v : V} {t : String} (e : tyN S x = some t) (r : RV G w x v) : TyX K H v (.type t) := by
  unfold tyN at e
  split at e
  · cases e; cases r with | d r => cases r; exact .base .non
  · cases e; cases r with | d r => cases r; exact .base (.bl _)
  · cases e; cases r with | d r => cases r; exact .base (.int _)
  · cases e; cases r with | d r => cases r; exact .base (.str _)
  · cases e; cases r with | d r => cases r with | tup s r =>
      rcases s with ⟨o, h1, h2⟩ | ⟨o, its, n, h1, h2, _⟩
      · exact .fTuple (hR.sub _ _ h1)
      · exact .kTuple (by rw [hK]; exact h1) h2
  · cases e; cases r with | d r => cases r with | lst s r => exact .base (.lst (hR.sub _ _ s))
  · split at e
    · rename_i ds q
      cases e
      cases r with | p r =>
        obtain ⟨h1, vs, e3, rr⟩ := hR.cel _ _ _ q r
        exact .base (.lst e3)
    · cases e
  · cases e; cases r with | t s r =>
      rcases s with ⟨o, h1, h2⟩ | ⟨o, its, n, h1, h2, _⟩
      · exact .fTuple (hR.sub _ _ h1)
      · exact .kTuple (by rw [hK]; exact h1) h2
  · cases e
def TyOkB (T : String) : Prop := ∀ t ∈ ["NoneType", "bool", "int", "str", "tuple", "list"], kitB t T = some (t == T || (t == "bool" && T == "int"))
theorem tyN_mem {S : Store} {x : Vl} {t : String} (e : tyN S x = some t) : t ∈ ["NoneType", "bool", "int", "str", "tuple", "list"] := by
  unfold tyN at e
  repeat' split at e
  all_goals first
    | cases e; decide
    | cases e
theorem me_isi {x z : Str} {p pz : Pos} {e : Expr} {T : String} {f : Ex} (hK : X.K = G.K) (hT : TyOkB T) (hg : Gl X x) (hm : X.mg x = none) (hv : bootBuiltins x = some (.builtin "isinstance")) (hgz : Gl X z) (hmz : X.mg z = none) (hvz : bootBuiltins z = some (.type T)) (ha : PE X e (tE G W f))
    (hn : x ≠ "__name__" := by decide) (hdb : (x == ("__debug__" : Str)) = false := by decide) (hn2 : z ≠ "__name__" := by decide) (hdb2 : (z == ("__debug__" : Str)) = false := by decide)
    (he : starEach [e, .Name z pz] X.env = (false, eval e X.env) :: starEach [.Name z pz] X.env := by rfl) (he2 : starEach [.Name z pz] X.env = (false, eval (.Name z pz) X.env) :: starEach [] X.env := by rfl)
    (hpl : (backTo pos (starEach [.Name z pz] X.env)).any (·.1) = false := by rfl) : PE X (.Call (.Name x p) [e, .Name z pz] [] pos) (tE G W (una (isD T) f)) :=
  (pe_callB call_isi hg hm hv (pa_cons ha (pa_cons (pe_bltn (v := .ty T) hgz hmz hvz rfl hn2 hdb2) pa_nil he2) he) hn hdb he hpl).imp fun σ H Q ⟨w, S, η, hR, hE, h⟩ => ⟨w, S, η, hR, hE, Post.thn h fun w1 S1 H1 y v n hR1 ry h2 => by
    unfold isD at h2
    split at h2
    · rename_i t q
      refine ⟨v, .ty T, .type t, .type T, _, rfl, .ty T, tyN_ok hK hR1 q ry, kit_ty (hT t (tyN_mem q)), ok1 h2 hR1 (.d (.bl _))⟩
    · exact h2.elim⟩
theorem ty_bool : TyOkB "bool" := by unfold TyOkB; decide +kernel
theorem ty_tuple : TyOkB "tuple" := by unfold TyOkB; decide +kernel
theorem ty_list : TyOkB "list" := by unfold TyOkB; decide +kernel
end
/-! ### lists in cells change -/
def isP (S : Store) : Vl → Bool
  | .p k => match S.L[k]? with
    | some (some (.l _)) => true
    | _ => false
  | _ => false
def mutV (g : List Vl → Store → List D → Option (D × List D)) (x : Vl) (ys : List Vl) (S : Store) : Res Vl := match x with
  | .p k => match S.L[k]? with
    | some (some (.l ds)) => match g ys S ds with
      | some (v, ds') => .ok (.d v) ⟨S.L.set k (some (.l ds'))⟩
      | none => .stuck
    | _ => .stuck
  | _ => .stuck
def mutE (g : List Vl → Store → List D → Option (D × List D)) (o : Ex) (a : As) : Ex := fun η S => (o η S).bind fun x S1 => if isP S1 x = true then (a η S1).bind fun ys S2 => mutV g x ys S2 else .stuck
def MutS (G : GI) (r : V → List V → Hp → VK → Prop) (g : List Vl → Store → List D → Option (D × List D)) : Prop := ∀ (w : Wd) (S : Store) (H : Hp) (k : Nat) (a : Addr) (ds : List D) (us : List V) (xs : List Vl) (vs : List V) (v : D) (ds' : List D) (Q : VK), Rel G w S H → S.L[k]? = some (some (.l ds)) → w.ρ[k]? = some a → H a = some (.lst us) → RDs G w.M ds us → RVs G w xs vs → g xs S ds = some (v, ds') →
  (∀ vs' u, RDs G w.M ds' vs' → RD G w.M v u → Q u (upd H a (.lst vs'))) → r (.ref a) vs H Q
section
variable {X : Cx} {G : GI} {W : WX} {pos apos cpos : Pos} {n0 : Nat}
theorem isP_ok {w : Wd} {S : Store} {H : Hp} (hR : Rel G w S H) {x : Vl} {v : V} {K : PySem.W.Frag} (e : isP S x = true) (r : RV G w x v) : ∃ k a, x = .p k ∧ v = .ref a ∧ w.ρ[k]? = some a ∧ tyV K "list" v H := by
  unfold isP at e
  split at e
  · split at e
    · rename_i ds q
      cases r with | p r =>
        obtain ⟨h1, vs, e3, rr⟩ := hR.cel _ _ _ q r
        exact ⟨_, _, rfl, rfl, r, .inl ⟨rfl, vs, SqL.of e3⟩⟩
    · cases e
  · cases e
theorem mutV_ok {r : V → List V → Hp → VK → Prop} {g} (hs : MutS G r g) {w : Wd} {S : Store} {H : Hp} (hR : Rel G w S H) {k : Nat} {a : Addr} (ea : w.ρ[k]? = some a) {xs : List Vl} {vs : List V} (rx : RVs G w xs vs) {Q : VK} {XX} (h : Post G w H (rV G) (mutV g (.p k) xs S) Q XX) : r (.ref a) vs H Q := by
  unfold mutV at h
  simp only at h
  split at h
  · rename_i ds q
    split at h
    · rename_i v ds' e
      obtain ⟨h1, us, e3, rr⟩ := hR.cel k _ _ q ea
      exact hs w S H k a ds us xs vs v ds' Q hR q ea e3 rr rx e fun vs' u r1 r2 => h w _ u (Go.wr ea) (hR.wr q ea r1) (.d r2)
    · exact h.elim
  · exact h.elim
theorem me_mut {o e : Expr} {es : List Expr} {name : Str} {id : String} {r : V → List V → Hp → VK → Prop} {g} {f : Ex} {fa : As} (slot : Slot "list" name id) (hty : typeOf (.builtin id) = pure (.type "method_descriptor")) (hm : MtR X id r) (hs : MutS G r g) (ho : PE X o (tE G W f)) (ha : PA X (e :: es) (tA G W fa))
    (hbase : attributeBase o name X.env (eval o X.env) = eval o X.env := by rfl)
    (hfew : ((backTo cpos (starEach (e :: es) X.env)).all (fun x => !x.1) && (backToKw cpos (keywordEach [] X.env)).all (fun x => x.1.isSome)
      && decide ((e :: es).length + ([] : List Keyword).length + (if ([] : List Keyword).isEmpty then 0 else 1) < 30)) = true := by rfl)
    (hline : (apos.endLine == cpos.line) = true := by rfl) (hst : starEach (e :: es) X.env = (false, eval e X.env) :: starEach es X.env := by rfl) (hplain : (backTo cpos (starEach es X.env)).any (·.1) = false := by rfl) : PE X (.Call (.Attribute o name apos) (e :: es) [] cpos) (tE G W (mutE g f fa)) :=
  (pe_bm PySem.F.plainAttrs_list slot hty hm ho ha hbase hfew hline hst hplain).imp fun σ H Q ⟨w, S, η, hR, hE, h⟩ => ⟨w, S, η, hR, hE, Post.thn h fun w1 S1 H1 x v n hR1 rx h2 => by
    split at h2
    · rename_i hp
      obtain ⟨k, a, rfl, rfl, ea, ty⟩ := isP_ok (K := X.K) hR1 hp rx
      exact ⟨ty, w1, S1, η, hR1, hE.mono n.n, Post.thn h2 fun w2 S2 H2 ys us n2 hR2 ry h3 => mutV_ok hs hR2 (by
        cases rx.mono n2.n with | p r => exact r) ry h3⟩
    · exact h2.elim⟩
def gAppend (ys : List Vl) (S : Store) (ds : List D) : Option (D × List D) := match ys with
  | [.d y] => if ds.length < 16777216 then some (.non, ds ++ [y]) else none
  | _ => none
def gExtend (ys : List Vl) (S : Store) (ds : List D) : Option (D × List D) := match ys with
  | [y] => match seqL S y with
    | some es => if ds.length + es.length ≤ 16777216 then some (.non, ds ++ es) else none
    | none => none
  | _ => none
theorem RDs.tk {M : Hp} : ∀ {ds : List D} {vs : List V} (n : Nat), RDs G M ds vs → RDs G M (ds.take n) (vs.take n)
  | _, _, 0, _ => .nil
  | _, _, n + 1, .nil => .nil
  | _, _, n + 1, .cons h t => .cons h (RDs.tk n t)
theorem gAppend_s : MutS G rAppend gAppend := fun w S H k a ds us xs vs v ds' Q hR hk ea e3 rr rx e q => by
  unfold gAppend at e
  split at e
  · split at e
    · rename_i hz
      cases e
      obtain ⟨u, rfl, r⟩ := rx.one
      cases r with | d r => exact ⟨a, us, u, rfl, rfl, e3, by rw [szl, ← rr.length]; exact hz, q _ _ (rr.app (.cons r .nil)) .non⟩
    · cases e
  · cases e
theorem gExtend_s : MutS G rExtend gExtend := fun w S H k a ds us xs vs v ds' Q hR hk ea e3 rr rx e q => by
  unfold gExtend at e
  split at e
  · split at e
    · rename_i es q2
      split at e
      · rename_i hz
        cases e
        obtain ⟨u, rfl, r⟩ := rx.one
        obtain ⟨b, zs, rfl, s, r2⟩ := seqL_ok hR q2 r
        exact ⟨a, b, us, zs, rfl, rfl, e3, s, by rw [szl, ← rr.length, ← r2.length]; exact hz, q _ _ (rr.app r2) .non⟩
      · cases e
    · cases e
  · cases e
/-! ### xs[i] = v -/
def setV (x y v : Vl) (S : Store) : Option Store := match x, y, v with
  | .p k, .d (.int j), .d d => match S.L[k]? with
    | some (some (.l ds)) => match ixN ds.length j with
      | some m => some ⟨S.L.set k (some (.l (ds.set m d)))⟩
      | none => none
    | _ => none
  | _, _, _ => none
def setI (e o i : Ex) : Stm := fun _ η S => (e η S).st η fun v S1 => (o η S1).st η fun x S2 => (i η S2).st η fun y S3 => match setV x y v S3 with
  | some S4 => .next η S4
  | none => .stuck
theorem RDs.set {M : Hp} : ∀ {ds : List D} {vs : List V} (n : Nat) {d : D} {v : V}, RDs G M ds vs → RD G M d v → RDs G M (ds.set n d) (vs.set n v)
  | _, _, _, _, _, .nil, _ => .nil
  | _, _, 0, _, _, .cons h t, r => .cons r t
  | _, _, n + 1, _, _, .cons h t, r => .cons h (RDs.set n t r)
theorem ms_setI {e o i : Expr} {fe fo fi : Ex} {p : Pos} (he : PE X e (tE G W fe)) (ho : PE X o (tE G W fo)) (hi : PE X i (tE G W fi)) (hs : swapsWithSole [.Subscript o i p] e pos.line X.env = pure false := by rfl) (hw : swappedStores [.Subscript o i p] e X.env = pure none := by rfl)
    (h1 : (assignEach [.Subscript o i p] X.env).map (·.2) = [assign (.Subscript o i p) X.env] := by rfl)
    (ha : ∀ v, assign (.Subscript o i p) X.env v = (do
      let ov ← holding [v] (eval o X.env)
      let iv ← holding [v, ov] (eval i X.env)
      standAt p
      holding [v, ov, iv] (setItem ov iv v)
      release [v, ov, iv] []) := by intro _; rfl) : PS X (.Assign [.Subscript o i p] e pos) (tS G W n0 (setI fe fo fi)) :=
  (ps_asg he (pg_sub ho hi set_list ha) hs hw h1).imp fun D σ H ⟨w, S, η, hR, hE, hn, h⟩ => ⟨w, S, η, hR, hE, PostS.ex hE hn h fun w1 S1 H1 x v n hR1 rx h2 => ⟨w1, S1, η, hR1, hE.mono n.n, PostS.ex (hE.mono n.n) (n.n.len hn) h2 fun w2 S2 H2 y u n2 hR2 ry h3 =>
    ⟨w2, S2, η, hR2, (hE.mono n.n).mono n2.n, PostS.ex ((hE.mono n.n).mono n2.n) (n2.n.len (n.n.len hn)) h3 fun w3 S3 H3 z t n3 hR3 rz h4 => by
      split at h4
      · rename_i S4 e4
        unfold setV at e4
        split at e4
        · rename_i k j d
          split at e4
          · rename_i ds q
            split at e4
            · rename_i m hm
              cases e4
              cases int1 rz
              cases ry.mono n3.n with | p ea =>
                cases (rx.mono n2.n).mono n3.n with | d rd =>
                  obtain ⟨h1, us, e3, rr⟩ := hR3.cel k _ _ q ea
                  refine ⟨_, us, j, m, rfl, rfl, e3, by rw [← rr.length]; exact hm, ?_⟩
                  exact h4 w3 _ σ ((Go.wr ea).s n0) (hR3.wr q ea (rr.set m rd)) (((hE.mono n.n).mono n2.n).mono n3.n)
            · cases e4
          · cases e4
        · cases e4
      · exact h4.elim⟩⟩⟩
end
end MP

/-! MP9: what the printed texts use -/
namespace MP
open PySem PySem.Spec PyProof.Rows L2
theorem oEq_nx {neg : Bool} (x y : Vl) (S : Store) : noX (oEq neg x y S) := by unfold oEq; (repeat' split) <;> first | trivial | (simp only [noX])
theorem cmpI_nx {f : Int → Int → Bool} (x y : Vl) (S : Store) : noX (cmpI f x y S) := by unfold cmpI; (repeat' split) <;> first | trivial | (simp only [noX])
theorem oLt_nx (x y : Vl) (S : Store) : noX (oLt x y S) := by unfold oLt; (repeat' split) <;> first | trivial | (simp only [noX])
theorem oIn_nx {neg : Bool} (x y : Vl) (S : Store) : noX (oIn neg x y S) := by unfold oIn; (repeat' split) <;> first | trivial | (simp only [noX])
theorem oAdd_nx (x y : Vl) (S : Store) : noX (oAdd x y S) := by unfold oAdd; (repeat' split) <;> first | trivial | (simp only [noX])
theorem arI_nx {c : Int → Int → Bool} {f : Int → Int → Int} (x y : Vl) (S : Store) : noX (arI c f x y S) := by unfold arI; (repeat' split) <;> first | trivial | (simp only [noX])
theorem oMul_nx (x y : Vl) (S : Store) : noX (oMul x y S) := by unfold oMul; (repeat' split) <;> first | trivial | (simp only [noX])
theorem oIx_nx (x y : Vl) (S : Store) : noX (oIx x y S) := by unfold oIx; (repeat' split) <;> first | trivial | (simp only [noX])
theorem bLen_nx (a : List Vl) (S : Store) : noX (bLen a S) := by unfold bLen; (repeat' split) <;> first | trivial | (simp only [noX])
theorem bMin2_nx (a : List Vl) (S : Store) : noX (bMin2 a S) := by unfold bMin2; (repeat' split) <;> first | trivial | (simp only [noX])
theorem bTuple_nx (a : List Vl) (S : Store) : noX (bTuple a S) := by unfold bTuple; (repeat' split) <;> first | trivial | (simp only [noX])
theorem bList_nx (a : List Vl) (S : Store) : noX (bList a S) := by unfold bList; (repeat' split) <;> first | trivial | (simp only [noX])
section
variable {X : Cx} {G : GI} {W : WX} {pos : Pos} {n0 : Nat}
theorem me_ix {a b : Expr} {fa fb : Ex} (hK : X.K = G.K) (ha : PE X a (tE G W fa)) (hb : PE X b (tE G W fb)) (hs : PlainIx b := by intro _ _; rfl) : PE X (.Subscript a b pos) (tE G W (bin oIx fa fb)) :=
  (pe_ix ix_seq ha hb hs).imp fun _ _ _ h => binI (oIx_s hK) oIx_nx h
/-- ghost: all cells made in this def so far are known for good -/
def fzS (is : List Nat) (s : Stm) : Stm := fun n η S => match s n η S with
  | .next η' S' => .next (wipeE is (frEn n S' η')) ⟨S'.L.take n⟩
  | .cont η' S' => .cont (wipeE is (frEn n S' η')) ⟨S'.L.take n⟩
  | r => r
theorem fz_imp {f : Stm} {is : List Nat} {D σ H} (h : tS G W n0 (fzS is f) D σ H) : tS G W n0 f D σ H := by
  obtain ⟨w, S, η, hR, hE, hn, h⟩ := h
  refine ⟨w, S, η, hR, hE, hn, ?_⟩
  have key : ∀ {w' : Wd} {S' : Store} {H' : Hp} {η' : En} {σ' : L2.St}, Gs n0 w H w' H' → Rel G w' S' H' → EnR G w' η' σ' → Gs n0 w H (w'.fr n0 H') H' ∧ Rel G (w'.fr n0 H') ⟨S'.L.take n0⟩ H' ∧ EnR G (w'.fr n0 H') (wipeE is (frEn n0 S' η')) σ' := fun {w' S' H' η' σ'} n hR' hE' =>
    ⟨n.tr hn ⟨(Nxt.fr hR' _).tk_le (Nat.le_refl _), Frm.fr _⟩, hR'.fr _, (hE'.fr hR' _).wipe is⟩
  revert h
  unfold fzS
  cases f n0 η S with
  | next η1 S1 => exact fun h w' H' σ' n hR' hE' => let ⟨a, b, c⟩ := key n hR' hE'; h _ H' σ' a b c
  | brk η S => exact fun h => h
  | cont η S1 => exact fun h w' H' σ' n hR' hE' => let ⟨a, b, c⟩ := key n hR' hE'; h _ H' σ' a b c
  | ret v S => exact fun h => h
  | exc c η S => exact fun h => h
  | stuck => exact fun h => h
theorem mg_fz1 {st : Stmt} {f : Stm} (is : List Nat) (h : PS X st (tS G W n0 f)) : PS X st (tS G W n0 (fzS is f)) := h.imp fun _ _ _ => fz_imp
theorem tkW0 : Takes X W0 := fun _ _ ⟨_, _, _, _, _, _, _, _, _, _, _, _, _, _, _, _, w⟩ => w.elim
end
/-- a def of the text, as it stands behind the top -/
structure Has (K : PySem.W.Frag) (mg : Str → Option Value) (x : Str) (st : Stmt) (ps : List Str) : Prop where
  ex : ∃ f fd, mg x = some (.ref f) ∧ L2.Fun K x x st f fd ∧ Binds K fd ps []
/-- a body, under what the rule for a def lays -/
def BodyOk (P : Program) (W0 : World) (K : PySem.W.Frag) (mg : Str → Option Value) (base : Heap) (G : GI) (x : Str) (N : List Str) (st : Stmt) (k : Nat) (b : Stm) : Prop :=
  ∀ (f : Addr) (cdv : Value) (A : Around) (outer : List Env) (s : Shared) (H : Hp) (E : XK) (n0 : Nat), Room k (A.deeper (envOfC x (defScope st) s.heap.objs.size f cdv)) →
      Takes (cxOf (L2.CX P W0) P W0 K mg base N x (defScope st) f cdv A outer s H E) (wOf E) → PassesOwn (model P W0) (A.deeper (envOfC x (defScope st) s.heap.objs.size f cdv)) (envOfC x (defScope st) s.heap.objs.size f cdv) (cxOf (L2.CX P W0) P W0 K mg base N x (defScope st) f cdv A outer s H E).xe →
      PSs (cxOf (L2.CX P W0) P W0 K mg base N x (defScope st) f cdv A outer s H E) (defBody st) (tS G (wOf E) n0 b)
section
variable {P : Program} {w : World} {K : PySem.W.Frag} {mg : Str → Option Value} {base : Heap} {G : GI}
theorem def_of {x : Str} {N ps : List Str} {st : Stmt} {k : Nat} {m : FM} {b : Stm} (hK : K = G.K) (h : Has K mg x st ps) (S : FnScope N ps (defScope st)) (hb : BodyOk P w K mg base G x N st k b) : Def P w K mg base G (k + 1) x (fnF ps.length N.length m b) := by
  obtain ⟨f, fd, h1, h2, h3⟩ := h.ex
  exact ⟨f, fd, ps, h1, h2.kp, h3, fn_ok m b h2 S hK (hb f)⟩
/-- a def of the text, its code object known -/
structure HasC (K : PySem.W.Frag) (mg : Str → Option Value) (x : Str) (st : Stmt) (ps : List Str) (cd : Value) : Prop where
  ex : ∃ f fd, mg x = some (.ref f) ∧ L2.Fun K x x st f fd ∧ Binds K fd ps [] ∧ fd.code = cd
theorem HasC.has {K : PySem.W.Frag} {mg : Str → Option Value} {x : Str} {st : Stmt} {ps : List Str} {cd : Value} (h : HasC K mg x st ps cd) : Has K mg x st ps := let ⟨f, fd, a, b, c, _⟩ := h.ex; ⟨f, fd, a, b, c⟩
def BodyOkC (P : Program) (W0 : World) (K : PySem.W.Frag) (mg : Str → Option Value) (base : Heap) (G : GI) (x : Str) (N : List Str) (st : Stmt) (k : Nat) (b : Stm) (cdv : Value) : Prop :=
  ∀ (f : Addr) (A : Around) (outer : List Env) (s : Shared) (H : Hp) (E : XK) (n0 : Nat), Room k (A.deeper (envOfC x (defScope st) s.heap.objs.size f cdv)) →
      Takes (cxOf (L2.CX P W0) P W0 K mg base N x (defScope st) f cdv A outer s H E) (wOf E) → PassesOwn (model P W0) (A.deeper (envOfC x (defScope st) s.heap.objs.size f cdv)) (envOfC x (defScope st) s.heap.objs.size f cdv) (cxOf (L2.CX P W0) P W0 K mg base N x (defScope st) f cdv A outer s H E).xe →
      PSs (cxOf (L2.CX P W0) P W0 K mg base N x (defScope st) f cdv A outer s H E) (defBody st) (tS G (wOf E) n0 b)
theorem def_ofC {x : Str} {N ps : List Str} {st : Stmt} {k : Nat} {m : FM} {b : Stm} {cd : Value} (hK : K = G.K) (h : HasC K mg x st ps cd) (S : FnScope N ps (defScope st)) (hb : BodyOkC P w K mg base G x N st k b cd) : Def P w K mg base G (k + 1) x (fnF ps.length N.length m b) := by
  obtain ⟨f, fd, h1, h2, h3, h4⟩ := h.ex
  exact ⟨f, fd, ps, h1, h2.kp, h3, fn_okC m b h2 S hK fun cdv e => by rw [← e, h4]; exact hb f⟩
theorem has_mk {h : Heap} {x : Str} {st : Stmt} {ps : List Str} {f : Addr} {od an : Option Addr} {sl : Array (Option Value)} {oc kV dc pm cd ct : Value} (X : K.In h) (Gh : h.Ns mainGlobals mg)
    (a : PySem.W.nsIn K mainGlobals x = some (some (.ref f))) (l : K.lookup f = some ⟨oc, od, .func (PySem.W.fnOf x x (defArgs st) (defBody st) (defScope st) .none kV dc pm an cd ct), sl⟩) (c : PySem.W.codeIn K cd x = true) (k : PySem.W.keepIn K (.ref f) = true)
    (hb : ∀ (kV doc pm : Value) (an : Option Addr) (cdv ct : Value) (us : List Value), us.length = ps.length → bindArgs (PySem.W.fnOf x x (defArgs st) (defBody st) (defScope st) .none kV doc pm an cdv ct) ⟨us, []⟩ = pure (ps.zip us)) : Has K mg x st ps :=
  have F := fun_mk (st := st) l c k
  ⟨f, _, PySem.W.mg_of X Gh a, F, F.binds (ps := ps) hb⟩
end
theorem has_mkC {K : PySem.W.Frag} {mg : Str → Option Value} {h : Heap} {x : Str} {st : Stmt} {ps : List Str} {f : Addr} {od an : Option Addr} {sl : Array (Option Value)} {oc kV dc pm cd ct : Value} (X : K.In h) (Gh : h.Ns mainGlobals mg)
    (a : PySem.W.nsIn K mainGlobals x = some (some (.ref f))) (l : K.lookup f = some ⟨oc, od, .func (PySem.W.fnOf x x (defArgs st) (defBody st) (defScope st) .none kV dc pm an cd ct), sl⟩) (c : PySem.W.codeIn K cd x = true) (k : PySem.W.keepIn K (.ref f) = true)
    (hb : ∀ (kV doc pm : Value) (an : Option Addr) (cdv ct : Value) (us : List Value), us.length = ps.length → bindArgs (PySem.W.fnOf x x (defArgs st) (defBody st) (defScope st) .none kV doc pm an cdv ct) ⟨us, []⟩ = pure (ps.zip us)) : HasC K mg x st ps cd :=
  have F := fun_mk (st := st) l c k
  ⟨f, _, PySem.W.mg_of X Gh a, F, F.binds (ps := ps) hb, rfl⟩
/-! ### defs as values -/
def refOf (mg : Str → Option Value) (x : Str) : Option Addr := match mg x with
  | some (.ref f) => some f
  | _ => none
section
variable {X : Cx} {G : GI} {W : WX} {pos : Pos} {k : Nat}
end
end MP

/-! MPA: operations and built-ins, bundled -/
namespace MP
open PySem PySem.Spec PyProof.Rows L2
def Bn (X : Cx) (G : GI) (op : Operator) (g : Vl → Vl → Store → Res Vl) : Prop := ∃ r, OpR X (binaryOp op) r ∧ OpS G r g ∧ ∀ x y S, noX (g x y S)
def Cm (X : Cx) (G : GI) (op : CmpOp) (g : Vl → Vl → Store → Res Vl) : Prop := ∃ r, OpR X (compareOp op) r ∧ OpS G r g ∧ ∀ x y S, noX (g x y S)
def Bt (X : Cx) (G : GI) (x : Str) (g : List Vl → Store → Res Vl) : Prop := ∀ (W : WX) (e : Expr) (es : List Expr) (pos p : Pos) (f : As), Gl X x → X.mg x = none → PA X (e :: es) (tA G W f) →
  starEach (e :: es) X.env = (false, eval e X.env) :: starEach es X.env → (backTo pos (starEach es X.env)).any (·.1) = false → PE X (.Call (.Name x p) (e :: es) [] pos) (tE G W (cal g f))
def BtL (X : Cx) (G : GI) (x : Str) (g : List Vl → Store → Res (List D)) : Prop := ∀ (W : WX) (e : Expr) (es : List Expr) (pos p : Pos) (f : As), Gl X x → X.mg x = none → PA X (e :: es) (tA G W f) →
  starEach (e :: es) X.env = (false, eval e X.env) :: starEach es X.env → (backTo pos (starEach es X.env)).any (·.1) = false → PE X (.Call (.Name x p) (e :: es) [] pos) (tL G W (calL g f))
section
variable {X : Cx} {G : GI} {W : WX} {pos : Pos} {n0 k : Nat}
theorem me_bn {op : Operator} {g} {a b : Expr} {fa fb : Ex} (o : Bn X G op g) (ha : PE X a (tE G W fa)) (hb : PE X b (tE G W fb)) : PE X (.BinOp a op b pos) (tE G W (bin g fa fb)) := by
  obtain ⟨r, h1, h2, h3⟩ := o
  exact me_op h1 h2 h3 ha hb
theorem mt_cm {op : CmpOp} {g} {a b : Expr} {fa fb : Ex} (o : Cm X G op g) (ha : PE X a (tE G W fa)) (hb : PE X b (tE G W fb)) (hm : behindInMarks op b = false := by first | exact nomark _ | with_unfolding_all rfl) : PT X (.Compare a [op] [b] pos) (tT G W (asB (bin g fa fb))) := by
  obtain ⟨r, h1, h2, h3⟩ := o
  exact mt_cmp h1 h2 h3 ha hb hm
theorem me_bt {x : Str} {g} {e : Expr} {es : List Expr} {p : Pos} {f : As} (b : Bt X G x g) (hm : X.mg x = none) (ha : PA X (e :: es) (tA G W f)) (hg : Gl X x := by rfl)
    (he : starEach (e :: es) X.env = (false, eval e X.env) :: starEach es X.env := by rfl) (hpl : (backTo pos (starEach es X.env)).any (·.1) = false := by rfl) : PE X (.Call (.Name x p) (e :: es) [] pos) (tE G W (cal g f)) := b W e es pos p f hg hm ha he hpl
theorem ml_bt {x : Str} {g} {e : Expr} {es : List Expr} {p : Pos} {f : As} (b : BtL X G x g) (hm : X.mg x = none) (ha : PA X (e :: es) (tA G W f)) (hg : Gl X x := by rfl)
    (he : starEach (e :: es) X.env = (false, eval e X.env) :: starEach es X.env := by rfl) (hpl : (backTo pos (starEach es X.env)).any (·.1) = false := by rfl) : PE X (.Call (.Name x p) (e :: es) [] pos) (tL G W (calL g f)) := b W e es pos p f hg hm ha he hpl
theorem bn_add (hK : X.K = G.K) : Bn X G .Add oAdd := ⟨_, op_addA, oAdd_s hK, oAdd_nx⟩
theorem bn_sub : Bn X G .Sub oSub := ⟨_, op_sub', arI_s, arI_nx⟩
theorem bn_mod : Bn X G .Mod oMod := ⟨_, op_mod', arI_s, arI_nx⟩
theorem bn_div : Bn X G .FloorDiv oDiv := ⟨_, op_div', arI_s, arI_nx⟩
theorem bn_pow : Bn X G .Pow oPow := ⟨_, op_pow', arI_s, arI_nx⟩
theorem bn_mul : Bn X G .Mult oMul := ⟨_, op_mulA, oMul_s, oMul_nx⟩
theorem cm_eq (hK : X.K = G.K) (hr : Room k X.A) : Cm X G .Eq (oEq false) := ⟨_, op_eqD hr.units, oEq_s (neg := false) hK, oEq_nx⟩
theorem cm_ne (hK : X.K = G.K) (hr : Room k X.A) : Cm X G .NotEq (oEq true) := ⟨_, op_neD hr.units, oEq_s (neg := true) hK, oEq_nx⟩
theorem cm_lt (hK : X.K = G.K) (hr : Room k X.A) : Cm X G .Lt oLt := ⟨_, op_lt2 hr.units0, oLt_s hK, oLt_nx⟩
theorem cm_gt : Cm X G .Gt oGt := ⟨_, op_gt, cmpI_s, cmpI_nx⟩
theorem hu65 (hr : Room k X.A) : X.A.units + 65 < cLine := by have := hr.un; omega
theorem cm_in (hK : X.K = G.K) (hr : Room k X.A) : Cm X G .In (oIn false) := ⟨_, op_inA (hu65 hr), oIn_s (neg := false) hK, oIn_nx⟩
theorem cm_nin (hK : X.K = G.K) (hr : Room k X.A) : Cm X G .NotIn (oIn true) := ⟨_, op_notInA (hu65 hr), oIn_s (neg := true) hK, oIn_nx⟩
theorem bt_len (hK : X.K = G.K) : Bt X G "len" bLen := fun W e es pos p f hg hm ha he hpl => me_callB call_len (bLen_s hK) bLen_nx hm boot_len hg ha (by decide) (by decide) he hpl
theorem bt_tuple (hK : X.K = G.K) : Bt X G "tuple" bTuple := fun W e es pos p f hg hm ha he hpl => me_callTy call_tuple_ofF (bTuple_s hK) bTuple_nx hm (by decide +kernel) hg ha (by decide) (by decide) he hpl
theorem bt_min2 (hc : X.calm = true) : Bt X G "min" bMin2 := fun W e es pos p f hg hm ha he hpl => me_callB (call_min2 hc) bMin2_s bMin2_nx hm (by decide +kernel) hg ha (by decide) (by decide) he hpl
theorem bt_list (hK : X.K = G.K) : BtL X G "list" bList := fun W e es pos p f hg hm ha he hpl => ml_callTy call_list_of (bList_s hK) bList_nx hm (by decide +kernel) hg ha (by decide) (by decide) he hpl
end
/-- a comprehension's block, decided -/
def blkB (N : List Str) (sc scope : Scope) (own : List (Str × Nat)) : Bool :=
  decide (scope.kind = .function) && scope.names.all (fun y => decide (scope.names.lookup y.1 = some y.2)) && own.all (fun p => decide (N[p.2]? = some p.1)) &&
    scope.names.all (fun y => decide (y.2 = .free → sc.names.lookup y.1 = some .cell ∨ sc.names.lookup y.1 = some .free)) && scope.names.all (fun y => decide (y.2 = .local ∨ y.2 = .cell → y.1 ∈ own.map (·.1) ∨ y.1 ∉ N))
theorem blk_mk {N : List Str} {sc scope : Scope} {own : List (Str × Nat)} (h : blkB N sc scope own = true) : BlkOk N sc scope own := by
  unfold blkB at h
  simp only [Bool.and_eq_true, List.all_eq_true, decide_eq_true_eq] at h
  obtain ⟨⟨⟨⟨h1, h2⟩, h3⟩, h4⟩, h5⟩ := h
  exact ⟨h1, h2, h3, h4, h5⟩
theorem boot_isi : bootBuiltins "isinstance" = some (.builtin "isinstance") := by decide +kernel
theorem cx_false {P : Program} {w : World} {outer : List Env} {H : Hp} {s s' : Shared} {e : Value} (h : L2.CX P w outer H s (fun _ _ _ => False) e s') : False := by
  obtain ⟨_, _, _, _, _, _, _, _, _, _, _, _, h⟩ := h
  exact h
end MP

/-! MPS: sorted -/
namespace MP
open PySem PySem.Spec PyProof.Rows L2
/-! ### a sort to speak of -/
section
variable {α β : Type}
def insBy (lt : α → α → Bool) (x : α) : List α → List α
  | [] => [x]
  | y :: r => if lt y x = true then y :: insBy lt x r else x :: y :: r
def isort (lt : α → α → Bool) : List α → List α
  | [] => []
  | x :: r => insBy lt x (isort lt r)
theorem insBy_perm (lt : α → α → Bool) (x : α) : ∀ l : List α, (insBy lt x l).Perm (x :: l)
  | [] => List.Perm.refl _
  | y :: r => by
    unfold insBy
    split
    · exact ((insBy_perm lt x r).cons y).trans (List.Perm.swap x y r)
    · exact List.Perm.refl _
theorem isort_perm (lt : α → α → Bool) : ∀ l : List α, (isort lt l).Perm l
  | [] => List.Perm.refl _
  | x :: r => (insBy_perm lt x _).trans ((isort_perm lt r).cons x)
theorem insBy_srtd {lt : α → α → Bool} (O : SrtO.Swo lt) (x : α) : ∀ {l : List α}, SrtO.Srtd lt l → SrtO.Srtd lt (insBy lt x l)
  | [], _ => List.pairwise_singleton _ _
  | y :: r, h => by
    unfold insBy
    obtain ⟨h1, h2⟩ := List.pairwise_cons.mp h
    split
    · rename_i hlt
      refine List.pairwise_cons.mpr ⟨fun z hz => ?_, insBy_srtd O x h2⟩
      rcases List.mem_cons.mp ((insBy_perm lt x r).mem_iff.mp hz) with rfl | hz
      · exact O.asym _ _ hlt
      · exact h1 z hz
    · rename_i hlt
      have hlt : lt y x = false := by cases q : lt y x <;> simp_all
      refine List.pairwise_cons.mpr ⟨fun z hz => ?_, h⟩
      rcases List.mem_cons.mp hz with rfl | hz
      · exact hlt
      · exact O.tr x y z hlt (h1 z hz)
theorem isort_srtd {lt : α → α → Bool} (O : SrtO.Swo lt) : ∀ l : List α, SrtO.Srtd lt (isort lt l)
  | [] => List.Pairwise.nil
  | x :: r => insBy_srtd O x (isort_srtd O r)
theorem insBy_cls {lt : α → α → Bool} (O : SrtO.Swo lt) (x z : α) : ∀ l : List α, (insBy lt x l).filter (SrtO.eqv lt z) = (x :: l).filter (SrtO.eqv lt z)
  | [] => rfl
  | y :: r => by
    unfold insBy
    split
    · rename_i hlt
      rw [List.filter_cons, insBy_cls O x z r, List.filter_cons, List.filter_cons, List.filter_cons]
      cases hx : SrtO.eqv lt z x with
      | false => simp
      | true =>
        cases hy : SrtO.eqv lt z y with
        | false => simp
        | true =>
          have a := (SrtO.eqv_iff.mp hx)
          have b := (SrtO.eqv_iff.mp hy)
          have := O.tr x z y a.1 b.2
          rw [hlt] at this; cases this
    · rfl
theorem isort_stb {lt : α → α → Bool} (O : SrtO.Swo lt) : ∀ l : List α, SrtO.Stb lt (isort lt l) l
  | [] => SrtO.Stb.refl _
  | x :: r => ⟨isort_perm lt _, fun z => by
    show (insBy lt x (isort lt r)).filter _ = _
    rw [insBy_cls O, List.filter_cons, List.filter_cons, (isort_stb O r).cls z]⟩
theorem sort_uniq {lt : α → α → Bool} (O : SrtO.Swo lt) {l m : List α} (h : SrtO.Srtd lt l) (hs : SrtO.Stb lt l m) : l = isort lt m :=
  SrtO.stb_uniq O h (isort_srtd O m) ⟨hs.perm.trans (isort_perm lt m).symm, fun z => (hs.cls z).trans ((isort_stb O m).cls z).symm⟩
/-- related lists stay related -/
inductive Al (R : α → β → Prop) : List α → List β → Prop
  | nil : Al R [] []
  | cons {a b l m} : R a b → Al R l m → Al R (a :: l) (b :: m)
theorem Al.ins {R : α → β → Prop} {lt : α → α → Bool} {lt' : β → β → Bool} (hl : ∀ a b c d, R a b → R c d → lt a c = lt' b d) {x : α} {y : β} (h : R x y) : ∀ {l : List α} {m : List β}, Al R l m → Al R (insBy lt x l) (insBy lt' y m)
  | _, _, .nil => .cons h .nil
  | _, _, .cons (a := a) (b := b) h1 t => by
    unfold insBy
    rw [hl a b x y h1 h]
    split
    · exact .cons h1 (t.ins hl h)
    · exact .cons h (.cons h1 t)
theorem Al.sort {R : α → β → Prop} {lt : α → α → Bool} {lt' : β → β → Bool} (hl : ∀ a b c d, R a b → R c d → lt a c = lt' b d) : ∀ {l : List α} {m : List β}, Al R l m → Al R (isort lt l) (isort lt' m)
  | _, _, .nil => .nil
  | _, _, .cons h t => (t.sort hl).ins hl h
end
/-! ### tuples of ints, of any lengths -/
theorem lexLt_swo : ∀ x y z : List Int, (HT.lexLt x y = true → HT.lexLt y x = false) ∧ (HT.lexLt y x = false → HT.lexLt z y = false → HT.lexLt z x = false)
  | [], [], [] => by simp [HT.lexLt]
  | [], [], _ :: _ => by simp [HT.lexLt]
  | [], _ :: _, [] => by simp [HT.lexLt]
  | [], _ :: _, _ :: _ => by simp [HT.lexLt]
  | _ :: _, [], [] => by simp [HT.lexLt]
  | _ :: _, [], _ :: _ => by simp [HT.lexLt]
  | x :: xs, y :: ys, [] => by
    obtain ⟨h1, h2⟩ := lexLt_swo xs ys []
    rw [HT.lexLt_cons, HT.lexLt_cons]
    refine ⟨fun h => ?_, fun a b => ?_⟩
    · by_cases e : x = y
      · rw [if_pos e] at h; rw [if_pos e.symm]; exact h1 h
      · rw [if_neg e] at h; rw [if_neg (Ne.symm e)]; have := of_decide_eq_true h; exact decide_eq_false (by omega)
    · simp [HT.lexLt] at b
  | x :: xs, y :: ys, z :: zs => by
    obtain ⟨h1, h2⟩ := lexLt_swo xs ys zs
    simp only [HT.lexLt_cons]
    refine ⟨fun h => ?_, fun a b => ?_⟩
    · by_cases e : x = y
      · rw [if_pos e] at h; rw [if_pos e.symm]; exact h1 h
      · rw [if_neg e] at h; rw [if_neg (Ne.symm e)]; have := of_decide_eq_true h; exact decide_eq_false (by omega)
    · by_cases e : y = x
      · subst e
        rw [if_pos rfl] at a
        by_cases e2 : z = y
        · rw [if_pos e2] at b ⊢; exact h2 a b
        · rw [if_neg e2] at b ⊢; exact b
      · rw [if_neg e] at a
        have a := of_decide_eq_false a
        by_cases e2 : z = y
        · subst e2
          rw [if_neg e]; exact decide_eq_false a
        · rw [if_neg e2] at b
          have b := of_decide_eq_false b
          rw [if_neg (by omega)]; exact decide_eq_false (by omega)
theorem swo_key {α : Type} (k : α → List Int) : SrtO.Swo fun v u => HT.lexLt (k v) (k u) := ⟨fun x y h => (lexLt_swo (k x) (k y) []).1 h, fun x y z h1 h2 => (lexLt_swo (k x) (k y) (k z)).2 h1 h2⟩
/-- a tuple of these ints, not empty -/
def IsTI (h : Heap) (v : Value) (ns : List Int) : Prop := ∃ (a : Addr) (o : Obj) (items : Array Value) (n : Nat), v = .ref a ∧ h.get? a = some o ∧ o.cls = .type "tuple" ∧ o.data = .seq items n ∧ IntsAre items.toList ns ∧ ns ≠ []
theorem IsTI.keeps {h h' : Heap} {v : Value} {ns : List Int} (x : IsTI h v ns) (k : ∀ b o, h.get? b = some o → o.cls = .type "tuple" → h'.get? b = some o) : IsTI h' v ns := by
  obtain ⟨a, o, items, n, e, g, c, d, i, z⟩ := x
  exact ⟨a, o, items, n, e, k a o g c, c, d, i, z⟩
def lexF (fin : Bool) : List Int → List Int → Bool
  | x :: xs, y :: ys => if x = y then lexF fin xs ys else decide (x < y)
  | _, _ => fin
theorem lexF_lt : ∀ (ns ms : List Int), lexF (decide (ns.length < ms.length)) ns ms = HT.lexLt ns ms
  | [], [] => rfl
  | [], _ :: _ => by simp [lexF, HT.lexLt]
  | _ :: _, [] => by simp [lexF, HT.lexLt]
  | x :: xs, y :: ys => by
    have ih := lexF_lt xs ys
    rw [HT.lexLt_cons, ← ih]
    show (if x = y then lexF (decide (xs.length + 1 < ys.length + 1)) xs ys else decide (x < y)) = _
    rw [show decide (xs.length + 1 < ys.length + 1) = decide (xs.length < ys.length) by simp]
section
variable {prog : Program} {w : World} {A : Around} {s : Shared}
theorem lex_run {Q : Bool → Shared → Prop} {fin : Bool} : ∀ {vs us : List Value} {ns ms : List Int} (i : Nat), IntsAre vs ns → IntsAre us ms → Q (lexF fin ns ms) s → PySem.W.KatLex prog w A true fin Q (vs.zip us) i s
  | _, _, _, _, i, .nil, h, q => PySem.W.kat_nil (by simpa [lexF] using q)
  | _, _, _, _, i, .cons n t r, .nil, q => PySem.W.kat_nil (by simpa [lexF] using q)
  | _, _, _, _, i, .cons x t r, .cons y u r2, q => by
    refine PySem.W.kat_cons (SeqAt.EqAt.int_int x t y u prog w _ _ ?_)
    refine PySem.W.kat_go (fun e1 => ?_) (fun e1 => ?_)
    · have ex : x = y := by simpa using e1
      refine PySem.W.kat_yes (lex_run (i + 1) r r2 ?_)
      unfold lexF at q
      rwa [if_pos ex] at q
    · have ex : ¬ x = y := by simpa using e1
      refine PySem.W.kat_no (TS.oneLt_ints _ ?_)
      unfold lexF at q
      rwa [if_neg ex] at q
theorem tups_cmp {vs : List Value} {k : Value → List Int} (hp : ∀ v ∈ vs, IsTI s.heap v (k v)) : SrtO.Cmp prog w A s (PyProof.Rows.tuples' true) (fun p => p.1 ∈ vs) (SrtO.lt2 fun v u => HT.lexLt (k v) (k u)) := by
  intro p q hm hm'
  obtain ⟨a, o, its, n, e, ho, hc, hd, hi, _⟩ := hp _ hm
  obtain ⟨a', o', its', n', e', ho', hc', hd', hi', _⟩ := hp _ hm'
  show wpAny (model prog w) A (PyProof.Rows.keyLt' (PyProof.Rows.tuples' true) p.1 q.1) (fun r s' => s' = s ∧ r = HT.lexLt (k p.1) (k q.1)) (fun _ _ => False) s
  rw [e, e']
  rw [e] at hi
  rw [e'] at hi'
  refine PySem.W.kat_lt ho hd ho' hd' (lex_run 0 hi hi' ⟨rfl, ?_⟩)
  rw [← lexF_lt]
  have l1 := hi.length
  have l2 := hi'.length
  rw [Array.length_toList] at l1 l2
  rw [l1, l2]
theorem tups_kat {h : Heap} : ∀ {vs : List Value} {k : Value → List Int}, (∀ v ∈ vs, IsTI h v (k v)) → ∃ fs, PySem.W.KatTups h vs fs ∧ fs.length = vs.length ∧ ∀ f ∈ fs, ∃ x t, f = Value.int x t
  | [], _, _ => ⟨[], trivial, rfl, by simp⟩
  | v :: vs, k, hp => by
    obtain ⟨fs, h1, h2, h3⟩ := tups_kat (vs := vs) (k := k) fun u hu => hp u (List.mem_cons_of_mem _ hu)
    obtain ⟨a, o, its, n, rfl, ho, hc, hd, hi, hne⟩ := hp v (List.mem_cons_self ..)
    obtain ⟨x, t, e0⟩ : ∃ x t, its[0]? = some (Value.int x t) := by
      rw [← Array.getElem?_toList]
      revert hi hne
      generalize its.toList = l
      generalize k (.ref a) = ns
      intro hi hne
      cases hi with
      | nil => exact absurd rfl hne
      | cons n t r => exact ⟨n, t, rfl⟩
    exact ⟨_ :: fs, PySem.W.KatTups.cons ho hc hd e0 h1, by rw [List.length_cons, List.length_cons, h2], fun f hf => by rcases List.mem_cons.mp hf with rfl | hf; exact ⟨x, t, rfl⟩; exact h3 f hf⟩
theorem tups_sortable {a : Addr} {vs : List Value} {k : Value → List Int} (h0 : 0 < vs.length) (hp : ∀ v ∈ vs, IsTI s.heap v (k v)) (ha : ∀ o, s.heap.get? a = some o → o.cls ≠ .type "tuple") : SrtO.SortableO prog w A s a vs fun v u => HT.lexLt (k v) (k u) := by
  intro h' keep
  have hp' : ∀ v ∈ vs, IsTI h' v (k v) := fun v hm => (hp v hm).keeps fun b o e c => keep b o (fun z => by subst z; exact ha o e c) e
  obtain ⟨fs, h1, h2, h3⟩ := tups_kat hp'
  refine ⟨PyProof.Rows.tuples' true, fun Q E hq => ?_, tups_cmp (s := { s with heap := h' }) hp'⟩
  refine PySem.W.kat_kind (T := .type "int") h1 (by omega) (fun f hm => ?_) (by rfl) ?_
  · obtain ⟨x, t, rfl⟩ := h3 f hm
    exact PySem.W.Looks.now
  · have e : (Value.type "int" != Value.type "tuple") = true := by first | decide +kernel | rfl | decide
    rw [e]
    exact hq
end
/-! ### sorted, as a rule -/
/-- how an item of a list that is sorted reads: an int, or a tuple of ints -/
def KeyV (K : PySem.W.Frag) (H : Hp) (b : Bool) (x : V) (k : List Int) : Prop := if b = true then ∃ i, x = .int i ∧ k = [i] else ∃ a, x = .ref a ∧ SqT K H a (k.map V.int) ∧ k ≠ []
def rSortB (K : PySem.W.Frag) : List V → Hp → VK → Prop := fun vs H Q => ∃ (a : Addr) (xs : List V) (b : Bool) (ks : List (List Int)), vs = [.ref a] ∧ SqL K H a xs ∧ Al (KeyV K H b) xs ks ∧ ∀ p, H p = none → Q (.ref p) (upd H p (.lst ((isort (fun x y : V × List Int => HT.lexLt x.2 y.2) (xs.zip ks)).map (·.1))))
/-- the ints that a value reads at a heap -/
def kv (h : Heap) : Value → List Int
  | .int i _ => [i]
  | .ref a => match h.get? a with
    | some o => match o.data with
      | .seq items _ => items.toList.map SrtO.iv
      | _ => []
    | none => []
  | _ => []
theorem Al.vals {k' : Value → List Int} : ∀ {xs : List (V × List Int)} {us : List Value}, Al (fun x u => RelV x.1 u ∧ x.2 = k' u) xs us → Vals (xs.map (·.1)) us
  | _, _, .nil => .nil
  | _, _, .cons h t => .cons h.1 t.vals
theorem Al.zipV {k' : Value → List Int} {R : V → List Int → Prop} : ∀ {xs : List V} {us : List Value} {ks : List (List Int)}, Vals xs us → Al R xs ks → (∀ x u k, RelV x u → R x k → k = k' u) → Al (fun x u => (RelV x.1 u ∧ x.2 = k' u) ∧ R x.1 x.2) (xs.zip ks) us
  | _, _, _, .nil, .nil, _ => .nil
  | _, _, _, .cons h t, .cons h2 t2, hr => .cons ⟨⟨h, hr _ _ _ h h2⟩, h2⟩ (Al.zipV t t2 hr)
theorem Al.imp {α β : Type} {R R' : α → β → Prop} (h : ∀ a b, R a b → R' a b) : ∀ {xs : List α} {us : List β}, Al R xs us → Al R' xs us
  | _, _, .nil => .nil
  | _, _, .cons h1 t => .cons (h _ _ h1) (t.imp h)
theorem Al.mem {α β : Type} {R : α → β → Prop} : ∀ {xs : List α} {us : List β} {u : β}, Al R xs us → u ∈ us → ∃ x ∈ xs, R x u
  | _, _, u, .nil, h => by cases h
  | _, _, u, .cons h t, hu => by
    rcases List.mem_cons.mp hu with rfl | hu
    · exact ⟨_, List.mem_cons_self .., h⟩
    · obtain ⟨x, h1, h2⟩ := t.mem hu
      exact ⟨x, List.mem_cons_of_mem _ h1, h2⟩
theorem Al.len {α β : Type} {R : α → β → Prop} : ∀ {xs : List α} {us : List β}, Al R xs us → xs.length = us.length
  | _, _, .nil => rfl
  | _, _, .cons _ t => by rw [List.length_cons, List.length_cons, t.len]
theorem iv_map {us : List Value} {ns : List Int} (h : IntsAre us ns) : us.map SrtO.iv = ns := SrtO.iv_ints h
theorem cr_sortB {X : Cx} : CallR X (.builtin "sorted") (rSortB X.K) := by
  intro pins s σ H vs us Q I r h
  obtain ⟨a, xs, b, ks, rfl, hs, hx, q⟩ := h
  obtain ⟨its, rv, hl, hz⟩ := I.list hs
  rw [Vals.ref1 r]
  have al0 : Al (fun (x : V × List Int) u => (RelV x.1 u ∧ x.2 = kv s.heap u) ∧ KeyV X.K H b x.1 x.2) (xs.zip ks) its := Al.zipV rv hx fun x u k ru hk => by
    unfold KeyV at hk
    split at hk
    · obtain ⟨i, rfl, rfl⟩ := hk
      obtain ⟨t, rfl⟩ := ru
      rfl
    · obtain ⟨p, rfl, ht, _⟩ := hk
      cases ru
      obtain ⟨ps, r2, tp, _⟩ := I.tuple ht
      obtain ⟨o, ho, hc, n, hd⟩ := tp
      unfold kv
      simp only [ho, hd]
      exact (iv_map r2.ints).symm
  have al : Al (fun (x : V × List Int) u => RelV x.1 u ∧ x.2 = kv s.heap u) (xs.zip ks) its := al0.imp fun _ _ h => h.1
  have O : SrtO.Swo fun v u : Value => HT.lexLt (kv s.heap v) (kv s.heap u) := swo_key _
  refine SrtO.sorted_ord O hl.isList (by rw [← rv.length]; exact hz) (fun h2 h₁ a' ga kk => ?_) fun out h1 h2 => ?_
  · cases b with
    | true =>
      have hi : ∀ u ∈ its, ∃ i t, u = Value.int i t ∧ kv s.heap u = [i] := fun u hu => by
        obtain ⟨x, hm, ⟨ru, e⟩, this⟩ := al0.mem hu
        unfold KeyV at this
        rw [if_pos rfl] at this
        obtain ⟨i, hx1, hk⟩ := this
        rw [hx1] at ru
        obtain ⟨t, rfl⟩ := ru
        exact ⟨i, t, rfl, rfl⟩
      have hI : IntsAre its (its.map SrtO.iv) := SrtO.ints_iv fun v hv => let ⟨i, t, e, _⟩ := hi v hv; ⟨i, t, e⟩
      intro h' keep
      obtain ⟨κ, c1, c2⟩ := SrtO.ints_sortable (prog := X.prog) (w := X.w) (A := X.A.in1.in1) (s := { s with heap := h₁ }) (a := a') hI h2 h' keep
      refine ⟨κ, c1, fun p q hp hq => ?_⟩
      have e : SrtO.lt2 SrtO.ltIv p q = SrtO.lt2 (fun v u => HT.lexLt (kv s.heap v) (kv s.heap u)) p q := by
        obtain ⟨i, t, e1, e2⟩ := hi _ hp
        obtain ⟨j, t2, e3, e4⟩ := hi _ hq
        show SrtO.ltIv p.1 q.1 = HT.lexLt (kv s.heap p.1) (kv s.heap q.1)
        rw [e2, e4, e1, e3]
        show decide (i < j) = if i = j then false else decide (i < j)
        by_cases z : i = j
        · rw [if_pos z, z]; exact decide_eq_false (Int.lt_irrefl _)
        · rw [if_neg z]
      have := c2 p q hp hq
      rw [e] at this
      exact this
    | false =>
      refine tups_sortable (s := { s with heap := h₁ }) (by omega) (fun v hv => ?_) fun o e => ?_
      · obtain ⟨x, hm, ⟨ru, e⟩, this⟩ := al0.mem hv
        unfold KeyV at this
        rw [if_neg (by decide)] at this
        obtain ⟨p, hx1, ht, hne⟩ := this
        rw [hx1] at ru
        cases ru
        obtain ⟨ps, r2, tp, _⟩ := I.tuple ht
        obtain ⟨o, ho, hc, n, hd⟩ := tp
        refine ⟨p, o, ps.toArray, n, rfl, (kk _ _ ho).2, hc, hd, ?_, by rw [← e]; exact hne⟩
        rw [← e]
        exact r2.ints
      · have e' := e.symm.trans ga
        cases e'
        intro c
        exact absurd (Value.type.inj c) (by decide)
  · have eo := sort_uniq O h1 h2
    obtain ⟨ep, he'⟩ := PyProof.Rows.sortedAll_at s.heap its out.toArray
    have al2 : Al (fun (x : V × List Int) u => RelV x.1 u ∧ x.2 = kv s.heap u) (isort (fun x y : V × List Int => HT.lexLt x.2 y.2) (xs.zip ks)) out := by
      rw [eo]
      exact al.sort fun x u y v h1 h2 => by rw [h1.2, h2.2]
    have hlen : ((isort (fun x y : V × List Int => HT.lexLt x.2 y.2) (xs.zip ks)).map (·.1)).length ≤ sizeLine := by rw [al2.vals.length, ← al2.len, (isort_perm _ _).length_eq, al.len, ← rv.length]; exact hz
    exact ⟨.ref _, upd H (s.heap.objs.size + 1) (.lst ((isort (fun x y : V × List Int => HT.lexLt x.2 y.2) (xs.zip ks)).map (·.1))), I.laid (t' := s.toks) (fun _ _ => PyProof.Rows.sortedAll_old) (Nat.le_succ _) ⟨hlen, out, ep, al2.vals, he'⟩, rfl, q _ (I.hok.fresh (Nat.le_succ _))⟩
/-! ### by trees -/
def kD : D → List Int
  | .int i => [i]
  | .tup ds => (intsD ds).getD []
  | _ => []
def isInt : D → Bool
  | .int _ => true
  | _ => false
def isTupI : D → Bool
  | .tup ds => match intsD ds with
    | some (_ :: _) => true
    | _ => false
  | _ => false
def ltD (x y : D) : Bool := HT.lexLt (kD x) (kD y)
def bSorted (vs : List Vl) (S : Store) : Res (List D) := match vs with
  | [v] => match seqL S v with
    | some ds => if (ds.all isInt || ds.all isTupI) = true then .ok (isort ltD ds) S else .stuck
    | none => .stuck
  | _ => .stuck
theorem bSorted_nx (a : List Vl) (S : Store) : noX (bSorted a S) := by unfold bSorted; (repeat' split) <;> first | trivial | (simp only [noX])
section
variable {X : Cx} {G : GI}
theorem Al.rds {M : Hp} : ∀ {ds : List D} {ps : List (V × List Int)}, Al (fun d p => RD G M d p.1 ∧ p.2 = kD d) ds ps → RDs G M ds (ps.map (·.1))
  | _, _, .nil => .nil
  | _, _, .cons h t => .cons h.1 t.rds
theorem RDs.alz {M : Hp} : ∀ {ds : List D} {xs : List V}, RDs G M ds xs → Al (fun d (p : V × List Int) => RD G M d p.1 ∧ p.2 = kD d) ds (xs.zip (ds.map kD))
  | _, _, .nil => .nil
  | _, _, .cons h t => .cons ⟨h, rfl⟩ t.alz
theorem keys_of {M : Hp} {b : Bool} : ∀ {ds : List D} {xs : List V}, ds.all (if b = true then isInt else isTupI) = true → RDs G M ds xs → (∀ d x, RD G M d x → (if b = true then isInt d else isTupI d) = true → KeyV G.K M b x (kD d)) → Al (KeyV G.K M b) xs (ds.map kD)
  | _, _, _, .nil, _ => .nil
  | d :: ds, _, h, .cons r t, hk => by
    rw [List.all_cons, Bool.and_eq_true] at h
    exact .cons (hk _ _ r (by cases b <;> exact h.1)) (keys_of h.2 t hk)
theorem key_int {M : Hp} {d : D} {x : V} (r : RD G M d x) (h : isInt d = true) : KeyV G.K M true x (kD d) := by
  cases r with
  | int i => unfold KeyV; rw [if_pos rfl]; exact ⟨i, rfl, rfl⟩
  | _ => cases h
theorem key_tup {M : Hp} {d : D} {x : V} (r : RD G M d x) (h : isTupI d = true) : KeyV G.K M false x (kD d) := by
  cases r with
  | tup s r =>
    rename_i a vs ds
    unfold isTupI at h
    simp only at h
    split at h
    · rename_i i is e
      unfold KeyV
      rw [if_neg (by decide)]
      have := intsD_ok e r
      subst this
      refine ⟨_, rfl, ?_, ?_⟩
      · show SqT G.K M a (((intsD ds).getD []).map V.int)
        rw [e]; exact s.t
      · show (intsD ds).getD [] ≠ []
        rw [e]; simp
    · cases h
  | _ => cases h
theorem KeyV.up {K : PySem.W.Frag} {M H : Hp} (e : Sub M H) {b : Bool} {x : V} {k : List Int} (h : KeyV K M b x k) : KeyV K H b x k := by
  unfold KeyV at h ⊢
  split
  · rw [if_pos (by assumption)] at h; exact h
  · rw [if_neg (by assumption)] at h
    obtain ⟨a, h1, h2, h3⟩ := h
    exact ⟨a, h1, e.t h2, h3⟩
theorem bSorted_s (hK : X.K = G.K) : CallL G (rSortB X.K) bSorted := fun w S H xs vs Q hR rx h => by
  unfold bSorted at h
  rw [hK]
  split at h
  · split at h
    · rename_i ds e
      split at h
      · rename_i hb
        obtain ⟨v, rfl, r⟩ := rx.one
        obtain ⟨a, us, rfl, s, r⟩ := seqL_ok hR e r
        have fin : ∀ p, H p = none → (qL Q) (p, (isort (fun x y : V × List Int => HT.lexLt x.2 y.2) (us.zip (ds.map kD))).map (·.1)) H := fun p hp =>
          h w H _ (Go.refl _ _) hR ⟨hp, (r.alz.sort (lt := ltD) fun d x d' y h1 h2 => by show HT.lexLt (kD d) (kD d') = _; rw [h1.2, h2.2]).rds⟩
        rcases (Bool.or_eq_true _ _).mp hb with hb | hb
        · exact ⟨a, us, true, ds.map kD, rfl, SqL.of s, (keys_of (b := true) hb r fun d x r h => key_int r h).imp fun _ _ h => h.up hR.sub, fin⟩
        · exact ⟨a, us, false, ds.map kD, rfl, SqL.of s, (keys_of (b := false) hb r fun d x r h => key_tup r h).imp fun _ _ h => h.up hR.sub, fin⟩
      · exact h.elim
    · exact h.elim
  · exact h.elim
theorem bt_sorted (hK : X.K = G.K) : BtL X G "sorted" bSorted := fun W e es pos p f hg hm ha he hpl => ml_callB cr_sortB (bSorted_s hK) bSorted_nx hm (by decide +kernel) hg ha (by decide) (by decide) he hpl
end
end MP

/-! MPB: methods that read, tables of defs -/
namespace MP
open PySem PySem.Spec PyProof.Rows L2
/-! ### methods that read -/
def isLs (S : Store) (x : Vl) : Bool := (seqL S x).isSome
def MetS (G : GI) (r : V → List V → Hp → VK → Prop) (g : Vl → List Vl → Store → Res Vl) : Prop := ∀ (w : Wd) (S : Store) (H : Hp) (x : Vl) (v : V) (xs : List Vl) (vs : List V) (Q : VK), Rel G w S H → RV G w x v → RVs G w xs vs → Post G w H (rV G) (g x xs S) Q (fun _ _ => False) → r v vs H Q
section
variable {X : Cx} {G : GI} {W : WX} {pos apos cpos : Pos} {n0 k : Nat}
def fstEq (d : D) : Nat → List D → Option Nat
  | _, [] => none
  | i, z :: r => if eqvD z d = true then some i else fstEq d (i + 1) r
theorem fstEq_ok {d : D} : ∀ {ds : List D} {i j : Nat}, fstEq d i ds = some j → ∃ m, j = i + m ∧ (∃ z, ds[m]? = some z ∧ eqvD z d = true) ∧ ∀ k z', k < m → ds[k]? = some z' → eqvD z' d = false
  | [], _, _, h => by cases h
  | z :: r, i, j, h => by
    unfold fstEq at h
    split at h
    · rename_i e
      cases h
      exact ⟨0, rfl, ⟨z, rfl, e⟩, fun k z' hk _ => by omega⟩
    · rename_i e
      obtain ⟨m, h1, ⟨y, h2, h3⟩, h4⟩ := fstEq_ok h
      refine ⟨m + 1, by omega, ⟨y, h2, h3⟩, fun k z' hk hz => ?_⟩
      cases k with
      | zero => simp at hz; subst hz; cases q : eqvD z d <;> simp_all
      | succ k => exact h4 k z' (by omega) (by simpa using hz)
def oIndex (x : Vl) (ys : List Vl) (S : Store) : Res Vl := match ys with
  | [y] => match rd S y with
    | some d => match seqL S x with
      | some ds => if (okD 60 d && ds.all (okD 59)) = true then match fstEq d 0 ds with
          | some j => .ok (.d (.int (j : Nat))) S
          | none => .stuck
        else .stuck
      | none => .stuck
    | none => .stuck
  | _ => .stuck
theorem oIndex_nx (x : Vl) (a : List Vl) (S : Store) : noX (oIndex x a S) := by unfold oIndex; (repeat' split) <;> first | trivial | (simp only [noX])
theorem toPys_get {ds : List D} {j : Nat} : (toPys ds)[j]? = ds[j]?.map toPy := by rw [toPys_map, List.getElem?_map]
theorem oIndex_s (hK : X.K = G.K) : MetS G (rIndexD X.K) oIndex := fun w S H x v xs vs Q hR rv rx h => by
  unfold oIndex at h
  rw [hK]
  split at h
  · split at h
    · rename_i d e1
      split at h
      · rename_i ds e2
        split at h
        · rename_i hok
          split at h
          · rename_i j e3
            obtain ⟨ok1', ok2⟩ := (Bool.and_eq_true _ _).mp hok
            obtain ⟨u, rfl, r⟩ := rx.one
            have rd := rd_ok hR e1 r
            obtain ⟨a, us, rfl, s, rr⟩ := seqL_ok hR e2 rv
            obtain ⟨m, hj, ⟨z, hz, he⟩, hno⟩ := fstEq_ok e3
            have hj : j = m := by omega
            subst hj
            have okL' : okD 60 (.lst ds) = true := by unfold okD; exact ok2
            have dpL : Dp G.K H (.ref a) (toPy (.lst ds)) := (RD.lst s (rr.mono hR.sub)).dp okL'
            have dpD := rd.dp ok1'
            refine ⟨a, u, toPy d, toPys ds, j, toPy z, rfl, rfl, dpL, dpD, okD_shaped (by decide) okL', okD_shaped (by decide) ok1', by rw [toPys_get, hz]; rfl, by rw [eqv_toPy]; exact he, fun k z' hk hz' => ?_, ok1 h hR (.d (.int _))⟩
            rw [toPys_get] at hz'
            cases q : ds[k]? with
            | none => rw [q] at hz'; cases hz'
            | some y =>
              rw [q] at hz'
              cases hz'
              rw [eqv_toPy]
              exact hno k y hk q
          · exact h.elim
        · exact h.elim
      · exact h.elim
    · exact h.elim
  · exact h.elim
end
end MP

/-! MPC: from behind, join, the module's constants, what is never reached -/
namespace MP
open PySem PySem.Spec PyProof.Rows L2
/-! ### x[::-1] -/
section
variable {X : Cx} {G : GI} {W : WX} {pos p2 p3 p4 p5 apos cpos : Pos} {n0 : Nat}
/-! ### sep.join(xs) -/
/-! ### never reached -/
/-! ### is True -/
/-! ### a + b, a new list -/
/-! ### cells frozen from a place on -/
end
end MP

/-! MPD: sorted(set(a tuple of ints)) -/
namespace MP
open PySem PySem.Spec PyProof.Rows L2
section
variable {X : Cx} {G : GI} {W : WX} {pos p1 p2 p3 : Pos}
end
end MP

/-! MPE: a comprehension that goes through a cell -/
namespace MP
open PySem PySem.Spec PyProof.Rows L2
open Classical in
/-- as loopC; the cell k holds full at each turn -/
noncomputable def loopCk (k : Nat) (full : List D) (t : Tg) (c : Te) (e : Ex) (η : En) : List D → Store → Res (List D)
  | [], S => if S.L[k]? = some (some (.l full)) then .ok [] S else .stuck
  | d :: ds, S => if S.L[k]? = some (some (.l full)) then (match t (.d d) η with
    | none => .stuck
    | some η1 => match c η1 S with
      | .ok true S1 => match e η1 S1 with
        | .ok (.d y) S2 => match loopCk k full t c e η ds S2 with
          | .ok ys S3 => .ok (y :: ys) S3
          | _ => .stuck
        | _ => .stuck
      | .ok false S1 => match loopCk k full t c e η ds S1 with
          | .ok ys S3 => .ok ys S3
          | _ => .stuck
      | _ => .stuck) else .stuck
noncomputable def lcC (t : Tg) (f : Ex) (c : Te) (e : Ex) (vs : List Nat) : Li := fun η S => (f η S).bind fun v S1 => match v with
  | .p k => match S1.L[k]? with
    | some (some (.l ds)) => if ds.length ≤ 16777216 then loopCk k ds t c e (wipeE vs η) ds S1 else .stuck
    | _ => .stuck
  | _ => .stuck
theorem loopCk_ok {k : Nat} {full : List D} {t : Tg} {c : Te} {e : Ex} {η : En} {ds ys : List D} {S S' : Store} (h : loopCk k full t c e η ds S = .ok ys S') : S.L[k]? = some (some (.l full)) := by
  cases ds with
  | nil => unfold loopCk at h; split at h; assumption; cases h
  | cons d ds => unfold loopCk at h; split at h; assumption; cases h
theorem loopCk_exc (k : Nat) (full : List D) (t : Tg) (c : Te) (e : Ex) (η : En) : ∀ (ds : List D) (S : Store) (x : Nat) (S' : Store), loopCk k full t c e η ds S ≠ .exc x S'
  | [], S, x, S', h => by unfold loopCk at h; split at h <;> cases h
  | d :: ds, S, x, S', h => by
    unfold loopCk at h
    (repeat' split at h) <;> cases h
section
variable {X : Cx} {G : GI} {W : WX} {pos : Pos}
theorem lcC_imp {own : List (Str × Nat)} {fi : Ex} {is : List Nat} {g : TG} {t : Tg} {fc : Te} {fe : Ex} (ht : TgR G is g t) (his : ∀ i ∈ is, i ∈ own.map (·.2)) {σ : L2.St} {H : Hp} {Q : VK} (hK : X.K = G.K) (hq : tL G W (lcC t fi fc fe (own.map (·.2))) σ H Q) : tLc (iList X.K (tE G W fi)) g (tT G W0 fc) (tE G W0 fe) (own.map (·.2)) σ H Q := by
  obtain ⟨w, S, η, hR, hE, h⟩ := hq
  refine ⟨w, S, η, hR, hE, Post.thn h fun w1 S1 H1 xk xv g1 hR1 rxk h1 => ?_⟩
  split at h1
  · rename_i kc
    split at h1
    · rename_i ds eds
      obtain ⟨ac, eac, ⟨cvs, ecv, rcv⟩, mac⟩ := hR1.at eds
      cases rxk with
      | p eρ =>
      rename_i ac'
      have e0 : ac' = ac := by rw [eac] at eρ; exact (Option.some.inj eρ).symm
      subst e0
      have cell : ∀ {w2 : Wd} {S2 : Store} {H2 : Hp}, Nxt w1 w2 → Rel G w2 S2 H2 → S2.L[kc]? = some (some (.l ds)) → ∃ vs, H2 ac' = some (.lst vs) ∧ RDs G w2.M ds vs := fun {w2 S2 H2} n2 hR2 e2 => by
        obtain ⟨a2, h1, ⟨vs, h2, h3⟩, _⟩ := hR2.at e2
        have : a2 = ac' := by
          have h4 := pre_get n2.r eac
          rw [h1] at h4; exact Option.some.inj h4
        subst this
        exact ⟨vs, h2, h3⟩
      rw [hK]
      refine ⟨ac', rfl, ⟨cvs, SqL.of ecv⟩, ?_⟩
      intro D hD
      generalize hv : own.map (·.2) = vs at h1 his ⊢
      split at h1
      · rename_i hz
        cases hl : loopCk kc ds t fc fe (wipeE vs η) ds S1 with
        | exc c S' =>
          exact (loopCk_exc kc ds t fc fe _ _ _ _ _ hl).elim
        | stuck => rw [hl] at h1; exact h1.elim
        | ok ys S3 =>
          rw [hl] at h1
          have hD0 : w1.M D = none := hR1.sub.free hD
          refine ⟨fun i m H2 => m = ds.length - i ∧ i ≤ ds.length ∧ ∃ w2 S2 acc ys2 us, loopCk kc ds t fc fe (wipeE vs η) (ds.drop i) S2 = .ok ys2 S3 ∧ acc ++ ys2 = ys ∧ Rel G w2 S2 H2 ∧ Go w1 H1 w2 (delH H2 D) ∧ Nxt w1 w2 ∧ H2 D = some (.lst us) ∧ RDs G w2.M acc us ∧ D ∉ w2.ρ ∧ w2.M D = none ∧ acc.length ≤ i,
            ⟨ds.length, by simp, Nat.zero_le _, w1, S1, [], ys, [], hl, rfl, hR1.add hD, ?_, Nxt.refl w1, upd_same, .nil, hR1.notin hD, hD0, Nat.zero_le _⟩, ?_⟩
          · refine ⟨Nxt.refl w1, fun a o e hn => ⟨.of ?_, hn, fun z => z⟩⟩
            have hne : a ≠ D := ne_of_none e hD
            rw [delH_ne hne, upd_ne hne]; exact e
          rintro i m H2 ⟨rfl, hi2, w2, S2, acc, ys2, us, e2, ea, hR2, g2, n2, eD, ra, nD, mD, la⟩
          have okS : S2.L[kc]? = some (some (.l ds)) := loopCk_ok e2
          obtain ⟨vz, ez, rz⟩ := cell n2 hR2 okS
          by_cases hlt : i < ds.length
          · refine .inr ⟨by obtain ⟨v, e, _⟩ := rz.get (List.getElem?_eq_getElem hlt); exact ⟨vz, v, SqL.of ez, e⟩, fun H3 => ∃ w2 S2 acc ys2 us, loopCk kc ds t fc fe (wipeE vs η) (ds.drop (i + 1)) S2 = .ok ys2 S3 ∧ acc ++ ys2 = ys ∧ Rel G w2 S2 H3 ∧ Go w1 H1 w2 (delH H3 D) ∧ Nxt w1 w2 ∧ H3 D = some (.lst us) ∧ RDs G w2.M acc us ∧ D ∉ w2.ρ ∧ w2.M D = none ∧ acc.length ≤ i + 1,
              fun H3 h3 => ⟨ds.length - (i + 1), by omega, rfl, hlt, h3⟩, fun x H3 hy => ?_⟩
            have y := hy.2
            have eH := hy.1.symm
            subst eH
            obtain ⟨d, ed, r3'⟩ := rz.get2 (y vz (SqL.of ez))
            have g3 : Go w2 H2 w2 H2 := Go.refl _ _
            have hR3 := hR2
            have r3 : RV G w2 (.d d) x := .d r3'
            have edr : ds.drop i = d :: ds.drop (i + 1) := by
              obtain ⟨hl, e⟩ := List.getElem?_eq_some_iff.mp ed
              rw [← e]; exact (List.drop_eq_getElem_cons hl)
            rw [edr] at e2
            unfold loopCk at e2
            rw [if_pos okS] at e2
            -- the way on from any state behind
            have del : ∀ {w4 : Wd} {H4 : Hp}, Go w2 H2 w4 H4 → Go w1 H1 w4 (delH H4 D) ∧ Nxt w1 w4 ∧ H4 D = some (.lst us) ∧ D ∉ w4.ρ ∧ w4.M D = none := fun {w4 H4} g4 => by
              obtain ⟨a1, a2, a3⟩ := g4.f D _ eD nD
              refine ⟨⟨n2.trans g4.n, fun a o e hn => ?_⟩, n2.trans g4.n, a1.eq (fun _ z => by cases z), a2, a3 mD⟩
              obtain ⟨b1, b2, b3⟩ := g2.f a o e hn
              obtain ⟨o', q⟩ := b1.ex
              have hne : a ≠ D := fun z => by rw [z, delH_same] at q; cases q
              rw [delH_ne hne] at b1 q
              obtain ⟨c1, c2, c3⟩ := g4.f a o' q b2
              exact ⟨by rw [delH_ne hne]; exact b1.thn fun u hu => by rw [q] at hu; cases hu; exact c1, c2, fun z => c3 (b3 z)⟩
            split at e2
            · cases e2
            · rename_i η1 et
              refine ht w2 (wipeE vs η) (L2.wipe σ vs) (.d d) x H2 η1 _ S2 hR3 ((hE.mono (g1.n.trans (n2.trans g3.n))).wip2 vs) r3 et fun σ4 hE4 w4 => ⟨?_, ?_⟩
              · rw [w4 vs his, wipe_wipe fun i hi => hi]
              refine ⟨w2, S2, η1, hR3, hE4, ?_⟩
              split at e2
              · rename_i S4 ec
                rw [ec]
                intro w5 H5 b g5 hR5 eb
                cases eb
                rw [if_pos rfl]
                refine ⟨w5, S4, η1, hR5, hE4.mono g5.n, ?_⟩
                split at e2
                · rename_i y S5 ee
                  rw [ee]
                  intro w6 H6 v g6 hR6 r6
                  obtain ⟨q1, q2, q3, q4, q5⟩ := del (g3.trans (g5.trans g6))
                  refine ⟨us, q3, ?_, ?_⟩
                  · have := ra.length
                    rw [szl]
                    omega
                  · split at e2
                    · rename_i ys3 S6 e6
                      cases e2
                      cases r6 with
                      | d r6 =>
                        have hne : ∀ a, w6.M a ≠ none → a ≠ D := fun a z e => z (by rw [e]; exact q5)
                        refine ⟨w6, S5, acc ++ [y], ys3, us ++ [v], e6, by rw [← ea, List.append_assoc]; rfl, ?_, ?_, q2, upd_same, (ra.mono ((g3.trans (g5.trans g6)).n.m)).app (.cons r6 .nil), q4, q5, by rw [List.length_append]; simp; omega⟩
                        · have h7 := (hR6.del (hR1.lowN hD) (fun _ z => by rw [q3] at z; cases z) q5 q4).add (p := D) (o := .lst (us ++ [v])) delH_same
                          have e7 : upd (delH H6 D) D (.lst (us ++ [v])) = upd H6 D (.lst (us ++ [v])) := by
                            funext b
                            by_cases z : b = D
                            · rw [z, upd_same, upd_same]
                            · rw [upd_ne z, upd_ne z, delH_ne z]
                          rw [e7] at h7
                          exact h7
                        · have : delH (upd H6 D (.lst (us ++ [v]))) D = delH H6 D := by
                            funext b
                            by_cases z : b = D
                            · rw [z, delH_same, delH_same]
                            · rw [delH_ne z, delH_ne z, upd_ne z]
                          rw [this]; exact q1
                    · cases e2
                · cases e2
              · rename_i S4 ec
                rw [ec]
                intro w5 H5 b g5 hR5 eb
                cases eb
                rw [if_neg Bool.false_ne_true]
                split at e2
                · rename_i ys3 S6 e6
                  cases e2
                  obtain ⟨q1, q2, q3, q4, q5⟩ := del (g3.trans g5)
                  exact ⟨w5, S4, acc, ys2, us, e6, ea, hR5, q1, q2, q3, ra.mono ((g3.trans g5).n.m), q4, q5, by omega⟩
                · cases e2
              · cases e2
          · have ei : i = ds.length := by omega
            subst ei
            rw [List.drop_eq_nil_of_le (Nat.le_refl _)] at e2
            unfold loopCk at e2
            rw [if_pos okS] at e2
            injection e2 with e2a e2b
            subst e2a e2b
            refine .inl ⟨⟨vz, SqL.of ez, by rw [rz.length]; exact Nat.le_refl _⟩, ?_⟩
            rw [List.append_nil] at ea
            subst ea
            have := h1 w2 (delH H2 D) (D, us) g2 (hR2.del (hR1.lowN hD) (fun _ z => by rw [eD] at z; cases z) mD nD) ⟨delH_same, ra⟩
            have e3 : upd (delH H2 D) D (.lst us) = H2 := upd_del eD
            simp only [qL] at this
            rw [e3] at this
            exact this
      · exact h1.elim
    · exact h1.elim
  · exact h1.elim

theorem ml_lcC {elt tg iter : Expr} {ifs : List Expr} {scope : Scope} {own : List (Str × Nat)} {fi : Ex} {is : List Nat} {g : TG} {t : Tg} {fc : Te} {fe : Ex} (hK : X.K = G.K) (hc : X.calm = true) (hN : X.N.Nodup) (hi : PE X iter (tE G W fi)) (ok : BlkOk X.N X.env.scope scope own) (ht : TgR G is g t) (his : ∀ i ∈ is, i ∈ own.map (·.2))
    (hg : ∀ (s : Shared) (H : Hp) (C : Addr) (cl : List (Str × Addr)) (fp : List Addr), PG (X.blk s H scope (compEnvC scope cl C X.env) fp) tg g) (htt : ∀ (s : Shared) (H : Hp) (C : Addr) (cl : List (Str × Addr)) (fp : List Addr), PTs (X.blk s H scope (compEnvC scope cl C X.env) fp) ifs (tT G W0 fc))
    (he : ∀ (s : Shared) (H : Hp) (C : Addr) (cl : List (Str × Addr)) (fp : List Addr), PE (X.blk s H scope (compEnvC scope cl C X.env) fp) elt (tE G W0 fe)) (hs : ∀ x, foldedSetIterable iter X.env x = pure x := by intro _; rfl) :
    PE X (.ListComp elt [⟨tg, iter, ifs, 0⟩] scope pos) (tL G W (lcC t fi fc fe (own.map (·.2)))) :=
  (pe_lc hc hN (pi_list hi) ok hg htt he hs).imp fun σ H Q h => lcC_imp ht his hK h
end
end MP

/-! MPF: xs.index(y) of a tuple or a list -/
namespace MP
open PySem PySem.Spec PyProof.Rows L2
section
variable {X : Cx}
def rIndexT (K : PySem.W.Frag) : V → List V → Hp → VK → Prop := fun x xs H Q => ∃ (a : Addr) (y : V) (d : PyData) (ds : List PyData) (j : Nat) (z : PyData), x = V.ref a ∧ xs = [y] ∧ Dp K H (V.ref a) (.tuple ds) ∧ Dp K H y d ∧
  SeqAt.shaped (.tuple ds) = true ∧ SeqAt.shaped d = true ∧ ds[j]? = some z ∧ PyData.eqv z d = true ∧ (∀ (m : Nat) (z' : PyData), m < j → ds[m]? = some z' → PyData.eqv z' d = false) ∧ Q (.int (j : Nat)) H
theorem mt_indexT (hu : X.A.units + 65 < cLine) : MtR X "tuple.index" (rIndexT X.K) := by
  intro pins s σ H x xs v us Q I rx rxs h
  obtain ⟨a, y, d, ds, j, z, rfl, rfl, hl, hy, sl, sd, hz, hzj, hno, q⟩ := h
  cases rx
  cases rxs with
  | cons ry rt =>
    rename_i uy ut
    cases rt
    obtain ⟨bs, r1⟩ := Dp.reads I d y uy hy ry
    have hxs : PyData.canLayAll0 ds = true := SeqAt.canLay_of_shaped sl
    have hroom : X.A.units + 1 + min (PyData.depthAll ds) d.depth < cLine := room_in_shaped sd hu
    cases hl with
    | tup hs ha =>
      obtain ⟨its, rv, ⟨⟨cls, dd, data, sls⟩, ho, hc, n, hdt⟩, hlen⟩ := I.tuple hs
      simp only at hc hdt
      subst hc hdt
      obtain ⟨as, h4⟩ := Dp.readsAll I ds _ its ha rv
      have hn : its.length = ds.length := SeqAt.ReadsAll.length ds its as h4
      have hmap : its.map (SeqAt.readOf s.heap) = ds := SeqAt.readsAll_map ds its as hxs h4
      obtain ⟨hjd, _⟩ := List.getElem?_eq_some_iff.mp hz
      have hjl : j < its.length := by omega
      have hj : j < its.toArray.size := by simpa using hjl
      have at_ : ∀ (m : Nat) (hm : m < its.toArray.size) (z' : PyData), ds[m]? = some z' → SeqAt.readOf s.heap its.toArray[m] = z' := by
        intro m hm z' hz'
        have hml : m < its.length := by simpa using hm
        rw [← hmap, List.getElem?_map, List.getElem?_eq_getElem hml] at hz'
        have e1 : SeqAt.readOf s.heap its[m] = z' := Option.some.inj (show some (SeqAt.readOf s.heap its[m]) = some z' from hz')
        simpa using e1
      refine call_meets PySem.F.slot_tuple_index ⟨_, ho, rfl⟩ PySem.F.entry_tuple_index (PySem.F.args_tuple_index_2 _ _)
        (TI.tuple_indexAt a its.toArray n dd sls uy (fun u => PyData.eqv (SeqAt.readOf s.heap u) d) j hj ?_ ?_) ⟨ho, SeqAt.items_eqAt (vs := its.toArray) (show ReadsAll s.heap its.toArray.toList ds as from h4) r1 hxs (SeqAt.canLay_of_shaped sd) hroom, ?_⟩
      · show PyData.eqv (SeqAt.readOf s.heap its.toArray[j]) d = true
        rw [at_ j hj z hz]
        exact hzj
      · intro m hm hmj
        have hmd : m < ds.length := by omega
        have hz' : ds[m]? = some ds[m] := List.getElem?_eq_getElem hmd
        show PyData.eqv (SeqAt.readOf s.heap its.toArray[m]) d = false
        rw [at_ m hm _ hz']
        exact hno m _ hmj hz'
      · exact ⟨.int (j : Nat), H, I.tok _, ⟨_, rfl⟩, q⟩
theorem tupAt_is {pins : List (Addr × Obj)} {σ : L2.St} {H : Hp} {s : Shared} {a : Addr} {vs : List V} (I : Inv X pins σ H s) (h : TupAt X.K H a vs) : s.TypeIs (.ref a) "tuple" ∧ ∀ b, Value.ref a = .ref b → ∃ ob, s.heap.get? b = some ob ∧ ob.dict = none := by
  rcases h with ⟨o, e, d⟩ | ⟨o, its, n, h1, h2, h3, h4, h5, h6⟩
  · obtain ⟨g, q⟩ := I.hok a _ e
    obtain ⟨_, its, _, p⟩ := q
    obtain ⟨o', e', hc, _⟩ := p
    rw [g] at e'; cases e'
    refine ⟨⟨o, g, hc⟩, fun b hb => ?_⟩
    cases hb
    exact ⟨o, g, d⟩
  · refine ⟨⟨o, I.kIn a o h1, h2⟩, fun b hb => ?_⟩
    cases hb
    exact ⟨o, I.kIn _ o h1, h3⟩
def tBMQ (K : PySem.W.Frag) (to : TE) (t : TA) : TE := fun σ H Q => to σ H fun x H1 => (tyV K "list" x H1 ∧ t σ H1 fun xs H2 => rIndexD K x xs H2 Q) ∨ ((∃ a vs, x = .ref a ∧ TupAt K H1 a vs) ∧ t σ H1 fun xs H2 => rIndexT K x xs H2 Q)
variable {o e : Expr} {es : List Expr} {to : TE} {t : TA} {apos cpos : Pos}
theorem pe_bmQ (hu : X.A.units + 65 < cLine) (ho : PE X o to) (ha : PA X (e :: es) t)
    (hbase : attributeBase o "index" X.env (eval o X.env) = eval o X.env := by rfl)
    (hfew : ((backTo cpos (starEach (e :: es) X.env)).all (fun x => !x.1) && (backToKw cpos (keywordEach [] X.env)).all (fun x => x.1.isSome)
      && decide ((e :: es).length + ([] : List Keyword).length + (if ([] : List Keyword).isEmpty then 0 else 1) < 30)) = true := by rfl)
    (hline : (apos.endLine == cpos.line) = true := by rfl) (hs : starEach (e :: es) X.env = (false, eval e X.env) :: starEach es X.env := by rfl) (hplain : (backTo cpos (starEach es X.env)).any (·.1) = false := by rfl) :
    PE X (.Call (.Attribute o "index" apos) (e :: es) [] cpos) (tBMQ X.K to t) := by
  refine ⟨fun pins s σ H Q I h => ?_⟩
  refine wpAny_Call_method_late hbase hfew hline rfl (thn (ho.run pins s σ H _ I h) fun v s1 ⟨x, H1, I1, r1, q⟩ => ?_)
  rcases q with ⟨ty, q1⟩ | ⟨⟨a, vs, hx, ty⟩, q1⟩
  · obtain ⟨h1, h2⟩ := tyV_is I1 r1 ty
    refine ⟨"list", "list.index", PySem.F.plainAttrs_list, PySem.F.slot_list_index, PySem.F.type_list_index, h1, h2, ?_⟩
    have hA := ha.run cpos pins s1 σ H1 _ I1 q1
    rw [hs] at hA ⊢
    refine Calls.callWith_builtin (by show (false || (backTo cpos (starEach es X.env)).any (·.1)) = false; rw [hplain] <;> rfl) (Calls.evalArgs_plain ?_)
    exact thn hA fun us s2 ⟨vs, H2, I2, r2, q2⟩ => mt_indexD hu pins s2 σ H2 x vs v us Q I2 r1 r2 q2
  · subst hx
    cases r1
    obtain ⟨h1, h2⟩ := tupAt_is I1 ty
    refine ⟨"tuple", "tuple.index", PySem.F.plainAttrs_tuple, PySem.F.slot_tuple_index, PySem.F.type_tuple_index, h1, h2, ?_⟩
    have hA := ha.run cpos pins s1 σ H1 _ I1 q1
    rw [hs] at hA ⊢
    refine Calls.callWith_builtin (by show (false || (backTo cpos (starEach es X.env)).any (·.1)) = false; rw [hplain] <;> rfl) (Calls.evalArgs_plain ?_)
    exact thn hA fun us s2 ⟨vs, H2, I2, r2, q2⟩ => mt_indexT hu pins s2 σ H2 (.ref a) vs (.ref a) us Q I2 rfl r2 q2
end
def tupV : Vl → Option (List D)
  | .d (.tup ds) => some ds
  | _ => none
def isTp (x : Vl) : Bool := (tupV x).isSome
/-- a method that reads a list or a tuple -/
def metQ (g : Vl → List Vl → Store → Res Vl) (o : Ex) (a : As) : Ex := fun η S => (o η S).bind fun x S1 => if (isLs S1 x || isTp x) = true then (a η S1).bind fun ys S2 => g x ys S2 else .stuck
def oIndexQ (x : Vl) (ys : List Vl) (S : Store) : Res Vl := match ys with
  | [y] => match rd S y with
    | some d => match seqV S x with
      | some ds => if (okD 60 d && ds.all (okD 59)) = true then match fstEq d 0 ds with
          | some j => .ok (.d (.int (j : Nat))) S
          | none => .stuck
        else .stuck
      | none => .stuck
    | none => .stuck
  | _ => .stuck
theorem oIndexQ_nx (x : Vl) (a : List Vl) (S : Store) : noX (oIndexQ x a S) := by unfold oIndexQ; (repeat' split) <;> first | trivial | (simp only [noX])
section
variable {X : Cx} {G : GI} {W : WX} {pos apos cpos : Pos} {n0 k : Nat}
theorem oIndexT_s (hK : X.K = G.K) : ∀ (w : Wd) (S : Store) (H : Hp) (ds : List D) (v : V) (xs : List Vl) (vs : List V) (Q : VK), Rel G w S H → RV G w (.d (.tup ds)) v → RVs G w xs vs → Post G w H (rV G) (oIndexQ (.d (.tup ds)) xs S) Q (fun _ _ => False) → rIndexT X.K v vs H Q := fun w S H ds v xs vs Q hR rv rx h => by
  unfold oIndexQ at h
  rw [hK]
  split at h
  · split at h
    · rename_i d e1
      split at h
      · rename_i ds' e2
        cases e2
        split at h
        · rename_i hok
          split at h
          · rename_i j e3
            obtain ⟨ok1', ok2⟩ := (Bool.and_eq_true _ _).mp hok
            obtain ⟨u, rfl, r⟩ := rx.one
            have rd := rd_ok hR e1 r
            cases rv with
            | d rt =>
              cases rt with
              | tup s rr =>
                obtain ⟨m, hj, ⟨z, hz, he⟩, hno⟩ := fstEq_ok e3
                have hj : j = m := by omega
                subst hj
                have okL' : okD 60 (.tup ds) = true := by unfold okD; exact ok2
                have dpL : Dp G.K H _ (toPy (.tup ds)) := (RD.tup (s.mono hR.sub) (rr.mono hR.sub)).dp okL'
                have dpD := rd.dp ok1'
                refine ⟨_, u, toPy d, toPys ds, j, toPy z, rfl, rfl, dpL, dpD, okD_shaped (by decide) okL', okD_shaped (by decide) ok1', by rw [toPys_get, hz]; rfl, by rw [eqv_toPy]; exact he, fun k z' hk hz' => ?_, ok1 h hR (.d (.int _))⟩
                rw [toPys_get] at hz'
                cases q : ds[k]? with
                | none => rw [q] at hz'; cases hz'
                | some y =>
                  rw [q] at hz'
                  cases hz'
                  rw [eqv_toPy]
                  exact hno k y hk q
          · exact h.elim
        · exact h.elim
      · exact h.elim
    · exact h.elim
  · exact h.elim
theorem oIndexQ_l {x : Vl} {ys : List Vl} {S S1 : Store} (h : isLs S1 x = true) : oIndexQ x ys S = oIndex x ys S := by
  have e : seqV S x = seqL S x := by
    unfold seqV
    split
    · unfold isLs seqL at h; cases h
    · rfl
  unfold oIndexQ oIndex
  rw [e]
  all_goals try rfl
theorem me_idx {o e : Expr} {es : List Expr} {f : Ex} {fa : As} (hK : X.K = G.K) (hu : X.A.units + 65 < cLine) (ho : PE X o (tE G W f)) (ha : PA X (e :: es) (tA G W fa))
    (hbase : attributeBase o "index" X.env (eval o X.env) = eval o X.env := by rfl)
    (hfew : ((backTo cpos (starEach (e :: es) X.env)).all (fun x => !x.1) && (backToKw cpos (keywordEach [] X.env)).all (fun x => x.1.isSome)
      && decide ((e :: es).length + ([] : List Keyword).length + (if ([] : List Keyword).isEmpty then 0 else 1) < 30)) = true := by rfl)
    (hline : (apos.endLine == cpos.line) = true := by rfl) (hst : starEach (e :: es) X.env = (false, eval e X.env) :: starEach es X.env := by rfl) (hplain : (backTo cpos (starEach es X.env)).any (·.1) = false := by rfl) : PE X (.Call (.Attribute o "index" apos) (e :: es) [] cpos) (tE G W (metQ oIndexQ f fa)) :=
  (pe_bmQ hu ho ha hbase hfew hline hst hplain).imp fun σ H Q ⟨w, S, η, hR, hE, h⟩ => ⟨w, S, η, hR, hE, Post.thn h fun w1 S1 H1 x v n hR1 rx h2 => by
    split at h2
    · rename_i hp
      cases q : seqL S1 x with
      | some ds =>
        obtain ⟨a, us, rfl, s, _⟩ := seqL_ok hR1 q rx
        exact .inl ⟨.inl ⟨rfl, us, SqL.of s⟩, w1, S1, η, hR1, hE.mono n.n, Post.thn h2 fun w2 S2 H2 ys us n2 hR2 ry h3 => oIndex_s hK w2 S2 H2 x _ ys us Q hR2 (rx.mono n2.n) ry (by
          rw [oIndexQ_l (S1 := S1) (by unfold isLs; rw [q]; rfl)] at h3
          exact h3.noX (oIndex_nx _ _ _))⟩
      | none =>
        have hq : isTp x = true := by
          unfold isLs at hp; rw [q] at hp; exact hp
        match x, hq, rx with
        | .d (.tup ds), _, rx =>
          cases rx with
          | d rt =>
            cases rt with
            | tup s rr =>
              exact .inr ⟨⟨_, _, rfl, by rw [hK]; exact s.mono hR1.sub⟩, w1, S1, η, hR1, hE.mono n.n, Post.thn h2 fun w2 S2 H2 ys us n2 hR2 ry h3 => oIndexT_s hK w2 S2 H2 ds _ ys us Q hR2 ((RV.d (RD.tup s rr)).mono n2.n) ry (h3.noX (oIndexQ_nx _ _ _))⟩
    · exact h2.elim⟩
/-! ### a * k, a new list -/
end
end MP

/-! MPG: a test looked at with all cells frozen -/
namespace MP
open PySem PySem.Spec PyProof.Rows L2
def scopeT (c : Te) : Te := fun η S => match c (frEn 0 S η) ⟨[]⟩ with
  | .ok b _ => .ok b S
  | _ => .stuck
section
variable {X : Cx} {G : GI} {W : WX}
/-- the cells as they were; all else as it is known behind -/
def McOf (w : Wd) (M' : Hp) : Hp := fun a => if a ∈ w.ρ then w.M a else M' a
theorem rel_back {w w' : Wd} {S S' : Store} {H H' : Hp} (hR : Rel G w S H) (hg : Go (w.fr 0 H) H w' H') (hR' : Rel G w' S' H') : Rel G ⟨McOf w w'.M, w.ρ⟩ S H' ∧ Go w H ⟨McOf w w'.M, w.ρ⟩ H' := by
  have frIn : ∀ a ∈ w.ρ, (w.fr 0 H).M a = H a := fun a ha => by unfold Wd.fr; simp only; rw [if_pos (by rw [List.drop_zero]; exact ha)]
  have frNo : ∀ a, a ∉ w.ρ → (w.fr 0 H).M a = w.M a := fun a ha => by unfold Wd.fr; simp only; rw [if_neg (by rw [List.drop_zero]; exact ha)]
  have cIn : ∀ a ∈ w.ρ, McOf w w'.M a = w.M a := fun a ha => by unfold McOf; rw [if_pos ha]
  have cNo : ∀ a, a ∉ w.ρ → McOf w w'.M a = w'.M a := fun a ha => by unfold McOf; rw [if_neg ha]
  have up : Sub w.M w'.M := (hR.fr_sub 0).trans hg.n.m
  have at_ : ∀ a ∈ w.ρ, w'.M a = H a ∧ H' a = H a := fun a ha => by
    obtain ⟨o, e⟩ := hR.dom a ha
    have q := hg.n.m a o (by rw [frIn a ha]; exact e)
    exact ⟨q.trans e.symm, (hR'.sub a o q).trans e.symm⟩
  have sM : Sub w.M (McOf w w'.M) := fun a o e => by
    by_cases ha : a ∈ w.ρ
    · rw [cIn a ha]; exact e
    · rw [cNo a ha]; exact up a o e
  have sH : Sub (McOf w w'.M) H' := fun a o e => by
    by_cases ha : a ∈ w.ρ
    · rw [cIn a ha] at e; exact hR'.sub a o (up a o e)
    · rw [cNo a ha] at e; exact hR'.sub a o e
  refine ⟨⟨sH, hR.len, hR.nd, fun a ha => ?_, fun n c a e1 e2 => ?_, fun p hp => ?_, fun a o e => ?_, fun a ha => ?_, fun a o e => ?_⟩, ⟨⟨sM, List.prefix_refl _⟩, fun a o e n => ?_⟩⟩
  · obtain ⟨o, e⟩ := hR.dom a ha
    exact ⟨o, (at_ a ha).2.trans e⟩
  · have ha := List.mem_of_getElem? e2
    obtain ⟨h1, r⟩ := hR.cel n c a e1 e2
    exact ⟨(cIn a ha).trans h1, r.mono sM (at_ a ha).2⟩
  · obtain ⟨_, n0, _⟩ := hR.gg.tab p hp
    obtain ⟨⟨ps, e, h1, h2⟩, _, m⟩ := hR'.gg.tab p hp
    refine ⟨⟨ps, e, h1, fun pos cv hc => ?_⟩, n0, (cNo _ n0).trans m⟩
    obtain ⟨c, a, b⟩ := h2 pos cv hc
    refine ⟨c, a, ?_⟩
    show McOf w w'.M c = _
    rw [cNo c fun hc => ?_]
    · exact b
    · rw [(at_ c hc).1] at b
      exact (hR.gg.nt c hc).2 _ _ b
  · obtain ⟨q, n⟩ := hR.gg.low a o e
    exact ⟨sM a o q, n⟩
  · rw [(at_ a ha).2]; exact hR.gg.nt a ha
  · by_cases ha : a ∈ w.ρ
    · have e : McOf w w'.M a = some o := e
      rw [cIn a ha] at e; exact hR.gg.mt a o e
    · have e : McOf w w'.M a = some o := e
      rw [cNo a ha] at e; exact hR'.gg.mt a o e
  · obtain ⟨f1, _, f3⟩ := hg.f a o e (by show a ∉ w.ρ.take 0; simp)
    refine ⟨f1, n, fun z => ?_⟩
    show McOf w w'.M a = none
    rw [cNo a n]
    exact f3 ((frNo a n).trans z)
theorem mt_scope {e : Expr} {c : Te} (h : PT X e (tT G W c)) : PT X e (tT G W (scopeT c)) := ⟨fun pins s σ H Q I ⟨w, S, η, hR, hE, hp⟩ => by
  refine h.run pins s σ H Q I ⟨w.fr 0 H, ⟨[]⟩, frEn 0 S η, by have := hR.fr 0; rwa [List.take_zero] at this, hE.fr hR 0, ?_⟩
  unfold scopeT at hp
  revert hp
  cases c (frEn 0 S η) ⟨[]⟩ with
  | ok b S1 =>
    intro hp w' H' x hg hR' hb
    obtain ⟨h1, h2⟩ := rel_back hR hg hR'
    exact hp _ H' x h2 h1 hb
  | exc k S1 => intro hp; exact hp.elim
  | stuck => intro hp; exact hp.elim⟩
end
end MP

/-! MPH: constants of the module; dicts of the module with text keys; chains of comparisons -/
namespace MP
open PySem PySem.Spec PyProof.Rows L2
/-! ### constants -/
section
variable {X : Cx} {G : GI} {W : WX} {pos : Pos}
end
/-! ### a dict of the module -/
section
variable {X : Cx} {G : GI} {W : WX} {pos p : Pos} {kvs : List (Str × D)} {x : Str} {e : Expr} {f : Ex}
end
/-! ### chains of comparisons -/
section
variable {X : Cx} {G : GI} {W : WX} {pos : Pos}
end
end MP

/-! MPI: sorted(set(xs)), xs a list of tuples of ints -/
namespace MP
open PySem PySem.Spec PyProof.Rows L2
theorem lxT_irr : ∀ a : List Int, HT.lexLt a a = false
  | [] => rfl
  | x :: a => by rw [HT.lexLt_cons, if_pos rfl]; exact lxT_irr a
theorem lxT_tri : ∀ {a b : List Int}, HT.lexLt a b = false → HT.lexLt b a = false → a = b
  | [], [], _, _ => rfl
  | [], _ :: _, h, _ => by simp [HT.lexLt] at h
  | _ :: _, [], _, h => by simp [HT.lexLt] at h
  | x :: a, y :: b, h1, h2 => by
    rw [HT.lexLt_cons] at h1 h2
    by_cases e : x = y
    · subst e
      rw [if_pos rfl] at h1 h2
      rw [lxT_tri h1 h2]
    · rw [if_neg e] at h1
      rw [if_neg (Ne.symm e)] at h2
      have a := of_decide_eq_false h1
      have b := of_decide_eq_false h2
      omega

theorem lxT_trans {a b c : List Int} (h1 : HT.lexLt a b = true) (h2 : HT.lexLt b c = true) : HT.lexLt a c = true := by
  have O := swo_key (α := List Int) id
  cases q : HT.lexLt a c with
  | true => rfl
  | false =>
    -- c ≤ a, a < b, b < c
    exfalso
    have h3 : ∀ {a b c : List Int}, HT.lexLt a b = true → HT.lexLt b c = true → HT.lexLt a c = true := by
      intro a
      induction a with
      | nil => intro b c h1 h2; cases b with
        | nil => simp [HT.lexLt] at h1
        | cons y b => cases c with
          | nil => simp [HT.lexLt] at h2
          | cons z c => rfl
      | cons x a ih => intro b c h1 h2; cases b with
        | nil => simp [HT.lexLt] at h1
        | cons y b => cases c with
          | nil => simp [HT.lexLt] at h2
          | cons z c =>
            rw [HT.lexLt_cons] at h1 h2 ⊢
            by_cases e1 : x = y
            · subst e1
              rw [if_pos rfl] at h1
              by_cases e2 : x = z
              · subst e2; rw [if_pos rfl] at h2 ⊢; exact ih h1 h2
              · rw [if_neg e2] at h2 ⊢; exact h2
            · rw [if_neg e1] at h1
              have l1 := of_decide_eq_true h1
              by_cases e2 : y = z
              · subst e2; rw [if_neg e1]; exact h1
              · rw [if_neg e2] at h2
                have l2 := of_decide_eq_true h2
                rw [if_neg (by omega)]; exact decide_eq_true (by omega)
    rw [h3 h1 h2] at q; cases q
theorem srtT_ext : ∀ {a b : List (List Int)}, (a.Pairwise fun x y => HT.lexLt x y = true) → (b.Pairwise fun x y => HT.lexLt x y = true) → (∀ r, r ∈ a ↔ r ∈ b) → a = b
  | [], [], _, _, _ => rfl
  | [], y :: b, _, _, h => absurd ((h y).mpr (List.mem_cons_self ..)) (by simp)
  | x :: a, [], _, _, h => absurd ((h x).mp (List.mem_cons_self ..)) (by simp)
  | x :: a, y :: b, ha, hb, h => by
    obtain ⟨a1, a2⟩ := List.pairwise_cons.mp ha
    obtain ⟨b1, b2⟩ := List.pairwise_cons.mp hb
    have irr : ∀ {z : List Int}, HT.lexLt z z = true → False := fun {z} q => by rw [lxT_irr] at q; cases q
    have e : x = y := by
      rcases List.mem_cons.mp ((h x).mp (List.mem_cons_self ..)) with e | e
      · exact e
      · rcases List.mem_cons.mp ((h y).mpr (List.mem_cons_self ..)) with e' | e'
        · exact e'.symm
        · exact (irr (lxT_trans (b1 x e) (a1 y e'))).elim
    subst e
    rw [srtT_ext a2 b2 fun r => ⟨fun hr => by
      rcases List.mem_cons.mp ((h r).mp (List.mem_cons_of_mem _ hr)) with e | e
      · subst e; exact (irr (a1 _ hr)).elim
      · exact e, fun hr => by
      rcases List.mem_cons.mp ((h r).mpr (List.mem_cons_of_mem _ hr)) with e | e
      · subst e; exact (irr (b1 _ hr)).elim
      · exact e⟩]

/-! ### unlike rows, ascending -/
def insT (r : List Int) : List (List Int) → List (List Int)
  | [] => [r]
  | x :: xs => if HT.lexLt r x = true then r :: x :: xs else if r = x then x :: xs else x :: insT r xs
def usortT : List (List Int) → List (List Int)
  | [] => []
  | r :: rs => insT r (usortT rs)
theorem insT_mem {r z : List Int} : ∀ {l : List (List Int)}, z ∈ insT r l ↔ z = r ∨ z ∈ l
  | [] => by simp [insT]
  | x :: xs => by
    unfold insT
    split
    · simp
    · split
      · rename_i h; subst h; simp
      · rw [List.mem_cons, insT_mem (l := xs), List.mem_cons]
        constructor
        · rintro (h | h | h) <;> simp [h]
        · rintro (h | h | h) <;> simp [h]
theorem insT_srt {r : List Int} : ∀ {l : List (List Int)}, (l.Pairwise fun a b => HT.lexLt a b = true) → (insT r l).Pairwise fun a b => HT.lexLt a b = true
  | [], _ => List.pairwise_singleton _ _
  | x :: xs, h => by
    obtain ⟨h1, h2⟩ := List.pairwise_cons.mp h
    unfold insT
    split
    · rename_i q
      refine List.pairwise_cons.mpr ⟨fun z hz => ?_, h⟩
      rcases List.mem_cons.mp hz with rfl | hz
      · exact q
      · exact lxT_trans q (h1 z hz)
    · rename_i q
      split
      · exact h
      · rename_i ne
        refine List.pairwise_cons.mpr ⟨fun z hz => ?_, insT_srt h2⟩
        rcases insT_mem.mp hz with rfl | hz
        · cases e : HT.lexLt x z with
          | true => rfl
          | false => exact absurd (lxT_tri (by simpa using q) e) ne
        · exact h1 z hz
theorem usortT_mem {z : List Int} : ∀ {l : List (List Int)}, z ∈ usortT l ↔ z ∈ l
  | [] => by simp [usortT]
  | x :: xs => by unfold usortT; rw [insT_mem, usortT_mem, List.mem_cons]
theorem usortT_srt : ∀ l : List (List Int), (usortT l).Pairwise fun a b => HT.lexLt a b = true
  | [] => List.Pairwise.nil
  | x :: xs => insT_srt (usortT_srt xs)
theorem code_lex' {B : Int} : ∀ {a b : List Int}, a.length = b.length → TS.Bd B a → TS.Bd B b → TS.code B a ≤ TS.code B b → a = b ∨ HT.lexLt a b = true
  | [], [], _, _, _, _ => .inl rfl
  | x :: a, y :: b, hl, ha, hb, h => by
    have hl' : a.length = b.length := by simpa using hl
    rw [HT.lexLt_cons]
    by_cases e : x = y
    · subst e
      rw [if_pos rfl]
      have hs := TS.code_same (B := B) (d := x) hl'.symm
      have h2 : ¬ TS.code B b < TS.code B a := fun z => by have := hs.mpr z; omega
      rcases code_lex' hl' ha.tail hb.tail (by omega) with z | z
      · exact .inl (by rw [z])
      · exact .inr z
    · rw [if_neg e]
      rcases Int.lt_or_gt_of_ne e with z | z
      · exact .inr (by simpa using z)
      · have := TS.code_lt (B := B) hl'.symm hb.tail ha.tail z
        omega
  | [], _ :: _, hl, _, _, _ => by simp at hl
  | _ :: _, [], hl, _, _, _ => by simp at hl
/-! ### the rule -/
def rowD : D → Option (List Int)
  | .tup ds => intsD ds
  | _ => none
def rowsD : List D → Option (List (List Int))
  | [] => some []
  | d :: ds => match rowD d, rowsD ds with
    | some r, some rs => some (r :: rs)
    | _, _ => none
def tupI (r : List Int) : D := .tup (r.map .int)
def setOkT (rs : List (List Int)) : Bool := decide (rs.length < 64) && decide (1 ≤ (rs.headD [0]).length) && rs.all fun r => decide (r.length = (rs.headD [0]).length) && r.all fun x => decide (0 ≤ x) && decide (x < 1000000)
def ssetTL (e : Ex) : Li := fun η S => (e η S).bind fun v S1 => match seqL S1 v with
  | some ds => match rowsD ds with
    | some rs => if setOkT rs = true then .ok ((usortT rs).map tupI) S1 else .stuck
    | none => .stuck
  | none => .stuck
section
variable {X : Cx} {G : GI} {W : WX} {pos p1 p2 p3 : Pos}
theorem rows_ok {M : Hp} : ∀ {ds : List D} {rs : List (List Int)} {vs : List V}, rowsD ds = some rs → RDs G M ds vs → ∃ ks : List (Addr × List Int), vs = ks.map (fun p => V.ref p.1) ∧ ks.map (·.2) = rs ∧ ∀ p ∈ ks, TupAt G.K M p.1 (p.2.map V.int)
  | [], rs, _, e, .nil => by cases e; exact ⟨[], rfl, rfl, fun _ h => by cases h⟩
  | d :: ds, rs, _, e, .cons h t => by
    unfold rowsD at e
    split at e
    · rename_i r rs' e1 e2
      cases e
      obtain ⟨ks, k1, k2, k3⟩ := rows_ok e2 t
      unfold rowD at e1
      split at e1
      · cases h with
        | tup s r' =>
          have := intsD_ok e1 r'
          subst this
          refine ⟨(_, r) :: ks, by rw [k1]; rfl, by rw [List.map_cons, k2], fun p hp => ?_⟩
          rcases List.mem_cons.mp hp with rfl | hp
          · exact s
          · exact k3 p hp
      · cases e1
    · cases e
theorem rds_ks {M : Hp} : ∀ (ks : List (Addr × List Int)), (∀ p ∈ ks, TupAt G.K M p.1 (p.2.map V.int)) → RDs G M ((ks.map (·.2)).map tupI) (ks.map fun p => V.ref p.1)
  | [], _ => .nil
  | p :: ks, h => .cons (.tup (h p (List.mem_cons_self ..)) (RDs.ints _)) (rds_ks ks fun q hq => h q (List.mem_cons_of_mem _ hq))
theorem ml_ssetT {e : Expr} {f : Ex} (hK : X.K = G.K) (hu : X.A.units + 64 < cLine) (hm1 : X.mg "sorted" = none) (hm2 : X.mg "set" = none) (he : PE X e (tE G W f)) (hc : X.calm = true := by rfl) (hg1 : Gl X "sorted" := by rfl) (hg2 : Gl X "set" := by rfl)
    (hs1 : starEach [e] X.env = (false, eval e X.env) :: starEach [] X.env := by rfl) (hp1 : (backTo p2 (starEach [] X.env)).any (·.1) = false := by rfl)
    (hs2 : starEach [.Call (.Name "set" p1) [e] [] p2] X.env = (false, eval (.Call (.Name "set" p1) [e] [] p2) X.env) :: starEach [] X.env := by rfl) (hp2 : (backTo pos (starEach [] X.env)).any (·.1) = false := by rfl) :
    PE X (.Call (.Name "sorted" p3) [.Call (.Name "set" p1) [e] [] p2] [] pos) (tL G W (ssetTL f)) := by
  have h1 := pe_callTy (p := p1) (cr_setOfT hc hu) hg2 hm2 (by decide +kernel) (pa_cons (hs := hs1) he pa_nil) (by decide) (by decide) hs1 hp1
  have h2 := pe_callB (p := p3) (cr_sortedT hc) hg1 hm1 (by decide +kernel) (pa_cons (hs := hs2) h1 pa_nil) (by decide) (by decide) hs2 hp2
  refine h2.imp fun σ H Q ⟨w, S, η, hR, hE, h⟩ => ?_
  refine ⟨w, S, η, hR, hE, Post.thn h fun w1 S1 H1 x v n hR1 rx h3 => ?_⟩
  split at h3
  · rename_i ds e0
    split at h3
    · rename_i rs e1
      split at h3
      · rename_i hz
        obtain ⟨l, us, rfl, sl, rr⟩ := seqL_ok hR1 e0 rx
        obtain ⟨ks, k1, k2, k3⟩ := rows_ok e1 rr
        unfold setOkT at hz
        rw [Bool.and_eq_true, Bool.and_eq_true] at hz
        obtain ⟨⟨z1, z2⟩, z3⟩ := hz
        have z1 := of_decide_eq_true z1
        have z2 := of_decide_eq_true z2
        have hb : ∀ p ∈ ks, p.2.length = (rs.headD [0]).length ∧ TS.Bd 1000000 p.2 := fun p hp => by
          have := List.all_eq_true.mp z3 p.2 (by rw [← k2]; exact List.mem_map.mpr ⟨p, hp, rfl⟩)
          rw [Bool.and_eq_true] at this
          refine ⟨of_decide_eq_true this.1, fun x hx => ?_⟩
          have := List.all_eq_true.mp this.2 x hx
          rw [Bool.and_eq_true] at this
          exact ⟨of_decide_eq_true this.1, of_decide_eq_true this.2⟩
        subst k1
        rw [hK]
        have hkl : ks.length = rs.length := by rw [← k2, List.length_map]
        refine ⟨l, ks, rfl, SqL.of sl, fun p hp => hR1.sub.t (k3 p hp).t, by omega, fun a L ha hs1 hs2 => ?_⟩
        have hup : Sub w1.M (upd H1 a (SetTO X.prog X.w a L)) := (hR1.sub).trans (Sub.new ha)
        refine ⟨a, L, (rs.headD [0]).length, 1000000, rfl, upd_same, fun p hp => hup.t (k3 p (hs1 p hp)).t, z2, fun p hp => hb p (hs1 p hp), fun L' p pm nd few pw hp => ?_⟩
        have hin : ∀ q ∈ L', q ∈ ks := fun q hq => hs1 q (pm.mem_iff.mp hq)
        have es : L'.map (·.2) = usortT rs := by
          refine srtT_ext ?_ (usortT_srt rs) fun r => ?_
          · have p1 : (L'.map (·.2)).Pairwise fun a b => TS.code 1000000 a ≤ TS.code 1000000 b := List.pairwise_map.mpr pw
            refine (p1.and nd).imp_of_mem fun {a b} ha hb' h => ?_
            obtain ⟨q1, m1, rfl⟩ := List.mem_map.mp ha
            obtain ⟨q2, m2, rfl⟩ := List.mem_map.mp hb'
            have b1 := hb q1 (hin q1 m1)
            have b2 := hb q2 (hin q2 m2)
            rcases code_lex' (b1.1.trans b2.1.symm) b1.2 b2.2 h.1 with z | z
            · exact absurd z h.2
            · exact z
          · rw [usortT_mem, ← k2]
            constructor
            · intro h
              obtain ⟨q, hq, rfl⟩ := List.mem_map.mp h
              exact List.mem_map.mpr ⟨q, hin q hq, rfl⟩
            · intro h
              obtain ⟨q, hq, rfl⟩ := List.mem_map.mp h
              obtain ⟨q', hq', e⟩ := List.mem_map.mp (hs2 q hq)
              exact List.mem_map.mpr ⟨q', pm.mem_iff.mpr hq', e⟩
        rw [← es] at h3
        exact h3 w1 _ (p, L'.map fun q => V.ref q.1) (Go.add ha) (hR1.add ha) ⟨hp, rds_ks L' fun q hq => k3 q (hin q hq)⟩
      · exact h3.elim
    · exact h3.elim
  · exact h3.elim
end
end MP

/-! MPJ: a law's end where no repr is under way; str of data -/
namespace MP
open PySem PySem.Spec PyProof.Rows L2
/-! ### the end -/
/-- the heap in which the script alone may be told -/
def scrH (K : PySem.W.Frag) (a : Addr) (vs : List Value) (ns : List Int) : Hp := fun b => if b = a ∧ K.lookup a = none then some (.frz { cls := .type "list", data := .seq vs.toArray } (.lst (ns.map V.int))) else none
section
variable {P : Program} {w : World} {K : PySem.W.Frag} {mg mb : Str → Option Value} {k : Nat} {fa a : Addr} {fd : FuncData} {x : Str} {sp : Sp} {s1 : Shared} {vs : List Value} {ns : List Int} {C : CXT}
theorem scrH_some {b : Addr} {u : HO} (h : scrH K a vs ns b = some u) : b = a ∧ K.lookup a = none ∧ u = .frz { cls := .type "list", data := .seq vs.toArray } (.lst (ns.map V.int)) := by
  unfold scrH at h
  split at h
  · rename_i z; cases h; exact ⟨z.1, z.2, rfl⟩
  · cases h
end
/-! ### str of data -/
def rStrD (K : PySem.W.Frag) : List V → Hp → VK → Prop := fun xs H Q => (∃ i : Int, xs = [.int i] ∧ i.natAbs.log2 < 1920 ∧ Q (.str (toString i)) H) ∨
  (∃ t : Str, xs = [.str t] ∧ Q (.str t) H) ∨ (∃ b : Bool, xs = [.bl b] ∧ Q (.str (if b then "True" else "False")) H) ∨ (xs = [.non] ∧ Q (.str "None") H) ∨
  ∃ (a : Addr) (d : PyData), xs = [.ref a] ∧ Dp K H (.ref a) d ∧ d.showable = true ∧ d.hasDict = false ∧ d.depth ≤ 100 ∧ d.shown.length ≤ sizeLine ∧ Q (.str d.shown) H
def strOk (d : D) : Bool := okD 60 d && (toPy d).showable && decide ((toPy d).shown.length ≤ 16777216)
def bStrD (vs : List Vl) (S : Store) : Res Vl := match vs with
  | [v] => match rd S v with
    | some (.int i) => if i.natAbs < 10000000000 then .ok (.d (.str (toString i))) S else .stuck
    | some (.str t) => .ok (.d (.str t)) S
    | some (.bl b) => .ok (.d (.str (if b then "True" else "False"))) S
    | some .non => .ok (.d (.str "None")) S
    | some (.tup ds) => if strOk (.tup ds) = true then .ok (.d (.str (toPy (.tup ds)).shown)) S else .stuck
    | some (.lst ds) => if strOk (.lst ds) = true then .ok (.d (.str (toPy (.lst ds)).shown)) S else .stuck
    | _ => .stuck
  | _ => .stuck
theorem okD_nodict : ∀ (n : Nat) (d : D), okD n d = true → (toPy d).hasDict = false
  | 0, d, h => by cases d <;> simp [okD, toPy, PyData.hasDict] at h ⊢
  | n + 1, d, h => by
    have all : ∀ xs : List D, xs.all (okD n) = true → PyData.hasDictAll (toPys xs) = false := by
      intro xs
      induction xs with
      | nil => intro _; simp [toPys, PyData.hasDictAll]
      | cons x xs ih =>
        intro h
        rw [List.all_cons, Bool.and_eq_true] at h
        simp only [toPys, PyData.hasDictAll, okD_nodict n x h.1, ih h.2, Bool.or_false]
    cases d <;> simp [okD, toPy, PyData.hasDict] at h ⊢
    all_goals exact all _ (List.all_eq_true.mpr h)
theorem log_small {i : Int} (h : i.natAbs < 10000000000) : i.natAbs.log2 < 1920 := by
  by_cases h0 : i.natAbs = 0
  · rw [h0]; decide
  · have h34 : i.natAbs < 2 ^ 34 := by omega
    have := (Nat.log2_lt h0 (k := 34)).mpr h34
    omega
section
variable {X : Cx} {G : GI} {k : Nat}
theorem cr_strD (r : MP.Room k X.A) : CallR X (.type "str") (rStrD X.K) := by
  intro pins s σ H xs us Q I rv h
  rcases h with ⟨i, rfl, hz, q⟩ | ⟨t, rfl, q⟩ | ⟨b, rfl, q⟩ | ⟨rfl, q⟩ | ⟨a, d, rfl, hd, hs, hn, hp, hz, q⟩
  · obtain ⟨u, rfl, t, rfl⟩ := vals1 rv
    exact PySem.P.str_of_int hz ⟨.str _, H, I.tok _, ⟨_, rfl⟩, q⟩
  · obtain ⟨u, rfl, t, rfl⟩ := vals1 rv
    exact PySem.P.str_of_str ⟨.str _, H, I, ⟨_, rfl⟩, q⟩
  · obtain ⟨u, rfl, rx⟩ := vals1 rv
    cases (show u = Value.bool b from rx)
    exact PySem.P.str_of_bool ⟨.str _, H, I.tok _, ⟨_, rfl⟩, q⟩
  · obtain ⟨u, rfl, rx⟩ := vals1 rv
    cases (show u = Value.none from rx)
    exact PySem.P.str_of_none ⟨.str _, H, I.tok _, ⟨_, rfl⟩, q⟩
  · rw [Vals.ref1 rv]
    obtain ⟨as, rr⟩ := Dp.reads I d _ _ hd rfl
    exact str_of_reads rr hs (fun e => by rw [hn] at e; cases e) r.gd (by have := r.un; omega) (fun _ _ e => e) (fun h' u tk k => ⟨.str _, H, I.kept k, ⟨u, rfl⟩, q⟩) hz
theorem bStrD_s (hK : X.K = G.K) : CallS G (rStrD X.K) bStrD := fun w S H xs vs Q hR rx h => by
  unfold bStrD at h
  rw [hK]
  have core : ∀ {d : D} {v : Vl} {x : V} {a : Addr}, rd S v = some d → RV G w v x → x = .ref a → Post G w H (rV G) (if strOk d = true then .ok (.d (.str (toPy d).shown)) S else .stuck) Q (fun _ _ => False) → rStrD G.K [x] H Q := fun {d v x a} e r ex h => by
    subst ex
    split at h
    · rename_i hz
      unfold strOk at hz
      rw [Bool.and_eq_true, Bool.and_eq_true] at hz
      obtain ⟨⟨z1, z2⟩, z3⟩ := hz
      have z3 := of_decide_eq_true z3
      have dp := RD.dp (rd_ok hR e r) z1
      exact .inr (.inr (.inr (.inr ⟨a, _, rfl, dp, z2, okD_nodict _ _ z1, Nat.le_trans (okD_lay _ _ z1).2 (by decide), by rw [szl]; exact z3, ok1 h hR (.d (.str _))⟩)))
    · exact h.elim
  split at h
  · rename_i v
    obtain ⟨x, rfl, r⟩ := rx.one
    split at h
    · rename_i i e
      split at h
      · rename_i hz
        have := rd_ok hR e r
        cases this
        exact .inl ⟨i, rfl, log_small hz, ok1 h hR (.d (.str _))⟩
      · exact h.elim
    · rename_i t e
      have := rd_ok hR e r
      cases this
      exact .inr (.inl ⟨_, rfl, ok1 h hR (.d (.str _))⟩)
    · rename_i b e
      have := rd_ok hR e r
      cases this
      exact .inr (.inr (.inl ⟨_, rfl, ok1 h hR (.d (.str _))⟩))
    · rename_i e
      have := rd_ok hR e r
      cases this
      exact .inr (.inr (.inr (.inl ⟨rfl, ok1 h hR (.d (.str _))⟩)))
    · rename_i ds e
      have t := rd_ok hR e r
      cases t with
      | tup _ _ => exact core e r rfl h
    · rename_i ds e
      have t := rd_ok hR e r
      cases t with
      | lst _ _ => exact core e r rfl h
    · exact h.elim
  · exact h.elim
theorem bStrD_nx (a : List Vl) (S : Store) : noX (bStrD a S) := by unfold bStrD; (repeat' split) <;> trivial
theorem bt_strD (hK : X.K = G.K) (r : MP.Room k X.A) : Bt X G "str" bStrD := fun W e es pos p f hg hm ha he hpl => me_callTy (cr_strD r) (bStrD_s hK) bStrD_nx hm (by decide +kernel) hg ha (by decide) (by decide) he hpl
end
end MP

/-! MPL: what a def told is new, where it was handed no lists but cells: told lists as fresh cells -/
namespace MP
open PySem PySem.Spec PyProof.Rows L2
/-! ### trees without lists; trees alike -/
mutual
def nl : D → Bool
  | .non => true
  | .bl _ => true
  | .int _ => true
  | .str _ => true
  | .tup xs => nls xs
  | _ => false
def nls : List D → Bool
  | [] => true
  | x :: xs => nl x && nls xs
end
mutual
def eqD : D → D → Bool
  | .non, .non => true
  | .bl a, .bl b => decide (a = b)
  | .int a, .int b => decide (a = b)
  | .str a, .str b => decide (a = b)
  | .tup a, .tup b => eqDs a b
  | .lst a, .lst b => eqDs a b
  | _, _ => false
def eqDs : List D → List D → Bool
  | [], [] => true
  | x :: xs, y :: ys => eqD x y && eqDs xs ys
  | _, _ => false
end
mutual
theorem eqD_ok : ∀ {a b : D}, eqD a b = true → a = b
  | .non, b, h => by cases b <;> first | rfl | (simp [eqD] at h)
  | .bl x, b, h => by cases b <;> simp [eqD] at h ⊢; exact h
  | .int x, b, h => by cases b <;> simp [eqD] at h ⊢; exact h
  | .str x, b, h => by cases b <;> simp [eqD] at h ⊢; exact h
  | .tup x, b, h => by cases b <;> simp [eqD] at h ⊢; exact eqDs_ok h
  | .lst x, b, h => by cases b <;> simp [eqD] at h ⊢; exact eqDs_ok h
  | .obj _ _ _, b, h => by simp [eqD] at h
  | .err _, b, h => by simp [eqD] at h
  | .dct _ _, b, h => by simp [eqD] at h
  | .scr _, b, h => by simp [eqD] at h
  | .fn _, b, h => by simp [eqD] at h
theorem eqDs_ok : ∀ {a b : List D}, eqDs a b = true → a = b
  | [], [], _ => rfl
  | x :: xs, y :: ys, h => by
    simp only [eqDs, Bool.and_eq_true] at h
    rw [eqD_ok h.1, eqDs_ok h.2]
  | [], _ :: _, h => by simp [eqDs] at h
  | _ :: _, [], h => by simp [eqDs] at h
end
mutual
theorem eqD_refl : ∀ {a : D}, nl a = true → eqD a a = true
  | .non, _ => rfl
  | .bl x, _ => by simp [eqD]
  | .int x, _ => by simp [eqD]
  | .str x, _ => by simp [eqD]
  | .tup x, h => by simp only [nl] at h; simp only [eqD]; exact eqDs_refl h
theorem eqDs_refl : ∀ {a : List D}, nls a = true → eqDs a a = true
  | [], _ => by simp [eqDs]
  | x :: xs, h => by
    simp only [nls, Bool.and_eq_true] at h
    simp only [eqDs, eqD_refl h.1, eqDs_refl h.2, Bool.and_self]
end
/-- N holds all that M holds but lists -/
def SubN (M N : Hp) : Prop := ∀ a o, M a = some o → (∀ vs, o ≠ .lst vs) → N a = some o
theorem TupAt.subN {K : PySem.W.Frag} {M N : Hp} {a : Addr} {vs : List V} (s : SubN M N) (h : TupAt K M a vs) : TupAt K N a vs := by
  rcases h with ⟨o, h, d⟩ | h
  · exact .inl ⟨o, s _ _ h fun _ z => (by cases z), d⟩
  · exact .inr h
mutual
theorem RD.nl {G : GI} {M N : Hp} (s : SubN M N) : ∀ {d : D} {v : V}, RD G M d v → MP.nl d = true → RD G N d v
  | _, _, .non, _ => .non
  | _, _, .bl b, _ => .bl b
  | _, _, .int i, _ => .int i
  | _, _, .str x, _ => .str x
  | _, _, .tup h t, e => .tup (h.subN s) (RDs.nl s t (by simpa only [MP.nl] using e))
  | _, _, .lst _ _, e => by simp [MP.nl] at e
  | _, _, .scr _, e => by simp [MP.nl] at e
  | _, _, .fn _, e => by simp [MP.nl] at e
  | _, _, .obj _ _ _ _, e => by simp [MP.nl] at e
  | _, _, .dct _ _ _ _, e => by simp [MP.nl] at e
theorem RDs.nl {G : GI} {M N : Hp} (s : SubN M N) : ∀ {d : List D} {v : List V}, RDs G M d v → nls d = true → RDs G N d v
  | _, _, .nil, _ => .nil
  | _, _, .cons h t, e => by
    simp only [nls, Bool.and_eq_true] at e
    exact .cons (RD.nl s h e.1) (RDs.nl s t e.2)
end
/-! ### what is handed -/
section
variable {G : GI} {w : Wd} {S : Store} {H : Hp}
end
section
variable {X : Cx} {G : GI} {W : WX} {pos : Pos} {k : Nat} {x : Str} {F : Fn}
end
end MP

/-! MPQ: errors of own classes: raise, try .. except, isinstance behind it -/
namespace MP
open PySem PySem.Spec PyProof.Rows L2
/-! ### a caught error is tracked -/
section
variable {X : Cx} {pins : List (Addr × Obj)} {σ : L2.St} {H : Hp} {s : Shared}
end
section
variable {X : Cx} {x n : Str} {c : Value} {i j : Nat} {body suite : List Stmt} {b₀ : Stmt} {np pos pos' : Pos} {tb : WX → TS}
end
/-! ### the own classes -/
def errNames : List Str := ["EasyError", "NoTable", "NoBook", "NoDeed", "NoQuestion", "NoFilling", "TooMany", "NoText", "NoRow", "NoThing", "NoBack", "Judge", "Roads", "Sum", "Fillings", "Walker", "Keeper", "Names", "Desk"]
def errName (c : Nat) : Str := errNames.getD c ""
abbrev VEl : List Value := [.type "ValueError", .type "Exception", .type "BaseException", .type "object"]
/-- what K must say of such a class -/
def errOne (K : PySem.W.Frag) (C0 C : Addr) : Bool :=
  PySem.W.excIn K C VEl "ValueError.__new__" && PySem.W.keepIn K (.ref C) && PySem.W.subIn K (.ref C) (.type "BaseException") == some true && PySem.W.typeIn K (.ref C) == some (.type "type")
  && PySem.W.findIn K (.ref C) "__getattribute__" == some (some (.builtin "BaseException.__getattribute__")) && PySem.W.findIn K (.ref C) "__getattr__" == some none && PySem.W.hasDictIn K C
  && PySem.W.findIn K (.ref C) "__class__" == some (some (.builtin "object.__class__")) && PySem.W.mroIn K C (.type "object") == some true
  && PySem.W.exmOne K (.ref C) (.ref C0) == some true && PySem.W.kitOne K (.ref C) (.type "ValueError") == some true && PySem.W.kitOne K (.type "NoneType") (.ref C) == some false
structure ErrsOk (K : PySem.W.Frag) (mg : Str → Option Value) (G : GI) : Prop where
  cls : ∀ c, c < 11 → mg (errName c) = some (.ref (G.cls c))
  one : ∀ c, c < 11 → errOne K (G.cls 0) (G.cls c) = true
  kit : ∀ i j, i < 11 → j < 11 → PySem.W.kitOne K (.ref (G.cls i)) (.ref (G.cls j)) = some (i == j || j == 0)
  sp : PySem.W.specialIn K (.builtin "object.__class__") "__get__" = some (some (.builtin "getset_descriptor.__get__"))
  tk : PySem.W.takesIn K (.builtin "object.__class__") = some true
def clsOf (mg : Str → Option Value) (c : Nat) : Addr := (refOf mg (errName c)).getD 0
/-! ### raise X() -/
section
variable {X : Cx} {G : GI} {W : WX} {n0 : Nat}
end
/-! ### isinstance of what was kept -/
section
variable {X : Cx}
end
/-- names of own classes -/
inductive ErrNs (X : Cx) : List Expr → List Nat → Prop
  | nil : ErrNs X [] []
  | cons {x : Str} {c : Nat} {p : Pos} {es : List Expr} {cs : List Nat} (hc : c < 11) (hx : errName c = x) (hg : Gl X x) (hdb : (x == ("__debug__" : Str)) = false) (hs : starEach (.Name x p :: es) X.env = (false, eval (.Name x p) X.env) :: starEach es X.env) : ErrNs X es cs → ErrNs X (.Name x p :: es) (c :: cs)
section
variable {X : Cx} {G : GI} {W : WX} {pos : Pos} {k : Nat}
theorem ErrNs.lt {es : List Expr} {cs : List Nat} (h : ErrNs X es cs) : ∀ c ∈ cs, c < 11 := by
  induction h with
  | nil => intro c h; cases h
  | cons hc _ _ _ _ _ ih => intro c h; rcases List.mem_cons.mp h with h | h
                            · rw [h]; exact hc
                            · exact ih c h
theorem ErrNs.pa {es : List Expr} {cs : List Nat} (E : ErrsOk X.K X.mg G) (h : ErrNs X es cs) : PA X es (fun _ H Q => Q (cs.map fun c => V.ref (G.cls c)) H) := by
  induction h with
  | nil => exact pa_nil
  | cons hc hx hg hdb hs _ ih =>
    subst hx
    exact (pa_cons (pe_glob (v := .ref _) hg (E.cls _ hc) rfl hdb) ih hs).imp fun σ H Q h => h
variable {x : Str} {p pz : Pos} {e : Expr} {f : Ex}
end
end MP

/-! MPR: tuples by >=, xs[i], xs[j] = .. -/
namespace MP
open PySem PySem.Spec PyProof.Rows L2
/-! ### >= -/
section
variable {X : Cx} {G : GI} {W : WX} {pos : Pos} {k n0 : Nat}
/-! ### xs[i], xs[j] = a, b -/
end
/-! ### a, b = a list -/
end MP

/-! MPO: frozen objects of own classes: attributes, methods -/
namespace MP
open PySem PySem.Spec PyProof.Rows L2
section
variable {X : Cx} {G : GI} {W : WX} {pos : Pos}
end
/-! ### methods -/
/-- what a method is worth, up to level k -/
structure DefM (P : Program) (W0 : World) (K : PySem.W.Frag) (mg : Str → Option Value) (base : Heap) (G : GI) (k : Nat) (c : Nat) (m : Str) (F : Fn) : Prop where
  ex : ∃ f fd ps, Cls K (G.cls c) ∧ Meth K (G.cls c) m f ∧ Binds K fd ps [] ∧ MP.FnOk P W0 K mg base (L2.CX P W0) k f fd ps (spF G F)
theorem DefM.mono {P : Program} {W0 : World} {K : PySem.W.Frag} {mg : Str → Option Value} {base : Heap} {G : GI} {j k c : Nat} {m : Str} {F : Fn} (h : DefM P W0 K mg base G j c m F) (hk : j ≤ k) : DefM P W0 K mg base G k c m F := by
  obtain ⟨f, fd, ps, h1, h2, h3, h4⟩ := h.ex
  exact ⟨f, fd, ps, h1, h2, h3, h4.mono hk⟩
section
variable {X : Cx} {G : GI} {W : WX} {k : Nat}
end
/-! ### a new object -/
section
variable {G : GI} {w : Wd} {S : Store} {H : Hp}
end
end MP

/-! MPM: new objects of own classes whose __init__ is rows self.f = e; their methods' defs -/
namespace MP
open PySem PySem.Spec PyProof.Rows L2
section
variable {X : Cx} {G : GI} {W : WX} {pos pos' p : Pos}
end
section
variable {P : Program} {W0' : World} {K : PySem.W.Frag} {mg : Str → Option Value} {base : Heap} {G : GI}
end
section
variable {X : Cx} {G : GI} {W : WX} {p pos : Pos} {k : Nat}
end
/-! ### methods' defs -/
section
variable {P : Program} {w : World} {K : PySem.W.Frag} {mg : Str → Option Value} {base : Heap} {G : GI}
end
/-! ### an own class as it stands behind the top -/
section
variable {K : PySem.W.Frag} {h : Heap} {mg : Str → Option Value} {C : Addr} {c : Nat}
end
section
variable {P : Program} {w : World} {K : PySem.W.Frag} {mg : Str → Option Value} {base : Heap} {G : GI}
end
end MP

/-! MPN: xs[i] += k, xs.count(x) -/
namespace MP
open PySem PySem.Spec PyProof.Rows L2
section
variable {X : Cx}
end
/-! ### xs.count(x) -/
section
variable {X : Cx} {G : GI} {W : WX} {pos : Pos} {n0 : Nat}
/-! ### xs[i] += k -/
end
/-! ### list(range(..)) as a value -/
section
variable {X : Cx} {G : GI} {W : WX} {pos p p2 pos2 : Pos}
/-! ### isinstance(x, (T1, T2)) -/
end
end MP

/-! MPY: dicts in cells, by tuples of whole numbers or by whole numbers -/
namespace MP
open PySem PySem.Spec PyProof.Rows L2
/-! ### tables -/
section
variable {κ α β : Type} [DecidableEq κ]
def aget : List (κ × α) → κ → Option α
  | [], _ => none
  | p :: r, k => if p.1 = k then some p.2 else aget r k
def arep (k : κ) (v : α) (p : κ × α) : κ × α := if p.1 = k then (p.1, v) else p
def aput (kvs : List (κ × α)) (k : κ) (v : α) : List (κ × α) := if (aget kvs k).isSome = true then kvs.map (arep k v) else kvs ++ [(k, v)]
end
/-- two tables side by side -/
abbrev AP {κ α β : Type} (R : α → β → Prop) : List (κ × α) → List (κ × β) → Prop := Paired fun p q => p.1 = q.1 ∧ R p.2 q.2
section
variable {κ α β : Type} [DecidableEq κ] {R : α → β → Prop}
theorem AP.get {xs : List (κ × α)} {ys : List (κ × β)} (r : AP R xs ys) (k : κ) : (aget xs k = none ∧ aget ys k = none) ∨ ∃ x y, aget xs k = some x ∧ aget ys k = some y ∧ R x y := by
  induction r with
  | nil => exact .inl ⟨rfl, rfl⟩
  | @cons p q ps qs h t ih =>
    unfold aget
    by_cases e : p.1 = k
    · rw [if_pos e, if_pos (h.1.symm.trans e)]; exact .inr ⟨_, _, rfl, rfl, h.2⟩
    · rw [if_neg e, if_neg (fun z => e (h.1.trans z))]; exact ih
theorem AP.some {xs : List (κ × α)} {ys : List (κ × β)} (r : AP R xs ys) {k : κ} {x : α} (h : aget xs k = .some x) : ∃ y, aget ys k = .some y ∧ R x y := by
  rcases r.get k with ⟨h1, _⟩ | ⟨x', y, h1, h2, h3⟩
  · rw [h1] at h; cases h
  · rw [h1] at h; cases h; exact ⟨y, h2, h3⟩
theorem AP.isSome {xs : List (κ × α)} {ys : List (κ × β)} (r : AP R xs ys) (k : κ) : (aget xs k).isSome = (aget ys k).isSome := by
  rcases r.get k with ⟨h1, h2⟩ | ⟨x', y, h1, h2, _⟩ <;> rw [h1, h2] <;> rfl
theorem AP.rep {xs : List (κ × α)} {ys : List (κ × β)} (r : AP R xs ys) (k : κ) {x : α} {y : β} (h : R x y) : AP R (xs.map (arep k x)) (ys.map (arep k y)) := by
  induction r with
  | nil => exact .nil
  | @cons p q ps qs hp t ih =>
    rw [List.map_cons, List.map_cons]
    refine .cons ?_ ih
    unfold arep
    by_cases e : p.1 = k
    · rw [if_pos e, if_pos (hp.1.symm.trans e)]; exact ⟨hp.1, h⟩
    · rw [if_neg e, if_neg (fun z => e (hp.1.trans z))]; exact hp
theorem AP.put {xs : List (κ × α)} {ys : List (κ × β)} (r : AP R xs ys) (k : κ) {x : α} {y : β} (h : R x y) : AP R (aput xs k x) (aput ys k y) := by
  unfold aput
  rw [r.isSome k]
  split
  · exact r.rep k h
  · exact Paired.snoc r ⟨rfl, h⟩
end
/-! ### the object of a dict by tuples -/
abbrev kndT (P : Program) (w : World) : HeapKind P w (List Int) := tupleKind (intKind P w)
/-- of a key: where its tuple stands, the value -/
abbrev PT (p : Addr × V) (q : Addr × Value) : Prop := p.1 = q.1 ∧ RelV p.2 q.2
section
variable {P : Program} {w : World} {H : Hp} {h : Heap} {a b : Addr} {xs : List (List Int × Addr × V)}
theorem keys_is {ys : List (List Int × Addr × Value)} (r : AP PT xs ys) : (∀ x ∈ xs, (kndT P w).is h x.1 x.2.1) → ∀ y ∈ ys, (kndT P w).is h y.1 y.2.1 := by
  induction r with
  | nil => intro _ y hy; cases hy
  | @cons p q ps qs hp t ih =>
    intro hk y hy
    rcases List.mem_cons.mp hy with e | hy
    · subst e
      have := hk p (List.mem_cons_self ..)
      rw [hp.1, hp.2.1] at this; exact this
    · exact ih (fun x hx => hk x (List.mem_cons_of_mem _ hx)) y hy
theorem dct_rd {n : Nat} (ok : HOk P w H h) (e : H a = some (DctO a n xs)) (hk : ∀ x ∈ xs, (kndT P w).is h x.1 x.2.1) :
    xs.length ≤ sizeLine ∧ (a == sysModules) = false ∧ ∃ ys, AP PT xs ys ∧ h.DictOfH (kndT P w) a ys := by
  obtain ⟨z, hd, ys, r, o, es, q1, q2, q3, q4, q5⟩ := (ok a _ e).1
  exact ⟨z, hd, ys, r, o, es, n, q1, q2, q3, q4, keys_is r hk, q5⟩
theorem items_int : ∀ {k : List Int} {us : List Value}, Vals (k.map V.int) us → ItemsAre (intKind P w) k us
  | [], _, r => by cases r; exact .nil
  | i :: k, _, r => by
    rw [List.map_cons] at r
    cases r with
    | cons h1 t =>
      obtain ⟨tk, rfl⟩ := h1
      exact .cons (by simp [PySem.intKind, Value.isInt]) (items_int t)
end
section
variable {X : Cx} {pins : List (Addr × Obj)} {σ : L2.St} {H : Hp} {s : Shared} {a b : Addr} {xs : List (List Int × Addr × V)} {k : List Int}
theorem tup_is (I : Inv X pins σ H s) (t : TupAt X.K H b (k.map V.int)) : (kndT X.prog X.w).is s.heap k b := by
  rcases t with ⟨o, e, _⟩ | ⟨o, its, n, h1, h2, _, h3, _, h5⟩
  · obtain ⟨_, _, its, r, ob, h1, h2, n, h3⟩ := I.hok b _ e
    exact ⟨ob, its.toArray, n, h1, h2, h3, by simpa using items_int r⟩
  · exact ⟨o, its, n, I.kIn _ _ h1, h2, h3, items_int h5⟩
/-- what the dict at a, known so, holds -/
structure DcT (K : PySem.W.Frag) (H : Hp) (a : Addr) (xs : List (List Int × Addr × V)) : Prop where
  at_ : ∃ n, H a = some (DctO a n xs)
  keys : ∀ x ∈ xs, TupAt K H x.2.1 (x.1.map V.int)
theorem DcT.rd (I : Inv X pins σ H s) (d : DcT X.K H a xs) : xs.length ≤ sizeLine ∧ (a == sysModules) = false ∧ ∃ ys, AP PT xs ys ∧ s.heap.DictOfH (kndT X.prog X.w) a ys :=
  d.at_.elim fun n e => dct_rd I.hok e fun x hx => tup_is I (d.keys x hx)
/-- behind d[k] = v -/
def xput (xs : List (List Int × Addr × V)) (k : List Int) (b : Addr) (v : V) : List (List Int × Addr × V) := if (aget xs k).isSome = true then xs.map (fun x => if x.1 = k then (x.1, x.2.1, v) else x) else xs ++ [(k, b, v)]
end
/-! ### dict cells -/
/-- what the dict at a holds at the key y -/
def DHas (K : PySem.W.Frag) (H : Hp) (a : Addr) (y : V) (r : Option V) : Prop :=
  (∃ xs k b, y = .ref b ∧ DcT K H a xs ∧ TupAt K H b (k.map V.int) ∧ r = (aget xs k).map (·.2)) ∨ DGet H a y r
/-- the heap behind a[y] = v -/
def DSet (K : PySem.W.Frag) (H : Hp) (a : Addr) (y v : V) (Q : Hp → Prop) : Prop :=
  (∃ xs k b, y = .ref b ∧ DcT K H a xs ∧ TupAt K H b (k.map V.int) ∧ xs.length < sizeLine ∧ ∀ n, Q (upd H a (DctO a n (xput xs k b v)))) ∨ ∃ H', DPut H a y v H' ∧ Q H'
theorem DSet.imp {K : PySem.W.Frag} {H : Hp} {a : Addr} {y v : V} {Q Q1 : Hp → Prop} (d : DSet K H a y v Q) (h : ∀ H', Q H' → Q1 H') : DSet K H a y v Q1 := by
  rcases d with ⟨xs, k, b, e, d, t, l, q⟩ | ⟨H', d, q⟩
  · exact .inl ⟨xs, k, b, e, d, t, l, fun n => h _ (q n)⟩
  · exact .inr ⟨H', d, h _ q⟩
def rInD (K : PySem.W.Frag) (neg : Bool) : R2 := fun y x H Q => ∃ a r, x = .ref a ∧ DHas K H a y r ∧ Q (.bl (r.isSome != neg)) H
section
variable {X : Cx} {pos apos cpos : Pos}
end
/-! ### the combinators -/
section
variable {G : GI} {w : Wd} {S : Store} {H : Hp} {K : PySem.W.Frag}
theorem TupAt.sub {M : Hp} {a : Addr} {vs : List V} (e : Sub M H) (h : TupAt K M a vs) : TupAt K H a vs := by
  rcases h with ⟨o, h, d⟩ | h
  · exact .inl ⟨o, e _ _ h, d⟩
  · exact .inr h
end
section
variable {X : Cx} {G : GI} {W : WX} {pos apos cpos : Pos} {k n0 : Nat}
end
/-! ### {k: v} -/
section
variable {X : Cx} {G : GI} {W : WX} {pos apos cpos : Pos} {k n0 : Nat}
end
end MP

/-! MPSD: sorted of a tuple of whole numbers; sorted of a list of data that are alike -/
namespace MP
open PySem PySem.Spec PyProof.Rows L2
section
variable {prog : Program} {w : World} {A : Around} {E : Value → Shared → Prop} {s : Shared}
end
section
variable {prog : Program} {w : World} {A : Around} {E : Value → Shared → Prop} {s : Shared}
end
section
variable {X : Cx} {G : GI}
end
/-! ### t[::-1] -/
section
variable {prog : Program} {w : World} {A : Around} {E : Value → Shared → Prop} {s : Shared}
end
section
variable {X : Cx} {G : GI} {W : WX} {pos p2 p6 p7 : Pos} {j : Nat}
end
/-! ### a + b * k of tuples -/
section
variable {X : Cx} {G : GI} {W : WX} {pos pos2 : Pos}
end
end MP

/-! MPLA: a lambda with a parameter, as a def over the heap where it was made -/
namespace MP
open PySem PySem.Spec PyProof.Rows L2
def hidF (fs : List Addr) (H : Hp) : Hp := fun b => if b ∈ fs then some (.own 0) else H b
/-- what stands there, but for what is tracked and for frames -/
def base2 (s : Shared) (H : Hp) (l : List Env) : Heap := hidT s.heap (hidF (frs l) H)
theorem base2_of {s : Shared} {H : Hp} {l : List Env} {b : Addr} {o : Obj} (e : (base2 s H l).get? b = some o) : s.heap.get? b = some o ∧ H b = none ∧ b ∉ frs l := by
  obtain ⟨h1, h2⟩ := of_hidT e
  unfold hidF at h2
  split at h2
  · cases h2
  · rename_i n; exact ⟨h1, h2, n⟩
theorem base2_get {s : Shared} {H : Hp} {l : List Env} {b : Addr} {o : Obj} (e : s.heap.get? b = some o) (n : H b = none) (f : b ∉ frs l) : (base2 s H l).get? b = some o :=
  hidT_get e (by unfold hidF; rw [if_neg f]; exact n)
theorem base2_fr {s : Shared} {H : Hp} {l : List Env} {b : Addr} (f : b ∈ frs l) : (base2 s H l).get? b = none := by
  cases q : (base2 s H l).get? b with
  | none => rfl
  | some o => exact absurd f (base2_of q).2.2
theorem funFrames_base {h b b' : Heap} : ∀ {l : List Env}, h.FunFrames b l → (∀ a ∈ frs l, b'.get? a = none) → h.FunFrames b' l
  | [], _, _ => trivial
  | env :: rest, ⟨hk, ⟨L, o, hf, hn, ho, hd⟩, hr⟩, k => by
    have e : frs (env :: rest) = L :: frs rest := by unfold frs; rw [List.filterMap_cons, hf]
    exact ⟨hk, ⟨L, o, hf, k L (by rw [e]; exact List.mem_cons_self ..), ho, hd⟩, funFrames_base hr fun a ha => k a (by rw [e]; exact List.mem_cons_of_mem _ ha)⟩
theorem mod_keeps {K : PySem.W.Frag} {mg : Str → Option Value} {b b' : Heap} (m : L2.Mod K mg b) (k : ∀ a o, b.get? a = some o → b'.get? a = some o) : L2.Mod K mg b' :=
  ⟨m.kin.keeps k, m.glob.keeps k, let ⟨mb, h1, h2⟩ := m.blt; ⟨mb, h1.keeps k, h2⟩, m.nolimit.keeps k⟩
section
variable {X : Cx} {pins : List (Addr × Obj)} {σ : L2.St} {H : Hp} {s : Shared}
theorem base2_up (I : Inv X pins σ H s) : ∀ b o, X.base.get? b = some o → (base2 s H X.stack).get? b = some o := fun b o e =>
  base2_get (I.bs b o e).1 (I.bs b o e).2 fun z => by
    have := (I.env0.funs.mem z).1
    rw [e] at this; cases this
theorem env0_2 (I : Inv X pins σ H s) : Env0 X.prog X.w X.K X.mg (base2 s H X.stack) X.A X.stack s H :=
  { I.env0 with
    mod := mod_keeps I.mod (base2_up I)
    bs := fun b o e => ⟨(base2_of e).1, (base2_of e).2.1⟩
    bsz := Nat.le_of_eq (hidT_size _ _)
    funs := funFrames_base I.env0.funs fun a ha => base2_fr ha }
end
/-- one parameter, no other name of its own: captured ones and globals -/
structure Lam1 (sc scope : Scope) (a : Str) : Prop where
  kind : scope.kind = .function
  co : scope.isCoroutine = false
  gen : scope.isGenerator = false
  par : scope.names.lookup a = some .local
  own : ∀ y ∈ scope.names, (y.2 = .local → y.1 = a) ∧ y.2 ≠ .cell
  free : ∀ y ∈ scope.names, y.2 = .free → sc.names.lookup y.1 = some .cell
def lam1B (sc scope : Scope) (a : Str) : Bool :=
  decide (scope.kind = .function) && !scope.isCoroutine && !scope.isGenerator && decide (scope.names.lookup a = some .local) && scope.names.all fun y => (!decide (y.2 = .local) || decide (y.1 = a)) && !decide (y.2 = .cell) && (!decide (y.2 = .free) || decide (sc.names.lookup y.1 = some .cell))
theorem lam1_by {sc scope : Scope} {a : Str} (h : lam1B sc scope a = true) : Lam1 sc scope a := by
  unfold lam1B at h
  simp only [Bool.and_eq_true, Bool.or_eq_true, Bool.not_eq_true', decide_eq_true_eq, decide_eq_false_iff_not, List.all_eq_true] at h
  obtain ⟨⟨⟨⟨h1, h2⟩, h3⟩, h5⟩, h4⟩ := h
  refine ⟨h1, h2, h3, h5, fun y hy => ⟨fun e => ((h4 y hy).1.1).resolve_left (fun n => n e), (h4 y hy).1.2⟩, fun y hy e => ((h4 y hy).2).resolve_left fun n => n e⟩
section
variable {X : Cx} {pins : List (Addr × Obj)} {σ : L2.St} {H HZ : Hp} {s s1 : Shared}
open LamX
theorem cell_out (I : Inv X pins σ H s) (hfn : ∀ y, X.fn y = true) {y : Str} {c : Addr} (e : X.env.cells.lookup y = some c) : c ∉ frs X.stack := fun hm => by
  obtain ⟨v, o, ho, hd⟩ := I.cell y c e
  have hc := I.ok.cab y c (hfn y) e
  rcases I.ok.stk with z | ⟨z, hf⟩
  · rw [z] at hm
    obtain ⟨_, o', q, _⟩ := I.ok.funs.mem hm
    exact absurd (Heap.lt_size q) (Nat.not_lt.mpr hc)
  · rw [z] at hm
    have e2 : frs (X.env :: X.outer) = X.env.locals :: frs X.outer := by unfold frs; rw [List.filterMap_cons, hf]
    rw [e2] at hm
    rcases List.mem_cons.mp hm with q | hm
    · obtain ⟨m, ⟨o2, es, ep, e3, d, _⟩, _⟩ := I.loc
      rw [← q, ho] at e3
      cases e3
      rw [hd] at d; cases d
    · obtain ⟨_, o', q, _⟩ := I.ok.funs.mem hm
      exact absurd (Heap.lt_size q) (Nat.not_lt.mpr hc)
/-- the context of the lambda's body: the maker's names, and its parameter behind -/
def lamCx2 (X : Cx) (A : Around) (outer : List Env) (s : Shared) (H : Hp) (E : XK) (scope : Scope) (f c' : Addr) (a : Str) : Cx := { lamCx X A outer s H E scope f c' with N := X.N ++ [a] }
theorem lam1_start {a : Str} {A : Around} {outer : List Env} {E : XK} {scope : Scope} {f c' : Addr} {h₁ : Heap} {tk : Nat} {u : Value} {v : V} (ru : RelV v u) (I : Inv X pins σ H s) (hfn : ∀ y, X.fn y = true) (L : Lam1 X.env.scope scope a) (ha : a ∉ X.N) (e0 : Env0 X.prog X.w X.K X.mg (base2 s H X.stack) A outer s1 HZ) (hd : A.handled = none)
    (hns : h₁.Ns s1.heap.objs.size fun y => ([(a, u)] : List (Str × Value)).reverse.lookup y) (kp : ∀ b o, s1.heap.get? b = some o → h₁.get? b = some o) :
    Inv (lamCx2 X A outer s1 HZ E scope f c' a) [] (σ ++ [some v]) HZ { s1 with heap := h₁, toks := tk } := by
  have hfree : ∀ y ∈ scope.names, y.2 = .free → ∃ c, X.env.cells.lookup y.1 = some c := fun y hy e => I.ok.has _ (.inl (L.free y hy e))
  have cm : ∀ {y c}, (cloFrom X.env.cells scope.names []).lookup y = some c → X.env.cells.lookup y = some c := fun {y c} e => by
    rcases cloFrom_mem (PySem.mem_of_lookup e) with hm | ⟨h1, h2⟩
    · cases hm
    · obtain ⟨c1, hc⟩ := hfree _ h1 rfl
      have hc : X.env.cells.lookup y = some c1 := hc
      have e2 : c = c1 := by
        rw [h2, hc] <;> rfl
      rw [e2]
      exact hc
  have look : ∀ {y}, scope.names.lookup y = some .free → ∃ c, (cloFrom X.env.cells scope.names []).lookup y = some c := fun {y} hl => by
    have hy : (y, NameKind.free) ∈ scope.names := PySem.mem_of_lookup hl
    exact mem_lookup (cloFrom_has (cells := X.env.cells) (acc := []) hy)
  have cellK : ∀ {y : Str} {c : Addr} {v : Option Value}, X.env.cells.lookup y = some c → s.heap.IsCell c v → h₁.IsCell c v := fun {y c v} e ⟨o, ho, hd⟩ =>
    ⟨o, kp _ _ (e0.bs c o (base2_get ho (I.freeC y c e) (cell_out I hfn e))).1, hd⟩
  have noA : ∀ b : Addr, b ∉ (lamCx2 X A outer s1 HZ E scope f c' a).ex := fun b z => absurd (show b ∈ ([] : List Addr) from z) (by simp)
  have bup := base2_up I
  have bsX : ∀ b o, X.base.get? b = some o → s1.heap.get? b = some o ∧ HZ b = none := fun b o e => e0.bs b o (bup b o e)
  have bszX : X.base.objs.size ≤ s1.heap.objs.size := Nat.le_trans (Nat.le_trans I.env0.bsz (Nat.le_of_eq (hidT_size _ _).symm)) e0.bsz
  have fX : s1.heap.FunFrames X.base outer := funFrames_base e0.funs fun b hb => by
    have := (e0.funs.mem hb).1
    cases q : X.base.get? b with
    | none => rfl
    | some o => rw [bup b o q] at this; cases this
  refine ⟨⟨I.mod, L.kind, rfl, rfl, Nat.le_refl _, fun y z c e1 e2 => I.ok.inj y z c (cm e1) (cm e2), fun y hy => ?_, fun y c z _ => ?_, fun _ => hd, Around.frames_deeper e0.frames, .inr ⟨rfl, rfl⟩, fun b z => absurd z (noA b), bsX, bszX, fun b _ _ => noA b,
      fun b z => absurd z (noA b), fX, e0.frf⟩,
    rfl, e0.bare, Un.kept kp, ⟨_, hns, fun i y v0 e1 e2 e3 => ?_⟩, fun y c e => ?_, e0.hok.fresh (Nat.le_refl _), fun y c e => ?_, fun q hq => absurd (show q ∈ ([] : List (Addr × Obj)) ++ [] from hq) (by simp), e0.hok.kept kp, by
    show (σ ++ [some v]).length = (X.N ++ [a]).length
    rw [List.length_append, List.length_append, I.len] <;> rfl⟩
  · have hy : scope.names.lookup y = some .cell ∨ scope.names.lookup y = some .free := hy
    rcases hy with hy | hy
    · exact absurd rfl (L.own _ (PySem.mem_of_lookup hy)).2
    · exact look hy
  · have z : false = true := z
    cases z
  · have e3 : Vis scope y := e3
    have e1 : (X.N ++ [a])[i]? = some y := e1
    have e2 : (σ ++ [some v])[i]? = some (some v0) := e2
    by_cases hi : i < X.N.length
    case neg =>
      have hl : i < (X.N ++ [a]).length := (List.getElem?_eq_some_iff.mp e1).1
      rw [List.length_append] at hl
      have hl : i < X.N.length + 1 := hl
      have hi : i = X.N.length := by omega
      subst hi
      rw [List.getElem?_append_right (Nat.le_refl _), Nat.sub_self] at e1
      rw [List.getElem?_append_right (by rw [I.len]; exact Nat.le_refl _), I.len, Nat.sub_self] at e2
      have e1 : a = y := Option.some.inj e1
      have e2 : v = v0 := Option.some.inj (Option.some.inj e2)
      subst e1 e2
      exact ⟨u, ru, .inl ⟨L.par, by show List.lookup a [(a, u)] = some u; simp [List.lookup]⟩⟩
    rw [List.getElem?_append_left hi] at e1
    rw [List.getElem?_append_left (by rw [I.len]; exact hi)] at e2
    rcases e3 with k | k | k
    · have := (L.own _ (PySem.mem_of_lookup k)).1 rfl
      have this : y = a := this
      rw [this] at e1
      exact absurd (List.mem_of_getElem? e1) ha
    · exact absurd rfl (L.own _ (PySem.mem_of_lookup k)).2
    · obtain ⟨m, hn, hl⟩ := I.loc
      have hk := L.free _ (PySem.mem_of_lookup k) rfl
      obtain ⟨w', r, q⟩ := hl i y v0 e1 e2 (.inr (.inl hk))
      obtain ⟨c2, h2⟩ := look k
      refine ⟨w', r, .inr ⟨.inr k, c2, h2, ?_⟩⟩
      have c1 := cm h2
      rcases q with ⟨k', _⟩ | ⟨_, c3, e', z⟩
      · have k' : X.env.scope.names.lookup y = some .local := k'
        have hk : X.env.scope.names.lookup y = some .cell := hk
        rw [hk] at k'; cases k'
      · rw [c1] at e'
        cases e'
        exact cellK c1 z
  · obtain ⟨w', z⟩ := I.cell y c (cm e)
    exact ⟨w', cellK (cm e) z⟩
  · obtain ⟨v, o, ho, hd⟩ := I.cell y c (cm e)
    exact (e0.bs c o (base2_get ho (I.freeC y c (cm e)) (cell_out I hfn (cm e)))).2
/-- what the lambda promises, over the heap where it was made -/
def spL (c' : Addr) (q : Str) (σ : L2.St) (t : XK → TE) : Sp := fun us HZ Q E => ∃ v, us = [v] ∧ HZ c' = some (CodeO c' q) ∧ t E (σ ++ [some v]) HZ Q
theorem lam1_ok {a : Str} {k : Nat} {f c' : Addr} {pm ctv : Value} {params : Arguments} {body : Expr} {scope : Scope} {t : XK → TE} (I : Inv X pins σ H s) (hfn : ∀ y, X.fn y = true) (L : Lam1 X.env.scope scope a) (ha : a ∉ X.N)
    (hf : s.heap.get? f = some (PySem.W.kla_obj "<lambda>" (X.env.qual ++ "<lambda>") params body scope (cloFrom X.env.cells scope.names []) pm c' ctv)) (hfn2 : H f = none) (hfr : f ∉ frs X.stack)
    (hbody : ∀ (A : Around) (outer : List Env) (s : Shared) (H : Hp) (E : XK), MP.Room k (A.deeper (lamEnv X scope s.heap.objs.size f c')) → PE (lamCx2 X A outer s H E scope f c' a) body (t E)) :
    MP.FnOk X.prog X.w X.K X.mg (base2 s H X.stack) (L2.CX X.prog X.w) (k + 1) f (PySem.W.kla_fn "<lambda>" (X.env.qual ++ "<lambda>") params body scope (cloFrom X.env.cells scope.names []) pm (.ref c') ctv) [a] (spL c' (X.env.qual ++ "<lambda>") σ t) := by
  refine ⟨fun us HZ Q E h => (by obtain ⟨v, rfl, _⟩ := h; rfl), fun A o s1 HZ as us xs Q E hr e0 bd rv ⟨v0, hxs, hc, ht⟩ => ?_⟩
  subst hxs
  cases rv with
  | cons ru rv => cases rv with
  | nil =>
  rename_i u
  have of1 := (e0.bs f _ (base2_get hf hfn2 hfr)).1
  obtain ⟨⟨oc, vs, tk0, hoc, hdc, hvc⟩, _, _⟩ := e0.hok c' _ hc
  have lim : s1.heap.NoLimit := e0.mod.nolimit.keeps fun b o e => (e0.bs b o e).1
  refine PySem.W.kla_callFunE hr.depth of1 rfl L.co L.gen rfl ⟨c', oc, vs, tk0, rfl, hoc, hdc, hvc⟩ ?_
  refine bd _ _ _ _ ?_
  refine wpAny_newFunctionEnv (fun y hy => (L.own y hy).2) (fun y hy => ?_) (fun h₁ hns hsb => ⟨lim.fresh _ hsb, ?_⟩) L.kind
  · have hy : y = (a, u) := by simpa using hy
    rw [hy]; exact L.par
  · show codeAny _ _ (.expr body (lamEnv X scope s1.heap.objs.size f c')) _ _
    have kp : ∀ b o, s1.heap.get? b = some o → h₁.get? b = some o := fun b o e => hsb.extBut b o (Nat.ne_of_lt (Heap.lt_size e)) (Heap.get?_push_of_some _ e)
    have J := lam1_start (E := E) (f := f) (c' := c') (tk := s1.toks + ([a].zip [u]).length) ru I hfn L ha e0 hr.hd hns kp
    refine PySem.W.kla_codeExpr (wpAny_mono ((hbody _ _ s1 HZ E (hr.deeper _)).run [] _ _ HZ Q J ht) (fun v s' hq => ?_) fun e s' hq => hq)
    obtain ⟨w', H', J', rv, q⟩ := hq
    exact ⟨w', H', J'.os, J'.bare, J'.base, J'.hok, rv, q⟩
end

/-! ### worlds -/
section
variable {G G' : GI} {w w' : Wd} {S S' : Store} {H H' : Hp}
theorem back0 (hR : Rel G w S H) (hT : G'.T = G.T) (g : Go ⟨w.M, []⟩ H w' H') (hR' : Rel G' w' S' H') : Rel G ⟨w'.M, w.ρ⟩ S H' ∧ Go w H ⟨w'.M, w.ρ⟩ H' := by
  have at_ : ∀ a ∈ w.ρ, H' a = H a := fun a ha => by
    obtain ⟨o, e⟩ := hR.dom a ha
    have := hR.gg.nt a ha
    rw [e] at this
    rw [e]; exact (g.f a o e (fun hm => nomatch hm)).1.eq this.nt
  have no : ∀ a o, H a = some o → w.M a = none → w'.M a = none := fun a o e z => (g.f a o e (fun hm => nomatch hm)).2.2 z
  refine ⟨⟨hR'.sub, hR.len, hR.nd, fun a ha => ?_, fun n c a e1 e2 => ?_, fun p hp => ?_, fun a o e => ?_, fun a ha => ?_, hR'.gg.mt⟩, ⟨⟨g.n.m, List.prefix_refl _⟩, fun a o e n => ?_⟩⟩
  · obtain ⟨o, e⟩ := hR.dom a ha
    exact ⟨o, (at_ a ha).trans e⟩
  · obtain ⟨m, r⟩ := hR.cel n c a e1 e2
    obtain ⟨o, e⟩ := r.obj
    exact ⟨no a o e m, r.mono g.n.m (at_ a (List.mem_of_getElem? e2))⟩
  · obtain ⟨_, n, _⟩ := hR.gg.tab p hp
    obtain ⟨t, _, m⟩ := hR'.gg.tab p (by rw [hT]; exact hp)
    exact ⟨t, n, m⟩
  · obtain ⟨q, n⟩ := hR.gg.low a o e
    exact ⟨g.n.m a o q, n⟩
  · rw [at_ a ha]; exact hR.gg.nt a ha
  · obtain ⟨f1, _, f3⟩ := g.f a o e (fun hm => nomatch hm)
    exact ⟨f1, n, f3⟩
/-- as back0; the cells there are new ones here -/
theorem back1 (hR : Rel G w S H) (hT : G'.T = G.T) (g : Go ⟨w.M, []⟩ H w' H') (hR' : Rel G' w' S' H') (hl : ∀ a ∈ w'.ρ, G.low a = none) (hc : ∀ {M H : Hp} {a : Addr} {c : Cl}, CellR G' M H a c → CellR G M H a c) : Rel G ⟨w'.M, w.ρ ++ w'.ρ⟩ ⟨S.L ++ S'.L⟩ H' ∧ Go w H ⟨w'.M, w.ρ ++ w'.ρ⟩ H' := by
  obtain ⟨R, g0⟩ := back0 hR hT g hR'
  have dj : ∀ a ∈ w.ρ, a ∉ w'.ρ := fun a ha => by
    obtain ⟨o, e⟩ := hR.dom a ha
    exact (g.f a o e (fun hm => nomatch hm)).2.1
  refine ⟨⟨hR'.sub, by show (w.ρ ++ w'.ρ).length = (S.L ++ S'.L).length; rw [List.length_append, List.length_append, hR.len, hR'.len], List.nodup_append.mpr ⟨hR.nd, hR'.nd, fun a ha b hb e => dj a ha (e ▸ hb)⟩, fun a ha => ?_, fun n c a e1 e2 => ?_, fun p hp => ?_, fun a o e => ?_, fun a ha => ?_, hR'.gg.mt⟩, ⟨⟨g.n.m, List.prefix_append _ _⟩, fun a o e n => ?_⟩⟩
  · rcases List.mem_append.mp ha with z | z
    · exact R.dom a z
    · exact hR'.dom a z
  · simp only at e1 e2
    by_cases hn : n < S.L.length
    · rw [List.getElem?_append_left hn] at e1
      rw [List.getElem?_append_left (by rw [hR.len]; exact hn)] at e2
      exact R.cel n c a e1 e2
    · rw [List.getElem?_append_right (by omega)] at e1
      rw [List.getElem?_append_right (by rw [hR.len]; omega), hR.len] at e2
      obtain ⟨q1, q2⟩ := hR'.cel _ c a e1 e2
      exact ⟨q1, hc q2⟩
  · obtain ⟨t, n, m⟩ := R.gg.tab p hp
    refine ⟨t, fun hm => ?_, m⟩
    rcases List.mem_append.mp hm with z | z
    · exact n z
    · exact (hR'.gg.tab p (by rw [hT]; exact hp)).2.1 z
  · obtain ⟨q, n⟩ := R.gg.low a o e
    refine ⟨q, fun hm => ?_⟩
    rcases List.mem_append.mp hm with z | z
    · exact n z
    · rw [hl a z] at e; cases e
  · rcases List.mem_append.mp ha with z | z
    · exact R.gg.nt a z
    · exact hR'.gg.nt a z
  · obtain ⟨f1, f2, f3⟩ := g0.f a o e n
    refine ⟨f1, fun hm => ?_, f3⟩
    rcases List.mem_append.mp hm with z | z
    · exact f2 z
    · exact (g.f a o e (fun hm => nomatch hm)).2.1 z
/-- what is known, without cells, where all of it is known from farther out -/
theorem bare0 (hR : Rel G w S H) (hT : G'.T = G.T) (hl : ∀ a o, G'.low a = some o → w.M a = some o) : Rel G' ⟨w.M, []⟩ ⟨[]⟩ H :=
  ⟨hR.sub, rfl, List.nodup_nil, fun a ha => (nomatch ha), fun n c a e1 _ => (by simp at e1), fun p hp => (by
    obtain ⟨t, _, m⟩ := hR.gg.tab p (by rw [← hT]; exact hp)
    exact ⟨t, (fun hm => nomatch hm), m⟩), fun a o e => ⟨hl a o e, fun hm => nomatch hm⟩, fun a ha => (nomatch ha), hR.gg.mt⟩
/-- the trees of a scope, known still -/
def treO : Option Vl → Option Vl
  | some (.d x) => some (.d x)
  | _ => none
def trees (η : En) : En := η.map treO
theorem EnR.tr {η : En} {σ : L2.St} {M : Hp} (h : EnR G w η σ) (s : Sub w.M M) : EnR G ⟨M, []⟩ (trees η) σ := ⟨by unfold trees; rw [List.length_map]; exact h.len, fun i v e => by
  unfold trees at e
  rw [List.getElem?_map] at e
  cases q : η[i]? with
  | none => rw [q] at e; cases e
  | some o =>
    rw [q] at e
    have e : treO o = some v := Option.some.inj e
    cases o with
    | none => cases e
    | some u => cases u with
      | d x =>
        have e : some (Vl.d x) = some v := e
        cases e
        obtain ⟨y, h1, h2⟩ := h.get i _ q
        cases h2 with | d h2 => exact ⟨y, h1, .d (h2.mono s)⟩
      | p n => cases e
      | t xs => cases e⟩
end
/-! ### the lambda known as a value -/
abbrev askN : Str := "len"
/-- G, the lambda at f known, all of M known from farther out -/
def askG (G : GI) (f : Addr) (M : Hp) : GI := { G with fn := fun x => if x = askN then some f else G.fn x, low := M }
theorem askG_fn {G : GI} {f : Addr} {M : Hp} : (askG G f M).fn askN = some f := by
  show (if askN = askN then some f else G.fn askN) = some f
  rw [if_pos rfl]
mutual
theorem RD.ask {G : GI} {f : Addr} {L M : Hp} (h0 : G.fn askN = none) : ∀ {d : D} {v : V}, RD G M d v → RD (askG G f L) M d v
  | _, _, .non => .non
  | _, _, .bl b => .bl b
  | _, _, .int i => .int i
  | _, _, .str s => .str s
  | _, _, .tup h t => .tup h (RDs.ask h0 t)
  | _, _, .lst h t => .lst h (RDs.ask h0 t)
  | _, _, .scr h => .scr h
  | _, _, .err h => .err h
  | _, _, .fn (x := x) h => .fn (by
      show (if x = askN then some f else G.fn x) = _
      rw [if_neg (fun z => by rw [z, h0] at h; cases h)]; exact h)
  | _, _, .obj h1 h2 h3 t => .obj h1 h2 h3 (RDs.ask h0 t)
  | _, _, .dct h1 h2 hk t => .dct h1 h2 hk (RDs.ask h0 t)
theorem RDs.ask {G : GI} {f : Addr} {L M : Hp} (h0 : G.fn askN = none) : ∀ {d : List D} {v : List V}, RDs G M d v → RDs (askG G f L) M d v
  | _, _, .nil => .nil
  | _, _, .cons h t => .cons (RD.ask h0 h) (RDs.ask h0 t)
end
mutual
/-- no def in it -/
def nfn : D → Bool
  | .fn _ => false
  | .tup ds => nfns ds
  | .lst ds => nfns ds
  | .obj _ _ fs => nfns fs
  | .dct _ ds => nfns ds
  | _ => true
def nfns : List D → Bool
  | [] => true
  | d :: ds => nfn d && nfns ds
end
mutual
theorem RD.unask {G : GI} {f : Addr} {L M : Hp} : ∀ {d : D} {v : V}, RD (askG G f L) M d v → nfn d = true → RD G M d v
  | _, _, .non, _ => .non
  | _, _, .bl b, _ => .bl b
  | _, _, .int i, _ => .int i
  | _, _, .str s, _ => .str s
  | _, _, .tup h t, hn => .tup h (RDs.unask t (by simpa [nfn] using hn))
  | _, _, .lst h t, hn => .lst h (RDs.unask t (by simpa [nfn] using hn))
  | _, _, .scr h, _ => .scr h
  | _, _, .err h, _ => .err h
  | _, _, .fn h, hn => by simp [nfn] at hn
  | _, _, .obj h1 h2 h3 t, hn => .obj h1 h2 h3 (RDs.unask t (by simpa [nfn] using hn))
  | _, _, .dct h1 h2 hk t, hn => .dct h1 h2 hk (RDs.unask t (by simpa [nfn] using hn))
theorem RDs.unask {G : GI} {f : Addr} {L M : Hp} : ∀ {d : List D} {v : List V}, RDs (askG G f L) M d v → nfns d = true → RDs G M d v
  | _, _, .nil, _ => .nil
  | _, _, .cons h t, hn => by
    simp only [nfns, Bool.and_eq_true] at hn
    exact .cons (RD.unask h hn.1) (RDs.unask t hn.2)
end
mutual
/-- the cells stand n farther on -/
def shV (n : Nat) : Vl → Vl
  | .d x => .d x
  | .p k => .p (n + k)
  | .t xs => .t (shVs n xs)
def shVs (n : Nat) : List Vl → List Vl
  | [] => []
  | x :: xs => shV n x :: shVs n xs
end
mutual
theorem RV.shift {G : GI} {M : Hp} {ρ ρ' : List Addr} : ∀ {v : Vl} {y : V}, RV G ⟨M, ρ'⟩ v y → RV G ⟨M, ρ ++ ρ'⟩ (shV ρ.length v) y
  | _, _, .d h => .d h
  | _, _, .p h => .p (by
    show (ρ ++ ρ')[ρ.length + _]? = _
    rw [List.getElem?_append_right (Nat.le_add_right _ _), Nat.add_sub_cancel_left]; exact h)
  | _, _, .t h t => .t h (RVs.shift t)
theorem RVs.shift {G : GI} {M : Hp} {ρ ρ' : List Addr} : ∀ {v : List Vl} {y : List V}, RVs G ⟨M, ρ'⟩ v y → RVs G ⟨M, ρ ++ ρ'⟩ (shVs ρ.length v) y
  | _, _, .nil => .nil
  | _, _, .cons h t => .cons (RV.shift h) (RVs.shift t)
end
mutual
theorem RV.ask {G : GI} {f : Addr} {L : Hp} {w : Wd} (h0 : G.fn askN = none) : ∀ {d : Vl} {v : V}, RV G w d v → RV (askG G f L) w d v
  | _, _, .d h => .d (h.ask h0)
  | _, _, .p h => .p h
  | _, _, .t h t => .t h (RVs.ask h0 t)
theorem RVs.ask {G : GI} {f : Addr} {L : Hp} {w : Wd} (h0 : G.fn askN = none) : ∀ {d : List Vl} {v : List V}, RVs G w d v → RVs (askG G f L) w d v
  | _, _, .nil => .nil
  | _, _, .cons h t => .cons (RV.ask h0 h) (RVs.ask h0 t)
end
theorem CellR.ask {G : GI} {f : Addr} {L M H : Hp} {a : Addr} (h0 : G.fn askN = none) {c : Cl} (r : CellR G M H a c) : CellR (askG G f L) M H a c := by
  cases c with
  | l ds => obtain ⟨vs, q, r⟩ := r; exact ⟨vs, q, r.ask h0⟩
  | dT kvs => obtain ⟨n, xs, q, k, t, r⟩ := r; exact ⟨n, xs, q, k, t, r.ask h0⟩
  | dI kvs => obtain ⟨xs, q, k, r⟩ := r; exact ⟨xs, q, k, r.ask h0⟩
/-- what a lambda tells, asked of the names that it captured: its cells are new -/
def thunkF (b : Ex) (η : En) : Fn := fun as S => match as with
  | [.d x] => if nfn x = true then (match b (η ++ [some (.d x)]) ⟨[]⟩ with
    | .ok v S1 => .ok (shV S.L.length v) ⟨S.L ++ S1.L⟩
    | .exc c S1 => .exc c ⟨S.L ++ S1.L⟩
    | _ => .stuck) else .stuck
  | _ => .stuck
theorem EnR.push {G : GI} {w : Wd} {η : En} {σ : L2.St} {v : Vl} {y : V} (h : EnR G w η σ) (r : RV G w v y) : EnR G w (η ++ [some v]) (σ ++ [some y]) :=
  ⟨by rw [List.length_append, List.length_append, h.len]; rfl, fun i u e => by
    by_cases hi : i < η.length
    · rw [List.getElem?_append_left hi] at e
      rw [List.getElem?_append_left (by rw [← h.len]; exact hi)]
      exact h.get i u e
    · rw [List.getElem?_append_right (by omega)] at e
      rw [List.getElem?_append_right (by rw [← h.len]; omega), ← h.len]
      cases q : i - η.length with
      | zero => rw [q] at e; have e : v = u := Option.some.inj (Option.some.inj e); subst e; exact ⟨y, rfl, r⟩
      | succ n => rw [q] at e; simp at e⟩
structure AskF (P : Program) (W0 : World) (K : PySem.W.Frag) (mg : Str → Option Value) (base : Heap) (G : GI) (k : Nat) (F : Fn) : Prop where
  ex : ∃ (f : Addr) (o : Obj) (fd : FuncData) (a : Str), G.fn askN = some f ∧ base.get? f = some o ∧ (∀ h : Heap, h.get? f = some o → PySem.W.FnAt f h) ∧ (∀ (s : Shared) (u : Value), BindsTo s fd ⟨[u], []⟩ [(a, u)]) ∧ MP.FnOk P W0 K mg base (L2.CX P W0) k f fd [a] (spF G F)
def callA (i : Nat) (F : Fn) (a : As) : Ex := fun η S => (var i η S).bind fun v S1 => match v with
  | .d (.fn x) => if x = askN then (a η S1).bind F else .stuck
  | _ => .stuck
section
variable {X : Cx} {G : GI} {W : WX} {pos : Pos} {k : Nat}
theorem run_fnB {b2 : Heap} {C : CXT} {f : Addr} {fd : FuncData} {ps : List Str} {sp : Sp} {E : L2.St → XK} {pins : List (Addr × Obj)} {σ : L2.St} {M : Hp} {s : Shared} {Q : VK} {us : List Value} {xs : List V} (F : MP.FnOk X.prog X.w X.K X.mg b2 C k f fd ps sp) (r : MP.Room k X.A) (b : BindsTo s fd ⟨us, []⟩ (ps.zip us)) (hx : PassesAt C X σ (E σ)) (I : Inv X pins σ M s) (e0 : Env0 X.prog X.w X.K X.mg b2 X.A X.stack s M) (rv : Vals xs us) (h : sp xs M Q (E σ)) :
    wpAny (model X.prog X.w) X.A (call (.ref f) us) (EP X pins σ Q) X.xe s := by
  refine wpAny_call (codeAny_mono (F.go X.A X.stack s M ⟨us, []⟩ us xs Q (E σ) r e0 b rv h) ?_)
  intro q s' z
  cases q with
  | error e => exact hx pins M s e s' I z
  | ok fl => cases fl with
    | ret u => exact I.after z
    | next => exact z.elim
    | brk => exact z.elim
    | cont => exact z.elim
theorem me_callA {i : Nat} {h : Str} {F : Fn} {p : Pos} {e : Expr} {fa : As} (O : AskF X.prog X.w X.K X.mg X.base G k F) (hr : Room k X.A) (tk : Takes X W) (ha : PA X [e] (tA G W fa))
    (hN : X.N[i]? = some h := by rfl) (hv : Vis X.env.scope h := by first | exact Or.inl rfl | exact Or.inr (Or.inl rfl) | exact Or.inr (Or.inr rfl)) (hdb : (h == ("__debug__" : Str)) = false := by decide) (hcd : (h == ("__classdict__" : Str)) = false := by decide)
    (he : starEach [e] X.env = (false, eval e X.env) :: starEach [] X.env := by rfl) (hpl : (backTo pos (starEach [] X.env)).any (·.1) = false := by rfl) : PE X (.Call (.Name h p) [e] [] pos) (tE G W (callA i F fa)) := by
  refine ⟨fun pins s σ H Q I hq => ?_⟩
  obtain ⟨w, S, η, hR, hE, hq⟩ := hq
  unfold callA var at hq
  split at hq
  · rename_i v ev
    cases v with
    | p _ => exact hq.elim
    | t _ => exact hq.elim
    | d x => cases x with
      | fn x =>
        revert hq
        show Post G w H (rV G) (if x = askN then (fa η S).bind F else .stuck) Q (xw G W σ) → _
        intro hq
        split at hq
        · rename_i ex
          subst ex
          obtain ⟨f, o, fd, a, hfn, ho, hat, hbd, hf⟩ := O.ex
          obtain ⟨y, e1, r⟩ := hE.get _ _ ev
          cases r with | d r => cases r with | fn hx =>
            rename_i f'
            have ef : f' = f := by
              rw [hfn] at hx
              exact (Option.some.inj hx).symm
            subst ef
            refine wpAny_Call_Name_kw (thn ((pe_var (pos := p) hN hv hdb hcd).run pins s σ H (fun v H1 => v = .ref f' ∧ H1 = H) I ⟨.ref f', e1, rfl, rfl⟩) fun u s1 ⟨v, H1, I1, r1, q1⟩ => ?_)
            obtain ⟨rfl, rfl⟩ := q1
            cases r1
            refine PySem.W.callWith_F (hat _ (I1.bk _ _ ho)) (thn (ha.run pos pins s1 σ _ _ I1 (show tA G W fa σ _ (fun vs H2 => spF G F vs H2 Q (fun cls d H' => W cls d σ H')) from ⟨w, S, η, hR, hE, Post.thn hq fun w1 S1 H1 xs vs n hR1 rx h2 => ⟨w1, S1, xs, hR1, rx, h2⟩⟩)) fun us s2 ⟨vs, H2, I2, r, q⟩ => ⟨hat _ (I2.bk _ _ ho), ?_⟩) he hpl
            have hl : vs.length = 1 := hf.len _ _ _ _ q
            have hl : us.length = 1 := by rw [← r.length]; exact hl
            obtain ⟨u, rfl⟩ := List.length_eq_one_iff.mp hl
            exact run_fnB hf hr (hbd s2 u) (passAt tk σ) I2 I2.env0 r q
        · exact hq.elim
      | _ => exact hq.elim
  · exact hq.elim
end

/-! ### the making -/
section
open LamX
variable {X : Cx} {pins : List (Addr × Obj)} {σ : L2.St} {H : Hp} {s : Shared}
/-- the making, told exactly: the table told the code object, or it has one line more -/
theorem lam_make3 {c P : Addr} {params : Arguments} {body : Expr} {scope : Scope} {pos : Pos} {E : Value → Shared → Prop} {Q : Value → Shared → Prop} {ps : Array Value} {q : Str} (I : Inv X pins σ H s) (TB : TabB X.base X.mg c P) (hcode : X.env.code = .ref c) (hq : q = X.env.qual ++ "<lambda>")
    (hP : H P = some (.tbl ps)) (ht : TriplesOk ps.toList) (ha : ∀ (p : Pos) (cv : Value), codeAmong p ps.toList = some cv → ∃ d, cv = .ref d ∧ H d = some (CodeO d q)) (hdef : defaultsOf params X.env = ([], [])) (hfree : ∀ y ∈ scope.names, y.2 = .free → ∃ c, X.env.cells.lookup y.1 = some c)
    (h : ∀ (f c' : Addr) (pm ctv : Value) (H1 : Hp) (s' : Shared), Inv X pins σ H1 s' → ((H1 = H ∧ codeAmong pos ps.toList = some (.ref c')) ∨ (H c' = none ∧ H1 = upd (upd H P (.tbl (ps ++ #[rawInt pos.line, rawInt pos.col, .ref c']))) c' (CodeO c' q))) →
      s'.heap.get? f = some (PySem.W.kla_obj "<lambda>" (X.env.qual ++ "<lambda>") params body scope (cloFrom X.env.cells scope.names []) pm c' ctv) → H1 f = none → f ∉ frs X.stack → Q (.ref f) s') :
    wpAny (model X.prog X.w) X.A (eval (.Lambda params body scope pos) X.env) Q E s := by
  subst hq
  have nofr : ∀ f, s.heap.objs.size ≤ f → f ∉ frs X.stack := fun f hf z => by
    rcases List.mem_cons.mp (I.stkSub _ z) with e | e
    · exact absurd I.lt (Nat.not_lt.mpr (e ▸ hf))
    · exact I.nofs hf e
  have hP' : s.heap.get? P = some { cls := .none, data := .fields ps } := I.hok P _ hP
  refine PySem.W.kla_eval hdef ?_
  cases hc : codeAmong pos ps.toList with
  | some cv =>
    obtain ⟨c', rfl, hco⟩ := ha pos cv hc
    refine PySem.W.kla_makeFunctionHit (mg := X.mg) (c := c) (P := P) (ps := ps) (closure_ok hfree) I.ok.glob (I.mod.glob.keeps I.bk) hcode (TB.code.keeps I.bk) hP' ht hc (TB.bm.keeps I.bk) fun ctv h' tk hx hsz => ?_
    exact h h'.objs.size c' _ ctv H _ (I.kept fun b o e => Heap.get?_push_of_some _ (hx b o e)) (.inl ⟨rfl, hc⟩) (Heap.get?_push_size _ rfl) (I.hok.fresh hsz) (nofr _ hsz)
  | none =>
    refine PySem.W.kla_makeFunction (mg := X.mg) (c := c) (P := P) (ps := ps) (closure_ok hfree) I.ok.glob (I.mod.glob.keeps I.bk) hcode (TB.code.keeps I.bk) hP' ht hc TB.gP (TB.bm.keeps I.bk) fun c' ctv h' tk hx hge hlt hrec htb => ?_
    obtain ⟨c2, oc, vs, t, e2, hoc, hd, hv⟩ := hrec
    cases e2
    have hsz : s.heap.objs.size ≤ h'.objs.size := Nat.le_trans hge (Nat.le_of_lt hlt)
    have I1 := inv_table (t' := tk) (more := #[rawInt pos.line, rawInt pos.col, .ref c']) (h' := h'.push (PySem.W.kla_obj "<lambda>" (X.env.qual ++ "<lambda>") params body scope (cloFrom X.env.cells scope.names []) ((X.mg "__name__").getD .none) c' ctv)) I hP
      (fun b o hb e => Heap.get?_push_of_some _ (hx b o hb e)) (Heap.get?_push_of_some _ htb) hge ⟨oc, vs, t, Heap.get?_push_of_some _ hoc, hd, hv⟩
    refine h h'.objs.size c' _ ctv _ _ I1 (.inr ⟨I.hok.fresh hge, rfl⟩) (Heap.get?_push_size _ rfl) ?_ (nofr _ hsz)
    rw [upd_ne (Nat.ne_of_gt hlt), upd_ne (Nat.ne_of_gt (Nat.lt_of_lt_of_le (Heap.lt_size hP') hsz))]
    exact I.hok.fresh hsz
end
/-! ### the world behind the making -/
section
variable {G : GI} {w : Wd} {S : Store} {H : Hp}
theorem Rel.lam (hR : Rel G w S H) {P c' : Addr} {q : Str} {ps : Array Value} {pos : Pos} (hT : G.T = [(P, q)]) (hP : H P = some (.tbl ps)) (ht : TriplesOk ps.toList) (ha : ∀ (p : Pos) (cv : Value), codeAmong p ps.toList = some cv → ∃ d, cv = .ref d ∧ w.M d = some (LamX.CodeO d q)) (hc : H c' = none) :
    let H1 := upd (upd H P (.tbl (ps ++ #[rawInt pos.line, rawInt pos.col, .ref c']))) c' (LamX.CodeO c' q)
    Rel G ⟨upd w.M c' (LamX.CodeO c' q), w.ρ⟩ S H1 ∧ Go w H ⟨upd w.M c' (LamX.CodeO c' q), w.ρ⟩ H1 := by
  intro H1
  obtain ⟨_, nP, mP⟩ := hR.gg.tab (P, q) (by rw [hT]; exact List.mem_cons_self ..)
  have nP : P ∉ w.ρ := nP
  have mP : w.M P = none := mP
  have mc := hR.sub.free hc
  have nc := hR.notin hc
  have nPc : P ≠ c' := fun z => by rw [z, hc] at hP; cases hP
  have at_ : ∀ a, a ≠ P → a ≠ c' → H1 a = H a := fun a h1 h2 => by show upd (upd H P _) c' _ a = _; rw [upd_ne h2, upd_ne h1]
  have atP : H1 P = some (.tbl (ps ++ #[rawInt pos.line, rawInt pos.col, .ref c'])) := by show upd (upd H P _) c' _ P = _; rw [upd_ne nPc, upd_same]
  have atc : H1 c' = some (LamX.CodeO c' q) := upd_same
  have stay : ∀ a o, H a = some o → a ≠ P → H1 a = some o := fun a o e n => (at_ a n (ne_of_none e hc)).trans e
  have inM : ∀ a, a ≠ c' → upd w.M c' (LamX.CodeO c' q) a = w.M a := fun a n => upd_ne n
  have sM : Sub w.M (upd w.M c' (LamX.CodeO c' q)) := Sub.new mc
  have ntC : NT (LamX.CodeO c' q) := fun _ z => by unfold LamX.CodeO at z; cases z
  have nr : ∀ a ∈ w.ρ, H1 a = H a := fun a h => by
    obtain ⟨o, e⟩ := hR.dom a h
    exact (stay a o e fun z => nP (by rw [← z]; exact h)).trans e.symm
  refine ⟨⟨fun a o e => ?_, hR.len, hR.nd, fun a h => ?_, fun n c a e1 e2 => ?_, fun p hp => ?_, fun a o e => ?_, fun a h => ?_, fun a o e => ?_⟩, ⟨⟨sM, List.prefix_refl _⟩, fun a o e n => ?_⟩⟩
  · by_cases z : a = c'
    · subst z; have e : upd w.M a (LamX.CodeO a q) a = some o := e; rw [upd_same] at e; cases e; exact atc
    · have e : upd w.M c' (LamX.CodeO c' q) a = some o := e
      rw [inM a z] at e
      exact stay a o (hR.sub a o e) fun y => by rw [y, mP] at e; cases e
  · obtain ⟨o, e⟩ := hR.dom a h
    exact ⟨o, (nr a h).trans e⟩
  · obtain ⟨m, r⟩ := hR.cel n c a e1 e2
    have ha := List.mem_of_getElem? e2
    exact ⟨(inM a fun z => nc (by rw [← z]; exact ha)).trans m, r.mono sM (nr a ha)⟩
  · rw [hT] at hp
    have : p = (P, q) := by simpa using hp
    subst this
    refine ⟨⟨_, atP, ?_, fun p2 cv hcv => ?_⟩, nP, (inM P nPc).trans mP⟩
    · rw [show (ps ++ #[rawInt pos.line, rawInt pos.col, .ref c']).toList = ps.toList ++ [rawInt pos.line, rawInt pos.col, .ref c'] by simp]
      exact PySem.TriplesOk_snoc _ _ _ _ ht
    · rw [show (ps ++ #[rawInt pos.line, rawInt pos.col, .ref c']).toList = ps.toList ++ [rawInt pos.line, rawInt pos.col, .ref c'] by simp] at hcv
      rcases LamX.among_app _ ht hcv with z | z
      · obtain ⟨d, e1, e2⟩ := ha p2 cv z
        exact ⟨d, e1, sM _ _ e2⟩
      · exact ⟨c', z, upd_same⟩
  · obtain ⟨h1, h2⟩ := hR.gg.low a o e
    exact ⟨sM a o h1, h2⟩
  · rw [nr a h]; exact hR.gg.nt a h
  · by_cases z : a = c'
    · subst z; have e : upd w.M a (LamX.CodeO a q) a = some o := e; rw [upd_same] at e; cases e; exact ntC
    · have e : upd w.M c' (LamX.CodeO c' q) a = some o := e
      rw [inM a z] at e; exact hR.gg.mt a o e
  · have nac : a ≠ c' := ne_of_none e hc
    refine ⟨?_, n, fun z => (inM a nac).trans z⟩
    by_cases z : a = P
    · subst z
      rw [hP] at e; cases e
      exact ⟨fun t => absurd rfl (t ps), fun _ _ => ⟨_, atP⟩⟩
    · exact .of (stay a o e z)
end

/-! ### x(lambda a: body, due) -/
section
open LamX
variable {X : Cx} {G : GI} {W : WX} {pos lpos p : Pos}
/-- the lambda's promise, as a def's -/
theorem ask_ok {H : Hp} {s : Shared} {pins : List (Addr × Obj)} {σ : L2.St} {a : Str} {kb : Nat} {f c' : Addr} {pm ctv : Value} {params : Arguments} {body : Expr} {scope : Scope} {b : Ex} {w : Wd} {S : Store} {η : En}
    (I : Inv X pins σ H s) (hfn : ∀ y, X.fn y = true) (L : Lam1 X.env.scope scope a) (ha : a ∉ X.N) (hA : G.fn askN = none) (hL : G.low = noHp) (hR : Rel G w S H) (hE : EnR G w η σ) (hc : w.M c' = some (CodeO c' (X.env.qual ++ "<lambda>")))
    (hf : s.heap.get? f = some (PySem.W.kla_obj "<lambda>" (X.env.qual ++ "<lambda>") params body scope (cloFrom X.env.cells scope.names []) pm c' ctv)) (hfn2 : H f = none) (hfr : f ∉ frs X.stack)
    (hbody : ∀ (A : Around) (outer : List Env) (s : Shared) (H : Hp) (E : XK) (f c' : Addr), MP.Room kb (A.deeper (lamEnv X scope s.heap.objs.size f c')) → PE (lamCx2 X A outer s H E scope f c' a) body (tE G (fun cls d _ H' => E cls d H') b)) :
    MP.FnOk X.prog X.w X.K X.mg (base2 s H X.stack) (L2.CX X.prog X.w) (kb + 1) f (PySem.W.kla_fn "<lambda>" (X.env.qual ++ "<lambda>") params body scope (cloFrom X.env.cells scope.names []) pm (.ref c') ctv) [a] (spF (askG G f w.M) (thunkF b (trees η))) := by
  refine (lam1_ok (t := fun E => tE G (fun cls d _ H' => E cls d H') b) I hfn L ha hf hfn2 hfr fun A outer s H E hr => hbody A outer s H E f c' hr).imp fun us HZ Q E ⟨wz, Sz, as, hRz, ra, hp⟩ => ?_
  have low : Sub w.M wz.M := fun d o e => (hRz.gg.low d o e).1
  unfold thunkF at hp
  split at hp
  · rename_i x
    split at hp
    case isFalse => exact hp.elim
    rename_i hx
    cases ra with | @cons _ y0 _ _ rx ra => cases ra with | nil =>
    cases rx with | d rx =>
    have rx : RD G wz.M x y0 := rx.unask hx
    refine ⟨y0, rfl, hRz.sub _ _ (low _ _ hc), ⟨wz.M, []⟩, ⟨[]⟩, trees η ++ [some (.d x)], bare0 hRz rfl (fun d o e => by rw [hL] at e; cases e), (hE.tr low).push (v := .d x) (.d (show RD G (Wd.mk wz.M []).M x y0 from rx)), ?_⟩
    have lowN : ∀ (w' : Wd) (H' : Hp), Go ⟨wz.M, []⟩ HZ w' H' → ∀ a ∈ w'.ρ, (askG G f w.M).low a = none := fun w' H' g a ha => by
      cases q : (askG G f w.M).low a with
      | none => rfl
      | some o => exact absurd ha (g.f a o (hRz.sub a o (low a o q)) (fun hm => nomatch hm)).2.1
    revert hp
    cases b (trees η ++ [some (.d x)]) ⟨[]⟩ with
    | stuck => exact fun hp => hp.elim
    | ok v S1 =>
      intro hp w' H' y g hR' ry
      obtain ⟨R2, G2⟩ := back1 hRz (G' := G) rfl g hR' (lowN w' H' g) (CellR.ask hA)
      refine hp _ H' y G2 R2 ?_
      rw [← hRz.len]
      exact RV.shift (ρ := wz.ρ) (ρ' := w'.ρ) (ry.ask hA)
    | exc c S1 =>
      intro hp w' H' g hR'
      obtain ⟨R2, G2⟩ := back1 hRz (G' := G) rfl g hR' (lowN w' H' g) (CellR.ask hA)
      exact hp _ H' G2 R2
  · exact hp.elim
theorem inv_pin {H : Hp} {s : Shared} {pins : List (Addr × Obj)} {σ : L2.St} {f : Addr} {o : Obj} (I : Inv X pins σ H s) (h1 : s.heap.get? f = some o) (h2 : H f = none) (h3 : f ≠ X.env.locals) (h4 : f ∉ X.fs) (h5 : ∀ v, o.data ≠ .cell v) : Inv X ((f, o) :: pins) σ H s :=
  ⟨I.ok, I.os, I.bare, I.base, I.loc, I.cell, I.free, I.freeC, fun r hr => by
    rcases List.mem_append.mp hr with z | z
    · exact I.pin r (List.mem_append_left _ z)
    · rcases List.mem_cons.mp z with z | z
      · subst z; exact ⟨h1, h2, h3, h4, h5⟩
      · exact I.pin r (List.mem_append_right _ z), I.hok, I.len⟩
theorem inv_unpin {H : Hp} {s : Shared} {pins : List (Addr × Obj)} {σ : L2.St} {r : Addr × Obj} (I : Inv X (r :: pins) σ H s) : Inv X pins σ H s :=
  ⟨I.ok, I.os, I.bare, I.base, I.loc, I.cell, I.free, I.freeC, fun r hr => I.pin r (by
    rcases List.mem_append.mp hr with z | z
    · exact List.mem_append_left _ z
    · exact List.mem_append_right _ (List.mem_cons_of_mem _ z)), I.hok, I.len⟩
end
end MP

/-! MPLT: a law's end where one def of it makes lambdas -/
namespace MP
open PySem PySem.Spec PyProof.Rows L2
/-- the script and the table are all that may be told -/
def OnlyT (H : Hp) (P : Addr) : Prop := H P = some (.tbl #[]) ∧ ∀ b, b ≠ P → H b = none ∨ ∃ o xs, H b = some (.frz o (.lst xs))
def scrT (K : PySem.W.Frag) (a P : Addr) (vs : List Value) (ns : List Int) : Hp := fun b => if b = P then some (.tbl #[]) else scrH K a vs ns b
section
variable {P0 : Program} {w : World} {K : PySem.W.Frag} {mg mb : Str → Option Value} {k : Nat} {fa a c P : Addr} {fd : FuncData} {x : Str} {sp : Sp} {s1 : Shared} {vs : List Value} {ns : List Int} {C : CXT}
theorem call_endT (kin : K.In s1.heap) (g1 : s1.heap.Ns mainGlobals mg) (g2 : s1.heap.Ns builtinsNs mb) (g3 : ∀ x : Str, x ≠ "__name__" → mb x = bootBuiltins x) (g4 : s1.heap.NoLimit) (g5 : s1.gens = #[])
    (hT : s1.heap.get? P = some { cls := .none, data := .fields #[] }) (nT : K.lookup P = none) (hC0 : PySem.W.CodeHd s1.heap c P)
    (hbm : ∃ (bm : Addr) (ob : Obj), mg "__builtins__" = some (.ref bm) ∧ bm ≠ builtinsNs ∧ s1.heap.get? bm = some ob ∧ ob.cls = .type "module" ∧ ob.dict = some builtinsNs ∧ ob.data = .plain)
    (at_ : s1.heap.get? a = some { cls := .type "list", data := .seq vs.toArray }) (hi : IntsAre vs ns) (hl : ns.length ≤ sizeLine) (r : MP.Room k callerA)
    (F : ∀ base : Heap, K.In base → base.Ns mainGlobals mg → LamX.TabB base mg c P → MP.FnOk P0 w K mg base C k fa fd [x] sp) (bd : ∀ (s : Shared) (u : Value), BindsTo s fd ⟨[u], []⟩ [(x, u)])
    (hs : ∀ H : Hp, OnlyT H P → SqL K H a (ns.map V.int) → sp [.ref a] H (fun v _ => v = .bl true) fun _ _ _ => False) (hC : ∀ H e s', C [] H s1 (fun _ _ _ => False) e s' → False) :
    codeAny (model P0 w) callerA (.call (.ref fa) ⟨[.ref a], []⟩) (fun r s' => r = .ok (.ret (.bool true)) ∧ OldK s1.heap s'.heap ∧ s'.os = s1.os ∧ AllBare s'.gens) s1 := by
  have naP : a ≠ P := fun z => by rw [z, hT] at at_; cases at_
  generalize eH : scrT K a P vs ns = H
  have hP : H P = some (.tbl #[]) := by rw [← eH]; unfold scrT; rw [if_pos rfl]
  have known : ∀ {b u}, b ≠ P → H b = some u → b = a ∧ K.lookup a = none ∧ u = .frz { cls := .type "list", data := .seq vs.toArray } (.lst (ns.map V.int)) := fun n h => by
    rw [← eH] at h; unfold scrT at h; rw [if_neg n] at h; exact scrH_some h
  have noD : ∀ {b : Addr} {o : Obj}, s1.heap.get? b = some o → (∀ vs n, o.data ≠ .seq vs n) → o.data ≠ .fields #[] → H b = none := fun {b o} e h1 h2 => by
    cases q : H b with
    | none => rfl
    | some u =>
      by_cases n : b = P
      · rw [n, hT] at e; cases e; exact absurd rfl h2
      · obtain ⟨e1, _, _⟩ := known n q
        rw [e1, at_] at e
        cases e
        exact absurd rfl (h1 _ _)
  have noK : ∀ {b o}, K.lookup b = some o → H b = none := fun {b o} e => by
    cases q : H b with
    | none => rfl
    | some u =>
      by_cases n : b = P
      · rw [n, nT] at e; cases e
      · obtain ⟨e1, e2, _⟩ := known n q
        rw [e1, e2] at e; cases e
  have keepNs : ∀ {b : Addr} {m : Str → Option Value}, s1.heap.Ns b m → (hidT s1.heap H).Ns b m := fun z => by
    obtain ⟨o, es, n, e, d, rest⟩ := z
    exact ⟨o, es, n, hidT_get e (noD e (fun vs n z => by rw [d] at z; cases z) (fun z => by rw [d] at z; cases z)), d, rest⟩
  have kin' : K.In (hidT s1.heap H) := fun b o e => hidT_get (kin b o e) (noK e)
  have md : Mod K mg (hidT s1.heap H) := ⟨kin', keepNs g1, ⟨mb, keepNs g2, g3⟩, g4.imp fun m z => ⟨keepNs z.1, z.2⟩⟩
  have TB : LamX.TabB (hidT s1.heap H) mg c P := by
    refine ⟨?_, ?_, fun z => ?_⟩
    · obtain ⟨o, us, file, tf, flags, tg, inF, text, tt, e1, r1, r2, r3, r4, r5, r6, r7, r8, hne⟩ := hC0
      refine ⟨o, us, file, tf, flags, tg, inF, text, tt, hidT_get e1 (noD e1 (fun vs n z => ?_) fun z => ?_), r1, r2, r3, r4, r5, r6, r7, r8, hne⟩
      · rw [r2] at z; cases z
      · rw [r2] at z; cases z; simp at r3
    · obtain ⟨bm, ob, b1, b2, b3, b4, b5, b6⟩ := hbm
      have nG : bm ≠ mainGlobals := fun q => by
        obtain ⟨o, es, ep, e, hd, _⟩ := g1
        rw [q, e] at b3
        cases b3
        rw [hd] at b6; cases b6
      have nP : bm ≠ P := fun q => by
        rw [q, hT] at b3
        cases b3
        cases b6
      exact ⟨bm, ob, b1, b2, nG, nP, hidT_get b3 (noD b3 (fun vs n z => by rw [b6] at z; cases z) fun z => by rw [b6] at z; cases z), b4, b5, b6⟩
    · obtain ⟨o, es, ep, e, hd, _⟩ := g1
      rw [z, hT] at e
      cases e
      cases hd
  have rv := vals_ints hi
  have hok : HOk P0 w H s1.heap := fun b u h => by
    by_cases n : b = P
    · subst n; rw [hP] at h; cases h; exact hT
    · obtain ⟨rfl, _, rfl⟩ := known n h
      exact ⟨at_, by rw [List.length_map]; exact hl, vs, _, rv, at_⟩
  have only : OnlyT H P := ⟨hP, fun b n => by
    cases q : H b with
    | none => exact .inl rfl
    | some u => obtain ⟨_, _, rfl⟩ := known n q; exact .inr ⟨_, _, rfl⟩⟩
  have sq : SqL K H a (ns.map V.int) := by
    cases q : K.lookup a with
    | none => exact .inl (.inr ⟨{ cls := .type "list", data := .seq vs.toArray }, by rw [← eH]; unfold scrT; rw [if_neg naP]; unfold scrH; rw [if_pos ⟨rfl, q⟩]⟩)
    | some o =>
      have e := kin a o q
      rw [at_] at e
      cases e
      exact .inr ⟨_, vs.toArray, _, q, rfl, rfl, rfl, by rw [List.size_toArray, hi.length]; exact hl, by simpa using rv⟩
  have e0 : Env0 P0 w K mg (hidT s1.heap H) callerA [] s1 H := ⟨rfl, md, fun b o e => of_hidT e, Nat.le_of_eq (hidT_size _ _), trivial, fun b z => (nomatch (show b ∈ ([] : List Addr) from z)), hok, .of_eq g5⟩
  refine codeAny_mono ((F _ kin' (keepNs g1) TB).go callerA [] s1 H ⟨[.ref a], []⟩ [.ref a] [.ref a] _ _ r e0 (bd s1 (.ref a)) (.cons rfl .nil) (hs H only sq)) ?_
  intro q s' z
  cases q with
  | error e => exact (hC H e s' z).elim
  | ok fl =>
    cases fl with
    | next => exact z.elim
    | brk => exact z.elim
    | cont => exact z.elim
    | ret u =>
      obtain ⟨v, H2, os, bare, un, hok2, rv2, z⟩ := z
      have z : v = .bl true := z
      rw [z] at rv2
      have rv2 : u = Value.bool true := rv2
      have key : ∀ b o, b ≠ P → s1.heap.get? b = some o → s'.heap.get? b = some o := fun b o n e => by
        cases q : H b with
        | none => exact un.keep b o e q (fun z => nomatch (show b ∈ ([] : List Addr) from z)) (fun z => nomatch z)
        | some u2 =>
          obtain ⟨_, _, eu⟩ := known n q
          rw [eu] at q
          have t1 := (hok b _ q).1
          have t2 := (hok2 b _ (un.frzs b _ _ q)).1
          rw [t1] at e
          cases e
          exact t2
      obtain ⟨more, hm⟩ := un.tbls P #[] hP
      have hm : s'.heap.get? P = some { cls := .none, data := .fields (#[] ++ more) } := hok2 P _ hm
      refine ⟨by rw [rv2], ⟨fun b o e => ?_, fun b o e => ?_⟩, os, bare⟩
      · by_cases n : b = P
        · subst n
          rw [hT] at e
          cases e
          exact .inr (.inl ⟨(hC0.tab hT).isCodeTable, rfl, #[], more, rfl, hm⟩)
        · exact .inl (key b o n e)
      · by_cases n : b = P
        · subst n; exact ⟨_, hm⟩
        · exact ⟨o, key b o n e⟩
end
theorem walk_ofGT {l : PySem.W.OpenLaw} {n k : Nat} {q : Program} {loose : List Str} {XP : (Str → Option Value) → Heap → Prop} {YP : World → Heap → Prop} {d dy : DefRec} {K : Params → PySem.W.Frag} {C : World → CXT} {sp : World → Addr → Sp} {x y : Str}
    (h1 : l.most = some n) (h2 : n ≤ sizeLine) (h3 : d.params.defaults = []) (r : MP.Room k callerA) (hrec : (recsOf q).find? (fun e => e.name == y) = some dy) (hY : ∀ (w : World) (h : Heap), YP w h → (K w.params).In h)
    (F : ∀ (w : World) (mg : Str → Option Value) (fa : Addr) (h : Heap), (K w.params).In h → h.Ns mainGlobals mg → mg d.name = some (.ref fa) → ∃ c P, PySem.W.tabIn (K w.params) y = some (c, P) ∧ (K w.params).lookup P = none ∧ ∃ fd : FuncData, (∀ (s : Shared) (u : Value), BindsTo s fd ⟨[u], []⟩ [(x, u)]) ∧
      ∀ base : Heap, (K w.params).In base → base.Ns mainGlobals mg → LamX.TabB base mg c P → MP.FnOk l.prog w (K w.params) mg base (C w) k fa fd [x] (sp w P))
    (hs : ∀ (w : World) (H : Hp) (a P : Addr) (ns : List Int), ns.length ≤ n → (∀ z ∈ ns, Builtin.Int.intBits z ≤ 1048576) → OnlyT H P → SqL (K w.params) H a (ns.map V.int) → sp w P [.ref a] H (fun v _ => v = .bl true) fun _ _ _ => False)
    (hC : ∀ (w : World) (H : Hp) (s : Shared) (e : Value) (s' : Shared), C w [] H s (fun _ _ _ => False) e s' → False) : PySem.W.WalkO q loose XP YP l.row.toRowW d [] (fun f vs => PySem.call f vs) :=
  Att.attach_callB h1 h3 fun w s₀ s₁ mg mb fa o pm cd doc a vs ns G Y ho hd hcd hmg hobj hints hlen hbits hg => by
    have kin := hY w _ Y
    obtain ⟨c, P, ht, nT, fd, b, hF⟩ := F w mg fa _ kin G.T.g hmg
    obtain ⟨hC0, hT⟩ := PySem.W.tab_of G.T kin hrec ht
    exact call_endT kin G.T.g G.T.b G.T.builtins G.T.nolimit hg hT nT hC0 G.T.bmain hobj hints (Nat.le_trans hlen h2) r hF b (fun H hO hS => hs w H a P ns hlen hbits hO hS) fun H e s' => hC w H s₁ e s'
/-- the promise of a law's own def over a table -/
def spAT (K : PySem.W.Frag) (q : Str) (F : Fn) (P : Addr) : Sp := fun vs H Q E => ∀ cls fn, spF ⟨K, cls, fn, [(P, q)], noHp⟩ F vs H Q E
theorem law_spAT {K : PySem.W.Frag} {F : Fn} {H : Hp} {a P : Addr} {q : Str} {ns : List Int} (hO : OnlyT H P) (hS : SqL K H a (ns.map V.int)) (h : F [.d (.scr ns)] ⟨[]⟩ = .ok (.d (.bl true)) ⟨[]⟩) : spAT K q F P [.ref a] H (fun v _ => v = .bl true) fun _ _ _ => False := fun cls fn => by
  let M : Hp := fun b => if b = P then none else H b
  have sM : Sub M H := fun b o e => by
    have e : (if b = P then none else H b) = some o := e
    split at e
    · cases e
    · exact e
  have hSM : SqL K M a (ns.map V.int) := by
    rcases hS with h | h
    · refine .inl ?_
      have nP : a ≠ P := fun z => by
        rcases h with h | ⟨o, h⟩ <;> rw [z, hO.1] at h <;> cases h
      rcases h with h | ⟨o, h⟩
      · exact .inl (by show (if a = P then none else H a) = _; rw [if_neg nP]; exact h)
      · exact .inr ⟨o, by show (if a = P then none else H a) = _; rw [if_neg nP]; exact h⟩
    · exact .inr h
  refine ⟨⟨M, []⟩, ⟨[]⟩, [.d (.scr ns)], ⟨sM, rfl, List.nodup_nil, fun _ h => (by cases h), fun n c a e _ => (by simp at e), ⟨fun p hp => ?_, fun a o e => (by cases e), fun a ha => (by cases ha), fun b o e => ?_⟩⟩, .cons (.d (.scr hSM)) .nil, by
    rw [h]; intro w' H' x _ _ r
    cases r with | d r => cases r; rfl⟩
  · have : p = (P, q) := by simpa using hp
    subst this
    refine ⟨⟨#[], hO.1, True.intro, fun pos cv hc => ?_⟩, (fun h => nomatch h), if_pos rfl⟩
    have z : codeAmong pos [] = some cv := hc
    simp [codeAmong] at z
  · have e : (if b = P then none else H b) = some o := e
    split at e
    · cases e
    · rename_i n
      rcases hO.2 b n with z | ⟨_, _, z⟩
      · rw [e] at z; cases z
      · rw [e] at z; cases z; exact fun _ y => by cases y
theorem ErrsOk.to {K : PySem.W.Frag} {mg : Str → Option Value} {G G2 : GI} (E : ErrsOk K mg G) (e : G2.cls = G.cls) : ErrsOk K mg G2 :=
  ⟨fun c hc => by rw [e]; exact E.cls c hc, fun c hc => by rw [e]; exact E.one c hc, fun i j hi hj => by rw [e]; exact E.kit i j hi hj, E.sp, E.tk⟩
theorem has_x {K : PySem.W.Frag} {mg : Str → Option Value} {x : Str} {st : Stmt} {ps : List Str} (h : Has K mg x st ps) : ∃ f, mg x = some (.ref f) ∧ PySem.W.keepIn K (.ref f) = true :=
  let ⟨f, _, h1, h2, _⟩ := h.ex; ⟨f, h1, h2.kp⟩
theorem lam_takes {X : Cx} {A : Around} {outer : List Env} {s : Shared} {H : Hp} {E : XK} {scope : Scope} {f c' : Addr} {a : Str} : Takes (lamCx2 X A outer s H E scope f c' a) (fun cls d _ H' => E cls d H') := takes_of rfl rfl rfl rfl
theorem tabIn_of {K : PySem.W.Frag} {x : Str} {c P f : Addr} {oc e : Value} {od dd : Option Addr} {fd : FuncData} {sl sl2 : Array (Option Value)} {us : Array Value} (a : PySem.W.nsIn K mainGlobals x = some (some (.ref f))) (l : K.lookup f = some ⟨oc, od, .func fd, sl⟩) (hc : fd.code = .ref c)
    (k : K.lookup c = some ⟨e, dd, .fields us, sl2⟩) (u : us[11]? = some (.ref P)) : PySem.W.tabIn K x = some (c, P) := by
  unfold PySem.W.tabIn
  rw [a]
  simp only [l, hc, k, u]
end MP

/-! MPLB: x(lambda a: body, due, ..), with any number of things behind the lambda -/
namespace MP
open PySem PySem.Spec PyProof.Rows L2
def allVd : List Vl → Option (List D)
  | [] => some []
  | .d x :: r => (allVd r).map (x :: ·)
  | _ :: _ => none
theorem allVd_ok : ∀ {vs : List Vl} {ds : List D}, allVd vs = some ds → vs = ds.map .d
  | [], ds, h => by cases h; rfl
  | v :: r, ds, h => by
    cases v with
    | d x =>
      have h : (allVd r).map (x :: ·) = some ds := h
      cases q : allVd r with
      | none => rw [q] at h; cases h
      | some es => rw [q] at h; cases h; rw [allVd_ok q]; rfl
    | p n => cases h
    | t xs => cases h
def askL (F : Fn → Fn) (b : Ex) (fd : As) : Ex := fun η S => (fd η S).bind fun vs S1 => match allVd vs with
  | some ds => match F (thunkF b (trees η)) (.d (.fn askN) :: ds.map .d) ⟨[]⟩ with
    | .ok (.d (.bl r)) ⟨[]⟩ => .ok (.d (.bl r)) S1
    | _ => .stuck
  | none => .stuck
section
open LamX
variable {X : Cx} {G : GI} {W : WX} {pos lpos p : Pos}
theorem me_askL {x q a : Str} {kb kd : Nat} {c P : Addr} {params : Arguments} {body due : Expr} {es : List Expr} {scope : Scope} {b : Ex} {fd : As} {F : Fn → Fn}
    (hA : G.fn askN = none) (hL : G.low = noHp) (hT : G.T = [(P, q)]) (hq : q = X.env.qual ++ "<lambda>") (TB : TabB X.base X.mg c P) (hcode : X.env.code = .ref c) (hfn : ∀ y, X.fn y = true) (L : Lam1 X.env.scope scope a) (ha : a ∉ X.N) (hdef : defaultsOf params X.env = ([], []))
    (O : ∀ (b2 : Heap) (G' : GI) (Fa : Fn), X.K.In b2 → b2.Ns mainGlobals X.mg → G'.K = G.K → G'.cls = G.cls → G'.T = G.T → AskF X.prog X.w X.K X.mg b2 G' (kb + 1) Fa → Def X.prog X.w X.K X.mg b2 G' kd x (F Fa))
    (hx : ∃ f, X.mg x = some (.ref f) ∧ PySem.W.keepIn X.K (.ref f) = true) (hr : Room kd X.A) (hg : Gl X x)
    (hbind : ∀ (cl : List (Str × Addr)) (pm cv ctv : Value) (s : Shared) (u : Value), BindsTo s (PySem.W.kla_fn "<lambda>" q params body scope cl pm cv ctv) ⟨[u], []⟩ [(a, u)])
    (hbody : ∀ (A : Around) (outer : List Env) (s : Shared) (H : Hp) (E : XK) (f c' : Addr), MP.Room kb (A.deeper (lamEnv X scope s.heap.objs.size f c')) → PE (lamCx2 X A outer s H E scope f c' a) body (tE G (fun cls d _ H' => E cls d H') b))
    (hdue : PA X (due :: es) (tA G W fd)) (hdb : (x == ("__debug__" : Str)) = false := by decide)
    (he : starEach (.Lambda params body scope lpos :: due :: es) X.env = (false, eval (.Lambda params body scope lpos) X.env) :: starEach (due :: es) X.env := by rfl)
    (hpl : (backTo pos (starEach (due :: es) X.env)).any (·.1) = false := by rfl) :
    PE X (.Call (.Name x p) (.Lambda params body scope lpos :: due :: es) [] pos) (tE G W (askL F b fd)) := by
  obtain ⟨g, hm, hk⟩ := hx
  subst hq
  refine ⟨fun pins s σ H Q I ⟨w, S, η, hR, hE, h⟩ => ?_⟩
  obtain ⟨⟨ps, hP, ht, htab⟩, _, _⟩ := hR.gg.tab (P, X.env.qual ++ "<lambda>") (by rw [hT]; exact List.mem_cons_self ..)
  have hfree : ∀ y ∈ scope.names, y.2 = .free → ∃ c, X.env.cells.lookup y.1 = some c := fun y hy e => I.ok.has _ (.inl (L.free y hy e))
  refine wpAny_Call_Name_kw (ld_glob I hg hm ?_ hdb)
  refine PySem.W.callWith_K (h₀ := X.base) I.ok.mod.kin hk ?_ he hpl
  rw [he]
  show wpAny _ _ (spliced ((false, eval (.Lambda params body scope lpos) X.env) :: backTo pos (starEach (due :: es) X.env))) _ _ s
  refine Calls.spliced_cons (lam_make3 I TB hcode rfl hP ht (fun p2 cv e => let ⟨d, e1, e2⟩ := htab p2 cv e; ⟨d, e1, hR.sub _ _ e2⟩) hdef hfree fun f c' pm ctv H1 s1 I1 how hf hfn2 hfr => ?_)
  have key : ∃ w1, Rel G w1 S H1 ∧ Go w H w1 H1 ∧ w1.M c' = some (CodeO c' (X.env.qual ++ "<lambda>")) := by
    rcases how with ⟨rfl, e⟩ | ⟨hc, rfl⟩
    · obtain ⟨d, e1, e2⟩ := htab _ _ e
      cases e1
      exact ⟨w, hR, Go.refl w _, e2⟩
    · obtain ⟨h1, h2⟩ := hR.lam (pos := lpos) hT hP ht htab hc
      exact ⟨_, h1, h2, upd_same⟩
  obtain ⟨w1, hR1, g1, hc1⟩ := key
  have hfx : f ≠ X.env.locals := fun z => by
    obtain ⟨m, ⟨o2, es, ep, e3, d, _⟩, _⟩ := I1.loc
    rw [← z, hf] at e3
    cases e3; cases d
  have hfo : f ∉ X.fs := fun z => hfr (by
    rcases I.ok.stk with q | ⟨q, hfr2⟩
    · rw [q]; exact z
    · rw [q]
      have e2 : frs (X.env :: X.outer) = X.env.locals :: frs X.outer := by unfold frs; rw [List.filterMap_cons, hfr2]
      rw [e2]; exact List.mem_cons_of_mem _ z)
  have I1' := inv_pin I1 hf hfn2 hfx hfo (fun v z => (by cases z))
  refine thn (hdue.run pos _ s1 σ H1 (fun ys H2 => ∃ w2 S2 ds, Rel G w2 S2 H2 ∧ EnR G w2 η σ ∧ w2.M c' = some (CodeO c' (X.env.qual ++ "<lambda>")) ∧ RDs G w2.M ds ys ∧ ∃ r, F (thunkF b (trees η)) (.d (.fn askN) :: ds.map .d) ⟨[]⟩ = .ok (.d (.bl r)) ⟨[]⟩ ∧ ∀ w' H', Go w2 H2 w' H' → Rel G w' S2 H' → Q (.bl r) H') I1' ⟨w1, S, η, hR1, hE.mono g1.n, Post.thn (h.mono g1) fun w2 S2 H2 v y n hR2 ry h2 => ?_⟩) fun u s2 ⟨y, H2, I2, ry, w2, S2, d, hR2, hE2, hc2, rd, r, eF, hQ⟩ => ?_
  · split at h2
    · rename_i ds ed
      have ev := allVd_ok ed
      subst ev
      split at h2
      · rename_i r eF
        exact ⟨w2, S2, ds, hR2, hE.mono (g1.n.trans n.n), n.n.m _ _ hc1, ry.toD, r, eF, fun w' H' g hR' => h2 w' H' _ g hR' (.d (.bl r))⟩
      · exact h2.elim
    · exact h2.elim
  refine ⟨I2.kIn, ?_⟩
  obtain ⟨hf2, hfn3, hfx2, hfo2, _⟩ := I2.pin _ (List.mem_append_right _ (List.mem_cons_self ..))
  have hfr2 : f ∉ frs X.stack := fun z => by
    rcases I2.ok.stk with q | ⟨q, hq⟩
    · rw [q] at z; exact hfo2 z
    · rw [q] at z
      have e2 : frs (X.env :: X.outer) = X.env.locals :: frs X.outer := by unfold frs; rw [List.filterMap_cons, hq]
      rw [e2] at z
      rcases List.mem_cons.mp z with z | z
      · exact hfx2 z
      · exact hfo2 z
  have A := ask_ok (S := S2) I2 hfn L ha hA hL hR2 hE2 hc2 hf2 hfn3 hfr2 hbody
  have e0 := env0_2 I2
  have D := O (base2 s2 H2 X.stack) (askG G f w2.M) (thunkF b (trees η)) e0.mod.kin e0.mod.glob rfl rfl rfl ⟨f, _, _, a, askG_fn, base2_get hf2 hfn3 hfr2, fun h e => ⟨_, _, _, _, e⟩, hbind _ _ _ _, A⟩
  obtain ⟨g', fd', ps', hm', hk', hb', hF⟩ := D.ex
  have eg : g' = g := by rw [hm] at hm'; cases hm'; rfl
  subst eg
  have rv : Vals (V.ref f :: y) (Value.ref f :: u) := .cons rfl ry
  have hsp : spF (askG G f w2.M) (F (thunkF b (trees η))) (.ref f :: y) H2 Q (fun _ _ _ => False) :=
    ⟨⟨w2.M, []⟩, ⟨[]⟩, (.d (.fn askN) :: d.map .d), bare0 hR2 rfl (fun _ _ e => e), .cons (.d (.fn askG_fn)) (RVs.ofD (w := ⟨w2.M, []⟩) (rd.ask hA)), by
      rw [eF]
      intro w' H' x g hR' rx
      obtain ⟨R3, G3⟩ := back0 hR2 (G' := askG G f w2.M) rfl g hR'
      cases rx with | d rx => cases rx; exact hQ _ H' G3 R3⟩
  have few : ((Value.ref f :: u) ++ []).length = ps'.length := by
    rw [List.append_nil, ← rv.length]; exact hF.len _ _ _ _ hsp
  have bd := hb' s2 (.ref f :: u) I2.kIn few
  rw [List.append_nil] at bd
  have out := run_fnB (E := fun _ _ _ _ => False) hF hr bd (fun pins M s e s' I z => (by obtain ⟨_, _, _, _, _, _, _, _, _, _, _, _, hE⟩ := z; exact hE.elim)) I2 e0 rv hsp
  exact wpAny_mono out (fun u s' ⟨v, H', I', rv', q⟩ => ⟨v, H', inv_unpin I', rv', q⟩) fun _ _ z => z
end
end MP

/-! MPSL: sum(lists, start) of a list of lists -/
namespace MP
open PySem PySem.Spec PyProof.Rows L2
theorem sum_args2 (a b : Value) : argsOk "sum" ⟨[a, b], []⟩ := by unfold argsOk; kernel_rfl
theorem no_list_str : isSubtype (.type "list") (.type "str") = pure false := by rw [isSubtype_type]; kernel_rfl
theorem no_list_bytes : isSubtype (.type "list") (.type "bytes") = pure false := by rw [isSubtype_type]; kernel_rfl
theorem no_list_bytearray : isSubtype (.type "list") (.type "bytearray") = pure false := by rw [isSubtype_type]; kernel_rfl
/-- the lists so far, behind one another -/
def catN (its : Nat → Array Value) (z : Array Value) : Nat → Array Value
  | 0 => z
  | i + 1 => catN its z i ++ its i
section
variable {prog : Program} {w : World} {A : Around} {R : Result → Shared → Prop} {I : Addr} {fp wr : List Addr} {n : Nat} {P : Nat → Value → Prop} {St : Nat → Heap → Prop}
theorem sum_cat_loop (W : Walks prog w A.in1 I fp wr n P St) {ad : Nat → Addr} {its : Nat → Array Value} {z : Array Value} (hval : ∀ i v, i < n → P i v → v = .ref (ad i)) (hwr : ∀ i h, St i h → ∀ b ∈ wr, ∃ o, h.get? b = some o) (S : Addr) (hSf : S ∉ fp) (hsz : ∀ i, i ≤ n → (catN its z i).size ≤ sizeLine) :
    ∀ (k i : Nat) (s : Shared) (t : Addr) (nt c : Nat), n - i = k → i ≤ n → St i s.heap → s.heap.get? S = some { cls := .type "list", dict := none, data := .seq #[.ref t] c, slots := #[] } → IsL s.heap t (catN its z i) nt → t ∉ wr → t ≠ S → (∀ j, j < n → ad j ∉ wr ∧ ad j ≠ S ∧ ∃ m, IsL s.heap (ad j) (its j) m) →
    (∀ h' tk t' n', (∀ b o, b ∉ wr → b ≠ S → s.heap.get? b = some o → h'.get? b = some o) → ((t' = t ∧ i = n) ∨ S < t') → IsL h' t' (catN its z n) n' → R (.ok (.ret (.ref t'))) { s with heap := h', toks := tk }) →
    codeAny (model prog w) A (.builtin "sum.loop" ⟨[.ref I, .ref S, rawInt 2, rawInt 0], []⟩) R s := by
  have hSw : S ∉ wr := fun h => hSf (W.sub _ h)
  intro k
  induction k with
  | zero =>
    intro i s t nt c hk hi hst hS ht htw htS had hR
    have hin : i = n := by omega
    subst hin
    refine codeAny_builtin F.entry_sum_loop ?_
    rw [Around.under_plainId F.plain_sum_loop _]
    show wpAny _ A.in1 (seqItems? (.ref S) >>= _) _ _ s
    refine wpAny_bind (wpAny_seqItems hS rfl ?_)
    show wpAny _ A.in1 (tryCatch (pyNext (.ref I)) _ >>= _) _ _ s
    refine wpAny_bind (wpAny_tryCatch (W.done s _ _ hst fun h' tk hk' => ?_))
    exact wpAny_pure (hR h' tk t nt (fun b o hbw _ e => hk' b o hbw e) (.inl ⟨rfl, rfl⟩) (hk' t _ htw ht))
  | succ k ih =>
    intro i s t nt c hk hi hst hS ht htw htS had hR
    have hlt : i < n := by omega
    refine codeAny_builtin F.entry_sum_loop ?_
    rw [Around.under_plainId F.plain_sum_loop _]
    show wpAny _ A.in1 (seqItems? (.ref S) >>= _) _ _ s
    refine wpAny_bind (wpAny_seqItems hS rfl ?_)
    show wpAny _ A.in1 (tryCatch (pyNext (.ref I)) _ >>= _) _ _ s
    refine wpAny_bind (wpAny_tryCatch (W.item i s _ _ hlt hst fun v h' tk hP hst' hk' => ?_))
    obtain rfl := hval i v hlt hP
    have hS' := hk' S _ hSw hS
    have ht' := hk' t _ htw ht
    obtain ⟨a1, a2, m, a3⟩ := had i hlt
    have a3' := hk' _ _ a1 a3
    have fresh : ∀ b o, h'.get? b = some o → b ≠ h'.objs.size := fun b o e => Nat.ne_of_lt (Heap.lt_size e)
    have nwr : h'.objs.size ∉ wr := fun hm => by
      obtain ⟨o, e⟩ := hwr _ _ hst' _ hm
      exact fresh _ _ e rfl
    have nS : h'.objs.size ≠ S := fun z => fresh _ _ hS' z.symm
    show wpAny _ A.in1 ((holding [Value.ref (ad i)] (binaryOp .Add (.ref t) (.ref (ad i)))).attempt >>= _) _ _ _
    refine wpAny_bind (wpAny_attempt (wpAny_holding (PySem.P.add_list ht' a3' ?_ (by have := hsz (i + 1) hlt; unfold catN at this; rw [Array.size_append] at this; exact this))))
    show wpAny _ A.in1 (updateSeq S (fun _ => #[.ref h'.objs.size]) >>= _) _ _ _
    refine wpAny_bind ?_
    have hS1 := Heap.get?_push_of_some { cls := .type "list", data := .seq (catN its z i ++ its i) } hS'
    refine wpAny_updateSeq hS1 rfl ?_
    have hS2 := Heap.get?_update_self (Obj.mapSeq fun _ => #[Value.ref h'.objs.size]) hS1 rfl
    refine wpAny_bind (wpAny_letGo ?_)
    refine wpAny_bind ?_
    have keep : ∀ b o, b ≠ S → (h'.push { cls := .type "list", data := .seq (catN its z i ++ its i) }).get? b = some o → (((h'.push { cls := .type "list", data := .seq (catN its z i ++ its i) }).update S (Obj.mapSeq fun _ => #[Value.ref h'.objs.size])).update S (Obj.mapSeq fun _ => #[Value.ref h'.objs.size])).get? b = some o := fun b o hb e =>
      (Heap.get?_update_other _ _ (Ne.symm hb)).trans ((Heap.get?_update_other _ _ (Ne.symm hb)).trans e)
    have new : (h'.push { cls := .type "list", data := .seq (catN its z i ++ its i) }).get? h'.objs.size = some { cls := .type "list", data := .seq (catN its z i ++ its i) } := Heap.get?_push_size _ rfl
    refine wpAny_updateSeq hS2 rfl (wpAny_pure ⟨plainId_quiet F.plain_sum_loop _, ih (i + 1) _ h'.objs.size _ _ (by omega) hlt (W.frame _ _ _ hst' fun b hb o e => ?_) (Heap.get?_update_self _ hS2 rfl) (keep _ _ nS new) nwr nS (fun j hj => ?_) fun h2 tk2 t2 n2 hk2 hf h2t => ?_⟩)
    · exact keep b o (fun h : b = S => hSf (by rw [← h]; exact hb)) (Heap.get?_push_of_some _ e)
    · obtain ⟨b1, b2, m2, b3⟩ := had j hj
      exact ⟨b1, b2, m2, keep _ _ b2 (Heap.get?_push_of_some _ (hk' _ _ b1 b3))⟩
    · refine hR h2 tk2 t2 n2 (fun b o hbw hbS e => hk2 b o hbw hbS (keep _ _ hbS (Heap.get?_push_of_some _ (hk' b o hbw e)))) (.inr ?_) h2t
      rcases hf with ⟨rfl, _⟩ | f
      · exact Heap.lt_size hS'
      · exact f
end
section
variable {prog : Program} {w : World} {A : Around} {E : Value → Shared → Prop} {s : Shared}
theorem call_sum_cat {a b : Addr} {items z : Array Value} {ad : Nat → Addr} {its : Nat → Array Value} {nz : Nat} {Q : Value → Shared → Prop} (hh : A.handled = none) (ha : s.heap.IsList a items) (hb : IsL s.heap b z nz)
    (hv : ∀ (i : Nat) (v : Value), items[i]? = some v → v = .ref (ad i)) (had : ∀ j, j < items.size → ∃ m, IsL s.heap (ad j) (its j) m) (hsz : ∀ i, i ≤ items.size → (catN its z i).size ≤ sizeLine)
    (hQ : ∀ h' tk t n, (∀ b o, s.heap.get? b = some o → h'.get? b = some o) → ((t = b ∧ items.size = 0) ∨ s.heap.objs.size ≤ t) → IsL h' t (catN its z items.size) n → Q (.ref t) { s with heap := h', toks := tk }) :
    wpAny (model prog w) A (call (.builtin "sum") [.ref a, .ref b]) Q E s := by
  refine call_function_tree F.kind_sum F.plain_sum F.entry_sum (sum_args2 _ _) ?_
  unfold Builtin.«sum»
  simp only [List.length_cons, List.length_nil]
  rw [if_neg (by decide)]
  refine wpAny_bind (wpAny_of_eq (show Builtin.Builtins.bindParams "sum" ["start"] 0 ⟨[Value.ref b], []⟩ = pure [some (Value.ref b)] from rfl) ?_)
  have hlt : a < s.heap.objs.size := by obtain ⟨_, e, _⟩ := ha; exact Heap.lt_size e
  refine wpAny_bind (wpAny_pyIter_list ha ?_)
  refine wpAny_bind (wpAny_pure ?_)
  have hb1 : IsL (s.heap.push { cls := .type "list_iterator", data := .fields #[.ref a, .int 0 0] }) b z nz := Heap.get?_push_of_some _ hb
  have ty : Shared.TypeIs { s with heap := s.heap.push { cls := .type "list_iterator", data := .fields #[.ref a, .int 0 0] } } (.ref b) "list" := Heap.IsList.typeIs (⟨_, hb1, rfl, _, rfl⟩ : Heap.IsList _ b z)
  simp only [List.forIn_cons, List.forIn_nil]
  refine wpAny_bind (wpAny_bind (wpAny_bind (wpAny_isInstance (T := "list") (b := false) ty no_list_str ?_)))
  simp only [Bool.false_eq_true, if_false]
  refine wpAny_pure (wpAny_bind (wpAny_bind (wpAny_isInstance (T := "list") (b := false) ty no_list_bytes ?_)))
  simp only [Bool.false_eq_true, if_false]
  refine wpAny_pure (wpAny_bind (wpAny_bind (wpAny_isInstance (T := "list") (b := false) ty no_list_bytearray ?_)))
  simp only [Bool.false_eq_true, if_false]
  refine wpAny_pure (wpAny_pure ?_)
  refine wpAny_bind (wpAny_newObj_type ?_)
  generalize eh : s.heap.push { cls := .type "list_iterator", data := .fields #[.ref a, .int 0 0] } = h1 at *
  have sz : h1.objs.size = s.heap.objs.size + 1 := by rw [← eh, Heap.size_push]
  have up : ∀ c o, s.heap.get? c = some o → h1.get? c = some o := fun c o e => by rw [← eh]; exact Heap.get?_push_of_some _ e
  have it : h1.IsListIter s.heap.objs.size a 0 := by rw [← eh]; exact ⟨_, Heap.get?_push_size _ rfl, rfl, rfl⟩
  have up2 : ∀ c o, h1.get? c = some o → (h1.push { cls := .type "list", data := .seq #[Value.ref b] }).get? c = some o := fun c o e => Heap.get?_push_of_some _ e
  have la : ∀ c o, s.heap.get? c = some o → c ∉ [s.heap.objs.size] ∧ c ≠ h1.objs.size := fun c o e => by
    have := Heap.lt_size e
    exact ⟨fun hm => Nat.ne_of_lt this (List.mem_singleton.mp hm), by rw [sz]; exact Nat.ne_of_lt (Nat.lt_succ_of_lt this)⟩
  refine wpAny_pure ⟨plainId_quiet F.plain_sum_loop _, sum_cat_loop (Walks.list (A := A.in1) hh s.heap.objs.size a (Nat.ne_of_lt hlt) items) (ad := ad) (its := its) (z := z) (fun i v _ hp => hv i v hp) (fun i h st c hc => ?_) h1.objs.size (fun hm => ?_) hsz items.size 0 _ b _ _ (by omega) (Nat.zero_le _) ⟨?_, ?_⟩ (Heap.get?_push_size _ rfl) (up2 _ _ hb1) (la _ _ hb).1 (la _ _ hb).2 (fun j hj => ?_) fun h' tk t n hk hf ht => ?_⟩
  · simp at hc; subst hc; obtain ⟨o, e, _⟩ := st.1; exact ⟨o, e⟩
  · have hm : h1.objs.size = s.heap.objs.size ∨ h1.objs.size = a := by simpa using hm
    rcases hm with hm | hm
    · rw [sz] at hm; exact Nat.succ_ne_self _ hm
    · rw [← hm, sz] at hlt; exact Nat.not_succ_lt_self hlt
  · obtain ⟨o, e, r⟩ := it; exact ⟨o, up2 _ _ e, r⟩
  · obtain ⟨o, e, r⟩ := ha; exact ⟨o, up2 _ _ (up _ _ e), r⟩
  · obtain ⟨m, e⟩ := had j hj
    exact ⟨(la _ _ e).1, (la _ _ e).2, m, up2 _ _ (up _ _ e)⟩
  · refine hQ h' tk t n (fun c o e => hk c o (la c o e).1 (la c o e).2 (up2 _ _ (up _ _ e))) ?_ ht
    rcases hf with ⟨rfl, e⟩ | f
    · exact .inl ⟨rfl, e.symm⟩
    · exact .inr (by rw [sz] at f; exact Nat.le_of_lt (Nat.lt_of_succ_lt f))
end
/-! ### as a call -/
/-- the lists' parts, one list behind the other -/
def rSumL (_K : PySem.W.Frag) : List V → Hp → VK → Prop := fun vs H Q => ∃ (a b : Addr) (rs : List Addr) (yss : List (List V)) (zs : List V), vs = [.ref a, .ref b] ∧ H a = some (.lst (rs.map V.ref)) ∧ H b = some (.lst zs) ∧ Al (fun r ys => H r = some (.lst ys)) rs yss ∧ zs.length + (yss.map List.length).sum ≤ sizeLine ∧
  (rs = [] → Q (.ref b) H) ∧ ∀ p, H p = none → Q (.ref p) (upd H p (.lst (zs ++ yss.flatten)))
theorem catN_eq {uss : List (List Value)} {z : List Value} : ∀ i, i ≤ uss.length → catN (fun j => (uss.getD j []).toArray) z.toArray i = (z ++ (uss.take i).flatten).toArray
  | 0, _ => by simp [catN]
  | i + 1, h => by
    unfold catN
    rw [catN_eq i (Nat.le_of_succ_le h)]
    have e : (uss.take (i + 1)).flatten = (uss.take i).flatten ++ uss[i] := by
      rw [List.take_succ, List.getElem?_eq_getElem (show i < uss.length by omega)]
      simp only [Option.toList, List.flatten_append, List.flatten_cons, List.flatten_nil, List.append_nil]
    simp [List.getD_eq_getElem?_getD, List.getElem?_eq_getElem (show i < uss.length by omega), e]
theorem flat_len {α : Type} : ∀ (l : List (List α)) (i : Nat), (l.take i).flatten.length ≤ (l.map List.length).sum
  | [], i => by simp
  | x :: r, 0 => by simp
  | x :: r, i + 1 => by
    have := flat_len r i
    simp only [List.take_succ_cons, List.flatten_cons, List.length_append, List.map_cons, List.sum_cons]
    omega
section
variable {X : Cx} {pins : List (Addr × Obj)} {σ : L2.St} {H : Hp} {s : Shared}
theorem lists_at (I : Inv X pins σ H s) : ∀ {rs : List Addr} {yss : List (List V)}, Al (fun r ys => H r = some (.lst ys)) rs yss → ∃ uss : List (List Value), uss.length = rs.length ∧ Vals yss.flatten uss.flatten ∧ uss.map List.length = yss.map List.length ∧ ∀ (j : Nat) (r : Addr), rs[j]? = some r → ∃ (us : List Value) (m : Nat), uss[j]? = some us ∧ IsL s.heap r us.toArray m
  | _, _, .nil => ⟨[], rfl, .nil, rfl, fun j r h => by simp at h⟩
  | _, _, .cons h t => by
    obtain ⟨uss, h1, h2, h3, h4⟩ := lists_at I t
    obtain ⟨_, its, n, rv, hl, e⟩ := I.lstM h
    refine ⟨its :: uss, by simp [h1], by simpa using rv.append h2, by simp [h3, hl], fun j r hj => ?_⟩
    cases j with
    | zero => simp at hj; subst hj; exact ⟨its, n, rfl, e⟩
    | succ j => exact h4 j r (by simpa using hj)
theorem vals_refs : ∀ {rs : List Addr} {us : List Value}, Vals (rs.map V.ref) us → us = rs.map Value.ref
  | [], _, .nil => rfl
  | r :: rs, _, .cons h t => by rw [vals_refs t]; cases h; rfl
theorem cr_sumL (hc : X.calm = true) : CallR X (.builtin "sum") (rSumL X.K) := by
  intro pins s σ H vs us Q I r h
  obtain ⟨a, b, rs, yss, zs, rfl, ha, hb, al, hz, q0, q1⟩ := h
  have eus : us = [Value.ref a, Value.ref b] := vals_refs (rs := [a, b]) r
  subst eus
  obtain ⟨_, its, n, rv, hl, e⟩ := I.lstM ha
  have eits := vals_refs rv
  subst eits
  obtain ⟨_, zits, nz, rz, hzl, ez⟩ := I.lstM hb
  obtain ⟨uss, h1, h2, h3, h4⟩ := lists_at I al
  have hlen : ∀ i, (zits ++ (uss.take i).flatten).length ≤ sizeLine := fun i => by
    have := flat_len uss i
    rw [h3] at this
    rw [List.length_append, ← hzl]
    omega
  have hn : (rs.map Value.ref).toArray.size = uss.length := by simp [h1]
  refine call_sum_cat (ad := fun j => rs.getD j 0) (its := fun j => (uss.getD j []).toArray) (I.ok.hd hc) ⟨_, e, rfl, _, rfl⟩ ez (fun i v hv => ?_) (fun j hj => ?_) (fun i hi => ?_) fun h' tk t m hk hf ht => ?_
  · have hv : rs[i]?.map Value.ref = some v := by simpa using hv
    cases q : rs[i]? with
    | none => rw [q] at hv; cases hv
    | some x => rw [q] at hv; cases hv; rw [List.getD_eq_getElem?_getD, q]; rfl
  · have hj : j < rs.length := by simpa using hj
    obtain ⟨us, m, e1, e2⟩ := h4 j _ (List.getElem?_eq_getElem hj)
    refine ⟨m, ?_⟩
    have d1 : rs.getD j 0 = rs[j] := by rw [List.getD_eq_getElem?_getD, List.getElem?_eq_getElem hj]; rfl
    have d2 : uss.getD j [] = us := by rw [List.getD_eq_getElem?_getD, e1]; rfl
    show IsL _ (rs.getD j 0) (uss.getD j []).toArray m
    rw [d1, d2]; exact e2
  · rw [catN_eq i (by rw [← hn]; exact hi), List.size_toArray]; exact hlen i
  · rw [hn, catN_eq _ (Nat.le_refl _), List.take_length] at ht
    rcases hf with ⟨rfl, z⟩ | f
    · have z : rs = [] := by simpa using z
      exact ⟨.ref t, H, I.kept hk, rfl, q0 z⟩
    · refine ⟨.ref t, _, I.laid (o := .lst (zs ++ yss.flatten)) hk f ⟨?_, _, m, rz.append h2, ht⟩, rfl, q1 t (I.hok.fresh f)⟩
      have := flat_len yss yss.length
      rw [List.take_length] at this
      rw [List.length_append]
      omega
end
/-! ### the rule -/
def lstD? : D → Option (List D)
  | .lst ds => some ds
  | _ => none
def lstsD : List D → Option (List (List D))
  | [] => some []
  | d :: r => match lstD? d, lstsD r with
    | some x, some xs => some (x :: xs)
    | _, _ => none
def bSumL (vs : List Vl) (S : Store) : Res Vl := match vs with
  | [.d (.lst ds), .d (.lst zs)] => match lstsD ds with
    | some yss => if zs.length + (yss.map List.length).sum ≤ 16777216 then .ok (.d (.lst (zs ++ yss.flatten))) S else .stuck
    | none => .stuck
  | _ => .stuck
theorem bSumL_nx (a : List Vl) (S : Store) : noX (bSumL a S) := by unfold bSumL; (repeat' split) <;> first | trivial | (simp only [noX])
theorem lstsD_ok {G : GI} {M H : Hp} (s : Sub M H) : ∀ {ds : List D} {yss : List (List D)} {us : List V}, lstsD ds = some yss → RDs G M ds us → ∃ (rs : List Addr) (vss : List (List V)), us = rs.map V.ref ∧ Al (fun r ys => H r = some (.lst ys)) rs vss ∧ RDs G M yss.flatten vss.flatten ∧ vss.map List.length = yss.map List.length
  | [], _, _, h, .nil => by cases h; exact ⟨[], [], rfl, .nil, .nil, rfl⟩
  | d :: ds, yss, _, h, .cons r rs => by
    unfold lstsD at h
    cases d with
    | lst xs =>
      cases q : lstsD ds with
      | none => rw [q] at h; cases h
      | some y2 =>
        rw [q] at h
        cases h
        obtain ⟨as, vss, e1, e2, e3, e4⟩ := lstsD_ok s q rs
        cases r with | @lst a vs _ m rr => exact ⟨a :: as, vs :: vss, by rw [e1]; rfl, .cons (s _ _ m) e2, by simpa using rr.app e3, by simp [e4, rr.length]⟩
    | _ => cases h
section
variable {X : Cx} {G : GI}
theorem bSumL_s (hK : X.K = G.K) : CallS G (rSumL X.K) bSumL := fun w S H xs vs Q hR rx h => by
  unfold bSumL at h
  split at h
  · rename_i ds zs
    split at h
    · rename_i yss e
      split at h
      · rename_i hz
        cases rx with | cons r1 rx => cases rx with | cons r2 rx => cases rx with | nil =>
        cases r1 with | d r1 => cases r1 with | @lst a us _ m1 r1 =>
        cases r2 with | d r2 => cases r2 with | @lst b ws _ m2 r2 =>
        obtain ⟨rs, vss, rfl, e2, e3, e4⟩ := lstsD_ok hR.sub e r1
        refine ⟨a, b, rs, vss, ws, rfl, hR.sub _ _ m1, hR.sub _ _ m2, e2, by rw [e4, ← r2.length, szl]; exact hz, fun z => ?_, fun p hp => fix_lst hR hp (r2.app e3) h⟩
        subst z
        have ed : ds = [] := by
          have := r1.length
          exact List.length_eq_zero_iff.mp this
        subst ed
        cases e
        exact h w H _ (Go.refl _ _) hR (.d (.lst m2 (by simpa using r2)))
      · exact h.elim
    · exact h.elim
  · exact h.elim
theorem bt_sumL (hK : X.K = G.K) (hc : X.calm = true) : Bt X G "sum" bSumL := fun W e es pos p f hg hm ha he hpl => me_callB (cr_sumL hc) (bSumL_s hK) bSumL_nx hm (by decide +kernel) hg ha (by decide) (by decide) he hpl
end
end MP

set_option maxHeartbeats 4000000
/-! printed by gen.py: the defs of easykinds_k02_tables_put_together -/
namespace K02
open PySem PySem.Spec PyProof.Rows L2 MP
noncomputable section

def b__law_next : Stm :=
    (seqS (setI (bin oAdd (bin oIx (var 0) (cst (.int 1))) (cst (.int 1))) (var 0) (cst (.int 1)))
      (seqS (asg 1 (bin oIx (var 0) (cst (.int 1))))
      (seqS (wipS [2] (ifS (asB (bin oIx (var 0) (cst (.int 2))))
      (seqS (wipS [1] (asg 2 (bin oMod (bin oIx (var 0) (cst (.int 0))) (bin oPow (cst (.int 10)) (cst (.int 6))))))
      (seqS (wipS [0] (setI (bin oDiv (bin oIx (var 0) (cst (.int 0))) (bin oPow (cst (.int 10)) (cst (.int 6)))) (var 0) (cst (.int 0))))
      (ret (var 2)))) nextS))
      (seqS (wipS [0, 1] (asg 2 (bin oMod (bin oMul (bin oAdd (bin oAdd (bin oMod (bin oIx (var 0) (cst (.int 0))) (cst (.int 1000003))) (bin oMul (bin oMul (var 1) (var 1)) (cst (.int 7919)))) (var 1)) (cst (.int 48271))) (cst (.int 2147483629)))))
      (seqS (asg 2 (bin oMod (bin oMul (var 2) (var 2)) (cst (.int 2147483587))))
      (ret (bin oDiv (bin oMod (bin oMul (var 2) (bin oAdd (var 2) (cst (.int 2)))) (cst (.int 2147483579))) (cst (.int 7)))))))))
def F__law_next : Fn := fnF 1 3 .frz b__law_next
def b__law_rows_of : Stm :=
    (seqS (asg 1 (frz (lstE (consA (tupE nilA) nilA))))
      (seqS (wipS [0] (forS (tgN 2) (rngI1 (consA (var 0) nilA))
      (wipS [2, 3, 4] (seqS (wipS [2] (asg 3 (frz (lstE nilA))))
      (seqS (wipS [1] (forS (tgN 4) (seqI (var 1))
      (wipS [4] (wipS [4] (asg 3 (bin oAdd (var 3) (frz (lstE (consA (bin oAdd (var 4) (tupE (consA (cst (.int 0)) nilA))) (consA (bin oAdd (var 4) (tupE (consA (cst (.int 1)) nilA))) nilA))))))))))
      (wipS [3] (asg 1 (var 3))))))))
      (ret (var 1))))
def F__law_rows_of : Fn := fnF 1 5 .frz b__law_rows_of
def b__law_done : Stm :=
    (ret (cal bTuple (consA (frz (lcL (tgT 3 (tgCons (tgN 4) (tgCons (tgN 5) (tgCons (tgN 6) tgNil)))) (zipI3 (consA (var 1) (consA (var 2) (consA (var 3) nilA)))) yesT (bin oIx (var 0) (bin oAdd (bin oAdd (bin oMul (cst (.int 4)) (var 4)) (bin oMul (cst (.int 2)) (var 5))) (var 6))) [4, 5, 6])) nilA)))
def F__law_done : Fn := fnF 4 7 .frz b__law_done
def b__law_closed__m : Stm :=
    (seqS (wipS [1] (asg 2 (new (calL bList (consA (var 1) nilA)))))
      (seqS (asg 3 (cst (.bl true)))
      (seqS (wipS [0, 3] (whileS 100 (asB (var 3))
      (wipS [4, 5, 6, 7] (seqS (asg 3 (cst (.bl false)))
      (forS (tgN 4) (seqI (frz (calL bList (consA (var 2) nilA))))
      (wipS [4, 5, 6, 7] (wipS [4] (forS (tgN 5) (seqI (frz (calL bList (consA (var 2) nilA))))
      (wipS [5, 6, 7] (wipS [5] (forS (tgN 6) (seqI (frz (calL bList (consA (var 2) nilA))))
      (wipS [6, 7] (seqS (wipS [6] (asg 7 (callE F__law_done (consA (var 0) (consA (var 4) (consA (var 5) (consA (var 6) nilA)))))))
      (wipS [7] (ifS (asB (bin (oIn true) (var 7) (var 2)))
      (seqS (wipS [3, 7] (drop (mutE gAppend (var 2) (consA (var 7) nilA))))
      (asg 3 (cst (.bl true)))) nextS)))))))))))))))
      (ret (new (calL bSorted (consA (var 2) nilA)))))))
def F__law_closed__m : Fn := fnF 2 8 .mut b__law_closed__m
def b__law_deed : Stm :=
    (seqS (asg 1 (frz (lstE (consA (tupE (consA (cst (.int 0)) (consA (cst (.int 0)) (consA (cst (.int 0)) (consA (cst (.int 0)) (consA (cst (.int 0)) (consA (cst (.int 0)) (consA (cst (.int 1)) (consA (cst (.int 1)) nilA))))))))) (consA (tupE (consA (cst (.int 0)) (consA (cst (.int 0)) (consA (cst (.int 1)) (consA (cst (.int 1)) (consA (cst (.int 1)) (consA (cst (.int 1)) (consA (cst (.int 1)) (consA (cst (.int 1)) nilA))))))))) (consA (tupE (consA (cst (.int 0)) (consA (cst (.int 0)) (consA (cst (.int 0)) (consA (cst (.int 1)) (consA (cst (.int 0)) (consA (cst (.int 1)) (consA (cst (.int 1)) (consA (cst (.int 1)) nilA))))))))) (consA (tupE (consA (cst (.int 0)) (consA (cst (.int 1)) (consA (cst (.int 1)) (consA (cst (.int 0)) (consA (cst (.int 1)) (consA (cst (.int 0)) (consA (cst (.int 0)) (consA (cst (.int 1)) nilA))))))))) nilA)))))))
      (ret (bin oIx (var 1) (metQ oIndexQ (frz (lstE (consA (cst (.str "both")) (consA (cst (.str "either")) (consA (cst (.str "middle")) (consA (cst (.str "odd")) nilA)))))) (consA (var 0) nilA)))))
def F__law_deed : Fn := fnF 1 2 .frz b__law_deed
def b__law_table : Stm :=
    (seqS (wipS [2] (asg 3 (bin oAdd (cst (.int 1)) (bin oMod (callE F__law_next (consA (var 0) nilA)) (var 2)))))
      (seqS (asg 4 (new (lstE nilA)))
      (seqS (asg 5 (callE F__law_next (consA (var 0) nilA)))
      (seqS (wipS [0] (forS (tgN 6) (seqI (callE F__law_rows_of (consA (var 3) nilA)))
      (wipS [6] (wipS [6] (ifS (asB (bin (oEq false) (bin oMod (callE F__law_next (consA (var 0) nilA)) (bin oIx (frz (lstE (consA (cst (.int 2)) (consA (cst (.int 3)) (consA (cst (.int 4)) (consA (cst (.int 8)) nilA)))))) (bin oMod (var 5) (cst (.int 4))))) (cst (.int 1))))
      (wipS [6] (drop (mutE gAppend (var 4) (consA (var 6) nilA)))) nextS)))))
      (seqS (wipS [5] (ifS (andT (asB (bin (oEq false) (var 4) (frz (lstE nilA)))) (asB (bin oGt (bin oMod (bin oDiv (var 5) (cst (.int 4))) (cst (.int 4))) (cst (.int 0)))))
      (wipS [5] (asg 4 (new (lstE (consA (bin oIx (callE F__law_rows_of (consA (var 3) nilA)) (bin oMod (bin oDiv (var 5) (cst (.int 16))) (cal bLen (consA (callE F__law_rows_of (consA (var 3) nilA)) nilA)))) nilA))))) nextS))
      (seqS (wipS [1] (ifS (asB (bin (oEq true) (var 1) (cst (.str "any"))))
      (wipS [1] (asg 4 (callE F__law_closed__m (consA (callE F__law_deed (consA (var 1) nilA)) (consA (var 4) nilA))))) nextS))
      (ret (tupE (consA (var 3) (consA (var 4) nilA))))))))))
def F__law_table : Fn := fnF 3 7 .frz b__law_table
def b__law_same_width : Stm :=
    (seqS (asg 2 (new (lstE nilA)))
      (seqS (wipS [0] (forS (tgN 3) (seqI (callE F__law_rows_of (consA (var 1) nilA)))
      (wipS [3] (wipS [3] (ifS (asB (bin oGt (bin oMod (callE F__law_next (consA (var 0) nilA)) (cst (.int 3))) (cst (.int 0))))
      (wipS [3] (drop (mutE gAppend (var 2) (consA (var 3) nilA)))) nextS)))))
      (ret (tupE (consA (var 1) (consA (var 2) nilA))))))
def F__law_same_width : Fn := fnF 2 4 .frz b__law_same_width
def b__law_narrow : Stm :=
    (seqS (wipS [1] (asg 2 (cal bMin2 (consA (bin oIx (var 0) (cst (.int 0))) (consA (var 1) nilA)))))
      (ret (tupE (consA (var 2) (consA (frz (ssetTL (frz (lcL (tgN 3) (seqI (bin oIx (var 0) (cst (.int 1)))) yesT (slE (var 3) paN (paI (var 2))) [3])))) nilA)))))
def F__law_narrow : Fn := fnF 2 4 .frz b__law_narrow
def b_alike__a : Stm :=
    (ret (tupE (consA (bin oIx (var 0) (cst (.int 0))) (consA (new (lcL (tgN 3) (seqI (bin oIx (var 0) (cst (.int 1)))) (asB (bin (oEq false) (bin oIx (var 3) (var 1)) (bin oIx (var 3) (var 2)))) (var 3) [3])) nilA))))
def F_alike__a : Fn := fnF 3 4 .all b_alike__a
def b_beside__a : Stm :=
    (seqS (asg 2 (new (lstE nilA)))
      (seqS (forS (tgN 3) (seqI (bin oIx (var 0) (cst (.int 1))))
      (wipS [3] (wipS [3] (drop (mutE gExtend (var 2) (consA (frz (lcL (tgN 4) (seqI (bin oIx (var 1) (cst (.int 1)))) yesT (bin oAdd (var 3) (var 4)) [4])) nilA))))))
      (ret (tupE (consA (bin oAdd (bin oIx (var 0) (cst (.int 0))) (bin oIx (var 1) (cst (.int 0)))) (consA (var 2) nilA))))))
def F_beside__a : Fn := fnF 2 5 .all b_beside__a
def b_common__a : Stm :=
    (ret (tupE (consA (bin oIx (var 0) (cst (.int 0))) (consA (new (lcL (tgN 2) (seqI (bin oIx (var 0) (cst (.int 1)))) (asB (bin (oIn false) (var 2) (bin oIx (var 1) (cst (.int 1))))) (var 2) [2])) nilA))))
def F_common__a : Fn := fnF 2 3 .all b_common__a
def b_having__a : Stm :=
    (ret (tupE (consA (bin oIx (var 0) (cst (.int 0))) (consA (new (lcL (tgN 3) (seqI (bin oIx (var 0) (cst (.int 1)))) (asB (bin (oEq false) (bin oIx (var 3) (var 1)) (var 2))) (var 3) [3])) nilA))))
def F_having__a : Fn := fnF 3 4 .all b_having__a
def b_taken__a : Stm :=
    (seqS (wipS [0] (asg 2 (frz (lcL (tgN 3) (seqI (bin oIx (var 0) (cst (.int 1)))) yesT (cal bTuple (consA (frz (lcL (tgN 4) (seqI (var 1)) yesT (bin oIx (var 3) (var 4)) [4])) nilA)) [3]))))
      (ret (tupE (consA (cal bLen (consA (var 1) nilA)) (consA (new (ssetTL (var 2))) nilA)))))
def F_taken__a : Fn := fnF 2 5 .all b_taken__a
def b__law_told (Fa : Fn) : Stm :=
    (seqS (asg 3 (cal bStrD (consA (var 2) nilA)))
      (seqS (wipS [0, 1, 2, 3] (forS (tgN 4) (rngI1 (consA (cst (.int 2)) nilA))
      (regS [4, 5, 6] (seqS (wipS [4] (asg 5 (callA 0 Fa (consA (var 2) nilA))))
      (seqS (ifS (scopeT (orT (notT (asB (una (isD "tuple") (var 5)))) (orT (asB (bin (oEq true) (var 5) (var 1))) (orT (notT (asB (una (isD "list") (bin oIx (var 5) (cst (.int 1)))))) (asB (bin (oEq true) (cal bStrD (consA (var 2) nilA)) (var 3)))))))
      (ret (cst (.bl false))) nextS)
      (seqS (asg 6 (cal bSumL (consA (frz (lcC (tgN 7) (bin oIx (var 5) (cst (.int 1))) yesT (frz (calL bList (consA (var 7) nilA))) [7])) (consA (frz (lstE (consA (bin oIx (var 5) (cst (.int 0))) nilA))) nilA))))
      (seqS (wipS [6] (ifS (asB (bin (oEq true) (frz (lcL (tgN 8) (seqI (var 6)) (asB (una (isD "bool") (var 8))) (var 8) [8])) (frz (lstE nilA))))
      (ret (cst (.bl false))) nextS))
      (wipS [5] (drop (mutE gAppend (bin oIx (var 5) (cst (.int 1))) (consA (cst .non) nilA)))))))))))
      (ret (cst (.bl true)))))
def F__law_told (Fa : Fn) : Fn := fnF 3 9 .frz (b__law_told Fa)
def b__law_right : Stm :=
    (seqS (asg 1 (bin oIx (frz (lstE (consA (cst (.str "both")) (consA (cst (.str "either")) (consA (cst (.str "middle")) (consA (cst (.str "odd")) (consA (cst (.str "any")) nilA))))))) (bin oMod (callE F__law_next (consA (var 0) nilA)) (cst (.int 5)))))
      (seqS (wipS [1] (asg 2 (callE F__law_table (consA (var 0) (consA (var 1) (consA (cst (.int 4)) nilA))))))
      (seqS (asgT (tgT 2 (tgCons (tgN 3) (tgCons (tgN 4) tgNil))) (var 2))
      (seqS (asg 5 (callE F__law_same_width (consA (var 0) (consA (var 3) nilA))))
      (seqS (asg 6 (tupE (consA (var 3) (consA (frz (lcL (tgN 10) (seqI (var 4)) (asB (bin (oIn false) (var 10) (bin oIx (var 5) (cst (.int 1))))) (var 10) [10])) nilA))))
      (seqS (wipS [5, 6] (ifS (notT (asB (askL F__law_told (callE F_common__a (consA (bin oIx (var 20) (cst (.int 0))) (consA (bin oIx (var 20) (cst (.int 1))) nilA))) (consA (var 6) (consA (frz (lstE (consA (var 2) (consA (var 5) nilA)))) nilA)))))
      (ret (cst (.bl false))) nextS))
      (seqS (asg 7 (callE F__law_narrow (consA (var 2) (consA (cst (.int 3)) nilA))))
      (seqS (asg 8 (callE F__law_narrow (consA (callE F__law_table (consA (var 0) (consA (cst (.str "any")) (consA (cst (.int 3)) nilA)))) (consA (bin oSub (cst (.int 4)) (bin oIx (var 7) (cst (.int 0)))) nilA))))
      (seqS (asg 9 (frz (lstE nilA)))
      (seqS (forS (tgN 10) (seqI (bin oIx (var 7) (cst (.int 1))))
      (wipS [10] (wipS [10] (asg 9 (bin oAdd (var 9) (frz (lcL (tgN 17) (seqI (bin oIx (var 8) (cst (.int 1)))) yesT (bin oAdd (var 10) (var 17)) [17])))))))
      (seqS (wipS [9] (asg 6 (tupE (consA (bin oAdd (bin oIx (var 7) (cst (.int 0))) (bin oIx (var 8) (cst (.int 0)))) (consA (var 9) nilA)))))
      (seqS (wipS [6, 7, 8] (ifS (notT (asB (askL F__law_told (callE F_beside__a (consA (bin oIx (var 20) (cst (.int 0))) (consA (bin oIx (var 20) (cst (.int 1))) nilA))) (consA (var 6) (consA (frz (lstE (consA (var 7) (consA (var 8) nilA)))) nilA)))))
      (ret (cst (.bl false))) nextS))
      (seqS (asgT (tgT 2 (tgCons (tgN 11) (tgCons (tgN 12) tgNil))) (tupE (consA (bin oMod (callE F__law_next (consA (var 0) nilA)) (var 3)) (consA (bin oMod (callE F__law_next (consA (var 0) nilA)) (var 3)) nilA))))
      (seqS (asg 13 (bin oMod (callE F__law_next (consA (var 0) nilA)) (cst (.int 2))))
      (seqS (asg 6 (tupE (consA (var 3) (consA (frz (lcL (tgN 10) (seqI (var 4)) (asB (bin (oEq false) (bin oIx (var 10) (var 11)) (bin oIx (var 10) (var 12)))) (var 10) [10])) nilA))))
      (seqS (wipS [6, 12] (ifS (notT (asB (askL F__law_told (callE F_alike__a (consA (bin oIx (var 20) (cst (.int 0))) (consA (var 11) (consA (var 12) nilA)))) (consA (var 6) (consA (frz (lstE (consA (var 2) nilA))) nilA)))))
      (ret (cst (.bl false))) nextS))
      (seqS (asg 6 (tupE (consA (var 3) (consA (frz (lcL (tgN 10) (seqI (var 4)) (asB (bin (oEq false) (bin oIx (var 10) (var 11)) (var 13))) (var 10) [10])) nilA))))
      (seqS (wipS [6, 11, 13] (ifS (notT (asB (askL F__law_told (callE F_having__a (consA (bin oIx (var 20) (cst (.int 0))) (consA (var 11) (consA (var 13) nilA)))) (consA (var 6) (consA (frz (lstE (consA (var 2) nilA))) nilA)))))
      (ret (cst (.bl false))) nextS))
      (seqS (wipS [0, 3] (asg 14 (frz (lcL (tgN 16) (rngI1 (consA (bin oAdd (cst (.int 1)) (bin oMod (callE F__law_next (consA (var 0) nilA)) (cst (.int 4)))) nilA)) yesT (bin oMod (callE F__law_next (consA (var 0) nilA)) (var 3)) [16]))))
      (seqS (asg 15 (new (lstE nilA)))
      (seqS (fzS [4] (forS (tgN 10) (seqI (callE F__law_rows_of (consA (cal bLen (consA (var 14) nilA)) nilA)))
      (wipS [10] (wipS [10] (ifS (asB (bin (oEq true) (frz (lcL (tgN 18) (seqI (var 4)) (asB (bin (oEq false) (cal bTuple (consA (frz (lcL (tgN 19) (seqI (var 14)) yesT (bin oIx (var 18) (var 19)) [19])) nilA)) (var 10))) (var 18) [18])) (frz (lstE nilA))))
      (wipS [10] (drop (mutE gAppend (var 15) (consA (var 10) nilA)))) nextS)))))
      (ret (askL F__law_told (callE F_taken__a (consA (bin oIx (var 20) (cst (.int 0))) (consA (bin oIx (var 20) (cst (.int 1))) nilA))) (consA (tupE (consA (cal bLen (consA (var 14) nilA)) (consA (var 15) nilA))) (consA (frz (lstE (consA (var 2) (consA (var 14) nilA)))) nilA)))))))))))))))))))))))))
def F__law_right : Fn := fnF 1 20 .frz b__law_right
def b__law_draws__m : Stm :=
    (seqS (ifS (asB (bin oLt (var 0) (bin oPow (cst (.int 10)) (cst (.int 18)))))
      (ret (new (lstE (consA (var 0) (consA (cst (.int 0)) (consA (cst (.bl false)) nilA)))))) nextS)
      (ret (new (lstE (consA (bin oMod (var 0) (bin oPow (bin oPow (bin oPow (cst (.int 10)) (cst (.int 60))) (cst (.int 50))) (cst (.int 3)))) (consA (cst (.int 0)) (consA (cst (.bl true)) nilA)))))))
def F__law_draws__m : Fn := fnF 1 1 .mut b__law_draws__m
def b_law : Stm :=
    (seqS (wipS [0] (forS (tgN 1) (seqI (bin oAdd (slE (var 0) paN (paI (cst (.int 10)))) (frz (lstE (consA (cst (.int 0)) nilA)))))
      (regS [1] (wipS [1] (ifS (notT (asB (callE F__law_right (consA (callE F__law_draws__m (consA (var 1) nilA)) nilA))))
      (ret (cst (.bl false))) nextS)))))
      (ret (cst (.bl true))))
def F_law : Fn := fnF 1 2 .frz b_law
def topS (i : Nat) : Stmt := PySem.Challenge.pw_easykinds_k02_tables_put_together.main.body.getD i (.Pass ⟨0, 0, 0, 0⟩)
abbrev s__law_next : Stmt := topS 8
abbrev s__law_rows_of : Stmt := topS 9
abbrev s__law_done : Stmt := topS 11
abbrev s__law_closed : Stmt := topS 12
abbrev s__law_deed : Stmt := topS 10
abbrev s__law_table : Stmt := topS 13
abbrev s__law_same_width : Stmt := topS 14
abbrev s__law_narrow : Stmt := topS 15
abbrev s_alike : Stmt := topS 3
abbrev s_beside : Stmt := topS 2
abbrev s_common : Stmt := topS 1
abbrev s_having : Stmt := topS 4
abbrev s_taken : Stmt := topS 5
abbrev s__law_told : Stmt := topS 16
abbrev s__law_right : Stmt := topS 17
abbrev s__law_draws : Stmt := topS 7
abbrev s_law : Stmt := topS 18
theorem sc__law_next : FnScope ["_law_draws_here", "_law_k", "_law_number"] ["_law_draws_here"] (defScope s__law_next) := ⟨rfl, rfl, rfl, by decide +kernel, rfl, by decide +kernel, by decide +kernel⟩
theorem sc__law_rows_of : FnScope ["_law_width", "_law_rows", "_law_place", "_law_longer", "_law_row"] ["_law_width"] (defScope s__law_rows_of) := ⟨rfl, rfl, rfl, by decide +kernel, rfl, by decide +kernel, by decide +kernel⟩
theorem sc__law_done : FnScope ["_law_deed_here", "_law_one", "_law_other", "_law_third", "_law_a", "_law_b", "_law_c"] ["_law_deed_here", "_law_one", "_law_other", "_law_third"] (defScope s__law_done) := ⟨rfl, rfl, rfl, by decide +kernel, rfl, by decide +kernel, by decide +kernel⟩
theorem sc__law_closed : FnScope ["_law_deed_here", "_law_rows", "_law_kept", "_law_grown", "_law_one", "_law_other", "_law_third", "_law_row"] ["_law_deed_here", "_law_rows"] (defScope s__law_closed) := ⟨rfl, rfl, rfl, by decide +kernel, rfl, by decide +kernel, by decide +kernel⟩
theorem sc__law_deed : FnScope ["_law_word", "_law_some"] ["_law_word"] (defScope s__law_deed) := ⟨rfl, rfl, rfl, by decide +kernel, rfl, by decide +kernel, by decide +kernel⟩
theorem sc__law_table : FnScope ["_law_draws_here", "_law_word", "_law_widest", "_law_width", "_law_rows", "_law_number", "_law_row"] ["_law_draws_here", "_law_word", "_law_widest"] (defScope s__law_table) := ⟨rfl, rfl, rfl, by decide +kernel, rfl, by decide +kernel, by decide +kernel⟩
theorem sc__law_same_width : FnScope ["_law_draws_here", "_law_width", "_law_rows", "_law_row"] ["_law_draws_here", "_law_width"] (defScope s__law_same_width) := ⟨rfl, rfl, rfl, by decide +kernel, rfl, by decide +kernel, by decide +kernel⟩
theorem sc__law_narrow : FnScope ["_law_table_here", "_law_widest", "_law_width", "_law_row"] ["_law_table_here", "_law_widest"] (defScope s__law_narrow) := ⟨rfl, rfl, rfl, by decide +kernel, rfl, by decide +kernel, by decide +kernel⟩
theorem sc_alike : FnScope ["table", "i", "j", "row"] ["table", "i", "j"] (defScope s_alike) := ⟨rfl, rfl, rfl, by decide +kernel, rfl, by decide +kernel, by decide +kernel⟩
theorem sc_beside : FnScope ["one", "other", "found", "row", "more"] ["one", "other"] (defScope s_beside) := ⟨rfl, rfl, rfl, by decide +kernel, rfl, by decide +kernel, by decide +kernel⟩
theorem sc_common : FnScope ["one", "other", "row"] ["one", "other"] (defScope s_common) := ⟨rfl, rfl, rfl, by decide +kernel, rfl, by decide +kernel, by decide +kernel⟩
theorem sc_having : FnScope ["table", "i", "value", "row"] ["table", "i", "value"] (defScope s_having) := ⟨rfl, rfl, rfl, by decide +kernel, rfl, by decide +kernel, by decide +kernel⟩
theorem sc_taken : FnScope ["table", "places", "found", "row", "place"] ["table", "places"] (defScope s_taken) := ⟨rfl, rfl, rfl, by decide +kernel, rfl, by decide +kernel, by decide +kernel⟩
theorem sc__law_told : FnScope ["_law_ask", "_law_due", "_law_things", "_law_kept", "_law_again", "_law_told_here", "_law_values", "_law_row", "_law_value"] ["_law_ask", "_law_due", "_law_things"] (defScope s__law_told) := ⟨rfl, rfl, rfl, by decide +kernel, rfl, by decide +kernel, by decide +kernel⟩
theorem sc__law_right : FnScope ["_law_draws_here", "_law_word", "_law_table_here", "_law_width", "_law_rows", "_law_other", "_law_due", "_law_one", "_law_more", "_law_both", "_law_row", "_law_i", "_law_j", "_law_value", "_law_places", "_law_made", "_law_k", "_law_rest", "_law_old", "_law_place"] ["_law_draws_here"] (defScope s__law_right) := ⟨rfl, rfl, rfl, by decide +kernel, rfl, by decide +kernel, by decide +kernel⟩
theorem sc__law_draws : FnScope ["_law_cell"] ["_law_cell"] (defScope s__law_draws) := ⟨rfl, rfl, rfl, by decide +kernel, rfl, by decide +kernel, by decide +kernel⟩
theorem sc_law : FnScope ["_law_script", "_law_cell"] ["_law_script"] (defScope s_law) := ⟨rfl, rfl, rfl, by decide +kernel, rfl, by decide +kernel, by decide +kernel⟩
structure Cf (w : World) (K : PySem.W.Frag) (mg : Str → Option Value) (G : GI) : Prop where
  hK : K = G.K
  h__law_next : Has K mg "_law_next" s__law_next ["_law_draws_here"]
  h__law_rows_of : Has K mg "_law_rows_of" s__law_rows_of ["_law_width"]
  h__law_done : Has K mg "_law_done" s__law_done ["_law_deed_here", "_law_one", "_law_other", "_law_third"]
  h__law_closed : Has K mg "_law_closed" s__law_closed ["_law_deed_here", "_law_rows"]
  h__law_deed : Has K mg "_law_deed" s__law_deed ["_law_word"]
  h__law_table : Has K mg "_law_table" s__law_table ["_law_draws_here", "_law_word", "_law_widest"]
  h__law_same_width : Has K mg "_law_same_width" s__law_same_width ["_law_draws_here", "_law_width"]
  h__law_narrow : Has K mg "_law_narrow" s__law_narrow ["_law_table_here", "_law_widest"]
  h_alike : Has K mg "alike" s_alike ["table", "i", "j"]
  h_beside : Has K mg "beside" s_beside ["one", "other"]
  h_common : Has K mg "common" s_common ["one", "other"]
  h_having : Has K mg "having" s_having ["table", "i", "value"]
  h_taken : Has K mg "taken" s_taken ["table", "places"]
  h__law_told : Has K mg "_law_told" s__law_told ["_law_ask", "_law_due", "_law_things"]
  h__law_right : Has K mg "_law_right" s__law_right ["_law_draws_here"]
  h__law_draws : Has K mg "_law_draws" s__law_draws ["_law_cell"]
  h_law : Has K mg "law" s_law ["_law_script"]
  z_bool : mg "bool" = none
  z_isinstance : mg "isinstance" = none
  z_len : mg "len" = none
  z_list : mg "list" = none
  z_min : mg "min" = none
  z_range : mg "range" = none
  z_set : mg "set" = none
  z_sorted : mg "sorted" = none
  z_str : mg "str" = none
  z_sum : mg "sum" = none
  z_tuple : mg "tuple" = none
  z_zip : mg "zip" = none
theorem cf_to {w : World} {K : PySem.W.Frag} {mg : Str → Option Value} {G G2 : GI} (c : Cf w K mg G) (e1 : G2.K = G.K) (e2 : G2.cls = G.cls) : Cf w K mg G2 := ⟨c.hK.trans e1.symm, c.h__law_next, c.h__law_rows_of, c.h__law_done, c.h__law_closed, c.h__law_deed, c.h__law_table, c.h__law_same_width, c.h__law_narrow, c.h_alike, c.h_beside, c.h_common, c.h_having, c.h_taken, c.h__law_told, c.h__law_right, c.h__law_draws, c.h_law, c.z_bool, c.z_isinstance, c.z_len, c.z_list, c.z_min, c.z_range, c.z_set, c.z_sorted, c.z_str, c.z_sum, c.z_tuple, c.z_zip⟩
structure Lm (K : PySem.W.Frag) (mg : Str → Option Value) (base : Heap) (G : GI) (ct pt : Addr) : Prop where
  hA : G.fn askN = none
  hL : G.low = noHp
  hT : G.T = [(pt, ("_law_right" : Str) ++ (".<locals>." : Str) ++ ("<lambda>" : Str))]
  TB : LamX.TabB base mg ct pt
  hC : HasC K mg "_law_right" s__law_right ["_law_draws_here"] (.ref ct)
section
variable {P : Program} {w : World} {K : PySem.W.Frag} {mg : Str → Option Value} {base : Heap} {G : GI}
theorem p__law_next (c : Cf w K mg G) : BodyOk P w K mg base G "_law_next" ["_law_draws_here", "_law_k", "_law_number"] s__law_next (0) b__law_next := by
  intro f cdv A outer s H E n0 hr tk hp
  have hK := c.hK
  subst hK
  have hK : G.K = G.K := rfl
  have nd := sc__law_next.nd
  exact (ms_seq (ms_setI (me_bn (bn_add hK) (me_ix hK (me_var 0) me_int) me_int) (me_var 0) me_int)
      (ms_seq (ms_asg (i := 1) nd (me_ix hK (me_var 0) me_int))
      (ms_seq (mg_wip1 [2] (ms_if (mt_val (me_ix hK (me_var 0) me_int))
      (ms_seq (mg_wip1 [1] (ms_asg (i := 2) nd (me_bn bn_mod (me_ix hK (me_var 0) me_int) (me_bn bn_pow me_int me_int))))
      (ms_seq (mg_wip1 [0] (ms_setI (me_bn bn_div (me_ix hK (me_var 0) me_int) (me_bn bn_pow me_int me_int)) (me_var 0) me_int))
      (ms_one (ms_ret (me_var 2))))) ms_nil))
      (ms_seq (mg_wip1 [0, 1] (ms_asg (i := 2) nd (me_bn bn_mod (me_bn bn_mul (me_bn (bn_add hK) (me_bn (bn_add hK) (me_bn bn_mod (me_ix hK (me_var 0) me_int) me_int) (me_bn bn_mul (me_bn bn_mul (me_var 1) (me_var 1)) me_int)) (me_var 1)) me_int) me_int)))
      (ms_seq (ms_asg (i := 2) nd (me_bn bn_mod (me_bn bn_mul (me_var 2) (me_var 2)) me_int))
      (ms_one (ms_ret (me_bn bn_div (me_bn bn_mod (me_bn bn_mul (me_var 2) (me_bn (bn_add hK) (me_var 2) me_int)) me_int) me_int))))))))
theorem d__law_next (c : Cf w K mg G) : Def P w K mg base G (1) "_law_next" F__law_next := def_of c.hK c.h__law_next sc__law_next (p__law_next c)
theorem p__law_rows_of (c : Cf w K mg G) : BodyOk P w K mg base G "_law_rows_of" ["_law_width", "_law_rows", "_law_place", "_law_longer", "_law_row"] s__law_rows_of (0) b__law_rows_of := by
  intro f cdv A outer s H E n0 hr tk hp
  have hK := c.hK
  subst hK
  have hK : G.K = G.K := rfl
  have nd := sc__law_rows_of.nd
  exact (ms_seq (ms_asg (i := 1) nd (me_frz (ml_lst (ma_cons (me_tup ma_nil) ma_nil))))
      (ms_seq (mg_wip1 [0] (mi_for hp rfl (mi_range1 c.z_range rfl (ma_cons (me_var 0) ma_nil)) (pg_name (i := 2) nd rfl (by first | exact .inl rfl | exact .inr rfl)) (tg_name 2)
      (mg_wip [2, 3, 4] (ms_seq (mg_wip1 [2] (ms_asg (i := 3) nd (me_frz (ml_lst ma_nil))))
      (ms_seq (mg_wip1 [1] (mi_for hp rfl (mi_seq hK (me_var 1)) (pg_name (i := 4) nd rfl (by first | exact .inl rfl | exact .inr rfl)) (tg_name 4)
      (mg_wip [4] (ms_one (mg_wip1 [4] (ms_asg (i := 3) nd (me_bn (bn_add hK) (me_var 3) (me_frz (ml_lst (ma_cons (me_bn (bn_add hK) (me_var 4) (me_tup (ma_cons me_int ma_nil))) (ma_cons (me_bn (bn_add hK) (me_var 4) (me_tup (ma_cons me_int ma_nil))) ma_nil)))))))))))
      (ms_one (mg_wip1 [3] (ms_asg (i := 1) nd (me_var 3)))))))))
      (ms_one (ms_ret (me_var 1)))))
theorem d__law_rows_of (c : Cf w K mg G) : Def P w K mg base G (1) "_law_rows_of" F__law_rows_of := def_of c.hK c.h__law_rows_of sc__law_rows_of (p__law_rows_of c)
theorem p__law_done (c : Cf w K mg G) : BodyOk P w K mg base G "_law_done" ["_law_deed_here", "_law_one", "_law_other", "_law_third", "_law_a", "_law_b", "_law_c"] s__law_done (0) b__law_done := by
  intro f cdv A outer s H E n0 hr tk hp
  have hK := c.hK
  subst hK
  have hK : G.K = G.K := rfl
  have nd := sc__law_done.nd
  exact (ms_one (ms_ret (me_bt (bt_tuple hK) c.z_tuple (ma_cons (me_frz (ml_lc (own := [("_law_a", 4), ("_law_b", 5), ("_law_c", 6)]) rfl nd (mi_zip3 hK c.z_zip rfl (ma_cons (me_var 1) (ma_cons (me_var 2) (ma_cons (me_var 3) ma_nil)))) (blk_mk (by kernel_rfl)) (tg_tup (tg_cons (tg_name 4) (tg_cons (tg_name 5) (tg_cons (tg_name 6) tg_nil)))) (by decide) (fun _ _ _ _ _ => (pg_tup rfl (pgs_cons (pg_name (i := 4) nd rfl (by first | exact .inl rfl | exact .inr rfl)) (pgs_cons (pg_name (i := 5) nd rfl (by first | exact .inl rfl | exact .inr rfl)) (pgs_cons (pg_name (i := 6) nd rfl (by first | exact .inl rfl | exact .inr rfl)) pgs_nil))))) (fun _ _ _ _ _ => mt_yes) (fun _ _ _ _ _ => (me_ix hK (me_var 0) (me_bn (bn_add hK) (me_bn (bn_add hK) (me_bn bn_mul me_int (me_var 4)) (me_bn bn_mul me_int (me_var 5))) (me_var 6)))))) ma_nil))))
theorem d__law_done (c : Cf w K mg G) : Def P w K mg base G (1) "_law_done" F__law_done := def_of c.hK c.h__law_done sc__law_done (p__law_done c)
theorem p__law_closed__m (c : Cf w K mg G) : BodyOk P w K mg base G "_law_closed" ["_law_deed_here", "_law_rows", "_law_kept", "_law_grown", "_law_one", "_law_other", "_law_third", "_law_row"] s__law_closed (1) b__law_closed__m := by
  intro f cdv A outer s H E n0 hr tk hp
  have hK := c.hK
  subst hK
  have hK : G.K = G.K := rfl
  have nd := sc__law_closed.nd
  exact (ms_seq (mg_wip1 [1] (ms_asg (i := 2) nd (me_new (ml_bt (bt_list hK) c.z_list (ma_cons (me_var 1) ma_nil)))))
      (ms_seq (ms_asg (i := 3) nd me_bl)
      (ms_seq (mg_wip1 [0, 3] (ms_while 100 hp (mt_val (me_var 3))
      (mg_wip [4, 5, 6, 7] (ms_seq (ms_asg (i := 3) nd me_bl)
      (ms_one (mi_for hp rfl (mi_seq hK (me_frz (ml_bt (bt_list hK) c.z_list (ma_cons (me_var 2) ma_nil)))) (pg_name (i := 4) nd rfl (by first | exact .inl rfl | exact .inr rfl)) (tg_name 4)
      (mg_wip [4, 5, 6, 7] (ms_one (mg_wip1 [4] (mi_for hp rfl (mi_seq hK (me_frz (ml_bt (bt_list hK) c.z_list (ma_cons (me_var 2) ma_nil)))) (pg_name (i := 5) nd rfl (by first | exact .inl rfl | exact .inr rfl)) (tg_name 5)
      (mg_wip [5, 6, 7] (ms_one (mg_wip1 [5] (mi_for hp rfl (mi_seq hK (me_frz (ml_bt (bt_list hK) c.z_list (ma_cons (me_var 2) ma_nil)))) (pg_name (i := 6) nd rfl (by first | exact .inl rfl | exact .inr rfl)) (tg_name 6)
      (mg_wip [6, 7] (ms_seq (mg_wip1 [6] (ms_asg (i := 7) nd (me_call ((d__law_done (w := w) (P := P) (base := base) c).mono (by decide)) hr tk rfl (ma_cons (me_var 0) (ma_cons (me_var 4) (ma_cons (me_var 5) (ma_cons (me_var 6) ma_nil)))))))
      (ms_one (mg_wip1 [7] (ms_if (mt_cm (cm_nin hK hr) (me_var 7) (me_var 2))
      (ms_seq (mg_wip1 [3, 7] (ms_drop (me_mut PySem.F.slot_list_append PySem.F.type_list_append mt_append gAppend_s (me_var 2) (ma_cons (me_var 7) ma_nil))))
      (ms_one (ms_asg (i := 3) nd me_bl))) ms_nil)))))))))))))))))))
      (ms_one (ms_ret (me_new (ml_bt (bt_sorted hK) c.z_sorted (ma_cons (me_var 2) ma_nil))))))))
theorem d__law_closed__m (c : Cf w K mg G) : Def P w K mg base G (2) "_law_closed" F__law_closed__m := def_of c.hK c.h__law_closed sc__law_closed (p__law_closed__m c)
theorem p__law_deed (c : Cf w K mg G) : BodyOk P w K mg base G "_law_deed" ["_law_word", "_law_some"] s__law_deed (0) b__law_deed := by
  intro f cdv A outer s H E n0 hr tk hp
  have hK := c.hK
  subst hK
  have hK : G.K = G.K := rfl
  have nd := sc__law_deed.nd
  exact (ms_seq (ms_asg (i := 1) nd (me_frz (ml_lst (ma_cons (me_tup (ma_cons me_int (ma_cons me_int (ma_cons me_int (ma_cons me_int (ma_cons me_int (ma_cons me_int (ma_cons me_int (ma_cons me_int ma_nil))))))))) (ma_cons (me_tup (ma_cons me_int (ma_cons me_int (ma_cons me_int (ma_cons me_int (ma_cons me_int (ma_cons me_int (ma_cons me_int (ma_cons me_int ma_nil))))))))) (ma_cons (me_tup (ma_cons me_int (ma_cons me_int (ma_cons me_int (ma_cons me_int (ma_cons me_int (ma_cons me_int (ma_cons me_int (ma_cons me_int ma_nil))))))))) (ma_cons (me_tup (ma_cons me_int (ma_cons me_int (ma_cons me_int (ma_cons me_int (ma_cons me_int (ma_cons me_int (ma_cons me_int (ma_cons me_int ma_nil))))))))) ma_nil)))))))
      (ms_one (ms_ret (me_ix hK (me_var 1) (me_idx hK (hu65 hr) (me_frz (ml_lst (ma_cons me_str (ma_cons me_str (ma_cons me_str (ma_cons me_str ma_nil)))))) (ma_cons (me_var 0) ma_nil))))))
theorem d__law_deed (c : Cf w K mg G) : Def P w K mg base G (1) "_law_deed" F__law_deed := def_of c.hK c.h__law_deed sc__law_deed (p__law_deed c)
theorem p__law_table (c : Cf w K mg G) : BodyOk P w K mg base G "_law_table" ["_law_draws_here", "_law_word", "_law_widest", "_law_width", "_law_rows", "_law_number", "_law_row"] s__law_table (2) b__law_table := by
  intro f cdv A outer s H E n0 hr tk hp
  have hK := c.hK
  subst hK
  have hK : G.K = G.K := rfl
  have nd := sc__law_table.nd
  exact (ms_seq (mg_wip1 [2] (ms_asg (i := 3) nd (me_bn (bn_add hK) me_int (me_bn bn_mod (me_call ((d__law_next (w := w) (P := P) (base := base) c).mono (by decide)) hr tk rfl (ma_cons (me_var 0) ma_nil)) (me_var 2)))))
      (ms_seq (ms_asg (i := 4) nd (me_new (ml_lst ma_nil)))
      (ms_seq (ms_asg (i := 5) nd (me_call ((d__law_next (w := w) (P := P) (base := base) c).mono (by decide)) hr tk rfl (ma_cons (me_var 0) ma_nil)))
      (ms_seq (mg_wip1 [0] (mi_for hp rfl (mi_seq hK (me_call ((d__law_rows_of (w := w) (P := P) (base := base) c).mono (by decide)) hr tk rfl (ma_cons (me_var 3) ma_nil))) (pg_name (i := 6) nd rfl (by first | exact .inl rfl | exact .inr rfl)) (tg_name 6)
      (mg_wip [6] (ms_one (mg_wip1 [6] (ms_if (mt_cm (cm_eq hK hr) (me_bn bn_mod (me_call ((d__law_next (w := w) (P := P) (base := base) c).mono (by decide)) hr tk rfl (ma_cons (me_var 0) ma_nil)) (me_ix hK (me_frz (ml_lst (ma_cons me_int (ma_cons me_int (ma_cons me_int (ma_cons me_int ma_nil)))))) (me_bn bn_mod (me_var 5) me_int))) me_int)
      (ms_one (mg_wip1 [6] (ms_drop (me_mut PySem.F.slot_list_append PySem.F.type_list_append mt_append gAppend_s (me_var 4) (ma_cons (me_var 6) ma_nil))))) ms_nil))))))
      (ms_seq (mg_wip1 [5] (ms_if (L2.PW.pt (mw_and (mt_cm (cm_eq hK hr) (me_var 4) (me_frz (ml_lst ma_nil))) (mw_and1 (mt_cm cm_gt (me_bn bn_mod (me_bn bn_div (me_var 5) me_int) me_int) me_int))))
      (ms_one (mg_wip1 [5] (ms_asg (i := 4) nd (me_new (ml_lst (ma_cons (me_ix hK (me_call ((d__law_rows_of (w := w) (P := P) (base := base) c).mono (by decide)) hr tk rfl (ma_cons (me_var 3) ma_nil)) (me_bn bn_mod (me_bn bn_div (me_var 5) me_int) (me_bt (bt_len hK) c.z_len (ma_cons (me_call ((d__law_rows_of (w := w) (P := P) (base := base) c).mono (by decide)) hr tk rfl (ma_cons (me_var 3) ma_nil)) ma_nil)))) ma_nil)))))) ms_nil))
      (ms_seq (mg_wip1 [1] (ms_if (mt_cm (cm_ne hK hr) (me_var 1) me_str)
      (ms_one (mg_wip1 [1] (ms_asg (i := 4) nd (me_call ((d__law_closed__m (w := w) (P := P) (base := base) c).mono (by decide)) hr tk rfl (ma_cons (me_call ((d__law_deed (w := w) (P := P) (base := base) c).mono (by decide)) hr tk rfl (ma_cons (me_var 1) ma_nil)) (ma_cons (me_var 4) ma_nil)))))) ms_nil))
      (ms_one (ms_ret (me_tup (ma_cons (me_var 3) (ma_cons (me_var 4) ma_nil)))))))))))
theorem d__law_table (c : Cf w K mg G) : Def P w K mg base G (3) "_law_table" F__law_table := def_of c.hK c.h__law_table sc__law_table (p__law_table c)
theorem p__law_same_width (c : Cf w K mg G) : BodyOk P w K mg base G "_law_same_width" ["_law_draws_here", "_law_width", "_law_rows", "_law_row"] s__law_same_width (1) b__law_same_width := by
  intro f cdv A outer s H E n0 hr tk hp
  have hK := c.hK
  subst hK
  have hK : G.K = G.K := rfl
  have nd := sc__law_same_width.nd
  exact (ms_seq (ms_asg (i := 2) nd (me_new (ml_lst ma_nil)))
      (ms_seq (mg_wip1 [0] (mi_for hp rfl (mi_seq hK (me_call ((d__law_rows_of (w := w) (P := P) (base := base) c).mono (by decide)) hr tk rfl (ma_cons (me_var 1) ma_nil))) (pg_name (i := 3) nd rfl (by first | exact .inl rfl | exact .inr rfl)) (tg_name 3)
      (mg_wip [3] (ms_one (mg_wip1 [3] (ms_if (mt_cm cm_gt (me_bn bn_mod (me_call ((d__law_next (w := w) (P := P) (base := base) c).mono (by decide)) hr tk rfl (ma_cons (me_var 0) ma_nil)) me_int) me_int)
      (ms_one (mg_wip1 [3] (ms_drop (me_mut PySem.F.slot_list_append PySem.F.type_list_append mt_append gAppend_s (me_var 2) (ma_cons (me_var 3) ma_nil))))) ms_nil))))))
      (ms_one (ms_ret (me_tup (ma_cons (me_var 1) (ma_cons (me_var 2) ma_nil)))))))
theorem d__law_same_width (c : Cf w K mg G) : Def P w K mg base G (2) "_law_same_width" F__law_same_width := def_of c.hK c.h__law_same_width sc__law_same_width (p__law_same_width c)
theorem p__law_narrow (c : Cf w K mg G) : BodyOk P w K mg base G "_law_narrow" ["_law_table_here", "_law_widest", "_law_width", "_law_row"] s__law_narrow (0) b__law_narrow := by
  intro f cdv A outer s H E n0 hr tk hp
  have hK := c.hK
  subst hK
  have hK : G.K = G.K := rfl
  have nd := sc__law_narrow.nd
  exact (ms_seq (mg_wip1 [1] (ms_asg (i := 2) nd (me_bt (bt_min2 rfl) c.z_min (ma_cons (me_ix hK (me_var 0) me_int) (ma_cons (me_var 1) ma_nil)))))
      (ms_one (ms_ret (me_tup (ma_cons (me_var 2) (ma_cons (me_frz (ml_ssetT hK hr.units c.z_sorted c.z_set (me_frz (ml_lc (own := [("_law_row", 3)]) rfl nd (mi_seq hK (me_ix hK (me_var 0) me_int)) (blk_mk (by kernel_rfl)) (tg_name 3) (by decide) (fun _ _ _ _ _ => (pg_name (i := 3) nd rfl (by first | exact .inl rfl | exact .inr rfl))) (fun _ _ _ _ _ => mt_yes) (fun _ _ _ _ _ => (me_sl hK (me_var 3) mp_none (mp_some (me_var 2)))))))) ma_nil))))))
theorem d__law_narrow (c : Cf w K mg G) : Def P w K mg base G (1) "_law_narrow" F__law_narrow := def_of c.hK c.h__law_narrow sc__law_narrow (p__law_narrow c)
theorem p_alike__a (c : Cf w K mg G) : BodyOk P w K mg base G "alike" ["table", "i", "j", "row"] s_alike (0) b_alike__a := by
  intro f cdv A outer s H E n0 hr tk hp
  have hK := c.hK
  subst hK
  have hK : G.K = G.K := rfl
  have nd := sc_alike.nd
  exact (ms_one (ms_ret (me_tup (ma_cons (me_ix hK (me_var 0) me_int) (ma_cons (me_new (ml_lc (own := [("row", 3)]) rfl nd (mi_seq hK (me_ix hK (me_var 0) me_int)) (blk_mk (by kernel_rfl)) (tg_name 3) (by decide) (fun _ _ _ _ _ => (pg_name (i := 3) nd rfl (by first | exact .inl rfl | exact .inr rfl))) (fun _ _ _ _ _ => (mt_one (mt_cm (cm_eq hK hr) (me_ix hK (me_var 3) (me_var 1)) (me_ix hK (me_var 3) (me_var 2))))) (fun _ _ _ _ _ => (me_var 3)))) ma_nil)))))
theorem d_alike__a (c : Cf w K mg G) : Def P w K mg base G (1) "alike" F_alike__a := def_of c.hK c.h_alike sc_alike (p_alike__a c)
theorem p_beside__a (c : Cf w K mg G) : BodyOk P w K mg base G "beside" ["one", "other", "found", "row", "more"] s_beside (0) b_beside__a := by
  intro f cdv A outer s H E n0 hr tk hp
  have hK := c.hK
  subst hK
  have hK : G.K = G.K := rfl
  have nd := sc_beside.nd
  exact (ms_seq (ms_asg (i := 2) nd (me_new (ml_lst ma_nil)))
      (ms_seq (mi_for hp rfl (mi_seq hK (me_ix hK (me_var 0) me_int)) (pg_name (i := 3) nd rfl (by first | exact .inl rfl | exact .inr rfl)) (tg_name 3)
      (mg_wip [3] (ms_one (mg_wip1 [3] (ms_drop (me_mut PySem.F.slot_list_extend PySem.F.type_list_extend mt_extend gExtend_s (me_var 2) (ma_cons (me_frz (ml_lc (own := [("more", 4)]) rfl nd (mi_seq hK (me_ix hK (me_var 1) me_int)) (blk_mk (by kernel_rfl)) (tg_name 4) (by decide) (fun _ _ _ _ _ => (pg_name (i := 4) nd rfl (by first | exact .inl rfl | exact .inr rfl))) (fun _ _ _ _ _ => mt_yes) (fun _ _ _ _ _ => (me_bn (bn_add hK) (me_var 3) (me_var 4))))) ma_nil)))))))
      (ms_one (ms_ret (me_tup (ma_cons (me_bn (bn_add hK) (me_ix hK (me_var 0) me_int) (me_ix hK (me_var 1) me_int)) (ma_cons (me_var 2) ma_nil)))))))
theorem d_beside__a (c : Cf w K mg G) : Def P w K mg base G (1) "beside" F_beside__a := def_of c.hK c.h_beside sc_beside (p_beside__a c)
theorem p_common__a (c : Cf w K mg G) : BodyOk P w K mg base G "common" ["one", "other", "row"] s_common (0) b_common__a := by
  intro f cdv A outer s H E n0 hr tk hp
  have hK := c.hK
  subst hK
  have hK : G.K = G.K := rfl
  have nd := sc_common.nd
  exact (ms_one (ms_ret (me_tup (ma_cons (me_ix hK (me_var 0) me_int) (ma_cons (me_new (ml_lc (own := [("row", 2)]) rfl nd (mi_seq hK (me_ix hK (me_var 0) me_int)) (blk_mk (by kernel_rfl)) (tg_name 2) (by decide) (fun _ _ _ _ _ => (pg_name (i := 2) nd rfl (by first | exact .inl rfl | exact .inr rfl))) (fun _ _ _ _ _ => (mt_one (mt_cm (cm_in hK hr) (me_var 2) (me_ix hK (me_var 1) me_int)))) (fun _ _ _ _ _ => (me_var 2)))) ma_nil)))))
theorem d_common__a (c : Cf w K mg G) : Def P w K mg base G (1) "common" F_common__a := def_of c.hK c.h_common sc_common (p_common__a c)
theorem p_having__a (c : Cf w K mg G) : BodyOk P w K mg base G "having" ["table", "i", "value", "row"] s_having (0) b_having__a := by
  intro f cdv A outer s H E n0 hr tk hp
  have hK := c.hK
  subst hK
  have hK : G.K = G.K := rfl
  have nd := sc_having.nd
  exact (ms_one (ms_ret (me_tup (ma_cons (me_ix hK (me_var 0) me_int) (ma_cons (me_new (ml_lc (own := [("row", 3)]) rfl nd (mi_seq hK (me_ix hK (me_var 0) me_int)) (blk_mk (by kernel_rfl)) (tg_name 3) (by decide) (fun _ _ _ _ _ => (pg_name (i := 3) nd rfl (by first | exact .inl rfl | exact .inr rfl))) (fun _ _ _ _ _ => (mt_one (mt_cm (cm_eq hK hr) (me_ix hK (me_var 3) (me_var 1)) (me_var 2)))) (fun _ _ _ _ _ => (me_var 3)))) ma_nil)))))
theorem d_having__a (c : Cf w K mg G) : Def P w K mg base G (1) "having" F_having__a := def_of c.hK c.h_having sc_having (p_having__a c)
theorem p_taken__a (c : Cf w K mg G) : BodyOk P w K mg base G "taken" ["table", "places", "found", "row", "place"] s_taken (0) b_taken__a := by
  intro f cdv A outer s H E n0 hr tk hp
  have hK := c.hK
  subst hK
  have hK : G.K = G.K := rfl
  have nd := sc_taken.nd
  exact (ms_seq (mg_wip1 [0] (ms_lc0 (fL := frz) (fun _ => frz_imp) (own := [("row", 3)]) rfl nd (mi_seq hK (me_ix hK (me_var 0) me_int)) (blk_mk (by kernel_rfl)) (tg_name 3) (by decide) (fun _ _ _ _ _ => (pg_name (i := 3) nd rfl (by first | exact .inl rfl | exact .inr rfl))) (fun _ _ _ _ _ => mt_yes) (fun _ _ _ _ _ => (me_bt (bt_tuple hK) c.z_tuple (ma_cons (me_frz (ml_lc (own := [("place", 4)]) rfl nd (mi_seq hK (me_var 1)) (blk_mk (by kernel_rfl)) (tg_name 4) (by decide) (fun _ _ _ _ _ => (pg_name (i := 4) nd rfl (by first | exact .inl rfl | exact .inr rfl))) (fun _ _ _ _ _ => mt_yes) (fun _ _ _ _ _ => (me_ix hK (me_var 3) (me_var 4))))) ma_nil)))))
      (ms_one (ms_ret (me_tup (ma_cons (me_bt (bt_len hK) c.z_len (ma_cons (me_var 1) ma_nil)) (ma_cons (me_new (ml_ssetT hK hr.units c.z_sorted c.z_set (me_var 2))) ma_nil))))))
theorem d_taken__a (c : Cf w K mg G) : Def P w K mg base G (1) "taken" F_taken__a := def_of c.hK c.h_taken sc_taken (p_taken__a c)
theorem p__law_told (c : Cf w K mg G) {Fa : Fn} (oa : AskF P w K mg base G 2 Fa) : BodyOk P w K mg base G "_law_told" ["_law_ask", "_law_due", "_law_things", "_law_kept", "_law_again", "_law_told_here", "_law_values", "_law_row", "_law_value"] s__law_told (2) (b__law_told Fa) := by
  intro f cdv A outer s H E n0 hr tk hp
  have hK := c.hK
  subst hK
  have hK : G.K = G.K := rfl
  have nd := sc__law_told.nd
  exact (ms_seq (ms_asg (i := 3) nd (me_bt (bt_strD hK hr) c.z_str (ma_cons (me_var 2) ma_nil)))
      (ms_seq (mg_wip1 [0, 1, 2, 3] (mi_for hp rfl (mi_range1 c.z_range rfl (ma_cons me_int ma_nil)) (pg_name (i := 4) nd rfl (by first | exact .inl rfl | exact .inr rfl)) (tg_name 4)
      (mg_reg [4, 5, 6] (ms_seq (mg_wip1 [4] (ms_asg (i := 5) nd (me_callA (i := 0) oa (MP.Room.mono hr (by decide)) tk (ma_cons (me_var 2) ma_nil))))
      (ms_seq (ms_if (mt_scope (L2.PW.pt (mw_or (mt_not (mt_val (me_isi hK ty_tuple rfl c.z_isinstance boot_isi rfl c.z_tuple boot_tuple (me_var 5)))) (mw_or (mt_cm (cm_ne hK hr) (me_var 5) (me_var 1)) (mw_or (mt_not (mt_val (me_isi hK ty_list rfl c.z_isinstance boot_isi rfl c.z_list boot_list (me_ix hK (me_var 5) me_int)))) (mw_or1 (mt_cm (cm_ne hK hr) (me_bt (bt_strD hK hr) c.z_str (ma_cons (me_var 2) ma_nil)) (me_var 3))))))))
      (ms_one (ms_ret me_bl)) ms_nil)
      (ms_seq (ms_asg (i := 6) nd (me_bt (bt_sumL hK rfl) c.z_sum (ma_cons (me_frz (ml_lcC (own := [("_law_row", 7)]) hK rfl nd (me_ix hK (me_var 5) me_int) (blk_mk (by kernel_rfl)) (tg_name 7) (by decide) (fun _ _ _ _ _ => (pg_name (i := 7) nd rfl (by first | exact .inl rfl | exact .inr rfl))) (fun _ _ _ _ _ => mt_yes) (fun _ _ _ _ _ => (me_frz (ml_bt (bt_list hK) c.z_list (ma_cons (me_var 7) ma_nil)))))) (ma_cons (me_frz (ml_lst (ma_cons (me_ix hK (me_var 5) me_int) ma_nil))) ma_nil))))
      (ms_seq (mg_wip1 [6] (ms_if (mt_cm (cm_ne hK hr) (me_frz (ml_lc (own := [("_law_value", 8)]) rfl nd (mi_seq hK (me_var 6)) (blk_mk (by kernel_rfl)) (tg_name 8) (by decide) (fun _ _ _ _ _ => (pg_name (i := 8) nd rfl (by first | exact .inl rfl | exact .inr rfl))) (fun _ _ _ _ _ => (mt_one (mt_val (me_isi hK ty_bool rfl c.z_isinstance boot_isi rfl c.z_bool boot_bool (me_var 8))))) (fun _ _ _ _ _ => (me_var 8)))) (me_frz (ml_lst ma_nil)))
      (ms_one (ms_ret me_bl)) ms_nil))
      (ms_one (mg_wip1 [5] (ms_drop (me_mut PySem.F.slot_list_append PySem.F.type_list_append mt_append gAppend_s (me_ix hK (me_var 5) me_int) (ma_cons me_non ma_nil))))))))))))
      (ms_one (ms_ret me_bl))))
theorem d__law_told (c : Cf w K mg G) {Fa : Fn} (oa : AskF P w K mg base G 2 Fa) : Def P w K mg base G (3) "_law_told" (F__law_told Fa) := def_of c.hK c.h__law_told sc__law_told (p__law_told c oa)
theorem p__law_right (c : Cf w K mg G) {ct pt : Addr} (e : Lm K mg base G ct pt) : BodyOkC P w K mg base G "_law_right" ["_law_draws_here", "_law_word", "_law_table_here", "_law_width", "_law_rows", "_law_other", "_law_due", "_law_one", "_law_more", "_law_both", "_law_row", "_law_i", "_law_j", "_law_value", "_law_places", "_law_made", "_law_k", "_law_rest", "_law_old", "_law_place"] s__law_right (3) b__law_right (.ref ct) := by
  intro f A outer s H E n0 hr tk hp
  have hK := c.hK
  subst hK
  have hK : G.K = G.K := rfl
  have nd := sc__law_right.nd
  exact (ms_seq (ms_asg (i := 1) nd (me_ix hK (me_frz (ml_lst (ma_cons me_str (ma_cons me_str (ma_cons me_str (ma_cons me_str (ma_cons me_str ma_nil))))))) (me_bn bn_mod (me_call ((d__law_next (w := w) (P := P) (base := base) c).mono (by decide)) hr tk rfl (ma_cons (me_var 0) ma_nil)) me_int)))
      (ms_seq (mg_wip1 [1] (ms_asg (i := 2) nd (me_call ((d__law_table (w := w) (P := P) (base := base) c).mono (by decide)) hr tk rfl (ma_cons (me_var 0) (ma_cons (me_var 1) (ma_cons me_int ma_nil))))))
      (ms_seq (ms_asgT (me_var 2) (pg_tup rfl (pgs_cons (pg_name (i := 3) nd rfl (by first | exact .inl rfl | exact .inr rfl)) (pgs_cons (pg_name (i := 4) nd rfl (by first | exact .inl rfl | exact .inr rfl)) pgs_nil))) (tg_tup (tg_cons (tg_name 3) (tg_cons (tg_name 4) tg_nil))))
      (ms_seq (ms_asg (i := 5) nd (me_call ((d__law_same_width (w := w) (P := P) (base := base) c).mono (by decide)) hr tk rfl (ma_cons (me_var 0) (ma_cons (me_var 3) ma_nil))))
      (ms_seq (ms_asg (i := 6) nd (me_tup (ma_cons (me_var 3) (ma_cons (me_frz (ml_lc (own := [("_law_row", 10)]) rfl nd (mi_seq hK (me_var 4)) (blk_mk (by kernel_rfl)) (tg_name 10) (by decide) (fun _ _ _ _ _ => (pg_name (i := 10) nd rfl (by first | exact .inl rfl | exact .inr rfl))) (fun _ _ _ _ _ => (mt_one (mt_cm (cm_in hK hr) (me_var 10) (me_ix hK (me_var 5) me_int)))) (fun _ _ _ _ _ => (me_var 10)))) ma_nil))))
      (ms_seq (mg_wip1 [5, 6] (ms_if (mt_not (mt_val (me_askL (kb := 1) (a := "_law_two") e.hA e.hL e.hT rfl e.TB rfl (fun _ => rfl) (lam1_by (sc := defScope s__law_right) (by decide +kernel)) (show ("_law_two" : Str) ∉ (["_law_draws_here", "_law_word", "_law_table_here", "_law_width", "_law_rows", "_law_other", "_law_due", "_law_one", "_law_more", "_law_both", "_law_row", "_law_i", "_law_j", "_law_value", "_law_places", "_law_made", "_law_k", "_law_rest", "_law_old", "_law_place"] : List Str) by decide +kernel) rfl (fun b2 _ _ _ _ e1 e2 _ oa => (d__law_told (w := w) (P := P) (base := b2) (cf_to c e1 e2) oa).mono (by decide)) (has_x c.h__law_told) hr rfl (fun _ _ _ _ _ _ => .of_eq rfl) (fun _ _ _ _ _ _ _ hr => (me_call ((d_common__a (w := w) (P := P) (base := base) c).mono (by decide)) hr lam_takes rfl (ma_cons (me_ix hK (me_var 20) me_int) (ma_cons (me_ix hK (me_var 20) me_int) ma_nil)))) (ma_cons (me_var 6) (ma_cons (me_frz (ml_lst (ma_cons (me_var 2) (ma_cons (me_var 5) ma_nil)))) ma_nil)))))
      (ms_one (ms_ret me_bl)) ms_nil))
      (ms_seq (ms_asg (i := 7) nd (me_call ((d__law_narrow (w := w) (P := P) (base := base) c).mono (by decide)) hr tk rfl (ma_cons (me_var 2) (ma_cons me_int ma_nil))))
      (ms_seq (ms_asg (i := 8) nd (me_call ((d__law_narrow (w := w) (P := P) (base := base) c).mono (by decide)) hr tk rfl (ma_cons (me_call ((d__law_table (w := w) (P := P) (base := base) c).mono (by decide)) hr tk rfl (ma_cons (me_var 0) (ma_cons me_str (ma_cons me_int ma_nil)))) (ma_cons (me_bn bn_sub me_int (me_ix hK (me_var 7) me_int)) ma_nil))))
      (ms_seq (ms_asg (i := 9) nd (me_frz (ml_lst ma_nil)))
      (ms_seq (mi_for hp rfl (mi_seq hK (me_ix hK (me_var 7) me_int)) (pg_name (i := 10) nd rfl (by first | exact .inl rfl | exact .inr rfl)) (tg_name 10)
      (mg_wip [10] (ms_one (mg_wip1 [10] (ms_asg (i := 9) nd (me_bn (bn_add hK) (me_var 9) (me_frz (ml_lc (own := [("_law_rest", 17)]) rfl nd (mi_seq hK (me_ix hK (me_var 8) me_int)) (blk_mk (by kernel_rfl)) (tg_name 17) (by decide) (fun _ _ _ _ _ => (pg_name (i := 17) nd rfl (by first | exact .inl rfl | exact .inr rfl))) (fun _ _ _ _ _ => mt_yes) (fun _ _ _ _ _ => (me_bn (bn_add hK) (me_var 10) (me_var 17)))))))))))
      (ms_seq (mg_wip1 [9] (ms_asg (i := 6) nd (me_tup (ma_cons (me_bn (bn_add hK) (me_ix hK (me_var 7) me_int) (me_ix hK (me_var 8) me_int)) (ma_cons (me_var 9) ma_nil)))))
      (ms_seq (mg_wip1 [6, 7, 8] (ms_if (mt_not (mt_val (me_askL (kb := 1) (a := "_law_two") e.hA e.hL e.hT rfl e.TB rfl (fun _ => rfl) (lam1_by (sc := defScope s__law_right) (by decide +kernel)) (show ("_law_two" : Str) ∉ (["_law_draws_here", "_law_word", "_law_table_here", "_law_width", "_law_rows", "_law_other", "_law_due", "_law_one", "_law_more", "_law_both", "_law_row", "_law_i", "_law_j", "_law_value", "_law_places", "_law_made", "_law_k", "_law_rest", "_law_old", "_law_place"] : List Str) by decide +kernel) rfl (fun b2 _ _ _ _ e1 e2 _ oa => (d__law_told (w := w) (P := P) (base := b2) (cf_to c e1 e2) oa).mono (by decide)) (has_x c.h__law_told) hr rfl (fun _ _ _ _ _ _ => .of_eq rfl) (fun _ _ _ _ _ _ _ hr => (me_call ((d_beside__a (w := w) (P := P) (base := base) c).mono (by decide)) hr lam_takes rfl (ma_cons (me_ix hK (me_var 20) me_int) (ma_cons (me_ix hK (me_var 20) me_int) ma_nil)))) (ma_cons (me_var 6) (ma_cons (me_frz (ml_lst (ma_cons (me_var 7) (ma_cons (me_var 8) ma_nil)))) ma_nil)))))
      (ms_one (ms_ret me_bl)) ms_nil))
      (ms_seq (ms_asgT (me_tup (ma_cons (me_bn bn_mod (me_call ((d__law_next (w := w) (P := P) (base := base) c).mono (by decide)) hr tk rfl (ma_cons (me_var 0) ma_nil)) (me_var 3)) (ma_cons (me_bn bn_mod (me_call ((d__law_next (w := w) (P := P) (base := base) c).mono (by decide)) hr tk rfl (ma_cons (me_var 0) ma_nil)) (me_var 3)) ma_nil))) (pg_tup rfl (pgs_cons (pg_name (i := 11) nd rfl (by first | exact .inl rfl | exact .inr rfl)) (pgs_cons (pg_name (i := 12) nd rfl (by first | exact .inl rfl | exact .inr rfl)) pgs_nil))) (tg_tup (tg_cons (tg_name 11) (tg_cons (tg_name 12) tg_nil))))
      (ms_seq (ms_asg (i := 13) nd (me_bn bn_mod (me_call ((d__law_next (w := w) (P := P) (base := base) c).mono (by decide)) hr tk rfl (ma_cons (me_var 0) ma_nil)) me_int))
      (ms_seq (ms_asg (i := 6) nd (me_tup (ma_cons (me_var 3) (ma_cons (me_frz (ml_lc (own := [("_law_row", 10)]) rfl nd (mi_seq hK (me_var 4)) (blk_mk (by kernel_rfl)) (tg_name 10) (by decide) (fun _ _ _ _ _ => (pg_name (i := 10) nd rfl (by first | exact .inl rfl | exact .inr rfl))) (fun _ _ _ _ _ => (mt_one (mt_cm (cm_eq hK hr) (me_ix hK (me_var 10) (me_var 11)) (me_ix hK (me_var 10) (me_var 12))))) (fun _ _ _ _ _ => (me_var 10)))) ma_nil))))
      (ms_seq (mg_wip1 [6, 12] (ms_if (mt_not (mt_val (me_askL (kb := 1) (a := "_law_some") e.hA e.hL e.hT rfl e.TB rfl (fun _ => rfl) (lam1_by (sc := defScope s__law_right) (by decide +kernel)) (show ("_law_some" : Str) ∉ (["_law_draws_here", "_law_word", "_law_table_here", "_law_width", "_law_rows", "_law_other", "_law_due", "_law_one", "_law_more", "_law_both", "_law_row", "_law_i", "_law_j", "_law_value", "_law_places", "_law_made", "_law_k", "_law_rest", "_law_old", "_law_place"] : List Str) by decide +kernel) rfl (fun b2 _ _ _ _ e1 e2 _ oa => (d__law_told (w := w) (P := P) (base := b2) (cf_to c e1 e2) oa).mono (by decide)) (has_x c.h__law_told) hr rfl (fun _ _ _ _ _ _ => .of_eq rfl) (fun _ _ _ _ _ _ _ hr => (me_call ((d_alike__a (w := w) (P := P) (base := base) c).mono (by decide)) hr lam_takes rfl (ma_cons (me_ix hK (me_var 20) me_int) (ma_cons (me_var 11) (ma_cons (me_var 12) ma_nil))))) (ma_cons (me_var 6) (ma_cons (me_frz (ml_lst (ma_cons (me_var 2) ma_nil))) ma_nil)))))
      (ms_one (ms_ret me_bl)) ms_nil))
      (ms_seq (ms_asg (i := 6) nd (me_tup (ma_cons (me_var 3) (ma_cons (me_frz (ml_lc (own := [("_law_row", 10)]) rfl nd (mi_seq hK (me_var 4)) (blk_mk (by kernel_rfl)) (tg_name 10) (by decide) (fun _ _ _ _ _ => (pg_name (i := 10) nd rfl (by first | exact .inl rfl | exact .inr rfl))) (fun _ _ _ _ _ => (mt_one (mt_cm (cm_eq hK hr) (me_ix hK (me_var 10) (me_var 11)) (me_var 13)))) (fun _ _ _ _ _ => (me_var 10)))) ma_nil))))
      (ms_seq (mg_wip1 [6, 11, 13] (ms_if (mt_not (mt_val (me_askL (kb := 1) (a := "_law_some") e.hA e.hL e.hT rfl e.TB rfl (fun _ => rfl) (lam1_by (sc := defScope s__law_right) (by decide +kernel)) (show ("_law_some" : Str) ∉ (["_law_draws_here", "_law_word", "_law_table_here", "_law_width", "_law_rows", "_law_other", "_law_due", "_law_one", "_law_more", "_law_both", "_law_row", "_law_i", "_law_j", "_law_value", "_law_places", "_law_made", "_law_k", "_law_rest", "_law_old", "_law_place"] : List Str) by decide +kernel) rfl (fun b2 _ _ _ _ e1 e2 _ oa => (d__law_told (w := w) (P := P) (base := b2) (cf_to c e1 e2) oa).mono (by decide)) (has_x c.h__law_told) hr rfl (fun _ _ _ _ _ _ => .of_eq rfl) (fun _ _ _ _ _ _ _ hr => (me_call ((d_having__a (w := w) (P := P) (base := base) c).mono (by decide)) hr lam_takes rfl (ma_cons (me_ix hK (me_var 20) me_int) (ma_cons (me_var 11) (ma_cons (me_var 13) ma_nil))))) (ma_cons (me_var 6) (ma_cons (me_frz (ml_lst (ma_cons (me_var 2) ma_nil))) ma_nil)))))
      (ms_one (ms_ret me_bl)) ms_nil))
      (ms_seq (mg_wip1 [0, 3] (ms_asg (i := 14) nd (me_frz (ml_lc (own := [("_law_k", 16)]) rfl nd (mi_range1 c.z_range rfl (ma_cons (me_bn (bn_add hK) me_int (me_bn bn_mod (me_call ((d__law_next (w := w) (P := P) (base := base) c).mono (by decide)) hr tk rfl (ma_cons (me_var 0) ma_nil)) me_int)) ma_nil)) (blk_mk (by kernel_rfl)) (tg_name 16) (by decide) (fun _ _ _ _ _ => (pg_name (i := 16) nd rfl (by first | exact .inl rfl | exact .inr rfl))) (fun _ _ _ _ _ => mt_yes) (fun _ _ _ _ _ => (me_bn bn_mod (me_call ((d__law_next (w := w) (P := P) (base := base) c).mono (by decide)) hr tkW0 rfl (ma_cons (me_var 0) ma_nil)) (me_var 3)))))))
      (ms_seq (ms_asg (i := 15) nd (me_new (ml_lst ma_nil)))
      (ms_seq (mg_fz1 [4] (mi_for hp rfl (mi_seq hK (me_call ((d__law_rows_of (w := w) (P := P) (base := base) c).mono (by decide)) hr tk rfl (ma_cons (me_bt (bt_len hK) c.z_len (ma_cons (me_var 14) ma_nil)) ma_nil))) (pg_name (i := 10) nd rfl (by first | exact .inl rfl | exact .inr rfl)) (tg_name 10)
      (mg_wip [10] (ms_one (mg_wip1 [10] (ms_if (mt_cm (cm_ne hK hr) (me_frz (ml_lc (own := [("_law_old", 18)]) rfl nd (mi_seq hK (me_var 4)) (blk_mk (by kernel_rfl)) (tg_name 18) (by decide) (fun _ _ _ _ _ => (pg_name (i := 18) nd rfl (by first | exact .inl rfl | exact .inr rfl))) (fun _ _ _ _ _ => (mt_one (mt_cm (cm_eq hK hr) (me_bt (bt_tuple hK) c.z_tuple (ma_cons (me_frz (ml_lc (own := [("_law_place", 19)]) rfl nd (mi_seq hK (me_var 14)) (blk_mk (by kernel_rfl)) (tg_name 19) (by decide) (fun _ _ _ _ _ => (pg_name (i := 19) nd rfl (by first | exact .inl rfl | exact .inr rfl))) (fun _ _ _ _ _ => mt_yes) (fun _ _ _ _ _ => (me_ix hK (me_var 18) (me_var 19))))) ma_nil)) (me_var 10)))) (fun _ _ _ _ _ => (me_var 18)))) (me_frz (ml_lst ma_nil)))
      (ms_one (mg_wip1 [10] (ms_drop (me_mut PySem.F.slot_list_append PySem.F.type_list_append mt_append gAppend_s (me_var 15) (ma_cons (me_var 10) ma_nil))))) ms_nil))))))
      (ms_one (ms_ret (me_askL (kb := 1) (a := "_law_some") e.hA e.hL e.hT rfl e.TB rfl (fun _ => rfl) (lam1_by (sc := defScope s__law_right) (by decide +kernel)) (show ("_law_some" : Str) ∉ (["_law_draws_here", "_law_word", "_law_table_here", "_law_width", "_law_rows", "_law_other", "_law_due", "_law_one", "_law_more", "_law_both", "_law_row", "_law_i", "_law_j", "_law_value", "_law_places", "_law_made", "_law_k", "_law_rest", "_law_old", "_law_place"] : List Str) by decide +kernel) rfl (fun b2 _ _ _ _ e1 e2 _ oa => (d__law_told (w := w) (P := P) (base := b2) (cf_to c e1 e2) oa).mono (by decide)) (has_x c.h__law_told) hr rfl (fun _ _ _ _ _ _ => .of_eq rfl) (fun _ _ _ _ _ _ _ hr => (me_call ((d_taken__a (w := w) (P := P) (base := base) c).mono (by decide)) hr lam_takes rfl (ma_cons (me_ix hK (me_var 20) me_int) (ma_cons (me_ix hK (me_var 20) me_int) ma_nil)))) (ma_cons (me_tup (ma_cons (me_bt (bt_len hK) c.z_len (ma_cons (me_var 14) ma_nil)) (ma_cons (me_var 15) ma_nil))) (ma_cons (me_frz (ml_lst (ma_cons (me_var 2) (ma_cons (me_var 14) ma_nil)))) ma_nil))))))))))))))))))))))))))
theorem d__law_right (c : Cf w K mg G) {ct pt : Addr} (e : Lm K mg base G ct pt) : Def P w K mg base G (4) "_law_right" F__law_right := def_ofC c.hK e.hC sc__law_right (p__law_right c e)
theorem p__law_draws__m (c : Cf w K mg G) : BodyOk P w K mg base G "_law_draws" ["_law_cell"] s__law_draws (0) b__law_draws__m := by
  intro f cdv A outer s H E n0 hr tk hp
  have hK := c.hK
  subst hK
  have hK : G.K = G.K := rfl
  have nd := sc__law_draws.nd
  exact (ms_seq (ms_if (mt_cm (cm_lt hK hr) (me_var 0) (me_bn bn_pow me_int me_int))
      (ms_one (ms_ret (me_new (ml_lst (ma_cons (me_var 0) (ma_cons me_int (ma_cons me_bl ma_nil))))))) ms_nil)
      (ms_one (ms_ret (me_new (ml_lst (ma_cons (me_bn bn_mod (me_var 0) (me_bn bn_pow (me_bn bn_pow (me_bn bn_pow me_int me_int) me_int) me_int)) (ma_cons me_int (ma_cons me_bl ma_nil))))))))
theorem d__law_draws__m (c : Cf w K mg G) : Def P w K mg base G (1) "_law_draws" F__law_draws__m := def_of c.hK c.h__law_draws sc__law_draws (p__law_draws__m c)
theorem p_law (c : Cf w K mg G) {ct pt : Addr} (e : Lm K mg base G ct pt) : BodyOk P w K mg base G "law" ["_law_script", "_law_cell"] s_law (4) b_law := by
  intro f cdv A outer s H E n0 hr tk hp
  have hK := c.hK
  subst hK
  have hK : G.K = G.K := rfl
  have nd := sc_law.nd
  exact (ms_seq (mg_wip1 [0] (mi_for hp rfl (mi_seq hK (me_bn (bn_add hK) (me_sl hK (me_var 0) mp_none (mp_some me_int)) (me_frz (ml_lst (ma_cons me_int ma_nil))))) (pg_name (i := 1) nd rfl (by first | exact .inl rfl | exact .inr rfl)) (tg_name 1)
      (mg_reg [1] (ms_one (mg_wip1 [1] (ms_if (mt_not (mt_val (me_call ((d__law_right (w := w) (P := P) (base := base) c e).mono (by decide)) hr tk rfl (ma_cons (me_call ((d__law_draws__m (w := w) (P := P) (base := base) c).mono (by decide)) hr tk rfl (ma_cons (me_var 1) ma_nil)) ma_nil))))
      (ms_one (ms_ret me_bl)) ms_nil))))))
      (ms_one (ms_ret me_bl)))
end
/-- the law holds, if its own function answers True -/
theorem cf_mk {T : List (Addr × Str)} {w : World} {K : PySem.W.Frag} {h : Heap} {mg : Str → Option Value} (X : K.In h) (Gh : h.Ns mainGlobals mg)
    {f0 : Addr} {od0 an0 : Option Addr} {sl0 : Array (Option Value)} {oc0 kV0 dc0 pm0 cd0 ct0 : Value}
    (a0 : PySem.W.nsIn K mainGlobals "_law_next" = some (some (.ref f0))) (l0 : K.lookup f0 = some ⟨oc0, od0, .func (PySem.W.fnOf "_law_next" "_law_next" (defArgs s__law_next) (defBody s__law_next) (defScope s__law_next) .none kV0 dc0 pm0 an0 cd0 ct0), sl0⟩) (c0 : PySem.W.codeIn K cd0 "_law_next" = true) (k0 : PySem.W.keepIn K (.ref f0) = true)
    {f1 : Addr} {od1 an1 : Option Addr} {sl1 : Array (Option Value)} {oc1 kV1 dc1 pm1 cd1 ct1 : Value}
    (a1 : PySem.W.nsIn K mainGlobals "_law_rows_of" = some (some (.ref f1))) (l1 : K.lookup f1 = some ⟨oc1, od1, .func (PySem.W.fnOf "_law_rows_of" "_law_rows_of" (defArgs s__law_rows_of) (defBody s__law_rows_of) (defScope s__law_rows_of) .none kV1 dc1 pm1 an1 cd1 ct1), sl1⟩) (c1 : PySem.W.codeIn K cd1 "_law_rows_of" = true) (k1 : PySem.W.keepIn K (.ref f1) = true)
    {f2 : Addr} {od2 an2 : Option Addr} {sl2 : Array (Option Value)} {oc2 kV2 dc2 pm2 cd2 ct2 : Value}
    (a2 : PySem.W.nsIn K mainGlobals "_law_done" = some (some (.ref f2))) (l2 : K.lookup f2 = some ⟨oc2, od2, .func (PySem.W.fnOf "_law_done" "_law_done" (defArgs s__law_done) (defBody s__law_done) (defScope s__law_done) .none kV2 dc2 pm2 an2 cd2 ct2), sl2⟩) (c2 : PySem.W.codeIn K cd2 "_law_done" = true) (k2 : PySem.W.keepIn K (.ref f2) = true)
    {f3 : Addr} {od3 an3 : Option Addr} {sl3 : Array (Option Value)} {oc3 kV3 dc3 pm3 cd3 ct3 : Value}
    (a3 : PySem.W.nsIn K mainGlobals "_law_closed" = some (some (.ref f3))) (l3 : K.lookup f3 = some ⟨oc3, od3, .func (PySem.W.fnOf "_law_closed" "_law_closed" (defArgs s__law_closed) (defBody s__law_closed) (defScope s__law_closed) .none kV3 dc3 pm3 an3 cd3 ct3), sl3⟩) (c3 : PySem.W.codeIn K cd3 "_law_closed" = true) (k3 : PySem.W.keepIn K (.ref f3) = true)
    {f4 : Addr} {od4 an4 : Option Addr} {sl4 : Array (Option Value)} {oc4 kV4 dc4 pm4 cd4 ct4 : Value}
    (a4 : PySem.W.nsIn K mainGlobals "_law_deed" = some (some (.ref f4))) (l4 : K.lookup f4 = some ⟨oc4, od4, .func (PySem.W.fnOf "_law_deed" "_law_deed" (defArgs s__law_deed) (defBody s__law_deed) (defScope s__law_deed) .none kV4 dc4 pm4 an4 cd4 ct4), sl4⟩) (c4 : PySem.W.codeIn K cd4 "_law_deed" = true) (k4 : PySem.W.keepIn K (.ref f4) = true)
    {f5 : Addr} {od5 an5 : Option Addr} {sl5 : Array (Option Value)} {oc5 kV5 dc5 pm5 cd5 ct5 : Value}
    (a5 : PySem.W.nsIn K mainGlobals "_law_table" = some (some (.ref f5))) (l5 : K.lookup f5 = some ⟨oc5, od5, .func (PySem.W.fnOf "_law_table" "_law_table" (defArgs s__law_table) (defBody s__law_table) (defScope s__law_table) .none kV5 dc5 pm5 an5 cd5 ct5), sl5⟩) (c5 : PySem.W.codeIn K cd5 "_law_table" = true) (k5 : PySem.W.keepIn K (.ref f5) = true)
    {f6 : Addr} {od6 an6 : Option Addr} {sl6 : Array (Option Value)} {oc6 kV6 dc6 pm6 cd6 ct6 : Value}
    (a6 : PySem.W.nsIn K mainGlobals "_law_same_width" = some (some (.ref f6))) (l6 : K.lookup f6 = some ⟨oc6, od6, .func (PySem.W.fnOf "_law_same_width" "_law_same_width" (defArgs s__law_same_width) (defBody s__law_same_width) (defScope s__law_same_width) .none kV6 dc6 pm6 an6 cd6 ct6), sl6⟩) (c6 : PySem.W.codeIn K cd6 "_law_same_width" = true) (k6 : PySem.W.keepIn K (.ref f6) = true)
    {f7 : Addr} {od7 an7 : Option Addr} {sl7 : Array (Option Value)} {oc7 kV7 dc7 pm7 cd7 ct7 : Value}
    (a7 : PySem.W.nsIn K mainGlobals "_law_narrow" = some (some (.ref f7))) (l7 : K.lookup f7 = some ⟨oc7, od7, .func (PySem.W.fnOf "_law_narrow" "_law_narrow" (defArgs s__law_narrow) (defBody s__law_narrow) (defScope s__law_narrow) .none kV7 dc7 pm7 an7 cd7 ct7), sl7⟩) (c7 : PySem.W.codeIn K cd7 "_law_narrow" = true) (k7 : PySem.W.keepIn K (.ref f7) = true)
    {f8 : Addr} {od8 an8 : Option Addr} {sl8 : Array (Option Value)} {oc8 kV8 dc8 pm8 cd8 ct8 : Value}
    (a8 : PySem.W.nsIn K mainGlobals "alike" = some (some (.ref f8))) (l8 : K.lookup f8 = some ⟨oc8, od8, .func (PySem.W.fnOf "alike" "alike" (defArgs s_alike) (defBody s_alike) (defScope s_alike) .none kV8 dc8 pm8 an8 cd8 ct8), sl8⟩) (c8 : PySem.W.codeIn K cd8 "alike" = true) (k8 : PySem.W.keepIn K (.ref f8) = true)
    {f9 : Addr} {od9 an9 : Option Addr} {sl9 : Array (Option Value)} {oc9 kV9 dc9 pm9 cd9 ct9 : Value}
    (a9 : PySem.W.nsIn K mainGlobals "beside" = some (some (.ref f9))) (l9 : K.lookup f9 = some ⟨oc9, od9, .func (PySem.W.fnOf "beside" "beside" (defArgs s_beside) (defBody s_beside) (defScope s_beside) .none kV9 dc9 pm9 an9 cd9 ct9), sl9⟩) (c9 : PySem.W.codeIn K cd9 "beside" = true) (k9 : PySem.W.keepIn K (.ref f9) = true)
    {f10 : Addr} {od10 an10 : Option Addr} {sl10 : Array (Option Value)} {oc10 kV10 dc10 pm10 cd10 ct10 : Value}
    (a10 : PySem.W.nsIn K mainGlobals "common" = some (some (.ref f10))) (l10 : K.lookup f10 = some ⟨oc10, od10, .func (PySem.W.fnOf "common" "common" (defArgs s_common) (defBody s_common) (defScope s_common) .none kV10 dc10 pm10 an10 cd10 ct10), sl10⟩) (c10 : PySem.W.codeIn K cd10 "common" = true) (k10 : PySem.W.keepIn K (.ref f10) = true)
    {f11 : Addr} {od11 an11 : Option Addr} {sl11 : Array (Option Value)} {oc11 kV11 dc11 pm11 cd11 ct11 : Value}
    (a11 : PySem.W.nsIn K mainGlobals "having" = some (some (.ref f11))) (l11 : K.lookup f11 = some ⟨oc11, od11, .func (PySem.W.fnOf "having" "having" (defArgs s_having) (defBody s_having) (defScope s_having) .none kV11 dc11 pm11 an11 cd11 ct11), sl11⟩) (c11 : PySem.W.codeIn K cd11 "having" = true) (k11 : PySem.W.keepIn K (.ref f11) = true)
    {f12 : Addr} {od12 an12 : Option Addr} {sl12 : Array (Option Value)} {oc12 kV12 dc12 pm12 cd12 ct12 : Value}
    (a12 : PySem.W.nsIn K mainGlobals "taken" = some (some (.ref f12))) (l12 : K.lookup f12 = some ⟨oc12, od12, .func (PySem.W.fnOf "taken" "taken" (defArgs s_taken) (defBody s_taken) (defScope s_taken) .none kV12 dc12 pm12 an12 cd12 ct12), sl12⟩) (c12 : PySem.W.codeIn K cd12 "taken" = true) (k12 : PySem.W.keepIn K (.ref f12) = true)
    {f13 : Addr} {od13 an13 : Option Addr} {sl13 : Array (Option Value)} {oc13 kV13 dc13 pm13 cd13 ct13 : Value}
    (a13 : PySem.W.nsIn K mainGlobals "_law_told" = some (some (.ref f13))) (l13 : K.lookup f13 = some ⟨oc13, od13, .func (PySem.W.fnOf "_law_told" "_law_told" (defArgs s__law_told) (defBody s__law_told) (defScope s__law_told) .none kV13 dc13 pm13 an13 cd13 ct13), sl13⟩) (c13 : PySem.W.codeIn K cd13 "_law_told" = true) (k13 : PySem.W.keepIn K (.ref f13) = true)
    {f14 : Addr} {od14 an14 : Option Addr} {sl14 : Array (Option Value)} {oc14 kV14 dc14 pm14 cd14 ct14 : Value}
    (a14 : PySem.W.nsIn K mainGlobals "_law_right" = some (some (.ref f14))) (l14 : K.lookup f14 = some ⟨oc14, od14, .func (PySem.W.fnOf "_law_right" "_law_right" (defArgs s__law_right) (defBody s__law_right) (defScope s__law_right) .none kV14 dc14 pm14 an14 cd14 ct14), sl14⟩) (c14 : PySem.W.codeIn K cd14 "_law_right" = true) (k14 : PySem.W.keepIn K (.ref f14) = true)
    {f15 : Addr} {od15 an15 : Option Addr} {sl15 : Array (Option Value)} {oc15 kV15 dc15 pm15 cd15 ct15 : Value}
    (a15 : PySem.W.nsIn K mainGlobals "_law_draws" = some (some (.ref f15))) (l15 : K.lookup f15 = some ⟨oc15, od15, .func (PySem.W.fnOf "_law_draws" "_law_draws" (defArgs s__law_draws) (defBody s__law_draws) (defScope s__law_draws) .none kV15 dc15 pm15 an15 cd15 ct15), sl15⟩) (c15 : PySem.W.codeIn K cd15 "_law_draws" = true) (k15 : PySem.W.keepIn K (.ref f15) = true)
    {f16 : Addr} {od16 an16 : Option Addr} {sl16 : Array (Option Value)} {oc16 kV16 dc16 pm16 cd16 ct16 : Value}
    (a16 : PySem.W.nsIn K mainGlobals "law" = some (some (.ref f16))) (l16 : K.lookup f16 = some ⟨oc16, od16, .func (PySem.W.fnOf "law" "law" (defArgs s_law) (defBody s_law) (defScope s_law) .none kV16 dc16 pm16 an16 cd16 ct16), sl16⟩) (c16 : PySem.W.codeIn K cd16 "law" = true) (k16 : PySem.W.keepIn K (.ref f16) = true)
    (z0 : PySem.W.nsIn K mainGlobals "bool" = some none)
    (z1 : PySem.W.nsIn K mainGlobals "isinstance" = some none)
    (z2 : PySem.W.nsIn K mainGlobals "len" = some none)
    (z3 : PySem.W.nsIn K mainGlobals "list" = some none)
    (z4 : PySem.W.nsIn K mainGlobals "min" = some none)
    (z5 : PySem.W.nsIn K mainGlobals "range" = some none)
    (z6 : PySem.W.nsIn K mainGlobals "set" = some none)
    (z7 : PySem.W.nsIn K mainGlobals "sorted" = some none)
    (z8 : PySem.W.nsIn K mainGlobals "str" = some none)
    (z9 : PySem.W.nsIn K mainGlobals "sum" = some none)
    (z10 : PySem.W.nsIn K mainGlobals "tuple" = some none)
    (z11 : PySem.W.nsIn K mainGlobals "zip" = some none) :
    Cf w K mg ⟨K, clsOf mg, refOf mg, T, noHp⟩ where
    hK := rfl
    h__law_next := has_mk X Gh a0 l0 c0 k0 fun _ _ _ _ _ _ us hl => match us, hl with | [_], _ => rfl
    h__law_rows_of := has_mk X Gh a1 l1 c1 k1 fun _ _ _ _ _ _ us hl => match us, hl with | [_], _ => rfl
    h__law_done := has_mk X Gh a2 l2 c2 k2 fun _ _ _ _ _ _ us hl => match us, hl with | [_, _, _, _], _ => rfl
    h__law_closed := has_mk X Gh a3 l3 c3 k3 fun _ _ _ _ _ _ us hl => match us, hl with | [_, _], _ => rfl
    h__law_deed := has_mk X Gh a4 l4 c4 k4 fun _ _ _ _ _ _ us hl => match us, hl with | [_], _ => rfl
    h__law_table := has_mk X Gh a5 l5 c5 k5 fun _ _ _ _ _ _ us hl => match us, hl with | [_, _, _], _ => rfl
    h__law_same_width := has_mk X Gh a6 l6 c6 k6 fun _ _ _ _ _ _ us hl => match us, hl with | [_, _], _ => rfl
    h__law_narrow := has_mk X Gh a7 l7 c7 k7 fun _ _ _ _ _ _ us hl => match us, hl with | [_, _], _ => rfl
    h_alike := has_mk X Gh a8 l8 c8 k8 fun _ _ _ _ _ _ us hl => match us, hl with | [_, _, _], _ => rfl
    h_beside := has_mk X Gh a9 l9 c9 k9 fun _ _ _ _ _ _ us hl => match us, hl with | [_, _], _ => rfl
    h_common := has_mk X Gh a10 l10 c10 k10 fun _ _ _ _ _ _ us hl => match us, hl with | [_, _], _ => rfl
    h_having := has_mk X Gh a11 l11 c11 k11 fun _ _ _ _ _ _ us hl => match us, hl with | [_, _, _], _ => rfl
    h_taken := has_mk X Gh a12 l12 c12 k12 fun _ _ _ _ _ _ us hl => match us, hl with | [_, _], _ => rfl
    h__law_told := has_mk X Gh a13 l13 c13 k13 fun _ _ _ _ _ _ us hl => match us, hl with | [_, _, _], _ => rfl
    h__law_right := has_mk X Gh a14 l14 c14 k14 fun _ _ _ _ _ _ us hl => match us, hl with | [_], _ => rfl
    h__law_draws := has_mk X Gh a15 l15 c15 k15 fun _ _ _ _ _ _ us hl => match us, hl with | [_], _ => rfl
    h_law := has_mk X Gh a16 l16 c16 k16 fun _ _ _ _ _ _ us hl => match us, hl with | [_], _ => rfl
    z_bool := PySem.W.mg_none_of X Gh z0
    z_isinstance := PySem.W.mg_none_of X Gh z1
    z_len := PySem.W.mg_none_of X Gh z2
    z_list := PySem.W.mg_none_of X Gh z3
    z_min := PySem.W.mg_none_of X Gh z4
    z_range := PySem.W.mg_none_of X Gh z5
    z_set := PySem.W.mg_none_of X Gh z6
    z_sorted := PySem.W.mg_none_of X Gh z7
    z_str := PySem.W.mg_none_of X Gh z8
    z_sum := PySem.W.mg_none_of X Gh z9
    z_tuple := PySem.W.mg_none_of X Gh z10
    z_zip := PySem.W.mg_none_of X Gh z11
end
end K02

/-! MH: how the combinators compute; the draws -/
namespace MP
open PySem PySem.Spec PyProof.Rows L2
/-! ### computing -/
section
variable {S : Store} {η : En} {n : Nat}
theorem var_at {i : Nat} {v : Vl} (h : η[i]? = some (some v)) : var i η S = .ok v S := by unfold var; rw [h]
theorem oPow_106 : oPow (.d (.int 10)) (.d (.int 6)) S = .ok (.d (.int 1000000)) S := by unfold oPow arI; simp only; rw [if_pos (by decide +kernel)]; rfl
theorem oPow_1018 : oPow (.d (.int 10)) (.d (.int 18)) S = .ok (.d (.int 1000000000000000000)) S := by unfold oPow arI; simp only; rw [if_pos (by decide +kernel)]; rfl
/-- 10 ^ 9000 -/
def tenB : Int := 10 ^ 9000
theorem tenB_pos : 0 < tenB := by unfold tenB; exact Int.pow_pos (by decide)
theorem oPow_60 : oPow (.d (.int 10)) (.d (.int 60)) S = .ok (.d (.int (10 ^ 60))) S := by unfold oPow arI; simp only; rw [if_pos (by decide +kernel)]; rfl
theorem oPow_50 : oPow (.d (.int (10 ^ 60))) (.d (.int 50)) S = .ok (.d (.int (10 ^ 3000))) S := by
  unfold oPow arI; simp only; rw [if_pos (by decide +kernel)]
  rw [show (10 ^ 60 : Int) ^ (50 : Int).toNat = 10 ^ 3000 by rw [show (50 : Int).toNat = 50 from rfl, ← Int.pow_mul]]
theorem oPow_3 : oPow (.d (.int (10 ^ 3000))) (.d (.int 3)) S = .ok (.d (.int tenB)) S := by
  unfold oPow arI; simp only; rw [if_pos (by decide +kernel)]
  rw [show (10 ^ 3000 : Int) ^ (3 : Int).toNat = tenB by unfold tenB; rw [show (3 : Int).toNat = 3 from rfl, ← Int.pow_mul]]
end
def nextB : Stm :=
    (seqS (setI (bin oAdd (bin oIx (var 0) (cst (.int 1))) (cst (.int 1))) (var 0) (cst (.int 1)))
      (seqS (asg 1 (bin oIx (var 0) (cst (.int 1))))
      (seqS (wipS [2] (ifS (asB (bin oIx (var 0) (cst (.int 2))))
      (seqS (wipS [1] (asg 2 (bin oMod (bin oIx (var 0) (cst (.int 0))) (bin oPow (cst (.int 10)) (cst (.int 6))))))
      (seqS (wipS [0] (setI (bin oDiv (bin oIx (var 0) (cst (.int 0))) (bin oPow (cst (.int 10)) (cst (.int 6)))) (var 0) (cst (.int 0))))
      (ret (var 2)))) nextS))
      (seqS (wipS [0, 1] (asg 2 (bin oMod (bin oMul (bin oAdd (bin oAdd (bin oMod (bin oIx (var 0) (cst (.int 0))) (cst (.int 1000003))) (bin oMul (bin oMul (var 1) (var 1)) (cst (.int 7919)))) (var 1)) (cst (.int 48271))) (cst (.int 2147483629)))))
      (seqS (asg 2 (bin oMod (bin oMul (var 2) (var 2)) (cst (.int 2147483587))))
      (ret (bin oDiv (bin oMod (bin oMul (var 2) (bin oAdd (var 2) (cst (.int 2)))) (cst (.int 2147483579))) (cst (.int 7)))))))))
def nextF : Fn := fnF 1 3 .frz nextB
/-- the draws stand in the first cell; at most n were drawn -/
def Dr (n : Nat) (r : List (Option Cl)) (S : Store) : Prop := ∃ a k b, S = ⟨some (.l [.int a, .int k, .bl b]) :: r⟩ ∧ 0 ≤ k ∧ k ≤ n
theorem Dr.mono {n m : Nat} {r S} (h : Dr n r S) (hm : n ≤ m) : Dr m r S := by
  obtain ⟨a, k, b, e, h0, h1⟩ := h
  exact ⟨a, k, b, e, h0, by omega⟩
theorem ix3 {a b c : D} {r : List (Option Cl)} : oIx (.p 0) (.d (.int 0)) ⟨some (.l [a, b, c]) :: r⟩ = .ok (.d a) ⟨some (.l [a, b, c]) :: r⟩ ∧ oIx (.p 0) (.d (.int 1)) ⟨some (.l [a, b, c]) :: r⟩ = .ok (.d b) ⟨some (.l [a, b, c]) :: r⟩ ∧ oIx (.p 0) (.d (.int 2)) ⟨some (.l [a, b, c]) :: r⟩ = .ok (.d c) ⟨some (.l [a, b, c]) :: r⟩ := ⟨rfl, rfl, rfl⟩
theorem set3 {a b c d : D} {r : List (Option Cl)} : setV (.p 0) (.d (.int 0)) (.d d) ⟨some (.l [a, b, c]) :: r⟩ = some ⟨some (.l [d, b, c]) :: r⟩ ∧ setV (.p 0) (.d (.int 1)) (.d d) ⟨some (.l [a, b, c]) :: r⟩ = some ⟨some (.l [a, d, c]) :: r⟩ := ⟨rfl, rfl⟩
theorem oMul_i {a b : Int} {S : Store} (h : mulOk a b = true) : oMul (.d (.int a)) (.d (.int b)) S = .ok (.d (.int (a * b))) S := by unfold oMul; simp [h]
theorem oAdd_i {a b : Int} {S : Store} : oAdd (.d (.int a)) (.d (.int b)) S = .ok (.d (.int (a + b))) S := rfl
theorem oSub_i {a b : Int} {S : Store} : oSub (.d (.int a)) (.d (.int b)) S = .ok (.d (.int (a - b))) S := rfl
theorem oMod_i {a b : Int} {S : Store} (h : 0 < b) : oMod (.d (.int a)) (.d (.int b)) S = .ok (.d (.int (a % b))) S := by unfold oMod arI; simp [h]
theorem oDiv_i {a b : Int} {S : Store} (h : 0 < b) (h2 : b < 1073741824) : oDiv (.d (.int a)) (.d (.int b)) S = .ok (.d (.int (a / b))) S := by unfold oDiv arI; simp [h, h2]
theorem mulOk_r {a b : Int} (h : 0 ≤ b ∧ b < 18446744073709551616) : mulOk a b = true := by unfold mulOk; simp; omega
theorem mulOk_l {a b : Int} (h : 0 ≤ a ∧ a < 18446744073709551616) : mulOk a b = true := by unfold mulOk; simp; omega
def drawsB : Stm :=
    (seqS (ifS (asB (bin oLt (var 0) (bin oPow (cst (.int 10)) (cst (.int 18)))))
      (ret (new (lstE (consA (var 0) (consA (cst (.int 0)) (consA (cst (.bl false)) nilA)))))) nextS)
      (ret (new (lstE (consA (bin oMod (var 0) (bin oPow (bin oPow (bin oPow (cst (.int 10)) (cst (.int 60))) (cst (.int 50))) (cst (.int 3)))) (consA (cst (.int 0)) (consA (cst (.bl true)) nilA)))))))
theorem pow3E : bin oPow (bin oPow (bin oPow (cst (.int 10)) (cst (.int 60))) (cst (.int 50))) (cst (.int 3)) = cst (.int tenB) := by
  funext η S
  show (Res.bind (Res.bind (oPow (.d (.int 10)) (.d (.int 60)) S) fun x S1 => oPow x (.d (.int 50)) S1) fun x S1 => oPow x (.d (.int 3)) S1) = _
  rw [oPow_60]
  show (Res.bind (oPow (.d (.int (10 ^ 60))) (.d (.int 50)) S) fun x S1 => oPow x (.d (.int 3)) S1) = _
  rw [oPow_50]
  exact oPow_3
def drawsF : Fn := fnF 1 1 .mut drawsB
/-! ### runs -/
section
variable {n i : Nat} {η : En} {S S1 : Store} {e : Ex} {c : Te} {rest a b : Stm} {P : Vl → Store → Prop} {v : Vl} {is : List Nat} {k : Bool}
end
/-! ### loops -/
/-! ### small things -/
def il (ns : List Int) : List D := ns.map .int
theorem bind_ok {α β : Type} (a : α) (S : Store) (k : α → Store → Res β) : Res.bind (.ok a S) k = k a S := rfl
theorem rng1_eq (j : Int) (S : Store) : rng1 [.d (.int j)] S = if -4611686018427387904 ≤ j ∧ j < 4611686018427387904 then .ok (rangeD 0 j.toNat) S else .stuck := rfl
/-! ### steps whose outcome is only said to exist -/
section
variable {n i : Nat} {η : En} {S : Store} {e : Ex} {c : Te} {rest a b : Stm} {P : Vl → Store → Prop} {is : List Nat} {Q : Vl → Store → Prop}
end
section
variable {η : En} {S : Store} {E : Ex} {L : Li}
end
/-! ### equal things -/
mutual
theorem eqvD_rfl : ∀ (n : Nat) (d : D), okD n d = true → eqvD d d = true
  | _, .non, _ => by unfold eqvD; rfl
  | _, .bl _, _ => by unfold eqvD; simp
  | _, .int _, _ => by unfold eqvD; simp
  | _, .str _, _ => by unfold eqvD; simp
  | 0, .tup _, h => by simp [okD] at h
  | 0, .lst _, h => by simp [okD] at h
  | n + 1, .tup xs, h => by unfold eqvD; exact eqvDs_rfl n xs fun x hx => by unfold okD at h; exact List.all_eq_true.mp h x hx
  | n + 1, .lst xs, h => by unfold eqvD; exact eqvDs_rfl n xs fun x hx => by unfold okD at h; exact List.all_eq_true.mp h x hx
  | 0, .obj _ _ _, h => by simp [okD] at h
  | 0, .err _, h => by simp [okD] at h
  | 0, .dct _ _, h => by simp [okD] at h
  | 0, .scr _, h => by simp [okD] at h
  | 0, .fn _, h => by simp [okD] at h
  | n + 1, .fn _, h => by simp [okD] at h
  | n + 1, .obj _ _ _, h => by simp [okD] at h
  | n + 1, .err _, h => by simp [okD] at h
  | n + 1, .dct _ _, h => by simp [okD] at h
  | n + 1, .scr _, h => by simp [okD] at h
theorem eqvDs_rfl : ∀ (n : Nat) (ds : List D), (∀ d ∈ ds, okD n d = true) → eqvDs ds ds = true
  | _, [], _ => by unfold eqvDs; rfl
  | n, d :: ds, h => by
    unfold eqvDs
    rw [eqvD_rfl n d (h d (List.mem_cons_self ..)), eqvDs_rfl n ds fun x hx => h x (List.mem_cons_of_mem _ hx)]
    rfl
end
theorem okL {n : Nat} {ds : List D} (h : ∀ d ∈ ds, okD n d = true) : okD (n + 1) (.lst ds) = true := by unfold okD; exact List.all_eq_true.mpr h
theorem asB_of {E : Ex} {η : En} {S S1 : Store} {b : Bool} (h : E η S = .ok (.d (.bl b)) S1) : asB E η S = .ok b S1 := by unfold asB; rw [h]; rfl
theorem bin_of {g : Vl → Vl → Store → Res Vl} {a b : Ex} {η : En} {S S1 S2 S3 : Store} {x y v : Vl} (h1 : a η S = .ok x S1) (h2 : b η S1 = .ok y S2) (h3 : g x y S2 = .ok v S3) : bin g a b η S = .ok v S3 := by
  unfold bin; rw [h1, bind_ok, h2, bind_ok, h3]
theorem frz_of {L : Li} {η : En} {S S1 : Store} {l : List D} (h : L η S = .ok l S1) : frz L η S = .ok (.d (.lst l)) S1 := by unfold frz; rw [h]; rfl
theorem call_of {F : Fn} {a : As} {η : En} {S S1 S2 : Store} {xs : List Vl} {v : Vl} (h1 : a η S = .ok xs S1) (h2 : F xs S1 = .ok v S2) : callE F a η S = .ok v S2 := by unfold callE; rw [h1]; exact h2
theorem cons_of {e : Ex} {r : As} {η : En} {S S1 S2 : Store} {x : Vl} {xs : List Vl} (h1 : e η S = .ok x S1) (h2 : r η S1 = .ok xs S2) : consA e r η S = .ok (x :: xs) S2 := by unfold consA; rw [h1, bind_ok, h2]; rfl
theorem nil_of {η : En} {S : Store} : nilA η S = .ok [] S := rfl
theorem add_lst {a b : List D} {S : Store} (h : a.length + b.length ≤ 16777216) : oAdd (.d (.lst a)) (.d (.lst b)) S = .ok (.d (.lst (a ++ b))) S := by
  show (if a.length + b.length ≤ 16777216 then _ else _) = _
  rw [if_pos h]
/-- the cells that a law looks at -/
theorem cells_of {η : En} {ns : List Int} {k : Nat} (h0 : η[0]? = some (some (.d (.scr ns)))) (hl : ns.length ≤ 63) : seqI (bin oAdd (slE (var 0) paN (paI (cst (.int k)))) (frz (lstE (consA (cst (.int 0)) nilA)))) η ⟨[]⟩ = .ok (il (ns.take k ++ [0])) ⟨[]⟩ := by
  have hc : cutD (ns.map D.int) none (some (k : Int)) = (ns.take k).map D.int := by
    unfold cutD
    rw [HT.sIx_none, List.drop_zero, Nat.sub_zero, HT.sIx_nat, List.length_map, List.map_take]
    by_cases h10 : k ≤ ns.length
    · rw [Nat.min_eq_left h10]
    · rw [Nat.min_eq_right (by omega), List.take_of_length_le (by rw [List.length_map]; exact Nat.le_refl _), List.take_of_length_le (by rw [List.length_map]; omega)]
  have e1 : slE (var 0) paN (paI (cst (.int k))) η ⟨[]⟩ = .ok (.d (.lst ((ns.take k).map D.int))) ⟨[]⟩ := by
    unfold slE
    rw [var_at h0]
    show slV (.d (.scr ns)) none (some (k : Int)) ⟨[]⟩ = _
    unfold slV
    simp only [hc]
  have e2 : frz (lstE (consA (cst (.int 0)) nilA)) η ⟨[]⟩ = .ok (.d (.lst [.int 0])) ⟨[]⟩ := by simp [frz, lstE, consA, nilA, cst, allD]
  have e3 := bin_of (g := oAdd) e1 e2 (add_lst (by rw [List.length_map, List.length_take, List.length_singleton]; omega))
  unfold seqI
  rw [e3, bind_ok]
  unfold il
  rw [List.map_append]
  rfl
end MP

/-! TP: typed values; a def's run, typed -/
namespace MP
open PySem PySem.Spec PyProof.Rows L2
/-! ### embeddings -/
structure Tx where
  s : PySem.Str
  ok : PyData.strOk s = true
  deriving DecidableEq
instance : Inhabited Tx := ⟨⟨"", by decide +kernel⟩⟩
abbrev eS (t : Tx) : D := .str t.s
abbrev eL {α : Type} (e : α → D) (xs : List α) : D := .lst (xs.map e)
abbrev eT {α : Type} (e : α → D) (xs : List α) : D := .tup (xs.map e)
abbrev eP2 {α β : Type} (e : α → D) (f : β → D) (p : α × β) : D := .tup [e p.1, f p.2]
abbrev eP3 {α β γ : Type} (e : α → D) (f : β → D) (g : γ → D) (p : α × β × γ) : D := .tup [e p.1, f p.2.1, g p.2.2]
structure EqE {α : Type} [DecidableEq α] (k : Nat) (e : α → D) : Prop where
  eq : ∀ x y, eqvD (e x) (e y) = decide (x = y)
  ok : ∀ x, okD k (e x) = true
theorem eqI {k : Nat} : EqE k D.int := ⟨fun x y => by unfold eqvD; exact Bool.beq_eq_decide_eq x y, fun x => by cases k <;> rfl⟩
theorem eqS {k : Nat} : EqE k eS := ⟨fun x y => by
    cases x; cases y
    show eqvD (.str _) (.str _) = _
    unfold eqvD
    rw [Bool.eq_iff_iff]; simp, fun x => by cases k <;> exact x.ok⟩
theorem eqvDs_map {α : Type} [DecidableEq α] {k : Nat} {e : α → D} (h : EqE k e) : ∀ xs ys : List α, eqvDs (xs.map e) (ys.map e) = decide (xs = ys)
  | [], [] => by simp [eqvDs]
  | [], _ :: _ => by simp [eqvDs]
  | _ :: _, [] => by simp [eqvDs]
  | x :: xs, y :: ys => by
    simp only [List.map_cons, eqvDs, h.eq, eqvDs_map h xs ys]
    by_cases h1 : x = y <;> by_cases h2 : xs = ys <;> simp [h1, h2]
theorem eqT {α : Type} [DecidableEq α] {k : Nat} {e : α → D} (h : EqE k e) : EqE (k + 1) (eT e) := ⟨fun x y => by show eqvD (.tup _) (.tup _) = _; unfold eqvD; exact eqvDs_map h x y, fun x => by show okD (k + 1) (.tup _) = true; unfold okD; simp [h.ok]⟩
theorem eqL {α : Type} [DecidableEq α] {k : Nat} {e : α → D} (h : EqE k e) : EqE (k + 1) (eL e) := ⟨fun x y => by show eqvD (.lst _) (.lst _) = _; unfold eqvD; exact eqvDs_map h x y, fun x => by show okD (k + 1) (.lst _) = true; unfold okD; simp [h.ok]⟩
theorem eqP2 {α β : Type} [DecidableEq α] [DecidableEq β] {k : Nat} {e : α → D} {f : β → D} (h : EqE k e) (g : EqE k f) : EqE (k + 1) (eP2 e f) := ⟨fun x y => by
    obtain ⟨x1, x2⟩ := x; obtain ⟨y1, y2⟩ := y
    show eqvD (.tup _) (.tup _) = _
    unfold eqvD; simp only [eqvDs, h.eq, g.eq, Bool.and_true]
    by_cases h1 : x1 = y1 <;> by_cases h2 : x2 = y2 <;> simp [h1, h2], fun x => by show okD (k + 1) (.tup _) = true; unfold okD; simp [h.ok, g.ok]⟩
/-- what is never None -/
def NN {α : Type} (e : α → D) : Prop := ∀ x, (match e x with | .non => false | _ => true) = true
theorem NN.l {α : Type} {e : α → D} (h : NN e) (x : α) : eqvD (e x) .non = false := by
  have := h x
  cases q : e x <;> rw [q] at this <;> first | rfl | cases this
theorem NN.r {α : Type} {e : α → D} (h : NN e) (x : α) : eqvD .non (e x) = false := by
  have := h x
  cases q : e x <;> rw [q] at this <;> first | rfl | cases this
/-! ### control -/
@[reducible] def bnd {α β : Sort _} (a : α) (f : α → β) : β := f a
@[reducible] def lett {α β : Sort _} (a : α) (f : α → β) : β := f a
inductive Oc (σ ρ : Type) where | nx (s : σ) | rt (r : ρ)
@[simp] def Oc.el {σ ρ ω : Type} (o : Oc σ ρ) (f : σ → ω) (q : ρ → ω) : ω := match o with
  | .nx s => f s
  | .rt r => q r
@[simp] def Oc.all {σ ρ : Type} (o : Oc σ ρ) (P : σ → Prop) : Prop := match o with
  | .nx s => P s
  | .rt _ => True
def SR.go (k kc : En → Store → SR) : SR → SR
  | .next η S => k η S
  | .cont η S => kc η S
  | r => r
def SR.isEnd : SR → Prop
  | .ret _ _ => True
  | .exc _ _ _ => True
  | _ => False
structure GT {ρ : Type} (fn : SR → Res Vl) (Rs : ρ → Res Vl) (r : SR) (p : ρ) : Prop where
  h : fn r = Rs p
structure GN {σ : Type} (E : σ → En × Store) (r : SR) (s : σ) : Prop where
  h : r = .next (E s).1 (E s).2 ∨ r = .cont (E s).1 (E s).2
structure G1 {σ : Type} (E : σ → En × Store) (r : SR) (s : σ) : Prop where
  h : r = .next (E s).1 (E s).2
inductive GO {σ ρ : Type} (fn : SR → Res Vl) (E : σ → En × Store) (Rs : ρ → Res Vl) (r : SR) : Oc σ ρ → Prop
  | nx {s : σ} : (r = .next (E s).1 (E s).2 ∨ r = .cont (E s).1 (E s).2) → GO fn E Rs r (.nx s)
  | rt {p : ρ} : r.isEnd → fn r = Rs p → GO fn E Rs r (.rt p)
def loopO {α σ ρ : Type} (f : α → σ → Oc σ ρ) : List α → σ → Oc σ ρ
  | [], s => .nx s
  | x :: xs, s => match f x s with
    | .nx s' => loopO f xs s'
    | .rt r => .rt r
def loopF {α σ : Type} (f : α → σ → σ) : List α → σ → σ
  | [], s => s
  | x :: xs, s => loopF f xs (f x s)
def loopP {α σ ρ : Type} (P : α → σ → Prop) (f : α → σ → Oc σ ρ) : List α → σ → Prop
  | [], _ => True
  | x :: xs, s => P x s ∧ (f x s).all fun s' => loopP P f xs s'
def foldP {α σ : Type} (P : α → σ → Prop) (f : α → σ → σ) : List α → σ → Prop
  | [], _ => True
  | x :: xs, s => P x s ∧ foldP P f xs (f x s)
def whl {σ : Type} (c : σ → Bool) (f : σ → σ) : Nat → σ → σ
  | 0, s => s
  | k + 1, s => if c s = true then whl c f k (f s) else s
def whlP {σ : Type} (c : σ → Bool) (f : σ → σ) (Pc P : σ → Prop) : Nat → σ → Prop
  | 0, _ => False
  | k + 1, s => Pc s ∧ (c s = true → P s ∧ whlP c f Pc P k (f s))
/-! ### the store -/
def Store.pl (S : Store) (cs : List Cl) : Store := ⟨S.L ++ cs.map some⟩
theorem pl_nil (S : Store) : S.pl [] = S := by unfold Store.pl; simp
theorem pl_len {S : Store} {cs : List Cl} : (S.pl cs).L.length = S.L.length + cs.length := by unfold Store.pl; simp
theorem pl_at {S : Store} {cs : List Cl} {m j : Nat} {c : Cl} (hm : S.L.length + j = m) (hc : cs[j]? = some c) : (S.pl cs).L[m]? = some (some c) := by
  subst hm; unfold Store.pl
  rw [List.getElem?_append_right (by omega), Nat.add_sub_cancel_left, List.getElem?_map, hc]; rfl
theorem pl_take {S : Store} {cs : List Cl} {m j : Nat} (hm : S.L.length + j = m) : (⟨(S.pl cs).L.take m⟩ : Store) = S.pl (cs.take j) := by
  subst hm; unfold Store.pl
  rw [List.take_append, List.take_of_length_le (by omega), Nat.add_sub_cancel_left, List.map_take]
theorem pl_set {S : Store} {cs : List Cl} {m j : Nat} {c : Cl} (hm : S.L.length + j = m) : (⟨(S.pl cs).L.set m (some c)⟩ : Store) = S.pl (cs.set j c) := by
  subst hm; unfold Store.pl
  rw [List.set_append_right _ _ (by omega), Nat.add_sub_cancel_left, List.map_set]
theorem seqL_at {S : Store} {m : Nat} {c : List D} (h : S.L[m]? = some (some (.l c))) : seqL S (.p m) = some c := by
  show (match S.L[m]? with | some (some (.l ds)) => some ds | _ => none) = _; rw [h]
theorem seqL_pl {S : Store} {cs : List Cl} {m j : Nat} {c : List D} (hm : S.L.length + j = m) (hc : cs[j]? = some (.l c)) : seqL (S.pl cs) (.p m) = some c := seqL_at (pl_at hm hc)
theorem seqV_pl {S : Store} {cs : List Cl} {m j : Nat} {c : List D} (hm : S.L.length + j = m) (hc : cs[j]? = some (.l c)) : seqV (S.pl cs) (.p m) = some c := by
  show seqL (S.pl cs) (.p m) = _; exact seqL_pl hm hc
theorem rd_d {S : Store} {d : D} : rd S (.d d) = some d := by unfold rd; rfl
theorem rd_at {S : Store} {m : Nat} {c : List D} (h : S.L[m]? = some (some (.l c))) : rd S (.p m) = some (.lst c) := by
  unfold rd; rw [h]
theorem rd_pl {S : Store} {cs : List Cl} {m j : Nat} {c : List D} (hm : S.L.length + j = m) (hc : cs[j]? = some (.l c)) : rd (S.pl cs) (.p m) = some (.lst c) := rd_at (pl_at hm hc)
/-! ### a run -/
section
variable {ω : Type} {Φ : SR → ω → Prop} {n i : Nat} {η : En} {S S1 : Store} {e : Ex} {c : Te} {rest a b : Stm} {is : List Nat} {k kc : En → Store → SR} {o : ω}
theorem g_seq (h : Φ ((a n η S).go (fun η S => (b n η S).go k kc) kc) o) : Φ ((seqS a b n η S).go k kc) o := by
  have e : (seqS a b n η S).go k kc = (a n η S).go (fun η S => (b n η S).go k kc) kc := by
    unfold seqS
    cases a n η S <;> rfl
  rw [e]; exact h
theorem g_wip (h : Φ ((a n η S).go (fun η S => k (wipeE is η) S) (fun η S => kc (wipeE is η) S)) o) : Φ ((wipS is a n η S).go k kc) o := by
  have e : (wipS is a n η S).go k kc = (a n η S).go (fun η S => k (wipeE is η) S) (fun η S => kc (wipeE is η) S) := by
    unfold wipS
    cases a n η S <;> rfl
  rw [e]; exact h
theorem g_reg (h : Φ ((a n η S).go (fun η' S' => k (wipeE is (frEn S.L.length S' η')) ⟨S'.L.take S.L.length⟩) (fun η' S' => kc (wipeE is (frEn S.L.length S' η')) ⟨S'.L.take S.L.length⟩)) o) : Φ ((regS is a n η S).go k kc) o := by
  have e : (regS is a n η S).go k kc = (a n η S).go (fun η' S' => k (wipeE is (frEn S.L.length S' η')) ⟨S'.L.take S.L.length⟩) (fun η' S' => kc (wipeE is (frEn S.L.length S' η')) ⟨S'.L.take S.L.length⟩) := by
    unfold regS
    cases a n η S <;> rfl
  rw [e]; exact h
theorem g_fz (h : Φ ((a n η S).go (fun η' S' => k (wipeE is (frEn n S' η')) ⟨S'.L.take n⟩) (fun η' S' => kc (wipeE is (frEn n S' η')) ⟨S'.L.take n⟩)) o) : Φ ((fzS is a n η S).go k kc) o := by
  have e : (fzS is a n η S).go k kc = (a n η S).go (fun η' S' => k (wipeE is (frEn n S' η')) ⟨S'.L.take n⟩) (fun η' S' => kc (wipeE is (frEn n S' η')) ⟨S'.L.take n⟩) := by
    unfold fzS
    cases a n η S <;> rfl
  rw [e]; exact h
theorem g_nx (h : Φ (k η S) o) : Φ ((nextS n η S).go k kc) o := h
theorem g_asg {α : Type} (vv : α → Vl) (SS : α → Store) {x : α} {f : α → ω} {Pr : α → Prop} (hp : lett x Pr) (h : e η S = .ok (vv x) (SS x)) (hk : ∀ y, Pr y → Φ (k (η.set i (some (vv y))) (SS y)) (f y)) : Φ ((asg i e n η S).go k kc) (lett x f) := by
  unfold asg; rw [h]; exact hk x hp
theorem g_drop {α : Type} (SS : α → Store) {x : α} {f : α → ω} {v : Vl} {Pr : α → Prop} (hp : lett x Pr) (h : e η S = .ok v (SS x)) (hk : ∀ y, Pr y → Φ (k η (SS y)) (f y)) : Φ ((drop e n η S).go k kc) (lett x f) := by
  unfold drop; rw [h]; exact hk x hp
theorem g_asgT {α : Type} {t : Tg} (vv : α → Vl) (SS : α → Store) (ηη : α → En) {x : α} {f : α → ω} {Pr : α → Prop} (hp : lett x Pr) (h : e η S = .ok (vv x) (SS x)) (ht : ∀ y, t (vv y) η = some (ηη y)) (hk : ∀ y, Pr y → Φ (k (ηη y) (SS y)) (f y)) : Φ ((asgT t e n η S).go k kc) (lett x f) := by
  unfold asgT; rw [h]
  show Φ (SR.go k kc (match t (vv x) η with | some η' => .next η' (SS x) | none => .stuck)) _
  rw [ht]; exact hk x hp
theorem g_if {cv : Bool} {oA oB : ω} (h : c η S = .ok cv S1) (hA : cv = true → Φ ((a n η S1).go k kc) oA) (hB : cv = false → Φ ((b n η S1).go k kc) oB) : Φ ((ifS c a b n η S).go k kc) (if cv = true then oA else oB) := by
  unfold ifS; rw [h]
  cases cv with
  | true => exact hA rfl
  | false => exact hB rfl
theorem g_ifD {α : Type} (cc : α → Bool) (SS : α → Store) {x : α} {oA oB : α → ω} {Pr : α → Prop} (hp : lett x Pr) (h : c η S = .ok (cc x) (SS x)) (hk : ∀ y, Pr y → (cc y = true → Φ ((a n η (SS y)).go k kc) (oA y)) ∧ (cc y = false → Φ ((b n η (SS y)).go k kc) (oB y))) : Φ ((ifS c a b n η S).go k kc) (lett x fun y => if cc y = true then oA y else oB y) := by
  unfold ifS; rw [h]
  obtain ⟨h1, h2⟩ := hk x hp
  show Φ (SR.go k kc (if cc x = true then a n η (SS x) else b n η (SS x))) (if cc x = true then oA x else oB x)
  cases q : cc x with
  | true => exact h1 q
  | false => exact h2 q
theorem go_next {r : SR} {η : En} {S : Store} (h : r.go .next (fun _ _ => .stuck) = .next η S) : r = .next η S := by
  cases r <;> first | exact h | cases h
/-- what both ways of an if, or a whole block, leave -/
theorem g_join {σ : Type} (E : σ → En × Store) {s : σ} {f : σ → ω} {Pr : σ → Prop} (hp : lett s Pr) (hJ : G1 E ((a n η S).go .next (fun _ _ => .stuck)) s) (hk : ∀ s, Pr s → Φ (k (E s).1 (E s).2) (f s)) : Φ ((a n η S).go k kc) (lett s f) := by
  rw [go_next hJ.h]; exact hk s hp
end
theorem gn_nx {σ : Type} {E : σ → En × Store} {s : σ} {η : En} {S : Store} (h1 : (E s).1 = η) (h2 : (E s).2 = S) : GN E (.next η S) s := ⟨by rw [h1, h2]; exact .inl rfl⟩
theorem gt_ret {ρ : Type} {fn : SR → Res Vl} {Rs : ρ → Res Vl} {p : ρ} {e : Ex} {n : Nat} {η : En} {S S1 : Store} {v : Vl} {k kc : En → Store → SR} (h : e η S = .ok v S1) (hf : fn (.ret v S1) = Rs p) : GT fn Rs ((ret e n η S).go k kc) p := by
  refine ⟨?_⟩
  unfold ret; rw [h]; exact hf
theorem go_ret {σ ρ : Type} {fn : SR → Res Vl} {Rs : ρ → Res Vl} {E : σ → En × Store} {p : ρ} {e : Ex} {n : Nat} {η : En} {S S1 : Store} {v : Vl} {k kc : En → Store → SR} (h : e η S = .ok v S1) (hf : fn (.ret v S1) = Rs p) : GO fn E Rs ((ret e n η S).go k kc) (.rt p) := by
  unfold ret; rw [h]; exact .rt trivial hf
/-! loops -/
section
variable {α σ ρ ω : Type} {n : Nat} {η : En} {S S1 : Store} {t : Tg} {it : Li} {b : Stm} {k kc : En → Store → SR} {em : α → D} {xs : List α} {s0 : σ} {fn : SR → Res Vl} {Rs : ρ → Res Vl}
theorem loop_fold (E : σ → En × Store) {f : α → σ → σ} {P : α → σ → Prop} (hb : ∀ x s, P x s → ∃ η1, t (.d (em x)) (E s).1 = some η1 ∧ GN E ((b n η1 (E s).2).go .next .cont) (f x s)) : ∀ (xs : List α) (s : σ), foldP P f xs s → loopL t b n (xs.map em) (E s).1 (E s).2 = .next (E (loopF f xs s)).1 (E (loopF f xs s)).2
  | [], s, _ => rfl
  | x :: xs, s, hp => by
    obtain ⟨η1, h1, h2⟩ := hb x s hp.1
    have ih := loop_fold E hb xs (f x s) hp.2
    rw [List.map_cons]
    unfold loopL
    rw [h1]
    have : (b n η1 (E s).2).go .next .cont = b n η1 (E s).2 := by cases b n η1 (E s).2 <;> rfl
    rw [this] at h2
    rcases h2.h with h2 | h2 <;> simp only [h2] <;> exact ih
theorem g_for {Φ : SR → ω → Prop} (E : σ → En × Store) {f : α → σ → σ} {P : α → σ → Prop} {o : σ → ω} {Pr : σ → Prop} (hi : it η S = .ok (xs.map em) S1) (h1 : (E s0).1 = η) (h2 : (E s0).2 = S1) (hp : foldP P f xs s0)
    (hb : ∀ x s, P x s → ∃ η1, t (.d (em x)) (E s).1 = some η1 ∧ GN E ((b n η1 (E s).2).go .next .cont) (f x s)) (hq : lett (loopF f xs s0) Pr) (hk : ∀ s, Pr s → Φ (k (E s).1 (E s).2) (o s)) : Φ ((forS t it b n η S).go k kc) (lett (loopF f xs s0) o) := by
  unfold forS; rw [hi]
  show Φ (SR.go k kc (loopL t b n (xs.map em) η S1)) _
  rw [← h1, ← h2, loop_fold E hb xs s0 hp]
  exact hk _ hq
theorem loop_exit (E : σ → En × Store) {f : α → σ → Oc σ ρ} {P : α → σ → Prop} (hb : ∀ x s, P x s → ∃ η1, t (.d (em x)) (E s).1 = some η1 ∧ GO fn E Rs ((b n η1 (E s).2).go .next .cont) (f x s)) : ∀ (xs : List α) (s : σ), loopP P f xs s → match loopO f xs s with
    | .nx s' => loopL t b n (xs.map em) (E s).1 (E s).2 = .next (E s').1 (E s').2
    | .rt p => (loopL t b n (xs.map em) (E s).1 (E s).2).isEnd ∧ fn (loopL t b n (xs.map em) (E s).1 (E s).2) = Rs p
  | [], s, _ => rfl
  | x :: xs, s, hp => by
    obtain ⟨η1, h1, h2⟩ := hb x s hp.1
    have hp2 := hp.2
    rw [List.map_cons]
    unfold loopO
    have eq : loopL t b n (em x :: xs.map em) (E s).1 (E s).2 = match b n η1 (E s).2 with
      | .next η2 S2 => loopL t b n (xs.map em) η2 S2
      | .cont η2 S2 => loopL t b n (xs.map em) η2 S2
      | .brk η2 S2 => .next η2 S2
      | r => r := by
        show (match t (.d (em x)) (E s).1 with | none => SR.stuck | some η1 => _) = _
        rw [h1]
        all_goals try dsimp only
        all_goals try (cases b n η1 (E s).2 <;> rfl)
    rw [eq]
    have : (b n η1 (E s).2).go .next .cont = b n η1 (E s).2 := by cases b n η1 (E s).2 <;> rfl
    rw [this] at h2
    cases q : f x s with
    | nx s' =>
      rw [q] at h2 hp2
      have ih := loop_exit E hb xs s' hp2
      cases h2 with
      | nx h2 => rcases h2 with h2 | h2 <;> simp only [h2] <;> exact ih
    | rt p =>
      rw [q] at h2
      cases h2 with
      | rt h3 h4 =>
      cases z : b n η1 (E s).2 <;> rw [z] at h3 h4 <;> first | exact ⟨h3, h4⟩ | cases h3
theorem go_end {r : SR} (h : r.isEnd) : r.go k kc = r := by cases r <;> first | rfl | cases h
theorem gt_for (E : σ → En × Store) {f : α → σ → Oc σ ρ} {P : α → σ → Prop} {o : σ → ρ} {Pr : σ → Prop} (hi : it η S = .ok (xs.map em) S1) (h1 : (E s0).1 = η) (h2 : (E s0).2 = S1) (hp : loopP P f xs s0)
    (hb : ∀ x s, P x s → ∃ η1, t (.d (em x)) (E s).1 = some η1 ∧ GO fn E Rs ((b n η1 (E s).2).go .next .cont) (f x s)) (hq : (loopO f xs s0).all Pr) (hk : ∀ s, Pr s → GT fn Rs (k (E s).1 (E s).2) (o s)) : GT fn Rs ((forS t it b n η S).go k kc) ((loopO f xs s0).el o (fun r => r)) := by
  have hl := loop_exit (n := n) (fn := fn) (Rs := Rs) E hb xs s0 hp
  unfold forS; rw [hi]
  show GT fn Rs (SR.go k kc (loopL t b n (xs.map em) η S1)) _
  rw [← h1, ← h2]
  cases q : loopO f xs s0 with
  | nx s' => rw [q] at hl hq; rw [hl]; exact hk s' hq
  | rt p => rw [q] at hl; rw [go_end hl.1]; exact ⟨hl.2⟩
theorem g_whl {Φ : SR → ω → Prop} {m : Nat} {ct : Te} (E : σ → En × Store) {c : σ → Bool} {f : σ → σ} {Pc P : σ → Prop} {o : σ → ω} {Pr : σ → Prop} (h1 : (E s0).1 = η) (h2 : (E s0).2 = S) (hp : whlP c f Pc P m s0)
    (hc : ∀ s, Pc s → ct (E s).1 (E s).2 = .ok (c s) (E s).2) (hb : ∀ s, P s → GN E ((b n (E s).1 (E s).2).go .next .cont) (f s)) (hq : lett (whl c f m s0) Pr) (hk : ∀ s, Pr s → Φ (k (E s).1 (E s).2) (o s)) : Φ ((whileS m ct b n η S).go k kc) (lett (whl c f m s0) o) := by
  have key : ∀ (m : Nat) (s : σ), whlP c f Pc P m s → loopW ct b n m (E s).1 (E s).2 = .next (E (whl c f m s)).1 (E (whl c f m s)).2 := by
    intro m
    induction m with
    | zero => intro s h; exact h.elim
    | succ m ih =>
      intro s h
      unfold loopW whl
      rw [hc s h.1]
      cases q : c s with
      | false => simp
      | true =>
        obtain ⟨p1, p2⟩ := h.2 q
        have hb' := hb s p1
        have e : (b n (E s).1 (E s).2).go .next .cont = b n (E s).1 (E s).2 := by cases b n (E s).1 (E s).2 <;> rfl
        rw [e] at hb'
        rcases hb'.h with h | h <;> simp only [Res.st, if_true, h] <;> exact ih _ p2
  show Φ (SR.go k kc (loopW ct b n m η S)) _
  rw [← h1, ← h2, key m s0 hp]
  exact hk _ hq
end
/-! a def -/
theorem fn_run {ρ : Type} {np ns : Nat} {m : FM} {b : Stm} {args : List Vl} {S : Store} {Rs : ρ → Res Vl} {p : ρ} (η : En) (hl : args.length = np) (hη : args.map some ++ List.replicate (ns - np) none = η)
    (h : GT (fin m S.L.length) Rs ((b S.L.length η (S.pl [])).go (fun _ S' => .ret (.d .non) S') .cont) p) : fnF np ns m b args S = Rs p := by
  unfold fnF
  rw [if_pos hl, hη]
  rw [pl_nil] at h
  rw [← h.h]
  cases b S.L.length η S <;> rfl
theorem fin_d {n : Nat} {x : D} {S : Store} {cs : List Cl} (h : S.L.length = n) : fin .frz n (.ret (.d x) (S.pl cs)) = .ok (.d x) S := by
  show (match frV n (S.pl cs) (.d x) with | some v' => Res.ok v' ⟨(S.pl cs).L.take n⟩ | none => .stuck) = _
  have : frV n (S.pl cs) (.d x) = some (.d x) := rfl
  rw [this]
  show Res.ok _ (⟨(S.pl cs).L.take n⟩ : Store) = _
  rw [pl_take (j := 0) (by omega)]; simp [pl_nil]
theorem fin_mc {n m j : Nat} {S : Store} {cs : List Cl} {c : List D} (h : S.L.length = n) (hm : n + j = m) (hc : cs[j]? = some (.l c)) : fin .mut n (.ret (.p m) (S.pl cs)) = .ok (.p n) (S.pl [c]) := by
  have e : (S.pl cs).L[m]? = some (some (.l c)) := pl_at (by omega) hc
  show (if m < n then _ else match (S.pl cs).L[m]? with | some (some (.l ds)) => Res.ok (Vl.p n) ⟨(S.pl cs).L.take n ++ [some (Cl.l ds)]⟩ | _ => .stuck) = _
  rw [if_neg (by omega), e]
  have := pl_take (S := S) (cs := cs) (m := n) (j := 0) (by omega)
  have h2 : (S.pl cs).L.take n = S.L := by have := congrArg Store.L this; simpa [pl_nil] using this
  show Res.ok _ (⟨(S.pl cs).L.take n ++ [some (Cl.l c)]⟩ : Store) = _
  rw [h2]; rfl
/-! regions -/
section
variable {m : Nat} {S : Store} {η η2 : En}
theorem fe_nil : frEn m S [] = [] := rfl
theorem fe_none (h : frEn m S η = η2) : frEn m S (none :: η) = none :: η2 := by rw [← h]; rfl
theorem fe_d {x : D} (h : frEn m S η = η2) : frEn m S (some (.d x) :: η) = some (.d x) :: η2 := by rw [← h]; rfl
theorem fe_c {k : Nat} {c : List D} (hk : ¬ k < m) (hc : S.L[k]? = some (some (.l c))) (h : frEn m S η = η2) : frEn m S (some (.p k) :: η) = some (.d (.lst c)) :: η2 := by
  rw [← h]; unfold frEn; rw [List.map_cons]; congr 1; simp [frV, res, hk, hc]
theorem go_nxR {σ ρ : Type} {fn : SR → Res Vl} {Rs : ρ → Res Vl} {E : σ → En × Store} {s : σ} {is : List Nat} {n : Nat} {η η2 : En} {S : Store} (hf : frEn n S η = η2) (h1 : (E s).1 = wipeE is η2) (h2 : (⟨S.L.take n⟩ : Store) = (E s).2) : GO fn E Rs (.next (wipeE is (frEn n S η)) ⟨S.L.take n⟩) (.nx s) := .nx (by rw [hf, h1, h2]; exact .inl rfl)
end
end MP

/-! TX: typed expressions -/
namespace MP
open PySem PySem.Spec PyProof.Rows L2
theorem okD_up : ∀ (n : Nat) (d : D), okD n d = true → okD (n + 1) d = true
  | n + 1, .tup xs, h => by
    unfold okD at h ⊢
    exact List.all_eq_true.mpr fun x hx => okD_up n x (List.all_eq_true.mp h x hx)
  | n + 1, .lst xs, h => by
    unfold okD at h ⊢
    exact List.all_eq_true.mpr fun x hx => okD_up n x (List.all_eq_true.mp h x hx)
  | 0, .non, _ => rfl
  | 0, .bl _, _ => rfl
  | 0, .int _, _ => rfl
  | 0, .str _, h => h
  | n + 1, .non, _ => rfl
  | n + 1, .bl _, _ => rfl
  | n + 1, .int _, _ => rfl
  | n + 1, .str _, h => h
  | 0, .tup _, h => by simp [okD] at h
  | 0, .lst _, h => by simp [okD] at h
  | 0, .obj _ _ _, h => by simp [okD] at h
  | 0, .err _, h => by simp [okD] at h
  | 0, .dct _ _, h => by simp [okD] at h
  | 0, .scr _, h => by simp [okD] at h
  | 0, .fn _, h => by simp [okD] at h
  | n + 1, .fn _, h => by simp [okD] at h
  | n + 1, .obj _ _ _, h => by simp [okD] at h
  | n + 1, .err _, h => by simp [okD] at h
  | n + 1, .dct _ _, h => by simp [okD] at h
  | n + 1, .scr _, h => by simp [okD] at h
/-- the thing at a place -/
def ix {α : Type} [Inhabited α] (xs : List α) (i : Int) : α := (atI xs i).getD default
theorem ix_nat {α : Type} [Inhabited α] {xs : List α} {j : Nat} (h : j < xs.length) : ix xs (j : Int) = xs[j] := by
  unfold ix; rw [atI_nat (List.getElem?_eq_getElem h)]; rfl
theorem atI_ix {α : Type} [Inhabited α] {xs : List α} {i : Int} (h : -(xs.length : Int) ≤ i ∧ i < xs.length) : atI xs i = some (ix xs i) := by
  unfold ix atI ixN
  by_cases h0 : 0 ≤ i
  · rw [if_pos h0, if_pos h.2]
    have : i.toNat < xs.length := by omega
    simp [List.getElem?_eq_getElem this]
  · rw [if_neg h0, if_pos h.1]
    have : (i + xs.length).toNat < xs.length := by omega
    simp [List.getElem?_eq_getElem this]
theorem atI_map {α β : Type} {f : α → β} {xs : List α} {i : Int} : atI (xs.map f) i = (atI xs i).map f := by
  unfold atI
  rw [List.length_map]
  cases ixN xs.length i with
  | none => rfl
  | some j => simp
def upto (j : Int) : List Int := (List.range j.toNat).map fun (i : Nat) => (i : Int)
theorem upto_len {j : Int} : (upto j).length = j.toNat := by unfold upto; simp
theorem upto_mem {j x : Int} : x ∈ upto j ↔ 0 ≤ x ∧ x < j := by
  unfold upto; simp only [List.mem_map, List.mem_range]
  constructor
  · rintro ⟨a, h, rfl⟩; omega
  · rintro ⟨h1, h2⟩; exact ⟨x.toNat, by omega, by omega⟩
section
variable {n i : Nat} {η : En} {S S1 S2 S3 : Store} {a b c : Ex} {u v : Vl}
theorem xv {j : Nat} {v : Vl} (h : η[j]? = some (some v)) : var j η S = .ok v S := var_at h
theorem xi {j : Int} : cst (.int j) η S = .ok (.d (.int j)) S := rfl
theorem xb {j : Bool} : cst (.bl j) η S = .ok (.d (.bl j)) S := rfl
theorem xs {j : PySem.Str} : cst (.str j) η S = .ok (.d (.str j)) S := rfl
theorem x_add {x y : Int} (ha : a η S = .ok (.d (.int x)) S1) (hb : b η S1 = .ok (.d (.int y)) S2) : bin oAdd a b η S = .ok (.d (.int (x + y))) S2 := bin_of ha hb oAdd_i
theorem x_sub {x y : Int} (ha : a η S = .ok (.d (.int x)) S1) (hb : b η S1 = .ok (.d (.int y)) S2) : bin oSub a b η S = .ok (.d (.int (x - y))) S2 := bin_of ha hb oSub_i
theorem x_mul {x y : Int} (h : mulOk x y = true) (ha : a η S = .ok (.d (.int x)) S1) (hb : b η S1 = .ok (.d (.int y)) S2) : bin oMul a b η S = .ok (.d (.int (x * y))) S2 := bin_of ha hb (oMul_i h)
theorem mul_l {x y : Int} (h : -18446744073709551616 < x ∧ x < 18446744073709551616) : mulOk x y = true := by unfold mulOk; simp; omega
theorem x_mod {x y : Int} (h : 0 < y) (ha : a η S = .ok (.d (.int x)) S1) (hb : b η S1 = .ok (.d (.int y)) S2) : bin oMod a b η S = .ok (.d (.int (x % y))) S2 := bin_of ha hb (oMod_i h)
theorem x_div {x y : Int} (h : 0 < y ∧ y < 1073741824) (ha : a η S = .ok (.d (.int x)) S1) (hb : b η S1 = .ok (.d (.int y)) S2) : bin oDiv a b η S = .ok (.d (.int (x / y))) S2 := bin_of ha hb (oDiv_i h.1 h.2)
theorem x_gt {x y : Int} (ha : a η S = .ok (.d (.int x)) S1) (hb : b η S1 = .ok (.d (.int y)) S2) : bin oGt a b η S = .ok (.d (.bl (decide (y < x)))) S2 := bin_of ha hb rfl
theorem intsD_map : ∀ ns : List Int, intsD (ns.map D.int) = some ns
  | [] => rfl
  | n :: ns => by simp [intsD, intsD_map ns]
def eqb {α : Type} [DecidableEq α] (x y : α) : Bool := decide (x = y)
def mem {α : Type} [DecidableEq α] (x : α) (xs : List α) : Bool := decide (x ∈ xs)
section
variable {α : Type} [DecidableEq α] {em : α → D} {x y : α} {xs : List α}
@[simp] theorem eqb_iff : eqb x y = true ↔ x = y := by unfold eqb; simp
@[simp] theorem eqb_iff' : eqb x y = false ↔ ¬ x = y := by unfold eqb; simp
@[simp] theorem mem_iff : mem x xs = true ↔ x ∈ xs := by unfold mem; simp
@[simp] theorem mem_iff' : mem x xs = false ↔ ¬ x ∈ xs := by unfold mem; simp
theorem x_eq (hE : EqE 60 em) (ha : a η S = .ok u S1) (hb : b η S1 = .ok v S2) (hu : rd S2 u = some (em x)) (hv : rd S2 v = some (em y)) : bin (oEq false) a b η S = .ok (.d (.bl (eqb x y))) S2 := bin_of ha hb (by
  unfold oEq; rw [hu, hv]; show (if (okD 60 (em x) && okD 60 (em y)) = true then _ else _) = _; rw [hE.ok, hE.ok, hE.eq]; rfl)
theorem x_ne (hE : EqE 60 em) (ha : a η S = .ok u S1) (hb : b η S1 = .ok v S2) (hu : rd S2 u = some (em x)) (hv : rd S2 v = some (em y)) : bin (oEq true) a b η S = .ok (.d (.bl (!eqb x y))) S2 := bin_of ha hb (by
  unfold oEq; rw [hu, hv]; show (if (okD 60 (em x) && okD 60 (em y)) = true then _ else _) = _; rw [hE.ok, hE.ok, hE.eq]; rfl)
theorem any_map {k : Nat} (hE : EqE k em) : ∀ {xs : List α}, ((xs.map em).any fun z => eqvD z (em x)) = decide (x ∈ xs)
  | [] => rfl
  | z :: zs => by
    rw [List.map_cons, List.any_cons, any_map hE, hE.eq]
    by_cases h1 : x = z
    · subst h1
      rw [decide_eq_true rfl, decide_eq_true (List.mem_cons_self ..)]; rfl
    · rw [decide_eq_false (fun h => h1 h.symm), Bool.false_or]
      by_cases h2 : x ∈ zs
      · rw [decide_eq_true h2, decide_eq_true (List.mem_cons_of_mem _ h2)]
      · rw [decide_eq_false h2, decide_eq_false (fun h => (List.mem_cons.mp h).elim h1 h2)]
theorem oIn_l {neg : Bool} (hE : EqE 59 em) (hu : rd S u = some (em x)) (hv : seqL S v = some (xs.map em)) : oIn neg u v S = .ok (.d (.bl (if neg then !decide (x ∈ xs) else decide (x ∈ xs)))) S := by
  have key : (match rd S u, seqL S v with
    | some a, some ds => if (okD 60 a && okD 60 (.lst ds)) = true then Res.ok (Vl.d (.bl (if neg then !ds.any (fun z => eqvD z a) else ds.any (fun z => eqvD z a)))) S else .stuck
    | _, _ => .stuck) = Res.ok (Vl.d (.bl (if neg then !decide (x ∈ xs) else decide (x ∈ xs)))) S := by
    rw [hu, hv]
    have h2 : okD 60 (.lst (xs.map em)) = true := okL fun d hd => by
      obtain ⟨z, _, rfl⟩ := List.mem_map.mp hd
      exact hE.ok z
    simp only [okD_up 59 _ (hE.ok x), h2, Bool.and_self, if_true, any_map hE]
  unfold oIn
  split
  · simp [seqL] at hv
  · simp [seqL] at hv
  · exact key
theorem x_in (hE : EqE 59 em) (ha : a η S = .ok u S1) (hb : b η S1 = .ok v S2) (hu : rd S2 u = some (em x)) (hv : seqL S2 v = some (xs.map em)) : bin (oIn false) a b η S = .ok (.d (.bl (mem x xs))) S2 := bin_of ha hb (oIn_l hE hu hv)
theorem x_nin (hE : EqE 59 em) (ha : a η S = .ok u S1) (hb : b η S1 = .ok v S2) (hu : rd S2 u = some (em x)) (hv : seqL S2 v = some (xs.map em)) : bin (oIn true) a b η S = .ok (.d (.bl (!mem x xs))) S2 := bin_of ha hb (oIn_l hE hu hv)
end
section
variable {α : Type} {em : α → D} {xs : List α}
theorem seqV_notStr {ds : List D} (hv : seqV S v = some ds) : oIx v (.d (.int j)) S = match atI ds j with | some d => .ok (.d d) S | none => .stuck := by
  unfold oIx
  split
  · rename_i e; cases e
    split
    · simp [seqV, seqL] at hv
    · simp [seqV, seqL] at hv
    · rw [hv]
      all_goals try dsimp only
      all_goals try (cases atI ds j <;> rfl)
  · rename_i h; exact absurd rfl (h _)
theorem x_ix [Inhabited α] {j : Int} (h : -(xs.length : Int) ≤ j ∧ j < xs.length) (ha : a η S = .ok v S1) (hb : b η S1 = .ok (.d (.int j)) S2) (hv : seqV S2 v = some (xs.map em)) : bin oIx a b η S = .ok (.d (em (ix xs j))) S2 := bin_of ha hb (by
  rw [seqV_notStr hv, atI_map, atI_ix h]; rfl)
theorem x_pr {ds : List D} {d : D} {j : Int} (ha : a η S = .ok (.d (.tup ds)) S1) (h : atI ds j = some d) : bin oIx a (cst (.int j)) η S = .ok (.d d) S1 := bin_of ha rfl (by
  rw [seqV_notStr (ds := ds) rfl, h])
theorem x_len (ha : a η S = .ok v S1) (hv : seqV S1 v = some (xs.map em)) : cal bLen (consA a nilA) η S = .ok (.d (.int (xs.length : Int))) S1 := by
  unfold cal
  rw [cons_of ha nil_of, bind_ok]
  have : lenV S1 v = some xs.length := by
    unfold lenV
    split
    · simp [seqV, seqL] at hv
    · simp [seqV, seqL] at hv
    · simp [seqV, seqL] at hv
    · rw [hv]; simp
  unfold bLen; simp only [this]
theorem x_tupleL (ha : a η S = .ok v S1) (hv : seqL S1 v = some (xs.map em)) : cal bTuple (consA a nilA) η S = .ok (.d (eT em xs)) S1 := by
  unfold cal
  rw [cons_of ha nil_of, bind_ok]
  unfold bTuple
  split
  · rename_i e; cases e; simp [seqL] at hv
  · rename_i e; cases e; rw [hv]
  · rename_i h; exact absurd rfl (h _)
theorem x_list (ha : a η S = .ok v S1) (hv : seqV S1 v = some (xs.map em)) : calL bList (consA a nilA) η S = .ok (xs.map em) S1 := by
  unfold calL
  rw [cons_of ha nil_of, bind_ok]
  unfold bList; simp only [hv]
theorem x_addT {ys : List α} (h : xs.length + ys.length ≤ 16777216) (ha : a η S = .ok (.d (eT em xs)) S1) (hb : b η S1 = .ok (.d (eT em ys)) S2) : bin oAdd a b η S = .ok (.d (eT em (xs ++ ys))) S2 := bin_of ha hb (by
  unfold oAdd; simp only [List.length_map]; rw [if_pos h]; unfold eT; rw [List.map_append])
theorem oAdd_l {p q : List D} (hu : seqL S u = some p) (hv : seqL S v = some q) (h : p.length + q.length ≤ 16777216) : oAdd u v S = .ok (.d (.lst (p ++ q))) S := by
  have key : (match seqL S u, seqL S v with
    | some a, some b => if a.length + b.length ≤ 16777216 then Res.ok (Vl.d (.lst (a ++ b))) S else .stuck
    | _, _ => .stuck) = Res.ok (Vl.d (.lst (p ++ q))) S := by rw [hu, hv]; simp [h]
  unfold oAdd
  split
  · simp [seqL] at hu
  · simp [seqL] at hu
  · simp [seqL] at hu
  · simp [seqL] at hu
  · exact key
theorem x_addL {ys : List α} (h : xs.length + ys.length ≤ 16777216) (ha : a η S = .ok u S1) (hb : b η S1 = .ok v S2) (hu : seqL S2 u = some (xs.map em)) (hv : seqL S2 v = some (ys.map em)) : bin oAdd a b η S = .ok (.d (eL em (xs ++ ys))) S2 := bin_of ha hb (by
  rw [oAdd_l hu hv (by simpa using h)]; unfold eL; rw [List.map_append])
theorem x_min2 {x y : Int} (ha : a η S = .ok (.d (.int x)) S1) (hb : b η S1 = .ok (.d (.int y)) S2) : cal bMin2 (consA a (consA b nilA)) η S = .ok (.d (.int (if y < x then y else x))) S2 := by
  unfold cal; rw [cons_of ha (cons_of hb nil_of), bind_ok]; rfl
/-! sorted -/
def sortT (rs : List (List Int)) : List (List Int) := isort HT.lexLt rs
theorem insBy_map {α β : Type} {f : α → β} {lt : α → α → Bool} {lt' : β → β → Bool} (h : ∀ x y, lt' (f x) (f y) = lt x y) (x : α) : ∀ l : List α, insBy lt' (f x) (l.map f) = (insBy lt x l).map f
  | [] => rfl
  | y :: r => by
    simp only [List.map_cons, insBy, h]
    by_cases q : lt y x = true
    · rw [if_pos q, if_pos q, List.map_cons, insBy_map h x r]
    · rw [if_neg q, if_neg q, List.map_cons, List.map_cons]
theorem isort_map {α β : Type} {f : α → β} {lt : α → α → Bool} {lt' : β → β → Bool} (h : ∀ x y, lt' (f x) (f y) = lt x y) : ∀ l : List α, isort lt' (l.map f) = (isort lt l).map f
  | [] => rfl
  | x :: r => by simp only [List.map_cons, isort, isort_map h r, insBy_map h]
theorem x_sortT {rs : List (List Int)} (h : ∀ r ∈ rs, r ≠ []) (ha : a η S = .ok v S1) (hv : seqL S1 v = some (rs.map (eT D.int))) : calL bSorted (consA a nilA) η S = .ok ((sortT rs).map (eT D.int)) S1 := by
  unfold calL; rw [cons_of ha nil_of, bind_ok]; unfold bSorted; simp only [hv]
  rw [if_pos (by
    rw [Bool.or_eq_true]; right
    refine List.all_eq_true.mpr fun d hd => ?_
    obtain ⟨z, hz, rfl⟩ := List.mem_map.mp hd
    show isTupI (.tup (z.map D.int)) = true
    cases z with
    | nil => exact absurd rfl (h _ hz)
    | cons y z =>
      unfold isTupI; simp only [intsD_map])]
  rw [isort_map (lt := HT.lexLt) fun x y => by
    show HT.lexLt ((intsD (x.map D.int)).getD []) ((intsD (y.map D.int)).getD []) = _
    rw [intsD_map, intsD_map]; rfl]
  rfl
end
theorem x_frz {L : Li} {ds : List D} (h : L η S = .ok ds S1) : frz L η S = .ok (.d (.lst ds)) S1 := frz_of h
theorem x_new {L : Li} {cs : List Cl} {ds : List D} {m : Nat} (h : L η S = .ok ds (S1.pl cs)) (hm : S1.L.length + cs.length = m) : new L η S = .ok (.p m) (S1.pl (cs ++ [.l ds])) := by
  subst hm; unfold new; rw [h]
  show Res.ok (Vl.p (S1.pl cs).L.length) (⟨(S1.pl cs).L ++ [some (.l ds)]⟩ : Store) = _
  rw [pl_len]; unfold Store.pl; simp
theorem allD_map : ∀ ds : List D, allD (ds.map Vl.d) = some ds
  | [] => rfl
  | d :: ds => by simp [allD, allD_map ds]
theorem x_lst {r : As} {ds : List D} (h : r η S = .ok (ds.map Vl.d) S1) (hz : ds.length ≤ 16777216) : lstE r η S = .ok ds S1 := by
  unfold lstE; rw [h, bind_ok, List.length_map, if_pos hz, allD_map]
theorem x_tup {r : As} {ds : List D} (h : r η S = .ok (ds.map Vl.d) S1) (hz : ds.length ≤ 16777216) : tupE r η S = .ok (.d (.tup ds)) S1 := by
  unfold tupE; rw [h, bind_ok, List.length_map, if_pos hz, allD_map]
section
variable {α β γ : Type} {em : α → D} {e2 : β → D} {e3 : γ → D} {x : α} {y : β} {z : γ} {r : As}
theorem l_nilT (em : α → D) : nilA η S = .ok ((([] : List α).map em).map Vl.d) S := rfl
theorem l_consT {xs : List α} (h : a η S = .ok (.d (em x)) S1) (hr : r η S1 = .ok ((xs.map em).map Vl.d) S2) : consA a r η S = .ok (((x :: xs).map em).map Vl.d) S2 := cons_of h hr
theorem x_tupT {xs : List α} (h : r η S = .ok ((xs.map em).map Vl.d) S1) (hz : xs.length ≤ 16777216) : tupE r η S = .ok (.d (eT em xs)) S1 := x_tup h (by rw [List.length_map]; exact hz)
theorem x_lstT {xs : List α} (h : r η S = .ok ((xs.map em).map Vl.d) S1) (hz : xs.length ≤ 16777216) : lstE r η S = .ok (xs.map em) S1 := x_lst h (by rw [List.length_map]; exact hz)
theorem x_tup2 (ha : a η S = .ok (.d (em x)) S1) (hb : b η S1 = .ok (.d (e2 y)) S2) : tupE (consA a (consA b nilA)) η S = .ok (.d (eP2 em e2 (x, y))) S2 := x_tup (ds := [em x, e2 y]) (cons_of ha (cons_of hb nil_of)) (by show 2 ≤ _; decide)
theorem x_p21 {p : α × β} (h : a η S = .ok (.d (eP2 em e2 p)) S1) : bin oIx a (cst (.int 0)) η S = .ok (.d (em p.1)) S1 := x_pr h rfl
theorem x_p22 {p : α × β} (h : a η S = .ok (.d (eP2 em e2 p)) S1) : bin oIx a (cst (.int 1)) η S = .ok (.d (e2 p.2)) S1 := x_pr h rfl
end
/-! conditions -/
theorem t_b {x : Bool} (h : a η S = .ok (.d (.bl x)) S1) : asB a η S = .ok x S1 := asB_of h
section
variable {p q : Te} {x y : Bool}
theorem t_not (h : p η S = .ok x S1) : notT p η S = .ok (!x) S1 := by unfold notT; rw [h]; rfl
theorem t_and (h : p η S = .ok x S) (h2 : x = true → q η S = .ok y S) : andT p q η S = .ok (x && y) S := by
  unfold andT; rw [h]; cases x with
  | true => exact h2 rfl
  | false => rfl
theorem t_or (h : p η S = .ok x S) (h2 : x = false → q η S = .ok y S) : orT p q η S = .ok (x || y) S := by
  unfold orT; rw [h]; cases x with
  | true => rfl
  | false => exact h2 rfl
end
theorem x_isi {T t : String} {r : Bool} (h : a η S = .ok v S1) (ht : tyN S1 v = some t) (hr : (t == T || (t == "bool" && T == "int")) = r) : una (isD T) a η S = .ok (.d (.bl r)) S1 := by
  unfold una; rw [h]
  show isD T v S1 = _
  unfold isD; rw [ht, ← hr]
theorem x_call {F : Fn} {A : As} {xs : List Vl} (h : A η S = .ok xs S1) (hF : F xs S1 = .ok v S2) : callE F A η S = .ok v S2 := call_of h hF
theorem a_nil : nilA η S = .ok [] S := rfl
theorem a_cons {r : As} {xs : List Vl} (h : a η S = .ok v S1) (hr : r η S1 = .ok xs S2) : consA a r η S = .ok (v :: xs) S2 := cons_of h hr
/-! cells -/
section
variable {cs : List Cl} {m j : Nat} {c : List D} {d : D}
theorem x_app (ho : a η S = .ok (.p m) S) (hS : S = S1.pl cs) (hm : S1.L.length + j = m) (hc : cs[j]? = some (.l c)) (hb : b η S = .ok (.d d) S) (hz : c.length < 16777216) : mutE gAppend a (consA b nilA) η S = .ok (.d .non) (S1.pl (cs.set j (.l (c ++ [d])))) := by
  subst hS
  unfold mutE; rw [ho, bind_ok]
  have e := pl_at hm hc
  have h1 : isP (S1.pl cs) (.p m) = true := by unfold isP; simp only [e]
  rw [if_pos h1, cons_of hb nil_of, bind_ok]
  unfold mutV
  simp only [e, gAppend, hz, if_true]
  rw [pl_set hm]
theorem x_ext {ds : List D} (ho : a η S = .ok (.p m) S) (hS : S = S1.pl cs) (hm : S1.L.length + j = m) (hc : cs[j]? = some (.l c)) (hb : b η S = .ok v S) (hv : seqL S v = some ds) (hz : c.length + ds.length ≤ 16777216) : mutE gExtend a (consA b nilA) η S = .ok (.d .non) (S1.pl (cs.set j (.l (c ++ ds)))) := by
  subst hS
  unfold mutE; rw [ho, bind_ok]
  have e := pl_at hm hc
  have h1 : isP (S1.pl cs) (.p m) = true := by unfold isP; simp only [e]
  rw [if_pos h1, cons_of hb nil_of, bind_ok]
  unfold mutV
  simp only [e, gExtend, hv, hz, if_true]
  rw [pl_set hm]
end
/-! slices -/
section
variable {α : Type} {em : α → D} {xs : List α} {lo hi : Option Int} {l h : Pa}
theorem pa_n : paN η S = .ok none S := rfl
theorem pa_i {j : Int} (ha : a η S = .ok (.d (.int j)) S1) : paI a η S = .ok (some j) S1 := by unfold paI; rw [ha]; rfl
theorem cutD_map {β : Type} {f : α → β} : cutD (xs.map f) lo hi = (cutD xs lo hi).map f := by
  unfold cutD; rw [List.length_map, ← List.map_drop, ← List.map_take]
theorem x_slT (ha : a η S = .ok (.d (eT em xs)) S) (hl : l η S = .ok lo S) (hh : h η S = .ok hi S) : slE a l h η S = .ok (.d (eT em (cutD xs lo hi))) S := by
  unfold slE; rw [ha, bind_ok, hl, bind_ok, hh, bind_ok]
  show Res.ok (Vl.d (.tup (cutD (xs.map em) lo hi))) S = _
  rw [cutD_map]
end
/-! what is gone through -/
theorem i_seq {ds : List D} (ha : a η S = .ok v S1) (hv : itemsD v = some ds) : seqI a η S = .ok ds S1 := by unfold seqI; rw [ha, bind_ok, hv]
theorem i_rng1 {j : Int} (ha : a η S = .ok (.d (.int j)) S1) (hj : -1000000 ≤ j ∧ j ≤ 1000000) : rngI1 (consA a nilA) η S = .ok ((upto j).map D.int) S1 := by
  unfold rngI1; rw [cons_of ha nil_of, bind_ok, rng1_eq, if_pos (by omega)]
  unfold rangeD upto; rw [List.map_map]; congr 1
  exact List.map_congr_left fun x _ => by simp
section
variable {α β γ : Type} {e1 : α → D} {e2 : β → D} {e3 : γ → D} {xs : List α} {ys : List β} {zs : List γ} {w : Vl}
def zip3 : List α → List β → List γ → List (α × β × γ)
  | x :: xs, y :: ys, z :: zs => (x, y, z) :: zip3 xs ys zs
  | _, _, _ => []
theorem zip3D_map : ∀ (xs : List α) (ys : List β) (zs : List γ), zip3D (xs.map e1) (ys.map e2) (zs.map e3) = (zip3 xs ys zs).map (eP3 e1 e2 e3)
  | x :: xs, y :: ys, z :: zs => by simp only [List.map_cons, zip3D, zip3, zip3D_map xs ys zs]
  | [], _, _ => rfl
  | _ :: _, [], _ => rfl
  | _ :: _, _ :: _, [] => rfl
theorem i_zip3 (ha : a η S = .ok u S1) (hb : b η S1 = .ok v S2) (hc : c η S2 = .ok w S3) (hu : itemsT u = some (xs.map e1)) (hv : itemsT v = some (ys.map e2)) (hw : itemsT w = some (zs.map e3)) : zipI3 (consA a (consA b (consA c nilA))) η S = .ok ((zip3 xs ys zs).map (eP3 e1 e2 e3)) S3 := by
  unfold zipI3; rw [cons_of ha (cons_of hb (cons_of hc nil_of)), bind_ok]
  unfold zip3S; simp only [hu, hv, hw, zip3D_map]
end
/-! comprehensions -/
section
variable {α β : Type} {em : α → D} {e2 : β → D} {xs : List α} {t : Tg} {it : Li} {ct : Te} {el : Ex} {vs : List Nat} {p : α → Bool} {f : α → β}
theorem x_lcF (hi : it η S = .ok (xs.map em) S) (hz : xs.length ≤ 16777216) (h : ∀ x ∈ xs, ∃ η1, t (.d (em x)) (wipeE vs η) = some η1 ∧ ct η1 S = .ok (p x) S ∧ (p x = true → el η1 S = .ok (.d (e2 (f x))) S)) : lcL t it ct el vs η S = .ok (((xs.filter p).map f).map e2) S := by
  have key : ∀ l : List α, (∀ x ∈ l, x ∈ xs) → loopC t ct el (wipeE vs η) (l.map em) S = .ok (((l.filter p).map f).map e2) S := by
    intro l
    induction l with
    | nil => intro _; rfl
    | cons x l ih =>
      intro hl
      obtain ⟨η1, h1, h2, h3⟩ := h x (hl x (List.mem_cons_self ..))
      have i1 := ih fun y hy => hl y (List.mem_cons_of_mem _ hy)
      rw [List.map_cons]
      unfold loopC
      rw [h1]
      cases q : p x with
      | true => simp only [h2, q, h3 q, i1, List.filter_cons, if_true, List.map_cons]
      | false => simp only [h2, q, i1, List.filter_cons, Bool.false_eq_true, if_false]
  unfold lcL; rw [hi, bind_ok, List.length_map, if_pos hz]
  exact key xs fun _ h => h
theorem x_lc (hi : it η S = .ok (xs.map em) S) (hz : xs.length ≤ 16777216) (h : ∀ x ∈ xs, ∃ η1, t (.d (em x)) (wipeE vs η) = some η1 ∧ el η1 S = .ok (.d (e2 (f x))) S) : lcL t it yesT el vs η S = .ok ((xs.map f).map e2) S := by
  have := x_lcF (ct := yesT) (p := fun _ => true) (f := f) (e2 := e2) hi hz fun x hx => by
    obtain ⟨η1, h1, h2⟩ := h x hx
    exact ⟨η1, h1, rfl, fun _ => h2⟩
  rw [this, List.filter_eq_self.mpr fun _ _ => rfl]
end
end
/-! ### the draws -/
structure Dw where
  a : Int
  k : Int
  b : Bool
  deriving Inhabited
def Dw.c (s : Dw) : List D := [.int s.a, .int s.k, .bl s.b]
abbrev Bd (r : List (Option Cl)) (s : Dw) : Store := ⟨some (.l s.c) :: r⟩
def DrOk (s : Dw) : Prop := 0 ≤ s.k ∧ s.k < 1000000000000000000
def drawn (a k : Int) : Int := (a % 1000003 + k * k * 7919 + k) * 48271 % 2147483629
def drawn2 (a k : Int) : Int := drawn a k * drawn a k % 2147483587
def nextP (s : Dw) : Int × Dw := match s.b with
  | true => (s.a % 1000000, ⟨s.a / 1000000, s.k + 1, true⟩)
  | false => (drawn2 s.a (s.k + 1) * (drawn2 s.a (s.k + 1) + 2) % 2147483579 / 7, ⟨s.a, s.k + 1, false⟩)
theorem nextP_k (s : Dw) : (nextP s).2.k = s.k + 1 := by unfold nextP; cases s.b <;> rfl
theorem t_next {s : Dw} (h : DrOk s) (r : List (Option Cl)) : nextF [.p 0] (Bd r s) = .ok (.d (.int (nextP s).1)) (Bd r (nextP s).2) := by
  obtain ⟨a, k, b⟩ := s
  obtain ⟨h0, h1⟩ := h
  have m1 : mulOk (k + 1) (k + 1) = true := mulOk_r (by simp at h0 h1; omega)
  cases b with
  | true =>
    show nextF [.p 0] ⟨some (.l [.int a, .int k, .bl true]) :: r⟩ = .ok (.d (.int (a % 1000000))) ⟨some (.l [.int (a / 1000000), .int (k + 1), .bl true]) :: r⟩
    unfold nextF fnF nextB
    simp [seqS, setI, asg, wipS, ifS, ret, bin, var, cst, asB, ix3, set3, oAdd_i, oPow_106, oMod_i, oDiv_i, wipeE, fin, finV, frV, nextS]
  | false =>
    have m2 : ∀ z : Int, mulOk z 7919 = true := fun z => mulOk_r (by omega)
    have m3 : ∀ z : Int, mulOk z 48271 = true := fun z => mulOk_r (by omega)
    have m4 : ∀ z w : Int, mulOk (z % 2147483629) w = true := fun z w => mulOk_l (by omega)
    have m5 : ∀ z w : Int, mulOk (z % 2147483587) w = true := fun z w => mulOk_l (by omega)
    show nextF [.p 0] ⟨some (.l [.int a, .int k, .bl false]) :: r⟩ = .ok (.d (.int (drawn2 a (k + 1) * (drawn2 a (k + 1) + 2) % 2147483579 / 7))) ⟨some (.l [.int a, .int (k + 1), .bl false]) :: r⟩
    unfold drawn2 drawn
    unfold nextF fnF nextB
    simp [seqS, setI, asg, wipS, ifS, ret, bin, var, cst, asB, ix3, set3, oAdd_i, oPow_106, oMod_i, oDiv_i, wipeE, fin, finV, frV, nextS, oMul_i, m1, m2, m3, m4, m5]
theorem x_callD {η : En} {S : Store} {F : Fn} {A : As} {args : List Vl} {s s' : Dw} {r : List (Option Cl)} {cs : List Cl} {v : Vl} (h : A η S = .ok args ((Bd r s).pl cs)) (hF : ∀ r, F args (Bd r s) = .ok v (Bd r s')) : callE F A η S = .ok v ((Bd r s').pl cs) :=
  call_of h (hF (r ++ cs.map some))
def mapD {α β : Type} (f : α → Dw → β × Dw) : List α → Dw → List β × Dw
  | [], s => ([], s)
  | x :: xs, s => ((f x s).1 :: (mapD f xs (f x s).2).1, (mapD f xs (f x s).2).2)
def mapDP {α β : Type} (P : α → Dw → Prop) (f : α → Dw → β × Dw) : List α → Dw → Prop
  | [], _ => True
  | x :: xs, s => P x s ∧ mapDP P f xs (f x s).2
theorem x_lcD {α β : Type} {em : α → D} {e2 : β → D} {xs : List α} {t : Tg} {it : Li} {el : Ex} {vs : List Nat} {f : α → Dw → β × Dw} {P : α → Dw → Prop} {η : En} {s : Dw} {S0 : Store} {r : List (Option Cl)} {cs : List Cl}
    (hi : it η S0 = .ok (xs.map em) ((Bd r s).pl cs)) (hz : xs.length ≤ 16777216) (hp : mapDP P f xs s) (h : ∀ x s, P x s → ∃ η1, t (.d (em x)) (wipeE vs η) = some η1 ∧ el η1 ((Bd r s).pl cs) = .ok (.d (e2 (f x s).1)) ((Bd r (f x s).2).pl cs)) :
    lcL t it yesT el vs η S0 = .ok ((mapD f xs s).1.map e2) ((Bd r (mapD f xs s).2).pl cs) := by
  have key : ∀ (l : List α) (s : Dw), mapDP P f l s → loopC t yesT el (wipeE vs η) (l.map em) ((Bd r s).pl cs) = .ok ((mapD f l s).1.map e2) ((Bd r (mapD f l s).2).pl cs) := by
    intro l
    induction l with
    | nil => intro s _; rfl
    | cons x l ih =>
      intro s hp
      obtain ⟨η1, h1, h2⟩ := h x s hp.1
      rw [List.map_cons]
      unfold loopC
      rw [h1]
      simp only [yesT, h2, ih _ hp.2, mapD, List.map_cons]
  unfold lcL; rw [hi, bind_ok, List.length_map, if_pos hz]
  exact key xs s hp
end MP
namespace MP
open PySem PySem.Spec PyProof.Rows L2
def nextP_pre (s : Dw) : Prop := DrOk s
theorem x_txt {η : En} {S : Store} (t : Tx) : cst (.str t.s) η S = .ok (.d (eS t)) S := rfl
theorem pl_old {S : Store} {cs : List Cl} {k : Nat} {c : Cl} (h : S.L[k]? = some (some c)) : (S.pl cs).L[k]? = some (some c) := by
  unfold Store.pl; rw [List.getElem?_append_left (List.getElem?_eq_some_iff.mp h).1]; exact h
theorem seqV_at {S : Store} {m : Nat} {c : List D} (h : S.L[m]? = some (some (.l c))) : seqV S (.p m) = some c := seqL_at h
theorem upto_le {j : Int} (h : -1000000 ≤ j ∧ j ≤ 1000000) : (upto j).length ≤ 16777216 := by rw [upto_len]; omega
theorem cell_of {e : Ex} {η : En} {S S1 : Store} {cs : List Cl} {c : List D} {m : Nat} (h : e η S = .ok (.p (S1.pl cs).L.length) ((S1.pl cs).pl [c])) (hm : S1.L.length + cs.length = m) : e η S = .ok (.p m) (S1.pl (cs ++ [.l c])) := by
  subst hm; rw [h, pl_len]; unfold Store.pl; simp
section
variable {α : Type} {em : α → D} {xs ys : List α} {y : α} {a b : Ex} {η : En} {S1 : Store} {cs : List Cl} {m j : Nat} {v : Vl}
theorem x_app1 (ho : a η (S1.pl cs) = .ok (.p m) (S1.pl cs)) (hm : S1.L.length + j = m) (hc : cs[j]? = some (.l (xs.map em))) (hb : b η (S1.pl cs) = .ok (.d (em y)) (S1.pl cs)) (hz : xs.length < 16777216) : mutE gAppend a (consA b nilA) η (S1.pl cs) = .ok (.d .non) (S1.pl (cs.set j (.l ((xs ++ [y]).map em)))) := by
  rw [x_app ho rfl hm hc hb (by simpa using hz), List.map_append]; rfl
theorem x_ext1 (ho : a η (S1.pl cs) = .ok (.p m) (S1.pl cs)) (hm : S1.L.length + j = m) (hc : cs[j]? = some (.l (xs.map em))) (hb : b η (S1.pl cs) = .ok v (S1.pl cs)) (hv : seqL (S1.pl cs) v = some (ys.map em)) (hz : xs.length + ys.length ≤ 16777216) : mutE gExtend a (consA b nilA) η (S1.pl cs) = .ok (.d .non) (S1.pl (cs.set j (.l ((xs ++ ys).map em)))) := by
  rw [x_ext ho rfl hm hc hb hv (by simpa using hz), List.map_append]
end
/-! the place of a thing -/
def idxN {α : Type} [DecidableEq α] (y : α) : List α → Nat
  | [] => 0
  | x :: xs => if x = y then 0 else idxN y xs + 1
def idx {α : Type} [DecidableEq α] (xs : List α) (y : α) : Int := (idxN y xs : Nat)
theorem fstEq_map {α : Type} [DecidableEq α] {k : Nat} {em : α → D} (hE : EqE k em) {y : α} : ∀ {xs : List α} {i : Nat}, y ∈ xs → fstEq (em y) i (xs.map em) = some (i + idxN y xs)
  | [], _, h => by cases h
  | x :: xs, i, h => by
    rw [List.map_cons]; unfold fstEq idxN
    rw [hE.eq]
    by_cases q : x = y
    · rw [if_pos (by simp [q]), if_pos q]; rfl
    · rw [if_neg (by simp [q]), if_neg q, fstEq_map hE (by
        rcases List.mem_cons.mp h with h | h
        · exact absurd h.symm q
        · exact h)]
      congr 1; omega
end MP
namespace MP
open PySem PySem.Spec PyProof.Rows L2
theorem g1_nxR {σ : Type} {E : σ → En × Store} {s : σ} {is : List Nat} {n : Nat} {η η2 : En} {S : Store} (hf : frEn n S η = η2) (h1 : (E s).1 = wipeE is η2) (h2 : (⟨S.L.take n⟩ : Store) = (E s).2) : G1 E (.next (wipeE is (frEn n S η)) ⟨S.L.take n⟩) s := ⟨by rw [hf, h1, h2]⟩
theorem fin_0 {x : D} {S : Store} : fin .frz (⟨[]⟩ : Store).L.length (.ret (.d x) S) = .ok (.d x) ⟨[]⟩ := rfl
def drawsP (z : Int) : Dw := if z < 1000000000000000000 then ⟨z, 0, false⟩ else ⟨z % tenB, 0, true⟩
theorem drawsP_k (z : Int) : (drawsP z).k = 0 := by unfold drawsP; split <;> rfl
theorem t_draws (z : Int) : drawsF [.d (.int z)] ((⟨[]⟩ : Store).pl []) = .ok (.p 0) ((Bd [] (drawsP z)).pl []) := by
  rw [pl_nil, pl_nil]
  by_cases h : z < 1000000000000000000
  · unfold drawsP; rw [if_pos h]
    unfold drawsF fnF drawsB
    simp [seqS, ifS, ret, bin, var, cst, asB, oPow_1018, oLt, h, new, lstE, consA, nilA, allD, fin, finV, Dw.c]
  · unfold drawsP; rw [if_neg h]
    unfold drawsF fnF drawsB
    rw [pow3E]
    simp [seqS, ifS, ret, bin, var, cst, asB, oPow_1018, oLt, h, new, lstE, consA, nilA, allD, fin, finV, oMod_i tenB_pos, nextS, Dw.c]
end MP

/-! TS: texts, from behind -/
namespace MP
open PySem PySem.Spec PyProof.Rows L2
def mkTx (s : Str) : Tx := if h : PyData.strOk s = true then ⟨s, h⟩ else default
theorem mkTx_s {s : Str} (h : PyData.strOk s = true) : (mkTx s).s = s := by unfold mkTx; rw [dif_pos h]
theorem ok_all {s : Str} : PyData.strOk s = true ↔ ∀ c ∈ s.cps.toList, c < 0x110000 := by
  unfold PyData.strOk; rw [Array.all_eq_true']
  simp
def Tx.len (a : Tx) : Int := (a.s.length : Nat)
section
variable {η : En} {S S1 S2 : Store} {a b : Ex} {x y : Tx}
end
theorem x_tupV {η : En} {S S1 : Store} {A : As} {xs : List Vl} (h : A η S = .ok xs S1) (hn : allD xs = none) (hz : xs.length ≤ 16777216) : tupE A η S = .ok (.t xs) S1 := by
  unfold tupE; rw [h, bind_ok, if_pos hz, hn]
section
variable {n m j : Nat} {S : Store} {cs : List Cl} {c : List D} {xs : List Vl} {ds : List D} {x : D}
theorem rs_nil : ress n S [] = some [] := by unfold ress; rfl
theorem rs_d (h : ress n S xs = some ds) : ress n S (.d x :: xs) = some (x :: ds) := by unfold ress; rw [h]; simp [res]
theorem rs_c (hS : S.L.length = n) (hm : n + j = m) (hc : cs[j]? = some (.l c)) (h : ress n (S.pl cs) xs = some ds) : ress n (S.pl cs) (.p m :: xs) = some (.lst c :: ds) := by
  have e : (S.pl cs).L[m]? = some (some (.l c)) := pl_at (by omega) hc
  unfold ress; rw [h]; simp [res, show ¬ m < n by omega, e]
theorem fin_t (h : S.L.length = n) (hr : ress n (S.pl cs) xs = some ds) : fin .frz n (.ret (.t xs) (S.pl cs)) = .ok (.d (.tup ds)) S := by
  show (match frV n (S.pl cs) (.t xs) with | some v' => Res.ok v' ⟨(S.pl cs).L.take n⟩ | none => .stuck) = _
  have : frV n (S.pl cs) (.t xs) = some (.d (.tup ds)) := by
    show (res n (S.pl cs) (.t xs)).map Vl.d = _
    unfold res; rw [hr]; rfl
  rw [this]
  show Res.ok _ (⟨(S.pl cs).L.take n⟩ : Store) = _
  rw [pl_take (j := 0) (by omega)]; simp [pl_nil]
end
section
variable {ω : Type} {Φ : SR → ω → Prop} {n i : Nat} {η : En} {S S1 : Store} {a : Stm} {is : List Nat} {k kc : En → Store → SR} {o : ω}
end
end MP
namespace MP
open PySem PySem.Spec PyProof.Rows L2
end MP
namespace MP
open PySem PySem.Spec PyProof.Rows L2
theorem loopCk_map {α β : Type} {em : α → D} {e2 : β → D} {t : Tg} {ct : Te} {el : Ex} {η : En} {S : Store} {k : Nat} {full : List D} {p : α → Bool} {f : α → β} (hk : S.L[k]? = some (some (.l full))) : ∀ (l : List α), (∀ x ∈ l, ∃ η1, t (.d (em x)) η = some η1 ∧ ct η1 S = .ok (p x) S ∧ (p x = true → el η1 S = .ok (.d (e2 (f x))) S)) → loopCk k full t ct el η (l.map em) S = .ok (((l.filter p).map f).map e2) S
  | [], _ => by simp only [List.map_nil, loopCk, hk, if_true, List.filter_nil]
  | x :: l, h => by
    obtain ⟨η1, h1, h2, h3⟩ := h x (List.mem_cons_self ..)
    have i1 := loopCk_map (full := full) hk l fun y hy => h y (List.mem_cons_of_mem _ hy)
    rw [List.map_cons]
    unfold loopCk
    rw [if_pos hk, h1]
    cases q : p x with
    | true => simp only [h2, q, h3 q, i1, List.filter_cons, if_true, List.map_cons]
    | false => simp only [h2, q, i1, List.filter_cons, Bool.false_eq_true, if_false]
theorem x_lcCF {α β : Type} {em : α → D} {e2 : β → D} {xs : List α} {t : Tg} {it : Ex} {ct : Te} {el : Ex} {vs : List Nat} {p : α → Bool} {f : α → β} {η : En} {S S0 : Store} {m : Nat} (hi : it η S0 = .ok (.p m) S) (hc : S.L[m]? = some (some (.l (xs.map em)))) (hz : xs.length ≤ 16777216) (h : ∀ x ∈ xs, ∃ η1, t (.d (em x)) (wipeE vs η) = some η1 ∧ ct η1 S = .ok (p x) S ∧ (p x = true → el η1 S = .ok (.d (e2 (f x))) S)) : lcC t it ct el vs η S0 = .ok (((xs.filter p).map f).map e2) S := by
  unfold lcC; rw [hi, bind_ok]
  simp only [hc, List.length_map, hz, if_true]
  exact loopCk_map hc xs h
theorem x_lcC {α β : Type} {em : α → D} {e2 : β → D} {xs : List α} {t : Tg} {it : Ex} {el : Ex} {vs : List Nat} {f : α → β} {η : En} {S S0 : Store} {m : Nat} (hi : it η S0 = .ok (.p m) S) (hc : S.L[m]? = some (some (.l (xs.map em)))) (hz : xs.length ≤ 16777216) (h : ∀ x ∈ xs, ∃ η1, t (.d (em x)) (wipeE vs η) = some η1 ∧ el η1 S = .ok (.d (e2 (f x))) S) : lcC t it yesT el vs η S0 = .ok ((xs.map f).map e2) S := by
  have := x_lcCF (ct := yesT) (p := fun _ => true) (f := f) (e2 := e2) hi hc hz fun x hx => by
    obtain ⟨η1, h1, h2⟩ := h x hx
    exact ⟨η1, h1, rfl, fun _ => h2⟩
  rw [this, List.filter_eq_self.mpr fun _ _ => rfl]
end MP
namespace MP
open PySem PySem.Spec PyProof.Rows L2
theorem x_idx {α : Type} [DecidableEq α] {em : α → D} {xs : List α} {y : α} {a b : Ex} {η : En} {S S1 : Store} {u v : Vl} (hE : EqE 59 em) (h : y ∈ xs) (ha : a η S = .ok u S1) (hb : b η S1 = .ok v S1) (hu : seqV S1 u = some (xs.map em)) (hv : rd S1 v = some (em y)) : metQ oIndexQ a (consA b nilA) η S = .ok (.d (.int (idx xs y))) S1 := by
  unfold metQ; rw [ha, bind_ok, if_pos (by
    rw [Bool.or_eq_true]
    unfold seqV at hu
    split at hu
    · exact .inr rfl
    · exact .inl (by unfold isLs; rw [hu]; rfl)), cons_of hb nil_of, bind_ok]
  unfold oIndexQ; simp only [hv, hu]
  rw [if_pos (by
    rw [Bool.and_eq_true]; exact ⟨okD_up 59 _ (hE.ok y), List.all_eq_true.mpr fun d hd => by obtain ⟨z, _, rfl⟩ := List.mem_map.mp hd; exact hE.ok z⟩), fstEq_map hE h]
  simp only [Nat.zero_add]; rfl
end MP

/-! TW: while with returns, xs[i] = v, insert, narrowing -/
namespace MP
open PySem PySem.Spec PyProof.Rows L2
section
variable {α σ ρ ω : Type} {n : Nat} {η : En} {S S1 : Store} {b : Stm} {k kc : En → Store → SR} {s0 : σ} {fn : SR → Res Vl} {Rs : ρ → Res Vl}
end
section
variable {ω : Type} {Φ : SR → ω → Prop} {n m j : Nat} {η : En} {S S1 : Store} {k kc : En → Store → SR} {cs : List Cl}
end
section
variable {m j : Nat} {η : En} {S1 S2 : Store} {cs : List Cl} {a i b : Ex}
end
end MP
namespace MP
open PySem PySem.Spec PyProof.Rows L2
/-! tuples that hold cells -/
end MP
namespace MP
open PySem PySem.Spec PyProof.Rows L2
end MP
namespace MP
open PySem PySem.Spec PyProof.Rows L2
end MP

/-! TY: constants and chains, typed -/
namespace MP
open PySem PySem.Spec PyProof.Rows L2
section
variable {η : En} {S S1 S2 S3 : Store} {a b c : Ex}
theorem rowsD_map : ∀ rs : List (List Int), rowsD (rs.map (eT D.int)) = some rs
  | [] => rfl
  | r :: rs => by
    show (match rowD (eT D.int r), rowsD (rs.map (eT D.int)) with
      | some r, some rs => some (r :: rs)
      | _, _ => none) = _
    have : rowD (eT D.int r) = some r := intsD_map r
    rw [this, rowsD_map rs]
theorem x_ssetT {v : Vl} {rs : List (List Int)} (h : setOkT rs = true) (ha : a η S = .ok v S1) (hv : seqL S1 v = some (rs.map (eT D.int))) : ssetTL a η S = .ok ((usortT rs).map (eT D.int)) S1 := by
  unfold ssetTL
  rw [ha]
  simp only [Res.bind]
  rw [hv]
  simp only [rowsD_map, h, if_true]
  rfl
end
end MP

/-! TZ: str of data, typed -/
namespace MP
open PySem PySem.Spec PyProof.Rows L2
theorem char_lt (c : Char) : c.toNat < 0x110000 := by
  have := c.valid
  unfold Char.toNat
  rcases this with h | h
  · have : c.val.toNat < 0xd800 := h
    omega
  · exact h.2
theorem reprChar_lt {q c : Nat} (hc : c < 0x110000) : ∀ d ∈ Builtin.Str.reprChar q c, d < 0x110000 := by
  have hex : ∀ w : Nat, ∀ d ∈ List.replicate (w - ((Nat.toDigits 16 c).map Char.toNat).length) 48 ++ (Nat.toDigits 16 c).map Char.toNat, d < 0x110000 := fun w d hd => by
    rcases List.mem_append.mp hd with hd | hd
    · rw [(List.mem_replicate.mp hd).2]; omega
    · obtain ⟨z, _, rfl⟩ := List.mem_map.mp hd; exact char_lt z
  intro d hd
  unfold Builtin.Str.reprChar at hd
  simp only at hd
  have h92 : ∀ (a b : Nat) (l : List Nat), a < 0x110000 → b < 0x110000 → (∀ d ∈ l, d < 0x110000) → d ∈ [a, b] ++ l → d < 0x110000 := fun a b l ha hb hl hd => by
    rcases List.mem_append.mp hd with hd | hd
    · simp only [List.mem_cons, List.not_mem_nil, or_false] at hd
      rcases hd with rfl | rfl <;> assumption
    · exact hl d hd
  split at hd
  · simp only [List.mem_cons, List.not_mem_nil, or_false] at hd
    rcases hd with rfl | rfl
    · omega
    · exact hc
  split at hd
  · simp only [List.mem_cons, List.not_mem_nil, or_false] at hd; omega
  split at hd
  · simp only [List.mem_cons, List.not_mem_nil, or_false] at hd; omega
  split at hd
  · simp only [List.mem_cons, List.not_mem_nil, or_false] at hd; omega
  split at hd
  · simp only [List.mem_cons, List.not_mem_nil, or_false] at hd; omega
  split at hd
  · exact h92 _ _ _ (by omega) (by omega) (hex 2) hd
  split at hd
  · exact h92 _ _ _ (by omega) (by omega) (hex 4) hd
  · exact h92 _ _ _ (by omega) (by omega) (hex 8) hd
theorem foldl_lt {q : Nat} : ∀ (l : List Nat) (acc : Array Nat), (∀ c ∈ l, c < 0x110000) → (∀ c ∈ acc.toList, c < 0x110000) → ∀ c ∈ (l.foldl (fun out c => out ++ (Builtin.Str.reprChar q c).toArray) acc).toList, c < 0x110000
  | [], acc, _, h => h
  | z :: l, acc, hl, h => by
    rw [List.foldl_cons]
    refine foldl_lt l _ (fun c hc => hl c (List.mem_cons_of_mem _ hc)) fun c hc => ?_
    rw [Array.toList_append] at hc
    rcases List.mem_append.mp hc with hc | hc
    · exact h c hc
    · exact reprChar_lt (hl z (List.mem_cons_self ..)) c (by simpa using hc)
theorem reprText_lt {x : PySem.Str} (hx : ∀ c ∈ x.cps.toList, c < 0x110000) : ∀ c ∈ (reprText x).cps.toList, c < 0x110000 := by
  have hq : reprQuote x < 0x110000 := by unfold reprQuote; split <;> omega
  intro c hc
  unfold reprText at hc
  simp only [Array.toList_push] at hc
  rcases List.mem_append.mp hc with hc | hc
  · rw [← Array.foldl_toList] at hc
    exact foldl_lt x.cps.toList #[reprQuote x] hx (fun c hc => by
      have : c = reprQuote x := by simpa using hc
      rw [this]; exact hq) c hc
  · have : c = reprQuote x := by simpa using hc
    rw [this]; exact hq
theorem str_app_mem {a b : PySem.Str} {c : Nat} : c ∈ (a ++ b).cps.toList ↔ c ∈ a.cps.toList ∨ c ∈ b.cps.toList := by
  show c ∈ (a.cps ++ b.cps).toList ↔ _
  rw [Array.toList_append, List.mem_append]
theorem str_lit_lt (s : String) : ∀ c ∈ (PySem.Str.ofString s).cps.toList, c < 0x110000 := fun c hc => by
  have : c ∈ s.toList.map Char.toNat := by rw [PySem.Str.ofString_eq_toList] at hc; simpa using hc
  obtain ⟨z, _, rfl⟩ := List.mem_map.mp this
  exact char_lt z
theorem textFrom_up {n : Nat} : ∀ (ts : List PySem.Str) (k : Nat) (acc : PySem.Str), (∀ t ∈ ts, t.length ≤ n ∧ ∀ c ∈ t.cps.toList, c < 0x110000) → (∀ c ∈ acc.cps.toList, c < 0x110000) → (textFrom k acc ts).length ≤ acc.length + ts.length * (n + 2) ∧ ∀ c ∈ (textFrom k acc ts).cps.toList, c < 0x110000
  | [], k, acc, _, h => ⟨by show acc.length ≤ acc.length + _; omega, h⟩
  | t :: ts, k, acc, ht, h => by
    obtain ⟨t1, t2⟩ := ht t (List.mem_cons_self ..)
    have e : (acc ++ (if k > 0 then ", " else "" : String) ++ t).length ≤ acc.length + 2 + t.length := by
      rw [strLen_append, strLen_append]
      split
      · have : ((", " : String) : PySem.Str).length = 2 := rfl
        omega
      · have : (("" : String) : PySem.Str).length = 0 := rfl
        omega
    obtain ⟨a, b⟩ := textFrom_up (n := n) ts (k + 1) (acc ++ (if k > 0 then ", " else "" : String) ++ t) (fun t hh => ht t (List.mem_cons_of_mem _ hh)) fun c hc => by
      rcases str_app_mem.mp hc with hc | hc
      · rcases str_app_mem.mp hc with hc | hc
        · exact h c hc
        · exact str_lit_lt _ c hc
      · exact t2 c hc
    refine ⟨?_, b⟩
    show (textFrom (k + 1) _ ts).length ≤ _
    rw [List.length_cons, Nat.succ_mul]
    omega
theorem listText_up {n : Nat} {ts : List PySem.Str} (ht : ∀ t ∈ ts, t.length ≤ n ∧ ∀ c ∈ t.cps.toList, c < 0x110000) : (listText ts).length ≤ 2 + ts.length * (n + 2) ∧ ∀ c ∈ (listText ts).cps.toList, c < 0x110000 := by
  obtain ⟨a, b⟩ := textFrom_up (n := n) ts 0 "[" ht (str_lit_lt "[")
  unfold listText
  refine ⟨?_, fun c hc => ?_⟩
  · rw [strLen_append]
    have e1 : (("[" : String) : PySem.Str).length = 1 := rfl
    have e2 : (("]" : String) : PySem.Str).length = 1 := rfl
    rw [e1] at a
    rw [e2]
    omega
  · rcases str_app_mem.mp hc with hc | hc
    · exact b c hc
    · exact str_lit_lt "]" c hc
theorem join_up {n : Nat} : ∀ {ts : List PySem.Str}, (∀ t ∈ ts, t.length ≤ n ∧ ∀ c ∈ t.cps.toList, c < 0x110000) → (PySem.Str.join ", " ts).length ≤ ts.length * (n + 2) ∧ ∀ c ∈ (PySem.Str.join ", " ts).cps.toList, c < 0x110000
  | [], _ => ⟨Nat.zero_le _, fun c hc => (nomatch (show c ∈ ([] : List Nat) from hc))⟩
  | [x], ht => by
    obtain ⟨t1, t2⟩ := ht x (List.mem_cons_self ..)
    exact ⟨by show x.length ≤ 1 * (n + 2); omega, t2⟩
  | x :: y :: r, ht => by
    obtain ⟨t1, t2⟩ := ht x (List.mem_cons_self ..)
    obtain ⟨a, b⟩ := join_up (n := n) (ts := y :: r) fun t h => ht t (List.mem_cons_of_mem _ h)
    have e2 : ((", " : String) : PySem.Str).length = 2 := rfl
    refine ⟨?_, fun c hc => ?_⟩
    · show (x ++ ", " ++ PySem.Str.join ", " (y :: r)).length ≤ _
      rw [strLen_append, strLen_append, e2, List.length_cons, Nat.succ_mul]
      omega
    · have hc : c ∈ (x ++ ", " ++ PySem.Str.join ", " (y :: r)).cps.toList := hc
      rcases str_app_mem.mp hc with hc | hc
      · rcases str_app_mem.mp hc with hc | hc
        · exact t2 c hc
        · exact str_lit_lt _ c hc
      · exact b c hc
theorem tupleText_up {n : Nat} {ts : List PySem.Str} (ht : ∀ t ∈ ts, t.length ≤ n ∧ ∀ c ∈ t.cps.toList, c < 0x110000) : (tupleText ts).length ≤ 3 + ts.length * (n + 2) ∧ ∀ c ∈ (tupleText ts).cps.toList, c < 0x110000 := by
  obtain ⟨a, b⟩ := join_up (n := n) ht
  unfold tupleText
  refine ⟨?_, fun c hc => ?_⟩
  · rw [strLen_append, strLen_append]
    have e1 : (("(" : String) : PySem.Str).length = 1 := rfl
    have e2 : ((if ts.length == 1 then ",)" else ")" : String) : PySem.Str).length ≤ 2 := by split <;> decide
    rw [e1]
    omega
  · rcases str_app_mem.mp hc with hc | hc
    · rcases str_app_mem.mp hc with hc | hc
      · exact str_lit_lt "(" c hc
      · exact b c hc
    · exact str_lit_lt _ c hc
/-- a tree whose text is at most so long -/
structure Shn (k n : Nat) (d : D) : Prop where
  ok : okD k d = true
  sh : (toPy d).showable = true
  asc : ∀ c ∈ (toPy d).shown.cps.toList, c < 0x110000
  len : (toPy d).shown.length ≤ n
theorem Shn.mono {k n m : Nat} {d : D} (h : Shn k n d) (hm : n ≤ m) : Shn k m d := ⟨h.ok, h.sh, h.asc, Nat.le_trans h.len hm⟩
theorem Shn.non {k : Nat} : Shn k 4 .non := ⟨by cases k <;> rfl, by simp [toPy, PyData.showable], by simp only [toPy, PyData.shown]; exact str_lit_lt _, by simp only [toPy, PyData.shown]; decide⟩
theorem Shn.bl {k : Nat} (b : Bool) : Shn k 5 (.bl b) := ⟨by cases k <;> rfl, by simp [toPy, PyData.showable], by simp only [toPy, PyData.shown]; cases b <;> exact str_lit_lt _, by simp only [toPy, PyData.shown]; cases b <;> decide⟩
theorem int_len {i : Int} (h : i.natAbs < 10 ^ 40) : (PySem.Str.ofString (toString i)).length ≤ 41 := by
  cases i with
  | ofNat m =>
    have := toString_length_le (v := Int.ofNat m) (by show (0 : Int) ≤ (m : Int); omega) (k := 40) (by decide) (by
      have h : m < 10 ^ 40 := h
      show ((m : Nat) : Int) < 10 ^ 40
      omega)
    omega
  | negSucc m =>
    have h : m + 1 < 10 ^ 40 := h
    have := toString_length_le (v := ((m + 1 : Nat) : Int)) (by omega) (k := 40) (by decide) (by omega)
    have e : PySem.Str.ofString (toString (Int.negSucc m)) = ("-" : PySem.Str) ++ PySem.Str.ofString (toString ((m + 1 : Nat) : Int)) := by
      have e1 : toString (Int.negSucc m) = "-" ++ toString ((m + 1 : Nat) : Int) := rfl
      rw [e1, PySem.Str.ofString_eq_toList, PySem.Str.ofString_eq_toList, PySem.Str.ofString_eq_toList]
      show (⟨_⟩ : PySem.Str) = ⟨_ ++ _⟩
      simp
    rw [e, strLen_append]
    have e2 : (("-" : String) : PySem.Str).length = 1 := rfl
    omega
theorem Shn.int {k : Nat} {i : Int} (h : i.natAbs < 10 ^ 40) : Shn k 41 (.int i) := by
  refine ⟨by cases k <;> rfl, ?_, by simp only [toPy, PyData.shown]; exact str_lit_lt _, by simp only [toPy, PyData.shown]; exact int_len h⟩
  simp only [toPy, PyData.showable, decide_eq_true_eq]
  by_cases h0 : i.natAbs = 0
  · rw [h0]; decide
  · have h34 : i.natAbs < 2 ^ 134 := Nat.lt_trans h (by decide)
    have := (Nat.log2_lt h0 (k := 134)).mpr h34
    omega
theorem Shn.str {k m : Nat} {s : PySem.Str} (hs : PyData.strOk s = true) (h : s.length ≤ m) : Shn k (10 * m + 2) (.str s) := by
  have hc := ok_all.mp hs
  refine ⟨by cases k <;> exact hs, by simp [toPy, PyData.showable], by simp only [toPy, PyData.shown]; exact reprText_lt hc, ?_⟩
  simp only [toPy, PyData.shown]
  have := PySem.StrLaws.reprText_len s fun c h => Nat.lt_of_lt_of_le (hc c h) (by decide)
  omega
theorem shown_all : ∀ ds : List D, PyData.shownAll (toPys ds) = ds.map fun d => (toPy d).shown
  | [] => by simp [toPys, PyData.shownAll]
  | d :: ds => by simp only [toPys, PyData.shownAll, List.map_cons, shown_all ds]
theorem showable_all : ∀ {ds : List D}, (∀ x ∈ ds, (toPy x).showable = true) → PyData.showableAll (toPys ds) = true
  | [], _ => by simp [toPys, PyData.showableAll]
  | d :: ds, h => by simp only [toPys, PyData.showableAll, h d (List.mem_cons_self ..), showable_all fun x hx => h x (List.mem_cons_of_mem _ hx), Bool.and_self]
theorem Shn.lst {k n : Nat} {ds : List D} (h : ∀ x ∈ ds, Shn k n x) : Shn (k + 1) (2 + ds.length * (n + 2)) (.lst ds) := by
  have hp : ∀ t ∈ ds.map (fun d => (toPy d).shown), t.length ≤ n ∧ ∀ c ∈ t.cps.toList, c < 0x110000 := fun t ht => by
    obtain ⟨d, hd, rfl⟩ := List.mem_map.mp ht
    exact ⟨(h d hd).len, (h d hd).asc⟩
  obtain ⟨a, b⟩ := listText_up hp
  rw [List.length_map] at a
  refine ⟨by simp only [okD]; exact List.all_eq_true.mpr fun x hx => (h x hx).ok, ?_, ?_, ?_⟩
  · simp only [toPy, PyData.showable]; exact showable_all fun x hx => (h x hx).sh
  · simp only [toPy, PyData.shown, shown_all]; exact b
  · simp only [toPy, PyData.shown, shown_all]; exact a
theorem Shn.tup {k n : Nat} {ds : List D} (h : ∀ x ∈ ds, Shn k n x) : Shn (k + 1) (3 + ds.length * (n + 2)) (.tup ds) := by
  have hp : ∀ t ∈ ds.map (fun d => (toPy d).shown), t.length ≤ n ∧ ∀ c ∈ t.cps.toList, c < 0x110000 := fun t ht => by
    obtain ⟨d, hd, rfl⟩ := List.mem_map.mp ht
    exact ⟨(h d hd).len, (h d hd).asc⟩
  obtain ⟨a, b⟩ := tupleText_up hp
  rw [List.length_map] at a
  refine ⟨by simp only [okD]; exact List.all_eq_true.mpr fun x hx => (h x hx).ok, ?_, ?_, ?_⟩
  · simp only [toPy, PyData.showable]; exact showable_all fun x hx => (h x hx).sh
  · simp only [toPy, PyData.shown, shown_all]; exact b
  · simp only [toPy, PyData.shown, shown_all]; exact a
/-! ### the typed rule -/
/-- the text of a tree -/
def txShow (d : D) : Tx := mkTx (toPy d).shown
def isLT : D → Bool
  | .lst _ => true
  | .tup _ => true
  | _ => false
theorem x_str {k : Nat} {d : D} {a : Ex} {η : En} {S S1 : Store} {v : Vl} (h : Shn k 16777216 d) (hk : k ≤ 60) (hd : isLT d = true) (ha : a η S = .ok v S1) (hv : rd S1 v = some d) : cal bStrD (consA a nilA) η S = .ok (.d (eS (txShow d))) S1 := by
  have e60 : okD 60 d = true := by
    have : ∀ j, okD (k + j) d = true := by
      intro j
      induction j with
      | zero => exact h.ok
      | succ j ih => exact okD_up _ _ ih
    have := this (60 - k)
    rwa [show k + (60 - k) = 60 by omega] at this
  have e1 : strOk d = true := by
    unfold strOk
    rw [e60, h.sh, decide_eq_true h.len]; rfl
  have e2 : (txShow d).s = (toPy d).shown := mkTx_s (ok_all.mpr h.asc)
  unfold cal
  rw [cons_of ha nil_of, bind_ok]
  show bStrD [v] S1 = .ok (.d (.str (txShow d).s)) S1
  rw [e2]
  unfold bStrD
  simp only [hv]
  cases d with
  | tup ds => exact if_pos e1
  | lst ds => exact if_pos e1
  | _ => cases hd
end MP

/-! TT: what is told as new lists, typed -/
namespace MP
open PySem PySem.Spec PyProof.Rows L2
section
variable {vs vs' xs xs' : List Vl} {ks k' k1 : List Nat} {x : D} {k : Nat} {S : Store}
end
section
variable {F : Fn} {fa : As} {η : En} {S S1 : Store} {vs as : List Vl} {ks : List Nat} {cs : List (List D)}
end
@[reducible] def olet {α : Type} {β : Sort _} (o : Option α) (a : β) (f : α → β) : β := match o with
  | none => a
  | some x => f x
section
variable {ω : Type} {Φ : SR → ω → Prop} {n i : Nat} {η : En} {S : Store} {e : Ex} {k kc : En → Store → SR}
end
end MP

/-! TQ: typed errors: raise, told errors, try .. except -/
namespace MP
open PySem PySem.Spec PyProof.Rows L2
abbrev Ec := Fin 11
@[reducible] def exL {α ω : Sort _} (r : Except Ec α) (q : Ec → ω) (f : α → ω) : ω := match r with
  | .ok a => f a
  | .error c => q c
@[reducible] def tryV {α τ : Type} (r : Except Ec α) (t : τ) (k : Option Ec) (g : α → τ) : τ × Option Ec := match r with
  | .ok a => (g a, k)
  | .error c => (t, some c)
section
variable {ρ σ : Type} {fn : SR → Res Vl} {Rs : ρ → Res Vl} {E : σ → En × Store} {p : ρ} {n c : Nat} {η : En} {S : Store} {k kc : En → Store → SR}
end
section
variable {α : Type} {e : Ex} {η : En} {S S1 : Store} {em : α → D} {r : Except Ec α}
end
section
variable {ω : Type} {Φ : SR → ω → Prop} {n m j : Nat} {η : En} {S S1 : Store} {k kc : En → Store → SR} {cs : List Cl}
end
end MP

/-! TR: typed >= of tuples, swaps, reverse -/
namespace MP
open PySem PySem.Spec PyProof.Rows L2
section
variable {ω : Type} {Φ : SR → ω → Prop} {n m j : Nat} {η : En} {S1 : Store} {cs : List Cl} {k kc : En → Store → SR}
end
section
variable {ω : Type} {Φ : SR → ω → Prop} {n m j : Nat} {η : En} {S0 S1 : Store} {cs : List Cl} {k kc : En → Store → SR}
end
end MP

/-! TA: values of any kind, looked at -/
namespace MP
open PySem PySem.Spec PyProof.Rows L2
section
variable {η : En} {S S1 S2 : Store} {a b : Ex} {x : D}
end
section
variable {η : En} {S S1 S2 : Store} {a b : Ex} {x : D}
end
section
variable {ω : Type} {Φ : SR → ω → Prop} {n m j : Nat} {η : En} {S0 S1 : Store} {cs : List Cl} {k kc : En → Store → SR}
end
section
variable {η : En} {S S1 S2 : Store} {a b : Ex} {xs : List D}
end
end MP

/-! TO: objects, lists of unlike things, typed -/
namespace MP
open PySem PySem.Spec PyProof.Rows L2
section
variable {η : En} {S S1 S2 S3 : Store} {a o : Ex} {A : As}
end
/-! ### slices, parts, counts of values of any kind -/
section
variable {η : En} {S S1 S2 S3 : Store} {a b o : Ex} {x : D}
end
section
variable {ω : Type} {Φ : SR → ω → Prop} {n m j : Nat} {η : En} {S0 S1 : Store} {cs : List Cl} {k kc : En → Store → SR}
end
end MP

/-! TD: dicts in cells, typed -/
namespace MP
open PySem PySem.Spec PyProof.Rows L2
section
variable {κ κ' α β : Type} [DecidableEq κ] [DecidableEq κ'] {f : κ → κ'} {g : α → β}
end
section
variable {κ α : Type} [DecidableEq κ] {ke : κ → List Int} {kd : κ → D} {em : α → D} {xs : List (κ × α)} {ys : List (Int × α)} {k : κ} {i : Int} {η : En} {S S1 S2 : Store} {cs : List Cl} {m j : Nat} {a b c : Ex}
end
section
variable {ω : Type} {Φ : SR → ω → Prop} {n m j : Nat} {η : En} {S0 S1 : Store} {cs : List Cl} {kk kc : En → Store → SR} {κ α : Type} [DecidableEq κ] {ke : κ → List Int} {kd : κ → D} {em : α → D} {xs : List (κ × α)} {ys : List (Int × α)} {k : κ} {z : Int} {y : α} {e o i : Ex}
end
section
variable {α : Type} [DecidableEq α] {em : α → D} {xs : List α} {x : α} {η : En} {S S1 S2 : Store} {o a : Ex} {u v : Vl}
end
end MP

set_option synthInstance.maxSize 4000
set_option maxHeartbeats 4000000
/-! printed by tgen.py: typed defs of easykinds_k03_tables_told_ways -/
namespace T
open PySem PySem.Spec PyProof.Rows L2 MP
def tx_any : Tx := ⟨"any", by decide +kernel⟩
def l_rows_of_L1  (x6 : (List Int)) (s5 : ((List (List Int)))) : ((List (List Int))) :=
  lett ((s5 ++ [(x6 ++ [(0 : Int)]), (x6 ++ [(1 : Int)])])) fun longer_7 => longer_7
def l_rows_of_Q1  (x6 : (List Int)) (s5 : ((List (List Int)))) : Prop :=
  ((x6.length + ([(0 : Int)]).length ≤ 16777216) ∧ (x6.length + ([(1 : Int)]).length ≤ 16777216) ∧ (s5.length + ([(x6 ++ [(0 : Int)]), (x6 ++ [(1 : Int)])]).length ≤ 16777216) ∧ lett ((s5 ++ [(x6 ++ [(0 : Int)]), (x6 ++ [(1 : Int)])])) fun longer_7 => True)
def l_rows_of_L2  (x3 : Int) (s2 : ((List (List Int)))) : ((List (List Int))) :=
  lett (([] : List (List Int))) fun longer_4 => lett (loopF T.l_rows_of_L1 s2 longer_4) fun s5 => lett (s5) fun rows_8 => rows_8
def l_rows_of_Q2  (x3 : Int) (s2 : ((List (List Int)))) : Prop :=
  (lett (([] : List (List Int))) fun longer_4 => ((foldP T.l_rows_of_Q1 T.l_rows_of_L1 s2 longer_4 ∧ lett (loopF T.l_rows_of_L1 s2 longer_4) fun s5 => (lett (s5) fun rows_8 => True))))
def l_rows_of (width_0 : Int) : (List (List Int)) :=
  lett ([([] : List Int)]) fun rows_1 => lett (loopF T.l_rows_of_L2 (upto width_0) rows_1) fun s2 => s2
def l_rows_of_pre (width_0 : Int) : Prop :=
  (lett ([([] : List Int)]) fun rows_1 => ((-1000000 ≤ width_0 ∧ width_0 ≤ 1000000) ∧ (foldP T.l_rows_of_Q2 T.l_rows_of_L2 (upto width_0) rows_1 ∧ lett (loopF T.l_rows_of_L2 (upto width_0) rows_1) fun s2 => True)))
def tx_both : Tx := ⟨"both", by decide +kernel⟩
def tx_either : Tx := ⟨"either", by decide +kernel⟩
def tx_middle : Tx := ⟨"middle", by decide +kernel⟩
def tx_odd : Tx := ⟨"odd", by decide +kernel⟩
def l_deed (word_0 : Tx) : (List Int) :=
  lett ([[(0 : Int), (0 : Int), (0 : Int), (0 : Int), (0 : Int), (0 : Int), (1 : Int), (1 : Int)], [(0 : Int), (0 : Int), (1 : Int), (1 : Int), (1 : Int), (1 : Int), (1 : Int), (1 : Int)], [(0 : Int), (0 : Int), (0 : Int), (1 : Int), (0 : Int), (1 : Int), (1 : Int), (1 : Int)], [(0 : Int), (1 : Int), (1 : Int), (0 : Int), (1 : Int), (0 : Int), (0 : Int), (1 : Int)]]) fun some_1 => (ix some_1 (idx ([T.tx_both, T.tx_either, T.tx_middle, T.tx_odd]) word_0))
def l_deed_pre (word_0 : Tx) : Prop :=
  (lett ([[(0 : Int), (0 : Int), (0 : Int), (0 : Int), (0 : Int), (0 : Int), (1 : Int), (1 : Int)], [(0 : Int), (0 : Int), (1 : Int), (1 : Int), (1 : Int), (1 : Int), (1 : Int), (1 : Int)], [(0 : Int), (0 : Int), (0 : Int), (1 : Int), (0 : Int), (1 : Int), (1 : Int), (1 : Int)], [(0 : Int), (1 : Int), (1 : Int), (0 : Int), (1 : Int), (0 : Int), (0 : Int), (1 : Int)]]) fun some_1 => ((word_0 ∈ ([T.tx_both, T.tx_either, T.tx_middle, T.tx_odd])) ∧ (-(some_1.length : Int) ≤ (idx ([T.tx_both, T.tx_either, T.tx_middle, T.tx_odd]) word_0) ∧ (idx ([T.tx_both, T.tx_either, T.tx_middle, T.tx_odd]) word_0) < (some_1.length : Int))))
def l_done (deed_0 : (List Int)) (one_0 : (List Int)) (other_0 : (List Int)) (third_0 : (List Int)) : (List Int) :=
  ((zip3 one_0 other_0 third_0).map (fun (x1 : (Int × Int × Int)) => (ix deed_0 ((((4 : Int) * x1.1) + ((2 : Int) * x1.2.1)) + x1.2.2))))
def l_done_pre (deed_0 : (List Int)) (one_0 : (List Int)) (other_0 : (List Int)) (third_0 : (List Int)) : Prop :=
  (((zip3 one_0 other_0 third_0).length ≤ 16777216) ∧ (∀ x1 ∈ (zip3 one_0 other_0 third_0), ((-(deed_0.length : Int) ≤ ((((4 : Int) * x1.1) + ((2 : Int) * x1.2.1)) + x1.2.2) ∧ ((((4 : Int) * x1.1) + ((2 : Int) * x1.2.1)) + x1.2.2) < (deed_0.length : Int)))))
def l_closed_L1 (deed_0 : (List Int)) (x6 : (List Int)) (x8 : (List Int)) (x10 : (List Int)) (s9 : ((List (List Int)) × Bool)) : ((List (List Int)) × Bool) :=
  lett ((T.l_done deed_0 x6 x8 x10)) fun row_11 => (if (!mem row_11 s9.1) = true then lett ((s9.1 ++ [row_11])) fun kept_13 => lett (true) fun grown_14 => (kept_13, grown_14) else (s9.1, s9.2))
def l_closed_Q1 (deed_0 : (List Int)) (x6 : (List Int)) (x8 : (List Int)) (x10 : (List Int)) (s9 : ((List (List Int)) × Bool)) : Prop :=
  ((T.l_done_pre deed_0 x6 x8 x10) ∧ lett ((T.l_done deed_0 x6 x8 x10)) fun row_11 => ((((!mem row_11 s9.1) = true → ((s9.1.length < 16777216) ∧ lett ((s9.1 ++ [row_11])) fun kept_13 => (lett (true) fun grown_14 => True))) ∧ ((!mem row_11 s9.1) = false → True))))
def l_closed_L2 (deed_0 : (List Int)) (x6 : (List Int)) (x8 : (List Int)) (s7 : ((List (List Int)) × Bool)) : ((List (List Int)) × Bool) :=
  lett (loopF (T.l_closed_L1 deed_0 x6 x8) s7.1 (s7.1, s7.2)) fun s9 => (s9.1, s9.2)
def l_closed_Q2 (deed_0 : (List Int)) (x6 : (List Int)) (x8 : (List Int)) (s7 : ((List (List Int)) × Bool)) : Prop :=
  ((foldP (T.l_closed_Q1 deed_0 x6 x8) (T.l_closed_L1 deed_0 x6 x8) s7.1 (s7.1, s7.2) ∧ lett (loopF (T.l_closed_L1 deed_0 x6 x8) s7.1 (s7.1, s7.2)) fun s9 => True))
def l_closed_L3 (deed_0 : (List Int)) (x6 : (List Int)) (s5 : ((List (List Int)) × Bool)) : ((List (List Int)) × Bool) :=
  lett (loopF (T.l_closed_L2 deed_0 x6) s5.1 (s5.1, s5.2)) fun s7 => (s7.1, s7.2)
def l_closed_Q3 (deed_0 : (List Int)) (x6 : (List Int)) (s5 : ((List (List Int)) × Bool)) : Prop :=
  ((foldP (T.l_closed_Q2 deed_0 x6) (T.l_closed_L2 deed_0 x6) s5.1 (s5.1, s5.2) ∧ lett (loopF (T.l_closed_L2 deed_0 x6) s5.1 (s5.1, s5.2)) fun s7 => True))
def l_closed_L4 (deed_0 : (List Int)) (s3 : ((List (List Int)) × Bool)) : ((List (List Int)) × Bool) :=
  lett (false) fun grown_4 => lett (loopF (T.l_closed_L3 deed_0) s3.1 (s3.1, grown_4)) fun s5 => (s5.1, s5.2)
def l_closed_C4 (deed_0 : (List Int)) (s3 : ((List (List Int)) × Bool)) : Bool :=
  s3.2
def l_closed_Q4 (deed_0 : (List Int)) (s3 : ((List (List Int)) × Bool)) : Prop :=
  (lett (false) fun grown_4 => ((foldP (T.l_closed_Q3 deed_0) (T.l_closed_L3 deed_0) s3.1 (s3.1, grown_4) ∧ lett (loopF (T.l_closed_L3 deed_0) s3.1 (s3.1, grown_4)) fun s5 => True)))
def l_closed_D4 (deed_0 : (List Int)) (s3 : ((List (List Int)) × Bool)) : Prop :=
  True
def l_closed (deed_0 : (List Int)) (rows_0 : (List (List Int))) : (List (List Int)) :=
  lett (rows_0) fun kept_1 => lett (true) fun grown_2 => lett (whl (T.l_closed_C4 deed_0) (T.l_closed_L4 deed_0) 100 (kept_1, grown_2)) fun s3 => (sortT s3.1)
def l_closed_pre (deed_0 : (List Int)) (rows_0 : (List (List Int))) : Prop :=
  (lett (rows_0) fun kept_1 => (lett (true) fun grown_2 => (whlP (T.l_closed_C4 deed_0) (T.l_closed_L4 deed_0) (T.l_closed_D4 deed_0) (T.l_closed_Q4 deed_0) 100 (kept_1, grown_2) ∧ lett (whl (T.l_closed_C4 deed_0) (T.l_closed_L4 deed_0) 100 (kept_1, grown_2)) fun s3 => ((∀ r ∈ s3.1, r ≠ [])))))
def l_table_L1 (number_5 : (Int × Dw)) (x7 : (List Int)) (s6 : ((List (List Int)) × Dw)) : ((List (List Int)) × Dw) :=
  lett (bnd (nextP s6.2) fun q8 => ((eqb (q8.1 % (ix ([(2 : Int), (3 : Int), (4 : Int), (8 : Int)]) (number_5.1 % (4 : Int)))) (1 : Int)), q8.2)) fun c9 => (if c9.1 = true then lett ((s6.1 ++ [x7])) fun rows_11 => (rows_11, c9.2) else (s6.1, c9.2))
def l_table_Q1 (number_5 : (Int × Dw)) (x7 : (List Int)) (s6 : ((List (List Int)) × Dw)) : Prop :=
  ((nextP_pre s6.2) ∧ bnd (nextP s6.2) fun q8 => (-(([(2 : Int), (3 : Int), (4 : Int), (8 : Int)]).length : Int) ≤ (number_5.1 % (4 : Int)) ∧ (number_5.1 % (4 : Int)) < (([(2 : Int), (3 : Int), (4 : Int), (8 : Int)]).length : Int)) ∧ (0 < (ix ([(2 : Int), (3 : Int), (4 : Int), (8 : Int)]) (number_5.1 % (4 : Int)))) ∧ lett (bnd (nextP s6.2) fun q8 => ((eqb (q8.1 % (ix ([(2 : Int), (3 : Int), (4 : Int), (8 : Int)]) (number_5.1 % (4 : Int)))) (1 : Int)), q8.2)) fun c9 => ((c9.1 = true → ((s6.1.length < 16777216) ∧ lett ((s6.1 ++ [x7])) fun rows_11 => True)) ∧ (c9.1 = false → True)))
def l_table (s0 : Dw) (word_0 : Tx) (widest_0 : Int) : ((Int × (List (List Int))) × Dw) :=
  lett (bnd (nextP s0) fun q1 => (((1 : Int) + (q1.1 % widest_0)), q1.2)) fun width_2 => lett (([] : List (List Int))) fun rows_3 => lett (bnd (nextP width_2.2) fun q4 => (q4.1, q4.2)) fun number_5 => lett (loopF (T.l_table_L1 number_5) (T.l_rows_of width_2.1) (rows_3, number_5.2)) fun s6 => (if ((eqb s6.1 ([] : List (List Int))) && (decide ((0 : Int) < ((number_5.1 / (4 : Int)) % (4 : Int))))) = true then lett ([(ix (T.l_rows_of width_2.1) ((number_5.1 / (16 : Int)) % ((T.l_rows_of width_2.1).length : Int)))]) fun rows_14 => (if (!eqb word_0 T.tx_any) = true then lett ((T.l_closed (T.l_deed word_0) rows_14)) fun rows_16 => ((width_2.1, rows_16), s6.2) else ((width_2.1, rows_14), s6.2)) else (if (!eqb word_0 T.tx_any) = true then lett ((T.l_closed (T.l_deed word_0) s6.1)) fun rows_18 => ((width_2.1, rows_18), s6.2) else ((width_2.1, s6.1), s6.2)))
def l_table_pre (s0 : Dw) (word_0 : Tx) (widest_0 : Int) : Prop :=
  ((nextP_pre s0) ∧ bnd (nextP s0) fun q1 => (0 < widest_0) ∧ lett (bnd (nextP s0) fun q1 => (((1 : Int) + (q1.1 % widest_0)), q1.2)) fun width_2 => (lett (([] : List (List Int))) fun rows_3 => ((nextP_pre width_2.2) ∧ bnd (nextP width_2.2) fun q4 => lett (bnd (nextP width_2.2) fun q4 => (q4.1, q4.2)) fun number_5 => ((T.l_rows_of_pre width_2.1) ∧ (foldP (T.l_table_Q1 number_5) (T.l_table_L1 number_5) (T.l_rows_of width_2.1) (rows_3, number_5.2) ∧ lett (loopF (T.l_table_L1 number_5) (T.l_rows_of width_2.1) (rows_3, number_5.2)) fun s6 => (((((eqb s6.1 ([] : List (List Int))) && (decide ((0 : Int) < ((number_5.1 / (4 : Int)) % (4 : Int))))) = true → ((T.l_rows_of_pre width_2.1) ∧ (T.l_rows_of_pre width_2.1) ∧ (0 < ((T.l_rows_of width_2.1).length : Int)) ∧ (-((T.l_rows_of width_2.1).length : Int) ≤ ((number_5.1 / (16 : Int)) % ((T.l_rows_of width_2.1).length : Int)) ∧ ((number_5.1 / (16 : Int)) % ((T.l_rows_of width_2.1).length : Int)) < ((T.l_rows_of width_2.1).length : Int)) ∧ lett ([(ix (T.l_rows_of width_2.1) ((number_5.1 / (16 : Int)) % ((T.l_rows_of width_2.1).length : Int)))]) fun rows_14 => ((((!eqb word_0 T.tx_any) = true → ((T.l_deed_pre word_0) ∧ (T.l_closed_pre (T.l_deed word_0) rows_14) ∧ lett ((T.l_closed (T.l_deed word_0) rows_14)) fun rows_16 => True)) ∧ ((!eqb word_0 T.tx_any) = false → True))))) ∧ (((eqb s6.1 ([] : List (List Int))) && (decide ((0 : Int) < ((number_5.1 / (4 : Int)) % (4 : Int))))) = false → ((((!eqb word_0 T.tx_any) = true → ((T.l_deed_pre word_0) ∧ (T.l_closed_pre (T.l_deed word_0) s6.1) ∧ lett ((T.l_closed (T.l_deed word_0) s6.1)) fun rows_18 => True)) ∧ ((!eqb word_0 T.tx_any) = false → True)))))))))))
end T

set_option synthInstance.maxSize 4000
set_option maxHeartbeats 4000000
/-! printed by tgen.py: typed defs of easykinds_k32_fillings_that_fit -/
namespace T
open PySem PySem.Spec PyProof.Rows L2 MP
end T

set_option synthInstance.maxSize 4000
set_option maxHeartbeats 4000000
/-! printed by tgen.py: typed defs of easykinds_k33_own_names_and_rows -/
namespace T
open PySem PySem.Spec PyProof.Rows L2 MP
end T

set_option synthInstance.maxSize 4000
set_option maxHeartbeats 4000000
/-! printed by tgen.py: typed defs of easykinds_k42_whole_forced_of_both_and_e -/
namespace T
open PySem PySem.Spec PyProof.Rows L2 MP
end T

set_option synthInstance.maxSize 4000
set_option maxHeartbeats 4000000
/-! printed by tgen.py: typed defs of easykinds_k41_forced -/
namespace T
open PySem PySem.Spec PyProof.Rows L2 MP
end T

set_option synthInstance.maxSize 4000
set_option maxHeartbeats 4000000
/-! printed by tgen.py: typed defs of easykinds_k23_whole_kinds_told_by_tables -/
namespace T
open PySem PySem.Spec PyProof.Rows L2 MP
end T

set_option synthInstance.maxSize 4000
set_option maxHeartbeats 4000000
/-! printed by tgen.py: typed defs of easykinds_k13_breaks_and_keeps -/
namespace T
open PySem PySem.Spec PyProof.Rows L2 MP
end T

set_option synthInstance.maxSize 4000
set_option maxHeartbeats 4000000
/-! printed by tgen.py: typed defs of easykinds_k31_questions_looked_at -/
namespace T
open PySem PySem.Spec PyProof.Rows L2 MP
end T

set_option synthInstance.maxSize 4000
set_option maxHeartbeats 4000000
/-! printed by tgen.py: typed defs of easykinds_k11_deeds_looked_at -/
namespace T
open PySem PySem.Spec PyProof.Rows L2 MP
end T

set_option synthInstance.maxSize 4000
set_option maxHeartbeats 4000000
/-! printed by tgen.py: typed defs of easykinds_k01_tables_looked_at -/
namespace T
open PySem PySem.Spec PyProof.Rows L2 MP
end T

/-! TLB: x(lambda a: body, due, things), typed; sum(lists, [x]) -/
namespace MP
open PySem PySem.Spec PyProof.Rows L2
theorem lstsD_map {α : Type} {e : α → D} : ∀ xss : List (List α), lstsD (xss.map (eL e)) = some (xss.map (List.map e))
  | [] => rfl
  | xs :: r => by
    simp only [List.map_cons]
    unfold lstsD
    rw [lstsD_map r]
    rfl
theorem x_sumL {α : Type} {e : α → D} {xss : List (List α)} {zs : List α} {a b : Ex} {η : En} {S S1 S2 : Store} (hz : zs.length + (xss.map List.length).sum ≤ 16777216) (ha : a η S = .ok (.d (.lst (xss.map (eL e)))) S1) (hb : b η S1 = .ok (.d (.lst (zs.map e))) S2) :
    cal bSumL (consA a (consA b nilA)) η S = .ok (.d (.lst ((zs ++ xss.flatten).map e))) S2 := by
  have h1 : (xss.map (List.map e)).map List.length = xss.map List.length := by rw [List.map_map]; apply List.map_congr_left; intro x _; simp
  have h2 : (zs ++ xss.flatten).map e = zs.map e ++ (xss.map (List.map e)).flatten := by rw [List.map_append, List.map_flatten]
  unfold cal
  rw [cons_of ha (cons_of hb nil_of), bind_ok]
  unfold bSumL
  simp only [lstsD_map, h1, List.length_map, hz, if_true, h2]
/-- a told tuple of a number and a new list of rows -/
abbrev toldV (n : Nat) (w : Int) : Vl := .t [.d (.int w), .p n]
abbrev rowsC (rows : List (List Int)) : Cl := .l (rows.map (eT D.int))
theorem thunk_run {b : Ex} {η : En} {x : D} {w : Int} {rows : List (List Int)} (hx : nfn x = true) (h : b (η ++ [some (.d x)]) ⟨[]⟩ = .ok (toldV 0 w) ((⟨[]⟩ : Store).pl [rowsC rows])) (S : Store) : thunkF b η [.d x] S = .ok (toldV S.L.length w) (S.pl [rowsC rows]) := by
  unfold thunkF
  simp only [hx, if_true, h]
  rfl
theorem x_askL {F : Fn → Fn} {b : Ex} {fd : As} {η : En} {S S1 : Store} {due x : D} {r : Bool} (ha : fd η S = .ok [.d due, .d x] S1) (hF : F (thunkF b (trees η)) [.d (.fn askN), .d due, .d x] ⟨[]⟩ = .ok (.d (.bl r)) ⟨[]⟩) : askL F b fd η S = .ok (.d (.bl r)) S1 := by
  unfold askL
  rw [ha, bind_ok]
  have e : allVd [Vl.d due, Vl.d x] = some [due, x] := rfl
  simp only [e]
  have e2 : ([due, x].map Vl.d) = [Vl.d due, Vl.d x] := rfl
  simp only [e2, hF]
/-- no def in any tree of this kind -/
def NF {α : Type} (e : α → D) : Prop := ∀ x, nfn (e x) = true
theorem nfI : NF D.int := fun _ => rfl
theorem nfs_map {α : Type} {e : α → D} (h : NF e) : ∀ xs : List α, nfns (xs.map e) = true
  | [] => rfl
  | x :: xs => by simp only [List.map_cons, nfns, h x, nfs_map h xs, Bool.and_self]
theorem nfT {α : Type} {e : α → D} (h : NF e) : NF (eT e) := fun xs => by show nfn (.tup _) = true; simp only [nfn]; exact nfs_map h xs
theorem nfL {α : Type} {e : α → D} (h : NF e) : NF (eL e) := fun xs => by show nfn (.lst _) = true; simp only [nfn]; exact nfs_map h xs
theorem nfP2 {α β : Type} {e : α → D} {f : β → D} (h : NF e) (g : NF f) : NF (eP2 e f) := fun p => by show nfn (.tup _) = true; simp only [nfn, nfns, h p.1, g p.2, Bool.and_self]
/-- lists of one, of two unlike things -/
abbrev eH1 {α : Type} (e : α → D) (p : α) : D := .lst [e p]
abbrev eH2 {α β : Type} (e : α → D) (f : β → D) (p : α × β) : D := .lst [e p.1, f p.2]
theorem nfH1 {α : Type} {e : α → D} (h : NF e) : NF (eH1 e) := fun p => by show nfn (.lst _) = true; simp only [nfn, nfns, h p, Bool.and_self]
theorem nfH2 {α β : Type} {e : α → D} {f : β → D} (h : NF e) (g : NF f) : NF (eH2 e f) := fun p => by show nfn (.lst _) = true; simp only [nfn, nfns, h p.1, g p.2, Bool.and_self]
theorem x_l1 {α : Type} {e : α → D} {p : α} {a : Ex} {η : En} {S S1 : Store} (h : a η S = .ok (.d (eH1 e p)) S1) : bin oIx a (cst (.int 0)) η S = .ok (.d (e p)) S1 := bin_of h rfl rfl
theorem x_l21 {α β : Type} {e : α → D} {f : β → D} {p : α × β} {a : Ex} {η : En} {S S1 : Store} (h : a η S = .ok (.d (eH2 e f p)) S1) : bin oIx a (cst (.int 0)) η S = .ok (.d (e p.1)) S1 := bin_of h rfl rfl
theorem x_l22 {α β : Type} {e : α → D} {f : β → D} {p : α × β} {a : Ex} {η : En} {S S1 : Store} (h : a η S = .ok (.d (eH2 e f p)) S1) : bin oIx a (cst (.int 1)) η S = .ok (.d (f p.2)) S1 := bin_of h rfl rfl
theorem l_l1 {α : Type} {e : α → D} {p : α} {a : Ex} {η : En} {S S1 : Store} (h : a η S = .ok (.d (e p)) S1) : frz (lstE (consA a nilA)) η S = .ok (.d (eH1 e p)) S1 := x_frz (x_lst (ds := [e p]) (cons_of h nil_of) (by show 1 ≤ _; decide))
theorem l_l2 {α β : Type} {e : α → D} {f : β → D} {p : α × β} {a b : Ex} {η : En} {S S1 S2 : Store} (h : a η S = .ok (.d (e p.1)) S1) (g : b η S1 = .ok (.d (f p.2)) S2) : frz (lstE (consA a (consA b nilA))) η S = .ok (.d (eH2 e f p)) S2 := x_frz (x_lst (ds := [e p.1, f p.2]) (cons_of h (cons_of g nil_of)) (by show 2 ≤ _; decide))
/-- what the look tells -/
abbrev toldB (told due : Int × List (List Int)) : Bool := decide (told = due)
/-- what the look at a told table needs -/
structure ToldP (x : D) (told : Int × List (List Int)) : Prop where
  sh : Shn 20 16777216 x
  lt : isLT x = true
  len : told.2.length ≤ 1000
  row : ∀ r ∈ told.2, r.length ≤ 1000
theorem sum_len {rows : List (List Int)} {n m : Nat} (h : rows.length ≤ n) (hr : ∀ r ∈ rows, r.length ≤ m) : (rows.map List.length).sum ≤ n * m := by
  have key : ∀ l : List (List Int), (∀ r ∈ l, r.length ≤ m) → (l.map List.length).sum ≤ l.length * m := by
    intro l
    induction l with
    | nil => intro _; simp
    | cons a l ih =>
      intro hl
      have h1 := hl a (List.mem_cons_self ..)
      have h2 := ih fun r hr => hl r (List.mem_cons_of_mem _ hr)
      rw [List.map_cons, List.sum_cons, List.length_cons, Nat.succ_mul]; omega
  exact Nat.le_trans (key rows hr) (Nat.mul_le_mul_right _ h)
/-! ### one statement behind the other -/
section
variable {n i : Nat} {η η1 : En} {S S1 : Store} {e : Ex} {c : Te} {a b : Stm} {v : Vl} {is : List Nat}
theorem s_seq (h : a n η S = .next η1 S1) : seqS a b n η S = b n η1 S1 := by unfold seqS; rw [h]; rfl
theorem s_seqR (h : a n η S = .ret v S1) : seqS a b n η S = .ret v S1 := by unfold seqS; rw [h]; rfl
theorem s_asg (h : e η S = .ok v S1) : asg i e n η S = .next (η.set i (some v)) S1 := by unfold asg; rw [h]; rfl
theorem s_drop (h : e η S = .ok v S1) : drop e n η S = .next η S1 := by unfold drop; rw [h]; rfl
theorem s_ret (h : e η S = .ok v S1) : ret e n η S = .ret v S1 := by unfold ret; rw [h]; rfl
theorem s_wip (h : a n η S = .next η1 S1) : wipS is a n η S = .next (wipeE is η1) S1 := by unfold wipS; rw [h]
theorem s_wipR (h : a n η S = .ret v S1) : wipS is a n η S = .ret v S1 := by unfold wipS; rw [h]
theorem s_reg (h : a n η S = .next η1 S1) : regS is a n η S = .next (wipeE is (frEn S.L.length S1 η1)) ⟨S1.L.take S.L.length⟩ := by unfold regS; rw [h]
theorem s_regR (h : a n η S = .ret v S1) : regS is a n η S = .ret v S1 := by unfold regS; rw [h]
theorem s_ifT (h : c η S = .ok true S1) : ifS c a b n η S = a n η S1 := by unfold ifS; rw [h]; rfl
theorem s_ifF (h : c η S = .ok false S1) : ifS c a b n η S = b n η S1 := by unfold ifS; rw [h]; rfl
variable {t : Tg} {it : Li} {ds : List D} {x : D} {S2 : Store} {η2 : En}
theorem s_for (h : it η S = .ok ds S1) : forS t it b n η S = loopL t b n ds η S1 := by unfold forS; rw [h]; rfl
theorem s_loop (h : t (.d x) η = some η1) (h2 : b n η1 S = .next η2 S2) : loopL t b n (x :: ds) η S = loopL t b n ds η2 S2 := by
  show (match t (.d x) η with | none => SR.stuck | some η1 => _) = _
  rw [h]
  simp only [h2]
theorem s_loopR (h : t (.d x) η = some η1) (h2 : b n η1 S = .ret v S2) : loopL t b n (x :: ds) η S = .ret v S2 := by
  show (match t (.d x) η with | none => SR.stuck | some η1 => _) = _
  rw [h]
  simp only [h2]
end
end MP

set_option synthInstance.maxSize 4000
set_option maxHeartbeats 4000000
/-! printed by tgen.py: typed defs of easykinds_k02_tables_put_together -/
namespace T
open PySem PySem.Spec PyProof.Rows L2 MP
def l_same_width_L1  (x3 : (List Int)) (s2 : ((List (List Int)) × Dw)) : ((List (List Int)) × Dw) :=
  lett (bnd (nextP s2.2) fun q4 => ((decide ((0 : Int) < (q4.1 % (3 : Int)))), q4.2)) fun c5 => (if c5.1 = true then lett ((s2.1 ++ [x3])) fun rows_7 => (rows_7, c5.2) else (s2.1, c5.2))
def l_same_width_Q1  (x3 : (List Int)) (s2 : ((List (List Int)) × Dw)) : Prop :=
  ((nextP_pre s2.2) ∧ bnd (nextP s2.2) fun q4 => lett (bnd (nextP s2.2) fun q4 => ((decide ((0 : Int) < (q4.1 % (3 : Int)))), q4.2)) fun c5 => ((c5.1 = true → ((s2.1.length < 16777216) ∧ lett ((s2.1 ++ [x3])) fun rows_7 => True)) ∧ (c5.1 = false → True)))
def l_same_width (s0 : Dw) (width_0 : Int) : ((Int × (List (List Int))) × Dw) :=
  lett (([] : List (List Int))) fun rows_1 => lett (loopF T.l_same_width_L1 (T.l_rows_of width_0) (rows_1, s0)) fun s2 => ((width_0, s2.1), s2.2)
def l_same_width_pre (s0 : Dw) (width_0 : Int) : Prop :=
  (lett (([] : List (List Int))) fun rows_1 => ((T.l_rows_of_pre width_0) ∧ (foldP T.l_same_width_Q1 T.l_same_width_L1 (T.l_rows_of width_0) (rows_1, s0) ∧ lett (loopF T.l_same_width_L1 (T.l_rows_of width_0) (rows_1, s0)) fun s2 => True)))
def common (one_0 : (Int × (List (List Int)))) (other_0 : (Int × (List (List Int)))) : (Int × (List (List Int))) :=
  (one_0.1, ((one_0.2.filter (fun (x1 : (List Int)) => (mem x1 other_0.2))).map (fun (x1 : (List Int)) => x1)))
def common_pre (one_0 : (Int × (List (List Int)))) (other_0 : (Int × (List (List Int)))) : Prop :=
  ((one_0.2.length ≤ 16777216))
def l_narrow (table_0 : (Int × (List (List Int)))) (widest_0 : Int) : (Int × (List (List Int))) :=
  lett ((if widest_0 < table_0.1 then widest_0 else table_0.1)) fun width_1 => (width_1, (usortT (table_0.2.map (fun (x2 : (List Int)) => (cutD x2 none (some width_1))))))
def l_narrow_pre (table_0 : (Int × (List (List Int)))) (widest_0 : Int) : Prop :=
  (lett ((if widest_0 < table_0.1 then widest_0 else table_0.1)) fun width_1 => ((table_0.2.length ≤ 16777216) ∧ (setOkT (table_0.2.map (fun (x2 : (List Int)) => (cutD x2 none (some width_1)))) = true)))
def beside_L1 (other_0 : (Int × (List (List Int)))) (x3 : (List Int)) (s2 : ((List (List Int)))) : ((List (List Int))) :=
  lett ((s2 ++ (other_0.2.map (fun (x5 : (List Int)) => (x3 ++ x5))))) fun found_4 => found_4
def beside_Q1 (other_0 : (Int × (List (List Int)))) (x3 : (List Int)) (s2 : ((List (List Int)))) : Prop :=
  ((other_0.2.length ≤ 16777216) ∧ (∀ x5 ∈ other_0.2, ((x3.length + x5.length ≤ 16777216))) ∧ (s2.length + (other_0.2.map (fun (x5 : (List Int)) => (x3 ++ x5))).length ≤ 16777216) ∧ lett ((s2 ++ (other_0.2.map (fun (x5 : (List Int)) => (x3 ++ x5))))) fun found_4 => True)
def beside (one_0 : (Int × (List (List Int)))) (other_0 : (Int × (List (List Int)))) : (Int × (List (List Int))) :=
  lett (([] : List (List Int))) fun found_1 => lett (loopF (T.beside_L1 other_0) one_0.2 found_1) fun s2 => ((one_0.1 + other_0.1), s2)
def beside_pre (one_0 : (Int × (List (List Int)))) (other_0 : (Int × (List (List Int)))) : Prop :=
  (lett (([] : List (List Int))) fun found_1 => ((foldP (T.beside_Q1 other_0) (T.beside_L1 other_0) one_0.2 found_1 ∧ lett (loopF (T.beside_L1 other_0) one_0.2 found_1) fun s2 => True)))
def alike (table_0 : (Int × (List (List Int)))) (i_0 : Int) (j_0 : Int) : (Int × (List (List Int))) :=
  (table_0.1, ((table_0.2.filter (fun (x1 : (List Int)) => (eqb (ix x1 i_0) (ix x1 j_0)))).map (fun (x1 : (List Int)) => x1)))
def alike_pre (table_0 : (Int × (List (List Int)))) (i_0 : Int) (j_0 : Int) : Prop :=
  ((table_0.2.length ≤ 16777216) ∧ (∀ x1 ∈ table_0.2, ((-(x1.length : Int) ≤ i_0 ∧ i_0 < (x1.length : Int)) ∧ (-(x1.length : Int) ≤ j_0 ∧ j_0 < (x1.length : Int)))))
def having (table_0 : (Int × (List (List Int)))) (i_0 : Int) (value_0 : Int) : (Int × (List (List Int))) :=
  (table_0.1, ((table_0.2.filter (fun (x1 : (List Int)) => (eqb (ix x1 i_0) value_0))).map (fun (x1 : (List Int)) => x1)))
def having_pre (table_0 : (Int × (List (List Int)))) (i_0 : Int) (value_0 : Int) : Prop :=
  ((table_0.2.length ≤ 16777216) ∧ (∀ x1 ∈ table_0.2, ((-(x1.length : Int) ≤ i_0 ∧ i_0 < (x1.length : Int)))))
def taken (table_0 : (Int × (List (List Int)))) (places_0 : (List Int)) : (Int × (List (List Int))) :=
  lett ((table_0.2.map (fun (x1 : (List Int)) => (places_0.map (fun (x2 : Int) => (ix x1 x2)))))) fun found_3 => ((places_0.length : Int), (usortT found_3))
def taken_pre (table_0 : (Int × (List (List Int)))) (places_0 : (List Int)) : Prop :=
  ((table_0.2.length ≤ 16777216) ∧ (∀ x1 ∈ table_0.2, ((places_0.length ≤ 16777216) ∧ (∀ x2 ∈ places_0, ((-(x1.length : Int) ≤ x2 ∧ x2 < (x1.length : Int)))))) ∧ lett ((table_0.2.map (fun (x1 : (List Int)) => (places_0.map (fun (x2 : Int) => (ix x1 x2)))))) fun found_3 => ((setOkT found_3 = true)))
def l_right_12_L1 (more_14 : ((Int × (List (List Int))) × Dw)) (x17 : (List Int)) (s16 : ((List (List Int)))) : ((List (List Int))) :=
  lett ((s16 ++ (more_14.1.2.map (fun (x18 : (List Int)) => (x17 ++ x18))))) fun both_19 => both_19
def l_right_12_Q1 (more_14 : ((Int × (List (List Int))) × Dw)) (x17 : (List Int)) (s16 : ((List (List Int)))) : Prop :=
  ((more_14.1.2.length ≤ 16777216) ∧ (∀ x18 ∈ more_14.1.2, ((x17.length + x18.length ≤ 16777216))) ∧ (s16.length + (more_14.1.2.map (fun (x18 : (List Int)) => (x17 ++ x18))).length ≤ 16777216) ∧ lett ((s16 ++ (more_14.1.2.map (fun (x18 : (List Int)) => (x17 ++ x18))))) fun both_19 => True)
def l_right_12_L2 (p5 : (Int × (List (List Int)))) (places_40 : ((List Int) × Dw)) (x44 : (List Int)) (s43 : ((List (List Int)))) : ((List (List Int))) :=
  (if (!eqb ((p5.2.filter (fun (x45 : (List Int)) => (eqb (places_40.1.map (fun (x46 : Int) => (ix x45 x46))) x44))).map (fun (x45 : (List Int)) => x45)) ([] : List (List Int))) = true then lett ((s43 ++ [x44])) fun made_49 => made_49 else s43)
def l_right_12_Q2 (p5 : (Int × (List (List Int)))) (places_40 : ((List Int) × Dw)) (x44 : (List Int)) (s43 : ((List (List Int)))) : Prop :=
  ((p5.2.length ≤ 16777216) ∧ (∀ x45 ∈ p5.2, ((places_40.1.length ≤ 16777216) ∧ (∀ x46 ∈ places_40.1, ((-(x45.length : Int) ≤ x46 ∧ x46 < (x45.length : Int)))))) ∧ (((!eqb ((p5.2.filter (fun (x45 : (List Int)) => (eqb (places_40.1.map (fun (x46 : Int) => (ix x45 x46))) x44))).map (fun (x45 : (List Int)) => x45)) ([] : List (List Int))) = true → ((s43.length < 16777216) ∧ lett ((s43 ++ [x44])) fun made_49 => True)) ∧ ((!eqb ((p5.2.filter (fun (x45 : (List Int)) => (eqb (places_40.1.map (fun (x46 : Int) => (ix x45 x46))) x44))).map (fun (x45 : (List Int)) => x45)) ([] : List (List Int))) = false → True)))
def l_right_12 (s0 : Dw) : (Bool × Dw) :=
  lett (bnd (nextP s0) fun q1 => ((ix ([T.tx_both, T.tx_either, T.tx_middle, T.tx_odd, T.tx_any]) (q1.1 % (5 : Int))), q1.2)) fun word_2 => lett (bnd (T.l_table word_2.2 word_2.1 (4 : Int)) fun q3 => (q3.1, q3.2)) fun table_4 => lett (table_4.1) fun p5 => lett (bnd (T.l_same_width table_4.2 p5.1) fun q6 => (q6.1, q6.2)) fun other_7 => lett ((p5.1, ((p5.2.filter (fun (x8 : (List Int)) => (mem x8 other_7.1.2))).map (fun (x8 : (List Int)) => x8)))) fun due_10 => (if (!(toldB (T.common ((table_4.1, other_7.1).1) ((table_4.1, other_7.1).2)) due_10)) = true then (false, other_7.2) else lett ((T.l_narrow table_4.1 (3 : Int))) fun one_12 => lett (bnd (T.l_table other_7.2 T.tx_any (3 : Int)) fun q13 => ((T.l_narrow q13.1 ((4 : Int) - one_12.1)), q13.2)) fun more_14 => lett (([] : List (List Int))) fun both_15 => lett (loopF (T.l_right_12_L1 more_14) one_12.2 both_15) fun s16 => lett (((one_12.1 + more_14.1.1), s16)) fun due_20 => (if (!(toldB (T.beside ((one_12, more_14.1).1) ((one_12, more_14.1).2)) due_20)) = true then (false, more_14.2) else lett (bnd (nextP more_14.2) fun q22 => bnd (nextP q22.2) fun q23 => (((q22.1 % p5.1), (q23.1 % p5.1)), q23.2)) fun p24 => lett (bnd (nextP p24.2) fun q25 => ((q25.1 % (2 : Int)), q25.2)) fun value_26 => lett ((p5.1, ((p5.2.filter (fun (x27 : (List Int)) => (eqb (ix x27 p24.1.1) (ix x27 p24.1.2)))).map (fun (x27 : (List Int)) => x27)))) fun due_29 => (if (!(toldB (T.alike table_4.1 p24.1.1 p24.1.2) due_29)) = true then (false, value_26.2) else lett ((p5.1, ((p5.2.filter (fun (x31 : (List Int)) => (eqb (ix x31 p24.1.1) value_26.1))).map (fun (x31 : (List Int)) => x31)))) fun due_33 => (if (!(toldB (T.having table_4.1 p24.1.1 value_26.1) due_33)) = true then (false, value_26.2) else lett (bnd (nextP value_26.2) fun q35 => bnd (mapD (fun (x36 : Int) (w37 : Dw) => bnd (nextP w37) fun q38 => ((q38.1 % p5.1), q38.2)) (upto ((1 : Int) + (q35.1 % (4 : Int)))) q35.2) fun q39 => (q39.1, q39.2)) fun places_40 => lett (([] : List (List Int))) fun made_41 => lett (lett (loopF (T.l_right_12_L2 p5 places_40) (T.l_rows_of (places_40.1.length : Int)) made_41) fun s43 => (s43, places_40.2)) fun s42 => ((toldB (T.taken ((table_4.1, places_40.1).1) ((table_4.1, places_40.1).2)) ((places_40.1.length : Int), s42.1)), s42.2)))))
def l_right_12_pre (s0 : Dw) : Prop :=
  ((nextP_pre s0) ∧ bnd (nextP s0) fun q1 => (-(([T.tx_both, T.tx_either, T.tx_middle, T.tx_odd, T.tx_any]).length : Int) ≤ (q1.1 % (5 : Int)) ∧ (q1.1 % (5 : Int)) < (([T.tx_both, T.tx_either, T.tx_middle, T.tx_odd, T.tx_any]).length : Int)) ∧ lett (bnd (nextP s0) fun q1 => ((ix ([T.tx_both, T.tx_either, T.tx_middle, T.tx_odd, T.tx_any]) (q1.1 % (5 : Int))), q1.2)) fun word_2 => ((T.l_table_pre word_2.2 word_2.1 (4 : Int)) ∧ bnd (T.l_table word_2.2 word_2.1 (4 : Int)) fun q3 => lett (bnd (T.l_table word_2.2 word_2.1 (4 : Int)) fun q3 => (q3.1, q3.2)) fun table_4 => (lett (table_4.1) fun p5 => ((T.l_same_width_pre table_4.2 p5.1) ∧ bnd (T.l_same_width table_4.2 p5.1) fun q6 => lett (bnd (T.l_same_width table_4.2 p5.1) fun q6 => (q6.1, q6.2)) fun other_7 => ((p5.2.length ≤ 16777216) ∧ lett ((p5.1, ((p5.2.filter (fun (x8 : (List Int)) => (mem x8 other_7.1.2))).map (fun (x8 : (List Int)) => x8)))) fun due_10 => ((T.common_pre ((table_4.1, other_7.1).1) ((table_4.1, other_7.1).2)) ∧ (ToldP ((eH2 (eP2 D.int (eL (eT D.int))) (eP2 D.int (eL (eT D.int)))) (table_4.1, other_7.1)) (T.common ((table_4.1, other_7.1).1) ((table_4.1, other_7.1).2))) ∧ (((!(toldB (T.common ((table_4.1, other_7.1).1) ((table_4.1, other_7.1).2)) due_10)) = true → True) ∧ ((!(toldB (T.common ((table_4.1, other_7.1).1) ((table_4.1, other_7.1).2)) due_10)) = false → ((T.l_narrow_pre table_4.1 (3 : Int)) ∧ lett ((T.l_narrow table_4.1 (3 : Int))) fun one_12 => ((T.l_table_pre other_7.2 T.tx_any (3 : Int)) ∧ bnd (T.l_table other_7.2 T.tx_any (3 : Int)) fun q13 => (T.l_narrow_pre q13.1 ((4 : Int) - one_12.1)) ∧ lett (bnd (T.l_table other_7.2 T.tx_any (3 : Int)) fun q13 => ((T.l_narrow q13.1 ((4 : Int) - one_12.1)), q13.2)) fun more_14 => (lett (([] : List (List Int))) fun both_15 => ((foldP (T.l_right_12_Q1 more_14) (T.l_right_12_L1 more_14) one_12.2 both_15 ∧ lett (loopF (T.l_right_12_L1 more_14) one_12.2 both_15) fun s16 => (lett (((one_12.1 + more_14.1.1), s16)) fun due_20 => ((T.beside_pre ((one_12, more_14.1).1) ((one_12, more_14.1).2)) ∧ (ToldP ((eH2 (eP2 D.int (eL (eT D.int))) (eP2 D.int (eL (eT D.int)))) (one_12, more_14.1)) (T.beside ((one_12, more_14.1).1) ((one_12, more_14.1).2))) ∧ (((!(toldB (T.beside ((one_12, more_14.1).1) ((one_12, more_14.1).2)) due_20)) = true → True) ∧ ((!(toldB (T.beside ((one_12, more_14.1).1) ((one_12, more_14.1).2)) due_20)) = false → ((nextP_pre more_14.2) ∧ bnd (nextP more_14.2) fun q22 => (0 < p5.1) ∧ (nextP_pre q22.2) ∧ bnd (nextP q22.2) fun q23 => (0 < p5.1) ∧ lett (bnd (nextP more_14.2) fun q22 => bnd (nextP q22.2) fun q23 => (((q22.1 % p5.1), (q23.1 % p5.1)), q23.2)) fun p24 => ((nextP_pre p24.2) ∧ bnd (nextP p24.2) fun q25 => lett (bnd (nextP p24.2) fun q25 => ((q25.1 % (2 : Int)), q25.2)) fun value_26 => ((p5.2.length ≤ 16777216) ∧ (∀ x27 ∈ p5.2, ((-(x27.length : Int) ≤ p24.1.1 ∧ p24.1.1 < (x27.length : Int)) ∧ (-(x27.length : Int) ≤ p24.1.2 ∧ p24.1.2 < (x27.length : Int)))) ∧ lett ((p5.1, ((p5.2.filter (fun (x27 : (List Int)) => (eqb (ix x27 p24.1.1) (ix x27 p24.1.2)))).map (fun (x27 : (List Int)) => x27)))) fun due_29 => ((T.alike_pre table_4.1 p24.1.1 p24.1.2) ∧ (ToldP ((eH1 (eP2 D.int (eL (eT D.int)))) table_4.1) (T.alike table_4.1 p24.1.1 p24.1.2)) ∧ (((!(toldB (T.alike table_4.1 p24.1.1 p24.1.2) due_29)) = true → True) ∧ ((!(toldB (T.alike table_4.1 p24.1.1 p24.1.2) due_29)) = false → ((p5.2.length ≤ 16777216) ∧ (∀ x31 ∈ p5.2, ((-(x31.length : Int) ≤ p24.1.1 ∧ p24.1.1 < (x31.length : Int)))) ∧ lett ((p5.1, ((p5.2.filter (fun (x31 : (List Int)) => (eqb (ix x31 p24.1.1) value_26.1))).map (fun (x31 : (List Int)) => x31)))) fun due_33 => ((T.having_pre table_4.1 p24.1.1 value_26.1) ∧ (ToldP ((eH1 (eP2 D.int (eL (eT D.int)))) table_4.1) (T.having table_4.1 p24.1.1 value_26.1)) ∧ (((!(toldB (T.having table_4.1 p24.1.1 value_26.1) due_33)) = true → True) ∧ ((!(toldB (T.having table_4.1 p24.1.1 value_26.1) due_33)) = false → ((nextP_pre value_26.2) ∧ bnd (nextP value_26.2) fun q35 => (-1000000 ≤ ((1 : Int) + (q35.1 % (4 : Int))) ∧ ((1 : Int) + (q35.1 % (4 : Int))) ≤ 1000000) ∧ (mapDP (fun (x36 : Int) (w37 : Dw) => ((nextP_pre w37) ∧ bnd (nextP w37) fun q38 => (0 < p5.1))) (fun (x36 : Int) (w37 : Dw) => bnd (nextP w37) fun q38 => ((q38.1 % p5.1), q38.2)) (upto ((1 : Int) + (q35.1 % (4 : Int)))) q35.2) ∧ bnd (mapD (fun (x36 : Int) (w37 : Dw) => bnd (nextP w37) fun q38 => ((q38.1 % p5.1), q38.2)) (upto ((1 : Int) + (q35.1 % (4 : Int)))) q35.2) fun q39 => lett (bnd (nextP value_26.2) fun q35 => bnd (mapD (fun (x36 : Int) (w37 : Dw) => bnd (nextP w37) fun q38 => ((q38.1 % p5.1), q38.2)) (upto ((1 : Int) + (q35.1 % (4 : Int)))) q35.2) fun q39 => (q39.1, q39.2)) fun places_40 => (lett (([] : List (List Int))) fun made_41 => (((T.l_rows_of_pre (places_40.1.length : Int)) ∧ (foldP (T.l_right_12_Q2 p5 places_40) (T.l_right_12_L2 p5 places_40) (T.l_rows_of (places_40.1.length : Int)) made_41 ∧ lett (loopF (T.l_right_12_L2 p5 places_40) (T.l_rows_of (places_40.1.length : Int)) made_41) fun s43 => True)) ∧ lett (lett (loopF (T.l_right_12_L2 p5 places_40) (T.l_rows_of (places_40.1.length : Int)) made_41) fun s43 => (s43, places_40.2)) fun s42 => ((T.taken_pre ((table_4.1, places_40.1).1) ((table_4.1, places_40.1).2)) ∧ (ToldP ((eH2 (eP2 D.int (eL (eT D.int))) (eL D.int)) (table_4.1, places_40.1)) (T.taken ((table_4.1, places_40.1).1) ((table_4.1, places_40.1).2))))))))))))))))))))))))))))))))))
def law_K02_L1  (x2 : Int) (s1 : Unit) : Oc Unit Bool :=
  lett (bnd (drawsP x2) fun q3 => bnd (T.l_right_12 q3) fun q4 => ((!q4.1), q4.2)) fun c5 => (if c5.1 = true then .rt false else .nx ())
def law_K02_Q1  (x2 : Int) (s1 : Unit) : Prop :=
  (bnd (drawsP x2) fun q3 => (T.l_right_12_pre q3) ∧ bnd (T.l_right_12 q3) fun q4 => lett (bnd (drawsP x2) fun q3 => bnd (T.l_right_12 q3) fun q4 => ((!q4.1), q4.2)) fun c5 => ((c5.1 = true → True) ∧ (c5.1 = false → True)))
def law_K02 (ns : List Int) : Bool :=
  (loopO T.law_K02_L1 (ns.take 10 ++ [(0 : Int)]) ()).el (fun s1 => true) (fun r => r)
def law_K02_pre (ns : List Int) : Prop :=
  ((loopP T.law_K02_Q1 T.law_K02_L1 (ns.take 10 ++ [(0 : Int)]) () ∧ (loopO T.law_K02_L1 (ns.take 10 ++ [(0 : Int)]) ()).all fun s1 => True))
end T

namespace K02
open PySem PySem.Spec PyProof.Rows L2 MP
section
variable {Fa : Fn} {x : D} {w : Int} {rows : List (List Int)} {dd : Int × List (List Int)}
abbrev envT (dd : Int × List (List Int)) (x : D) (s : Tx) (i u v : Option Vl) : En := [some (.d (.fn askN)), some (.d (eP2 .int (eL (eT .int)) dd)), some (.d x), some (.d (eS s)), i, u, v, none, none]
abbrev stT (rows : List (List Int)) : Store := (⟨[]⟩ : Store).pl [rowsC rows]
theorem eqTab {k : Nat} : EqE (k + 3) (eP2 D.int (eL (eT D.int))) := eqP2 eqI (eqL (eqT eqI))
theorem told_body {n : Nat} {i : Int} (hF : ∀ S, Fa [.d x] S = .ok (toldV S.L.length w) (S.pl [rowsC rows])) (h : ToldP x (w, rows)) (Bd : Stm)
    (hB : Bd = (seqS (wipS [4] (asg 5 (callA 0 Fa (consA (var 2) nilA))))
      (seqS (ifS (scopeT (orT (notT (asB (una (isD "tuple") (var 5)))) (orT (asB (bin (oEq true) (var 5) (var 1))) (orT (notT (asB (una (isD "list") (bin oIx (var 5) (cst (.int 1)))))) (asB (bin (oEq true) (cal bStrD (consA (var 2) nilA)) (var 3)))))))
      (ret (cst (.bl false))) nextS)
      (seqS (asg 6 (cal bSumL (consA (frz (lcC (tgN 7) (bin oIx (var 5) (cst (.int 1))) yesT (frz (calL bList (consA (var 7) nilA))) [7])) (consA (frz (lstE (consA (bin oIx (var 5) (cst (.int 0))) nilA))) nilA))))
      (seqS (wipS [6] (ifS (asB (bin (oEq true) (frz (lcL (tgN 8) (seqI (var 6)) (asB (una (isD "bool") (var 8))) (var 8) [8])) (frz (lstE nilA))))
      (ret (cst (.bl false))) nextS))
      (wipS [5] (drop (mutE gAppend (bin oIx (var 5) (cst (.int 1))) (consA (cst .non) nilA))))))))) :
    regS [4, 5, 6] Bd n (envT dd x (txShow x) (some (.d (.int i))) none none) ⟨[]⟩ = if decide ((w, rows) = dd) = true then .next (envT dd x (txShow x) none none none) ⟨[]⟩ else .ret (.d (.bl false)) (stT rows) := by
  subst hB
  have e1 : callA 0 Fa (consA (var 2) nilA) (envT dd x (txShow x) (some (.d (.int i))) none none) ⟨[]⟩ = .ok (toldV 0 w) (stT rows) := by
    show ((consA (var 2) nilA) (envT dd x (txShow x) (some (.d (.int i))) none none) ⟨[]⟩).bind Fa = _
    rw [cons_of (x := .d x) (S1 := ⟨[]⟩) (show var 2 _ _ = _ from rfl) nil_of, bind_ok, hF]
    rfl
  have c5 : seqL (stT rows) (.p 0) = some (rows.map (eT D.int)) := seqL_pl (j := 0) rfl rfl
  have e2 : scopeT (orT (notT (asB (una (isD "tuple") (var 5)))) (orT (asB (bin (oEq true) (var 5) (var 1))) (orT (notT (asB (una (isD "list") (bin oIx (var 5) (cst (.int 1)))))) (asB (bin (oEq true) (cal bStrD (consA (var 2) nilA)) (var 3)))))) (envT dd x (txShow x) none (some (toldV 0 w)) none) (stT rows) = .ok (!decide ((w, rows) = dd)) (stT rows) := by
    unfold scopeT
    have ef : frEn 0 (stT rows) (envT dd x (txShow x) none (some (toldV 0 w)) none) = envT dd x (txShow x) none (some (.d (eP2 D.int (eL (eT D.int)) (w, rows)))) none := rfl
    rw [ef]
    have q := t_or (S := ⟨[]⟩) (η := envT dd x (txShow x) none (some (.d (eP2 D.int (eL (eT D.int)) (w, rows)))) none) (t_not (t_b (x_isi (T := "tuple") (a := var 5) (v := .d (eP2 D.int (eL (eT D.int)) (w, rows))) (r := true) rfl rfl rfl)))
      (fun _ => t_or (t_b (x_ne (em := eP2 D.int (eL (eT D.int))) (a := var 5) (b := var 1) (x := (w, rows)) (y := dd) eqTab rfl rfl rfl rfl))
      (fun _ => t_or (t_not (t_b (x_isi (T := "list") (a := bin oIx (var 5) (cst (.int 1))) (v := .d (eL (eT D.int) rows)) (r := true) (x_p22 (p := (w, rows)) (em := D.int) (e2 := eL (eT D.int)) rfl) rfl rfl)))
      (fun _ => t_b (x_ne (em := eS) (x := txShow x) (y := txShow x) (a := cal bStrD (consA (var 2) nilA)) (b := var 3) eqS (x_str (k := 20) (a := var 2) (v := .d x) h.sh (by decide) h.lt rfl rd_d) rfl rfl rfl))))
    rw [q]
    congr 1
    simp [eqb]
  by_cases hd : (w, rows) = dd
  case neg =>
    rw [if_neg (by simpa using hd)]
    refine s_regR ?_
    refine (s_seq (s_wip (s_asg e1))).trans ?_
    refine s_seqR ?_
    have e2' := e2
    rw [show (!decide ((w, rows) = dd)) = true by simpa using hd] at e2'
    exact (s_ifT e2').trans (s_ret rfl)
  case pos =>
    rw [if_pos (by simpa using hd)]
    have e2' := e2
    rw [show (!decide ((w, rows) = dd)) = false by simpa using hd] at e2'
    have hsum := sum_len h.len h.row
    have e3 : cal bSumL (consA (frz (lcC (tgN 7) (bin oIx (var 5) (cst (.int 1))) yesT (frz (calL bList (consA (var 7) nilA))) [7])) (consA (frz (lstE (consA (bin oIx (var 5) (cst (.int 0))) nilA))) nilA)) (envT dd x (txShow x) none (some (toldV 0 w)) none) (stT rows) = .ok (.d (.lst (([w] ++ rows.flatten).map D.int))) (stT rows) := by
      refine x_sumL (e := D.int) (S1 := stT rows) (by show 1 + _ ≤ _; have := hsum; simp only at this; omega) ?_ ?_
      · have := x_lcC (em := eT D.int) (e2 := eL D.int) (xs := rows) (f := fun r => r) (t := tgN 7) (it := bin oIx (var 5) (cst (.int 1))) (el := frz (calL bList (consA (var 7) nilA))) (vs := [7]) (η := envT dd x (txShow x) none (some (toldV 0 w)) none) (S := stT rows) (S0 := stT rows) (m := 0) rfl (by rfl) (Nat.le_trans h.len (by decide)) fun r hr => ⟨_, rfl, x_frz (x_list (em := D.int) (xs := r) (a := var 7) (v := .d (eT D.int r)) rfl rfl)⟩
        rw [List.map_id'] at this
        exact x_frz this
      · exact x_frz (x_lst (ds := [D.int w]) (cons_of (x := .d (.int w)) (show bin oIx _ _ _ _ = _ from rfl) nil_of) (by show 1 ≤ _; decide))
    have e4 : asB (bin (oEq true) (frz (lcL (tgN 8) (seqI (var 6)) (asB (una (isD "bool") (var 8))) (var 8) [8])) (frz (lstE nilA))) (envT dd x (txShow x) none (some (toldV 0 w)) (some (.d (.lst (([w] ++ rows.flatten).map D.int))))) (stT rows) = .ok false (stT rows) := by
      have hl : ([w] ++ rows.flatten).length ≤ 16777216 := by
        rw [List.length_append, List.length_flatten]
        show 1 + _ ≤ _
        simp only at hsum
        omega
      have q := t_b (x_ne (em := eL D.int) (x := []) (y := []) (eqL (k := 59) eqI) (x_frz (x_lcF (em := D.int) (e2 := D.int) (xs := [w] ++ rows.flatten) (t := tgN 8) (it := seqI (var 6)) (ct := asB (una (isD "bool") (var 8))) (el := var 8) (vs := [8]) (p := fun _ => false) (f := fun z => z) (η := envT dd x (txShow x) none (some (toldV 0 w)) (some (.d (.lst (([w] ++ rows.flatten).map D.int))))) (S := stT rows) rfl hl fun z hz => ⟨_, rfl, t_b (x_isi (T := "bool") (a := var 8) (v := .d (.int z)) (r := false) rfl rfl rfl), fun e => by cases e⟩)) (x_frz (x_lstT (em := D.int) (xs := []) (l_nilT D.int) (by decide))) (by rw [List.filter_eq_nil_iff.mpr (fun _ _ => by simp)]; rfl) rfl)
      rw [q]
      congr 1
    have e5 : mutE gAppend (bin oIx (var 5) (cst (.int 1))) (consA (cst .non) nilA) (envT dd x (txShow x) none (some (toldV 0 w)) none) (stT rows) = .ok (.d .non) ((⟨[]⟩ : Store).pl [.l (rows.map (eT D.int) ++ [.non])]) :=
      x_app (S1 := ⟨[]⟩) (cs := [rowsC rows]) (j := 0) (m := 0) (c := rows.map (eT D.int)) (d := .non) (S := stT rows) rfl rfl rfl rfl rfl (by rw [List.length_map]; have := h.len; simp only at this; omega)
    refine (s_reg (η1 := envT dd x (txShow x) none none none) (S1 := (⟨[]⟩ : Store).pl [.l (rows.map (eT D.int) ++ [.non])]) ?_).trans rfl
    refine (s_seq (s_wip (s_asg e1))).trans ?_
    refine (s_seq ((s_ifF e2').trans rfl)).trans ?_
    refine (s_seq (s_asg e3)).trans ?_
    refine (s_seq (s_wip ((s_ifF e4).trans rfl))).trans ?_
    exact s_wip (s_drop e5)
theorem run_told (hF : ∀ S, Fa [.d x] S = .ok (toldV S.L.length w) (S.pl [rowsC rows])) (h : ToldP x (w, rows)) : F__law_told Fa [.d (.fn askN), .d (eP2 .int (eL (eT .int)) dd), .d x] ⟨[]⟩ = .ok (.d (.bl (decide ((w, rows) = dd)))) ⟨[]⟩ := by
  unfold F__law_told fnF
  rw [if_pos (show [Vl.d (.fn askN), .d (eP2 .int (eL (eT .int)) dd), .d x].length = 3 from rfl)]
  have hs : cal bStrD (consA (var 2) nilA) [some (.d (.fn askN)), some (.d (eP2 .int (eL (eT .int)) dd)), some (.d x), none, none, none, none, none, none] ⟨[]⟩ = .ok (.d (eS (txShow x))) ⟨[]⟩ := x_str (k := 20) h.sh (by decide) h.lt (a := var 2) (v := .d x) rfl rd_d
  have key : b__law_told Fa 0 [some (.d (.fn askN)), some (.d (eP2 .int (eL (eT .int)) dd)), some (.d x), none, none, none, none, none, none] ⟨[]⟩ = if decide ((w, rows) = dd) = true then .ret (.d (.bl true)) ⟨[]⟩ else .ret (.d (.bl false)) (stT rows) := by
    unfold b__law_told
    refine (s_seq (s_asg hs)).trans ?_
    have lp := fun (i : Int) => told_body (n := 0) (i := i) (dd := dd) hF h _ rfl
    have it : rngI1 (consA (cst (.int 2)) nilA) (envT dd x (txShow x) none none none) ⟨[]⟩ = .ok [.int 0, .int 1] ⟨[]⟩ := rfl
    by_cases hd : (w, rows) = dd
    · rw [if_pos (by simpa using hd)]
      have l0 := lp 0
      have l1 := lp 1
      rw [if_pos (by simpa using hd)] at l0 l1
      refine (s_seq (η1 := [none, none, none, none, none, none, none, none, none]) (S1 := ⟨[]⟩) (s_wip (η1 := envT dd x (txShow x) none none none) ?_)).trans (s_ret rfl)
      exact (s_for it).trans ((s_loop rfl l0).trans ((s_loop rfl l1).trans rfl))
    · rw [if_neg (by simpa using hd)]
      have l0 := lp 0
      rw [if_neg (by simpa using hd)] at l0
      refine s_seqR (s_wipR ?_)
      exact (s_for it).trans (s_loopR rfl l0)
  have e0 : ([.d (.fn askN), .d (eP2 .int (eL (eT .int)) dd), .d x] : List Vl).map some ++ List.replicate (9 - 3) none = [some (.d (.fn askN)), some (.d (eP2 .int (eL (eT .int)) dd)), some (.d x), none, none, none, none, none, none] := rfl
  rw [e0]
  show fin .frz 0 (b__law_told Fa 0 _ ⟨[]⟩) = _
  rw [key]
  by_cases hd : (w, rows) = dd
  · rw [if_pos (by simpa using hd), show decide ((w, rows) = dd) = true by simpa using hd]; rfl
  · rw [if_neg (by simpa using hd), show decide ((w, rows) = dd) = false by simpa using hd]; rfl
theorem x_told {b : Ex} {fd : As} {η : En} {S S1 : Store} {told : Int × List (List Int)} (hx : nfn x = true) (hP : ToldP x told) (ha : fd η S = .ok [.d (eP2 .int (eL (eT .int)) dd), .d x] S1) (hb : b (trees η ++ [some (.d x)]) ⟨[]⟩ = .ok (toldV 0 told.1) ((⟨[]⟩ : Store).pl [rowsC told.2])) : askL F__law_told b fd η S = .ok (.d (.bl (toldB told dd))) S1 :=
  x_askL ha (run_told (fun S => thunk_run hx hb S) hP)
end
end K02

set_option synthInstance.maxSize 4000
set_option maxHeartbeats 4000000
/-! printed by tgen.py: the runs of the defs of easykinds_k02_tables_put_together, typed -/
namespace K02
open PySem PySem.Spec PyProof.Rows L2 MP
theorem t__law_next (s : Dw) (h : nextP_pre s) (r : List (Option Cl)) : F__law_next [.p 0] (Bd r s) = .ok (.d (.int (nextP s).1)) (Bd r (nextP s).2) := t_next h r
theorem t__law_rows_of (width_0 : Int) (h : T.l_rows_of_pre width_0) (S : Store)  : F__law_rows_of [.d (D.int width_0)] S = .ok (.d ((eL (eT D.int)) (T.l_rows_of width_0))) S := by
  unfold F__law_rows_of
  refine fn_run (Rs := (fun p : (List (List Int)) => .ok (.d ((eL (eT D.int)) p)) S)) [some (.d (D.int width_0)), none, none, none, none] rfl rfl ?_
  unfold T.l_rows_of; unfold T.l_rows_of_pre at h; unfold b__law_rows_of
  refine g_seq (g_asg (α := (List (List Int))) (fun rows_1 => .d ((eL (eT D.int)) rows_1)) (fun rows_1 => (S.pl [])) h (x_frz (x_lstT (em := (eT D.int)) (l_consT (em := (eT D.int)) (x_tupT (em := D.int) (l_nilT D.int) (Nat.le_of_ble_eq_true rfl)) (l_nilT (eT D.int))) (Nat.le_of_ble_eq_true rfl))) fun rows_1 hrows_1 => ?_)
  refine g_seq (g_wip (g_for (em := D.int) (s0 := rows_1) (fun s2 : ((List (List Int))) => ([some (.d (D.int width_0)), some (.d ((eL (eT D.int)) s2)), none, none, none], (S.pl []))) (i_rng1 (xv rfl) hrows_1.1) rfl rfl hrows_1.2.1 (fun x3 s2 hx3 => ⟨_, rfl, ?_⟩) hrows_1.2.2 fun s2 hs2 => ?_))
  · unfold T.l_rows_of_L2; unfold T.l_rows_of_Q2 at hx3
    refine g_wip ?_
    refine g_seq (g_wip (g_asg (α := (List (List Int))) (fun longer_4 => .d ((eL (eT D.int)) longer_4)) (fun longer_4 => (S.pl [])) hx3 (x_frz (x_lstT (em := (eT D.int)) (l_nilT (eT D.int)) (Nat.le_of_ble_eq_true rfl))) fun longer_4 hlonger_4 => ?_))
    refine g_seq (g_wip (g_for (em := (eT D.int)) (s0 := longer_4) (fun s5 : ((List (List Int))) => ([some (.d (D.int width_0)), some (.d ((eL (eT D.int)) s2)), none, some (.d ((eL (eT D.int)) s5)), none], (S.pl []))) (i_seq (ds := s2.map (eT D.int)) (xv rfl) rfl) rfl rfl hlonger_4.1 (fun x6 s5 hx6 => ⟨_, rfl, ?_⟩) hlonger_4.2 fun s5 hs5 => ?_))
    · unfold T.l_rows_of_L1; unfold T.l_rows_of_Q1 at hx6
      refine g_wip ?_
      refine g_wip (g_asg (α := (List (List Int))) (fun longer_7 => .d ((eL (eT D.int)) longer_7)) (fun longer_7 => (S.pl [])) hx6.2.2.2 (x_addL (em := (eT D.int)) hx6.2.2.1 (xv rfl) (x_frz (x_lstT (em := (eT D.int)) (l_consT (em := (eT D.int)) (x_addT (em := D.int) hx6.1 (xv rfl) (x_tupT (em := D.int) (l_consT (em := D.int) xi (l_nilT D.int)) (Nat.le_of_ble_eq_true rfl))) (l_consT (em := (eT D.int)) (x_addT (em := D.int) hx6.2.1 (xv rfl) (x_tupT (em := D.int) (l_consT (em := D.int) xi (l_nilT D.int)) (Nat.le_of_ble_eq_true rfl))) (l_nilT (eT D.int)))) (Nat.le_of_ble_eq_true rfl))) rfl rfl) fun longer_7 hlonger_7 => ?_)
      exact gn_nx rfl rfl
    refine g_wip (g_asg (α := (List (List Int))) (fun rows_8 => .d ((eL (eT D.int)) rows_8)) (fun rows_8 => (S.pl [])) hs5 (xv rfl) fun rows_8 hrows_8 => ?_)
    exact gn_nx rfl rfl
  exact gt_ret (xv rfl) (fin_d rfl)
theorem t__law_deed (word_0 : Tx) (h : T.l_deed_pre word_0) (S : Store)  : F__law_deed [.d (eS word_0)] S = .ok (.d ((eT D.int) (T.l_deed word_0))) S := by
  unfold F__law_deed
  refine fn_run (Rs := (fun p : (List Int) => .ok (.d ((eT D.int) p)) S)) [some (.d (eS word_0)), none] rfl rfl ?_
  unfold T.l_deed; unfold T.l_deed_pre at h; unfold b__law_deed
  refine g_seq (g_asg (α := (List (List Int))) (fun some_1 => .d ((eL (eT D.int)) some_1)) (fun some_1 => (S.pl [])) h (x_frz (x_lstT (em := (eT D.int)) (l_consT (em := (eT D.int)) (x_tupT (em := D.int) (l_consT (em := D.int) xi (l_consT (em := D.int) xi (l_consT (em := D.int) xi (l_consT (em := D.int) xi (l_consT (em := D.int) xi (l_consT (em := D.int) xi (l_consT (em := D.int) xi (l_consT (em := D.int) xi (l_nilT D.int))))))))) (Nat.le_of_ble_eq_true rfl)) (l_consT (em := (eT D.int)) (x_tupT (em := D.int) (l_consT (em := D.int) xi (l_consT (em := D.int) xi (l_consT (em := D.int) xi (l_consT (em := D.int) xi (l_consT (em := D.int) xi (l_consT (em := D.int) xi (l_consT (em := D.int) xi (l_consT (em := D.int) xi (l_nilT D.int))))))))) (Nat.le_of_ble_eq_true rfl)) (l_consT (em := (eT D.int)) (x_tupT (em := D.int) (l_consT (em := D.int) xi (l_consT (em := D.int) xi (l_consT (em := D.int) xi (l_consT (em := D.int) xi (l_consT (em := D.int) xi (l_consT (em := D.int) xi (l_consT (em := D.int) xi (l_consT (em := D.int) xi (l_nilT D.int))))))))) (Nat.le_of_ble_eq_true rfl)) (l_consT (em := (eT D.int)) (x_tupT (em := D.int) (l_consT (em := D.int) xi (l_consT (em := D.int) xi (l_consT (em := D.int) xi (l_consT (em := D.int) xi (l_consT (em := D.int) xi (l_consT (em := D.int) xi (l_consT (em := D.int) xi (l_consT (em := D.int) xi (l_nilT D.int))))))))) (Nat.le_of_ble_eq_true rfl)) (l_nilT (eT D.int)))))) (Nat.le_of_ble_eq_true rfl))) fun some_1 hsome_1 => ?_)
  exact gt_ret (x_ix (em := (eT D.int)) hsome_1.2 (xv rfl) (x_idx (em := eS) eqS hsome_1.1 (x_frz (x_lstT (em := eS) (l_consT (em := eS) (x_txt T.tx_both) (l_consT (em := eS) (x_txt T.tx_either) (l_consT (em := eS) (x_txt T.tx_middle) (l_consT (em := eS) (x_txt T.tx_odd) (l_nilT eS))))) (Nat.le_of_ble_eq_true rfl))) (xv rfl) rfl rd_d) rfl) (fin_d rfl)
theorem t__law_done (deed_0 : (List Int)) (one_0 : (List Int)) (other_0 : (List Int)) (third_0 : (List Int)) (h : T.l_done_pre deed_0 one_0 other_0 third_0) (S : Store)  : F__law_done [.d ((eT D.int) deed_0), .d ((eT D.int) one_0), .d ((eT D.int) other_0), .d ((eT D.int) third_0)] S = .ok (.d ((eT D.int) (T.l_done deed_0 one_0 other_0 third_0))) S := by
  unfold F__law_done
  refine fn_run (Rs := (fun p : (List Int) => .ok (.d ((eT D.int) p)) S)) [some (.d ((eT D.int) deed_0)), some (.d ((eT D.int) one_0)), some (.d ((eT D.int) other_0)), some (.d ((eT D.int) third_0)), none, none, none] rfl rfl ?_
  unfold T.l_done; unfold T.l_done_pre at h; unfold b__law_done
  exact gt_ret (x_tupleL (em := D.int) (x_frz (x_lc (em := (eP3 D.int D.int D.int)) (e2 := D.int) (i_zip3 (e1 := D.int) (e2 := D.int) (e3 := D.int) (xv rfl) (xv rfl) (xv rfl) rfl rfl rfl) h.1 fun x1 hx1 => ⟨_, rfl, (x_ix (em := D.int) (h.2 x1 hx1) (xv rfl) (x_add (x_add (x_mul (mul_l (by decide)) xi (xv rfl)) (x_mul (mul_l (by decide)) xi (xv rfl))) (xv rfl)) rfl)⟩)) rfl) (fin_d rfl)
theorem t__law_closed__m_c1 (deed_0 : (List Int)) (rows_0 : (List (List Int))) (h : T.l_closed_pre deed_0 rows_0) (S : Store) {krows_0 : Nat} (hkrows_0 : S.L[krows_0]? = some (some (.l (rows_0.map (eT D.int))))) : F__law_closed__m [.d ((eT D.int) deed_0), .p krows_0] S = .ok (.p S.L.length) (S.pl [(T.l_closed deed_0 rows_0).map (eT D.int)]) := by
  unfold F__law_closed__m
  refine fn_run (Rs := (fun p : (List (List Int)) => .ok (.p S.L.length) (S.pl [p.map (eT D.int)]))) [some (.d ((eT D.int) deed_0)), some (.p krows_0), none, none, none, none, none, none] rfl rfl ?_
  unfold T.l_closed; unfold T.l_closed_pre at h; unfold b__law_closed__m
  refine g_seq (g_wip (g_asg (α := (List (List Int))) (fun _ => .p (S.L.length + 0)) (fun kept_1 => (S.pl [kept_1.map (eT D.int)])) h (x_new (x_list (em := (eT D.int)) (xv rfl) (seqV_at (pl_old hkrows_0))) rfl) fun kept_1 hkept_1 => ?_))
  refine g_seq (g_asg (α := Bool) (fun grown_2 => .d (D.bl grown_2)) (fun grown_2 => (S.pl [kept_1.map (eT D.int)])) hkept_1 xb fun grown_2 hgrown_2 => ?_)
  refine g_seq (g_wip (g_whl (s0 := (kept_1, grown_2)) (fun s3 : ((List (List Int)) × Bool) => ([some (.d ((eT D.int) deed_0)), none, some (.p (S.L.length + 0)), some (.d (D.bl s3.2)), none, none, none, none], (S.pl [s3.1.map (eT D.int)]))) rfl rfl hgrown_2.1 (fun s3 hs3c => ?_) (fun s3 hs3b => ?_) hgrown_2.2 fun s3 hs3 => ?_))
  · unfold T.l_closed_D4 at hs3c; unfold T.l_closed_C4
    exact (t_b (xv rfl))
  · unfold T.l_closed_L4; unfold T.l_closed_Q4 at hs3b
    refine g_wip ?_
    refine g_seq (g_asg (α := Bool) (fun grown_4 => .d (D.bl grown_4)) (fun grown_4 => (S.pl [s3.1.map (eT D.int)])) hs3b xb fun grown_4 hgrown_4 => ?_)
    refine g_for (em := (eT D.int)) (s0 := (s3.1, grown_4)) (fun s5 : ((List (List Int)) × Bool) => ([some (.d ((eT D.int) deed_0)), none, some (.p (S.L.length + 0)), some (.d (D.bl s5.2)), none, none, none, none], (S.pl [s5.1.map (eT D.int)]))) (i_seq (ds := s3.1.map (eT D.int)) (x_frz (x_list (em := (eT D.int)) (xv rfl) (seqV_pl (j := 0) rfl rfl))) rfl) rfl rfl hgrown_4.1 (fun x6 s5 hx6 => ⟨_, rfl, ?_⟩) hgrown_4.2 fun s5 hs5 => ?_
    · unfold T.l_closed_L3; unfold T.l_closed_Q3 at hx6
      refine g_wip ?_
      refine g_wip (g_for (em := (eT D.int)) (s0 := (s5.1, s5.2)) (fun s7 : ((List (List Int)) × Bool) => ([some (.d ((eT D.int) deed_0)), none, some (.p (S.L.length + 0)), some (.d (D.bl s7.2)), some (.d ((eT D.int) x6)), none, none, none], (S.pl [s7.1.map (eT D.int)]))) (i_seq (ds := s5.1.map (eT D.int)) (x_frz (x_list (em := (eT D.int)) (xv rfl) (seqV_pl (j := 0) rfl rfl))) rfl) rfl rfl hx6.1 (fun x8 s7 hx8 => ⟨_, rfl, ?_⟩) hx6.2 fun s7 hs7 => ?_)
      · unfold T.l_closed_L2; unfold T.l_closed_Q2 at hx8
        refine g_wip ?_
        refine g_wip (g_for (em := (eT D.int)) (s0 := (s7.1, s7.2)) (fun s9 : ((List (List Int)) × Bool) => ([some (.d ((eT D.int) deed_0)), none, some (.p (S.L.length + 0)), some (.d (D.bl s9.2)), some (.d ((eT D.int) x6)), some (.d ((eT D.int) x8)), none, none], (S.pl [s9.1.map (eT D.int)]))) (i_seq (ds := s7.1.map (eT D.int)) (x_frz (x_list (em := (eT D.int)) (xv rfl) (seqV_pl (j := 0) rfl rfl))) rfl) rfl rfl hx8.1 (fun x10 s9 hx10 => ⟨_, rfl, ?_⟩) hx8.2 fun s9 hs9 => ?_)
        · unfold T.l_closed_L1; unfold T.l_closed_Q1 at hx10
          refine g_wip ?_
          refine g_seq (g_wip (g_asg (α := (List Int)) (fun row_11 => .d ((eT D.int) row_11)) (fun row_11 => (S.pl [s9.1.map (eT D.int)])) hx10.2 (x_call (a_cons (xv rfl) (a_cons (xv rfl) (a_cons (xv rfl) (a_cons (xv rfl) a_nil)))) (t__law_done _ _ _ _ hx10.1 _)) fun row_11 hrow_11 => ?_))
          refine g_wip (g_if (t_b (x_nin (em := (eT D.int)) (eqT eqI) (xv rfl) (xv rfl) rd_d (seqL_pl (j := 0) rfl rfl))) (fun hc => ?_) fun hc => ?_)
          · have ha12 := hrow_11.1 hc
            refine g_seq (g_wip (g_drop (α := (List (List Int))) (fun kept_13 => (S.pl [kept_13.map (eT D.int)])) ha12.2 (x_app1 (j := 0) (em := (eT D.int)) (xv rfl) rfl rfl (xv rfl) ha12.1) fun kept_13 hkept_13 => ?_))
            refine g_asg (α := Bool) (fun grown_14 => .d (D.bl grown_14)) (fun grown_14 => (S.pl [kept_13.map (eT D.int)])) hkept_13 xb fun grown_14 hgrown_14 => ?_
            exact gn_nx rfl rfl
          · have ha12 := hrow_11.2 hc
            refine g_nx ?_
            exact gn_nx rfl rfl
        exact gn_nx rfl rfl
      exact gn_nx rfl rfl
    exact gn_nx rfl rfl
  exact gt_ret (x_new (x_sortT hs3 (xv rfl) (seqL_pl (j := 0) rfl rfl)) rfl) (fin_mc (j := 1) rfl rfl rfl)
theorem t__law_table (s0 : Dw) (word_0 : Tx) (widest_0 : Int) (h : T.l_table_pre s0 word_0 widest_0) (r : List (Option Cl))  : F__law_table [.p 0, .d (eS word_0), .d (D.int widest_0)] (Bd r s0) = .ok (.d ((eP2 D.int (eL (eT D.int))) (T.l_table s0 word_0 widest_0).1)) (Bd r (T.l_table s0 word_0 widest_0).2) := by
  unfold F__law_table
  refine fn_run (Rs := (fun p : ((Int × (List (List Int))) × Dw) => .ok (.d ((eP2 D.int (eL (eT D.int))) p.1)) (Bd r p.2))) [some (.p 0), some (.d (eS word_0)), some (.d (D.int widest_0)), none, none, none, none] rfl rfl ?_
  unfold T.l_table; unfold T.l_table_pre at h; unfold b__law_table
  try dsimp only [bnd] at h
  try dsimp only [bnd]
  refine g_seq (g_wip (g_asg (α := (Int × Dw)) (fun width_2 => .d (D.int width_2.1)) (fun width_2 => ((Bd r width_2.2).pl [])) h.2.2 (x_add xi (x_mod h.2.1 (x_callD (a_cons (xv rfl) a_nil) fun r => t__law_next _ h.1 r) (xv rfl))) fun width_2 hwidth_2 => ?_))
  refine g_seq (g_asg (α := (List (List Int))) (fun _ => .p (r.length + 1 + 0)) (fun rows_3 => ((Bd r width_2.2).pl [rows_3.map (eT D.int)])) hwidth_2 (x_new (x_lstT (em := (eT D.int)) (l_nilT (eT D.int)) (Nat.le_of_ble_eq_true rfl)) rfl) fun rows_3 hrows_3 => ?_)
  refine g_seq (g_asg (α := (Int × Dw)) (fun number_5 => .d (D.int number_5.1)) (fun number_5 => ((Bd r number_5.2).pl [rows_3.map (eT D.int)])) hrows_3.2 (x_callD (a_cons (xv rfl) a_nil) fun r => t__law_next _ hrows_3.1 r) fun number_5 hnumber_5 => ?_)
  refine g_seq (g_wip (g_for (em := (eT D.int)) (s0 := (rows_3, number_5.2)) (fun s6 : ((List (List Int)) × Dw) => ([some (.p 0), some (.d (eS word_0)), none, some (.d (D.int width_2.1)), some (.p (r.length + 1 + 0)), some (.d (D.int number_5.1)), none], ((Bd r s6.2).pl [s6.1.map (eT D.int)]))) (i_seq (ds := (T.l_rows_of width_2.1).map (eT D.int)) (x_call (a_cons (xv rfl) a_nil) (t__law_rows_of _ hnumber_5.1 _)) rfl) rfl rfl hnumber_5.2.1 (fun x7 s6 hx7 => ⟨_, rfl, ?_⟩) hnumber_5.2.2 fun s6 hs6 => ?_))
  · unfold T.l_table_L1; unfold T.l_table_Q1 at hx7
    try dsimp only [bnd] at hx7
    try dsimp only [bnd]
    refine g_wip ?_
    refine g_wip (g_ifD (α := Bool × Dw) (fun c9 => c9.1) (fun c9 => ((Bd r c9.2).pl [s6.1.map (eT D.int)])) hx7.2.2.2 (t_b (x_eq (em := D.int) eqI (x_mod hx7.2.2.1 (x_callD (a_cons (xv rfl) a_nil) fun r => t__law_next _ hx7.1 r) (x_ix (em := D.int) hx7.2.1 (x_frz (x_lstT (em := D.int) (l_consT (em := D.int) xi (l_consT (em := D.int) xi (l_consT (em := D.int) xi (l_consT (em := D.int) xi (l_nilT D.int))))) (Nat.le_of_ble_eq_true rfl))) (x_mod (by decide) (xv rfl) xi) rfl)) xi rd_d rd_d)) fun c9 hc9 => ⟨fun hc => ?_, fun hc => ?_⟩)
    · have ha10 := hc9.1 hc
      refine g_wip (g_drop (α := (List (List Int))) (fun rows_11 => ((Bd r c9.2).pl [rows_11.map (eT D.int)])) ha10.2 (x_app1 (j := 0) (em := (eT D.int)) (xv rfl) rfl rfl (xv rfl) ha10.1) fun rows_11 hrows_11 => ?_)
      exact gn_nx rfl rfl
    · have ha10 := hc9.2 hc
      refine g_nx ?_
      exact gn_nx rfl rfl
  refine g_seq (g_wip (g_if (t_and (t_b (x_eq (em := (eL (eT D.int))) (eqL (eqT eqI)) (xv rfl) (x_frz (x_lstT (em := (eT D.int)) (l_nilT (eT D.int)) (Nat.le_of_ble_eq_true rfl))) (rd_pl (j := 0) rfl rfl) rd_d)) fun hc12 => (t_b (x_gt (x_mod (by decide) (x_div (by decide) (xv rfl) xi) xi) xi))) (fun hc => ?_) fun hc => ?_))
  · have ha13 := hs6.1 hc
    refine g_wip (g_asg (α := (List (List Int))) (fun _ => .p (r.length + 1 + 1)) (fun rows_14 => ((Bd r s6.2).pl [s6.1.map (eT D.int), rows_14.map (eT D.int)])) ha13.2.2.2.2 (x_new (x_lstT (em := (eT D.int)) (l_consT (em := (eT D.int)) (x_ix (em := (eT D.int)) ha13.2.2.2.1 (x_call (a_cons (xv rfl) a_nil) (t__law_rows_of _ ha13.1 _)) (x_mod ha13.2.2.1 (x_div (by decide) (xv rfl) xi) (x_len (em := (eT D.int)) (x_call (a_cons (xv rfl) a_nil) (t__law_rows_of _ ha13.2.1 _)) rfl)) rfl) (l_nilT (eT D.int))) (Nat.le_of_ble_eq_true rfl)) rfl) fun rows_14 hrows_14 => ?_)
    refine g_seq (g_wip (g_if (t_b (x_ne (em := eS) eqS (xv rfl) (x_txt T.tx_any) rd_d rd_d)) (fun hc => ?_) fun hc => ?_))
    · have ha15 := hrows_14.1 hc
      refine g_wip (g_asg (α := (List (List Int))) (fun _ => .p (r.length + 1 + 2)) (fun rows_16 => ((Bd r s6.2).pl [s6.1.map (eT D.int), rows_14.map (eT D.int), rows_16.map (eT D.int)])) ha15.2.2 (cell_of (x_call (a_cons (x_call (a_cons (xv rfl) a_nil) (t__law_deed _ ha15.1 _)) (a_cons (xv rfl) a_nil)) (t__law_closed__m_c1 _ _ ha15.2.1 _ (pl_at (j := 1) rfl rfl))) rfl) fun rows_16 hrows_16 => ?_)
      exact gt_ret (x_tupV (a_cons (xv rfl) (a_cons (xv rfl) a_nil)) rfl (Nat.le_of_ble_eq_true rfl)) (fin_t rfl (rs_d (rs_c (j := 2) rfl rfl rfl rs_nil)))
    · have ha15 := hrows_14.2 hc
      refine g_nx ?_
      exact gt_ret (x_tupV (a_cons (xv rfl) (a_cons (xv rfl) a_nil)) rfl (Nat.le_of_ble_eq_true rfl)) (fin_t rfl (rs_d (rs_c (j := 1) rfl rfl rfl rs_nil)))
  · have ha13 := hs6.2 hc
    refine g_nx ?_
    refine g_seq (g_wip (g_if (t_b (x_ne (em := eS) eqS (xv rfl) (x_txt T.tx_any) rd_d rd_d)) (fun hc => ?_) fun hc => ?_))
    · have ha17 := ha13.1 hc
      refine g_wip (g_asg (α := (List (List Int))) (fun _ => .p (r.length + 1 + 1)) (fun rows_18 => ((Bd r s6.2).pl [s6.1.map (eT D.int), rows_18.map (eT D.int)])) ha17.2.2 (cell_of (x_call (a_cons (x_call (a_cons (xv rfl) a_nil) (t__law_deed _ ha17.1 _)) (a_cons (xv rfl) a_nil)) (t__law_closed__m_c1 _ _ ha17.2.1 _ (pl_at (j := 0) rfl rfl))) rfl) fun rows_18 hrows_18 => ?_)
      exact gt_ret (x_tupV (a_cons (xv rfl) (a_cons (xv rfl) a_nil)) rfl (Nat.le_of_ble_eq_true rfl)) (fin_t rfl (rs_d (rs_c (j := 1) rfl rfl rfl rs_nil)))
    · have ha17 := ha13.2 hc
      refine g_nx ?_
      exact gt_ret (x_tupV (a_cons (xv rfl) (a_cons (xv rfl) a_nil)) rfl (Nat.le_of_ble_eq_true rfl)) (fin_t rfl (rs_d (rs_c (j := 0) rfl rfl rfl rs_nil)))
theorem t__law_same_width (s0 : Dw) (width_0 : Int) (h : T.l_same_width_pre s0 width_0) (r : List (Option Cl))  : F__law_same_width [.p 0, .d (D.int width_0)] (Bd r s0) = .ok (.d ((eP2 D.int (eL (eT D.int))) (T.l_same_width s0 width_0).1)) (Bd r (T.l_same_width s0 width_0).2) := by
  unfold F__law_same_width
  refine fn_run (Rs := (fun p : ((Int × (List (List Int))) × Dw) => .ok (.d ((eP2 D.int (eL (eT D.int))) p.1)) (Bd r p.2))) [some (.p 0), some (.d (D.int width_0)), none, none] rfl rfl ?_
  unfold T.l_same_width; unfold T.l_same_width_pre at h; unfold b__law_same_width
  try dsimp only [bnd] at h
  try dsimp only [bnd]
  refine g_seq (g_asg (α := (List (List Int))) (fun _ => .p (r.length + 1 + 0)) (fun rows_1 => ((Bd r s0).pl [rows_1.map (eT D.int)])) h (x_new (x_lstT (em := (eT D.int)) (l_nilT (eT D.int)) (Nat.le_of_ble_eq_true rfl)) rfl) fun rows_1 hrows_1 => ?_)
  refine g_seq (g_wip (g_for (em := (eT D.int)) (s0 := (rows_1, s0)) (fun s2 : ((List (List Int)) × Dw) => ([some (.p 0), some (.d (D.int width_0)), some (.p (r.length + 1 + 0)), none], ((Bd r s2.2).pl [s2.1.map (eT D.int)]))) (i_seq (ds := (T.l_rows_of width_0).map (eT D.int)) (x_call (a_cons (xv rfl) a_nil) (t__law_rows_of _ hrows_1.1 _)) rfl) rfl rfl hrows_1.2.1 (fun x3 s2 hx3 => ⟨_, rfl, ?_⟩) hrows_1.2.2 fun s2 hs2 => ?_))
  · unfold T.l_same_width_L1; unfold T.l_same_width_Q1 at hx3
    try dsimp only [bnd] at hx3
    try dsimp only [bnd]
    refine g_wip ?_
    refine g_wip (g_ifD (α := Bool × Dw) (fun c5 => c5.1) (fun c5 => ((Bd r c5.2).pl [s2.1.map (eT D.int)])) hx3.2 (t_b (x_gt (x_mod (by decide) (x_callD (a_cons (xv rfl) a_nil) fun r => t__law_next _ hx3.1 r) xi) xi)) fun c5 hc5 => ⟨fun hc => ?_, fun hc => ?_⟩)
    · have ha6 := hc5.1 hc
      refine g_wip (g_drop (α := (List (List Int))) (fun rows_7 => ((Bd r c5.2).pl [rows_7.map (eT D.int)])) ha6.2 (x_app1 (j := 0) (em := (eT D.int)) (xv rfl) rfl rfl (xv rfl) ha6.1) fun rows_7 hrows_7 => ?_)
      exact gn_nx rfl rfl
    · have ha6 := hc5.2 hc
      refine g_nx ?_
      exact gn_nx rfl rfl
  exact gt_ret (x_tupV (a_cons (xv rfl) (a_cons (xv rfl) a_nil)) rfl (Nat.le_of_ble_eq_true rfl)) (fin_t rfl (rs_d (rs_c (j := 0) rfl rfl rfl rs_nil)))
theorem t_common__a (one_0 : (Int × (List (List Int)))) (other_0 : (Int × (List (List Int)))) (h : T.common_pre one_0 other_0) (S : Store)  : F_common__a [.d ((eP2 D.int (eL (eT D.int))) one_0), .d ((eP2 D.int (eL (eT D.int))) other_0)] S = .ok (.t [.d (D.int (T.common one_0 other_0).1), .p (S.L.length + 0)]) (S.pl [((T.common one_0 other_0).2).map (eT D.int)]) := by
  unfold F_common__a
  refine fn_run (Rs := (fun p : (Int × (List (List Int))) => .ok (.t [.d (D.int (p).1), .p (S.L.length + 0)]) (S.pl [((p).2).map (eT D.int)]))) [some (.d ((eP2 D.int (eL (eT D.int))) one_0)), some (.d ((eP2 D.int (eL (eT D.int))) other_0)), none] rfl rfl ?_
  unfold T.common; unfold T.common_pre at h; unfold b_common__a
  exact gt_ret (x_tupV (a_cons (x_p21 (em := D.int) (e2 := (eL (eT D.int))) (xv rfl)) (a_cons (x_new (x_lcF (em := (eT D.int)) (e2 := (eT D.int)) (i_seq (ds := one_0.2.map (eT D.int)) (x_p22 (em := D.int) (e2 := (eL (eT D.int))) (xv rfl)) rfl) h fun x1 hx1 => ⟨_, rfl, (t_b (x_in (em := (eT D.int)) (eqT eqI) (xv rfl) (x_p22 (em := D.int) (e2 := (eL (eT D.int))) (xv rfl)) rd_d rfl)), fun hc2 => (xv rfl)⟩) rfl) a_nil)) rfl (Nat.le_of_ble_eq_true rfl)) rfl
theorem t__law_narrow (table_0 : (Int × (List (List Int)))) (widest_0 : Int) (h : T.l_narrow_pre table_0 widest_0) (S : Store)  : F__law_narrow [.d ((eP2 D.int (eL (eT D.int))) table_0), .d (D.int widest_0)] S = .ok (.d ((eP2 D.int (eL (eT D.int))) (T.l_narrow table_0 widest_0))) S := by
  unfold F__law_narrow
  refine fn_run (Rs := (fun p : (Int × (List (List Int))) => .ok (.d ((eP2 D.int (eL (eT D.int))) p)) S)) [some (.d ((eP2 D.int (eL (eT D.int))) table_0)), some (.d (D.int widest_0)), none, none] rfl rfl ?_
  unfold T.l_narrow; unfold T.l_narrow_pre at h; unfold b__law_narrow
  refine g_seq (g_wip (g_asg (α := Int) (fun width_1 => .d (D.int width_1)) (fun width_1 => (S.pl [])) h (x_min2 (x_p21 (em := D.int) (e2 := (eL (eT D.int))) (xv rfl)) (xv rfl)) fun width_1 hwidth_1 => ?_))
  exact gt_ret (x_tup2 (em := D.int) (e2 := (eL (eT D.int))) (xv rfl) (x_frz (x_ssetT hwidth_1.2 (x_frz (x_lc (em := (eT D.int)) (e2 := (eT D.int)) (i_seq (ds := table_0.2.map (eT D.int)) (x_p22 (em := D.int) (e2 := (eL (eT D.int))) (xv rfl)) rfl) hwidth_1.1 fun x2 hx2 => ⟨_, rfl, (x_slT (em := D.int) (xv rfl) pa_n (pa_i (xv rfl)))⟩)) rfl))) (fin_d rfl)
theorem t_beside__a (one_0 : (Int × (List (List Int)))) (other_0 : (Int × (List (List Int)))) (h : T.beside_pre one_0 other_0) (S : Store)  : F_beside__a [.d ((eP2 D.int (eL (eT D.int))) one_0), .d ((eP2 D.int (eL (eT D.int))) other_0)] S = .ok (.t [.d (D.int (T.beside one_0 other_0).1), .p (S.L.length + 0)]) (S.pl [((T.beside one_0 other_0).2).map (eT D.int)]) := by
  unfold F_beside__a
  refine fn_run (Rs := (fun p : (Int × (List (List Int))) => .ok (.t [.d (D.int (p).1), .p (S.L.length + 0)]) (S.pl [((p).2).map (eT D.int)]))) [some (.d ((eP2 D.int (eL (eT D.int))) one_0)), some (.d ((eP2 D.int (eL (eT D.int))) other_0)), none, none, none] rfl rfl ?_
  unfold T.beside; unfold T.beside_pre at h; unfold b_beside__a
  refine g_seq (g_asg (α := (List (List Int))) (fun _ => .p (S.L.length + 0)) (fun found_1 => (S.pl [found_1.map (eT D.int)])) h (x_new (x_lstT (em := (eT D.int)) (l_nilT (eT D.int)) (Nat.le_of_ble_eq_true rfl)) rfl) fun found_1 hfound_1 => ?_)
  refine g_seq (g_for (em := (eT D.int)) (s0 := found_1) (fun s2 : ((List (List Int))) => ([some (.d ((eP2 D.int (eL (eT D.int))) one_0)), some (.d ((eP2 D.int (eL (eT D.int))) other_0)), some (.p (S.L.length + 0)), none, none], (S.pl [s2.map (eT D.int)]))) (i_seq (ds := one_0.2.map (eT D.int)) (x_p22 (em := D.int) (e2 := (eL (eT D.int))) (xv rfl)) rfl) rfl rfl hfound_1.1 (fun x3 s2 hx3 => ⟨_, rfl, ?_⟩) hfound_1.2 fun s2 hs2 => ?_)
  · unfold T.beside_L1; unfold T.beside_Q1 at hx3
    refine g_wip ?_
    refine g_wip (g_drop (α := (List (List Int))) (fun found_4 => (S.pl [found_4.map (eT D.int)])) hx3.2.2.2 (x_ext1 (j := 0) (em := (eT D.int)) (xv rfl) rfl rfl (x_frz (x_lc (em := (eT D.int)) (e2 := (eT D.int)) (i_seq (ds := other_0.2.map (eT D.int)) (x_p22 (em := D.int) (e2 := (eL (eT D.int))) (xv rfl)) rfl) hx3.1 fun x5 hx5 => ⟨_, rfl, (x_addT (em := D.int) (hx3.2.1 x5 hx5) (xv rfl) (xv rfl))⟩)) rfl hx3.2.2.1) fun found_4 hfound_4 => ?_)
    exact gn_nx rfl rfl
  exact gt_ret (x_tupV (a_cons (x_add (x_p21 (em := D.int) (e2 := (eL (eT D.int))) (xv rfl)) (x_p21 (em := D.int) (e2 := (eL (eT D.int))) (xv rfl))) (a_cons (xv rfl) a_nil)) rfl (Nat.le_of_ble_eq_true rfl)) rfl
theorem t_alike__a (table_0 : (Int × (List (List Int)))) (i_0 : Int) (j_0 : Int) (h : T.alike_pre table_0 i_0 j_0) (S : Store)  : F_alike__a [.d ((eP2 D.int (eL (eT D.int))) table_0), .d (D.int i_0), .d (D.int j_0)] S = .ok (.t [.d (D.int (T.alike table_0 i_0 j_0).1), .p (S.L.length + 0)]) (S.pl [((T.alike table_0 i_0 j_0).2).map (eT D.int)]) := by
  unfold F_alike__a
  refine fn_run (Rs := (fun p : (Int × (List (List Int))) => .ok (.t [.d (D.int (p).1), .p (S.L.length + 0)]) (S.pl [((p).2).map (eT D.int)]))) [some (.d ((eP2 D.int (eL (eT D.int))) table_0)), some (.d (D.int i_0)), some (.d (D.int j_0)), none] rfl rfl ?_
  unfold T.alike; unfold T.alike_pre at h; unfold b_alike__a
  exact gt_ret (x_tupV (a_cons (x_p21 (em := D.int) (e2 := (eL (eT D.int))) (xv rfl)) (a_cons (x_new (x_lcF (em := (eT D.int)) (e2 := (eT D.int)) (i_seq (ds := table_0.2.map (eT D.int)) (x_p22 (em := D.int) (e2 := (eL (eT D.int))) (xv rfl)) rfl) h.1 fun x1 hx1 => ⟨_, rfl, (t_b (x_eq (em := D.int) eqI (x_ix (em := D.int) (h.2 x1 hx1).1 (xv rfl) (xv rfl) rfl) (x_ix (em := D.int) (h.2 x1 hx1).2 (xv rfl) (xv rfl) rfl) rd_d rd_d)), fun hc2 => (xv rfl)⟩) rfl) a_nil)) rfl (Nat.le_of_ble_eq_true rfl)) rfl
theorem t_having__a (table_0 : (Int × (List (List Int)))) (i_0 : Int) (value_0 : Int) (h : T.having_pre table_0 i_0 value_0) (S : Store)  : F_having__a [.d ((eP2 D.int (eL (eT D.int))) table_0), .d (D.int i_0), .d (D.int value_0)] S = .ok (.t [.d (D.int (T.having table_0 i_0 value_0).1), .p (S.L.length + 0)]) (S.pl [((T.having table_0 i_0 value_0).2).map (eT D.int)]) := by
  unfold F_having__a
  refine fn_run (Rs := (fun p : (Int × (List (List Int))) => .ok (.t [.d (D.int (p).1), .p (S.L.length + 0)]) (S.pl [((p).2).map (eT D.int)]))) [some (.d ((eP2 D.int (eL (eT D.int))) table_0)), some (.d (D.int i_0)), some (.d (D.int value_0)), none] rfl rfl ?_
  unfold T.having; unfold T.having_pre at h; unfold b_having__a
  exact gt_ret (x_tupV (a_cons (x_p21 (em := D.int) (e2 := (eL (eT D.int))) (xv rfl)) (a_cons (x_new (x_lcF (em := (eT D.int)) (e2 := (eT D.int)) (i_seq (ds := table_0.2.map (eT D.int)) (x_p22 (em := D.int) (e2 := (eL (eT D.int))) (xv rfl)) rfl) h.1 fun x1 hx1 => ⟨_, rfl, (t_b (x_eq (em := D.int) eqI (x_ix (em := D.int) (h.2 x1 hx1) (xv rfl) (xv rfl) rfl) (xv rfl) rd_d rd_d)), fun hc2 => (xv rfl)⟩) rfl) a_nil)) rfl (Nat.le_of_ble_eq_true rfl)) rfl
theorem t_taken__a (table_0 : (Int × (List (List Int)))) (places_0 : (List Int)) (h : T.taken_pre table_0 places_0) (S : Store)  : F_taken__a [.d ((eP2 D.int (eL (eT D.int))) table_0), .d ((eL D.int) places_0)] S = .ok (.t [.d (D.int (T.taken table_0 places_0).1), .p (S.L.length + 0)]) (S.pl [((T.taken table_0 places_0).2).map (eT D.int)]) := by
  unfold F_taken__a
  refine fn_run (Rs := (fun p : (Int × (List (List Int))) => .ok (.t [.d (D.int (p).1), .p (S.L.length + 0)]) (S.pl [((p).2).map (eT D.int)]))) [some (.d ((eP2 D.int (eL (eT D.int))) table_0)), some (.d ((eL D.int) places_0)), none, none, none] rfl rfl ?_
  unfold T.taken; unfold T.taken_pre at h; unfold b_taken__a
  refine g_seq (g_wip (g_asg (α := (List (List Int))) (fun found_3 => .d ((eL (eT D.int)) found_3)) (fun found_3 => (S.pl [])) h.2.2 (x_frz (x_lc (em := (eT D.int)) (e2 := (eT D.int)) (i_seq (ds := table_0.2.map (eT D.int)) (x_p22 (em := D.int) (e2 := (eL (eT D.int))) (xv rfl)) rfl) h.1 fun x1 hx1 => ⟨_, rfl, (x_tupleL (em := D.int) (x_frz (x_lc (em := D.int) (e2 := D.int) (i_seq (ds := places_0.map D.int) (xv rfl) rfl) (h.2.1 x1 hx1).1 fun x2 hx2 => ⟨_, rfl, (x_ix (em := D.int) ((h.2.1 x1 hx1).2 x2 hx2) (xv rfl) (xv rfl) rfl)⟩)) rfl)⟩)) fun found_3 hfound_3 => ?_))
  exact gt_ret (x_tupV (a_cons (x_len (em := D.int) (xv rfl) rfl) (a_cons (x_new (x_ssetT hfound_3 (xv rfl) rfl) rfl) a_nil)) rfl (Nat.le_of_ble_eq_true rfl)) rfl
theorem t__law_right (s0 : Dw) (h : T.l_right_12_pre s0) (r : List (Option Cl))  : F__law_right [.p 0] (Bd r s0) = .ok (.d (D.bl (T.l_right_12 s0).1)) (Bd r (T.l_right_12 s0).2) := by
  unfold F__law_right
  refine fn_run (Rs := (fun p : (Bool × Dw) => .ok (.d (D.bl p.1)) (Bd r p.2))) [some (.p 0), none, none, none, none, none, none, none, none, none, none, none, none, none, none, none, none, none, none, none] rfl rfl ?_
  unfold T.l_right_12; unfold T.l_right_12_pre at h; unfold b__law_right
  try dsimp only [bnd] at h
  try dsimp only [bnd]
  refine g_seq (g_asg (α := (Tx × Dw)) (fun word_2 => .d (eS word_2.1)) (fun word_2 => ((Bd r word_2.2).pl [])) h.2.2 (x_ix (em := eS) h.2.1 (x_frz (x_lstT (em := eS) (l_consT (em := eS) (x_txt T.tx_both) (l_consT (em := eS) (x_txt T.tx_either) (l_consT (em := eS) (x_txt T.tx_middle) (l_consT (em := eS) (x_txt T.tx_odd) (l_consT (em := eS) (x_txt T.tx_any) (l_nilT eS)))))) (Nat.le_of_ble_eq_true rfl))) (x_mod (by decide) (x_callD (a_cons (xv rfl) a_nil) fun r => t__law_next _ h.1 r) xi) rfl) fun word_2 hword_2 => ?_)
  refine g_seq (g_wip (g_asg (α := ((Int × (List (List Int))) × Dw)) (fun table_4 => .d ((eP2 D.int (eL (eT D.int))) table_4.1)) (fun table_4 => ((Bd r table_4.2).pl [])) hword_2.2 (x_callD (a_cons (xv rfl) (a_cons (xv rfl) (a_cons xi a_nil))) fun r => t__law_table _ _ _ hword_2.1 r) fun table_4 htable_4 => ?_))
  refine g_seq (g_asgT (α := (Int × (List (List Int)))) (fun p5 => .d ((eP2 D.int (eL (eT D.int))) p5)) (fun p5 => ((Bd r table_4.2).pl [])) (fun p5 => [some (.p 0), none, some (.d ((eP2 D.int (eL (eT D.int))) table_4.1)), some (.d (D.int p5.1)), some (.d ((eL (eT D.int)) p5.2)), none, none, none, none, none, none, none, none, none, none, none, none, none, none, none]) htable_4 (xv rfl) (fun p5 => rfl) fun p5 hp5 => ?_)
  refine g_seq (g_asg (α := ((Int × (List (List Int))) × Dw)) (fun other_7 => .d ((eP2 D.int (eL (eT D.int))) other_7.1)) (fun other_7 => ((Bd r other_7.2).pl [])) hp5.2 (x_callD (a_cons (xv rfl) (a_cons (xv rfl) a_nil)) fun r => t__law_same_width _ _ hp5.1 r) fun other_7 hother_7 => ?_)
  refine g_seq (g_asg (α := (Int × (List (List Int)))) (fun due_10 => .d ((eP2 D.int (eL (eT D.int))) due_10)) (fun due_10 => ((Bd r other_7.2).pl [])) hother_7.2 (x_tup2 (em := D.int) (e2 := (eL (eT D.int))) (xv rfl) (x_frz (x_lcF (em := (eT D.int)) (e2 := (eT D.int)) (i_seq (ds := p5.2.map (eT D.int)) (xv rfl) rfl) hother_7.1 fun x8 hx8 => ⟨_, rfl, (t_b (x_in (em := (eT D.int)) (eqT eqI) (xv rfl) (x_p22 (em := D.int) (e2 := (eL (eT D.int))) (xv rfl)) rd_d rfl)), fun hc9 => (xv rfl)⟩))) fun due_10 hdue_10 => ?_)
  refine g_seq (g_wip (g_if (t_not (t_b (x_told (x := (eH2 (eP2 D.int (eL (eT D.int))) (eP2 D.int (eL (eT D.int)))) (table_4.1, other_7.1)) (told := (T.common ((table_4.1, other_7.1).1) ((table_4.1, other_7.1).2))) ((nfH2 (nfP2 nfI (nfL (nfT nfI))) (nfP2 nfI (nfL (nfT nfI)))) _) hdue_10.2.1 (a_cons (xv rfl) (a_cons (l_l2 (e := (eP2 D.int (eL (eT D.int)))) (f := (eP2 D.int (eL (eT D.int)))) (p := (table_4.1, other_7.1)) (xv rfl) (xv rfl)) a_nil)) (x_call (a_cons (x_l21 (e := (eP2 D.int (eL (eT D.int)))) (f := (eP2 D.int (eL (eT D.int)))) (xv rfl)) (a_cons (x_l22 (e := (eP2 D.int (eL (eT D.int)))) (f := (eP2 D.int (eL (eT D.int)))) (xv rfl)) a_nil)) (t_common__a _ _ hdue_10.1 _))))) (fun hc => ?_) fun hc => ?_))
  · have ha11 := hdue_10.2.2.1 hc
    exact gt_ret xb (fin_d rfl)
  · have ha11 := hdue_10.2.2.2 hc
    refine g_nx ?_
    refine g_seq (g_asg (α := (Int × (List (List Int)))) (fun one_12 => .d ((eP2 D.int (eL (eT D.int))) one_12)) (fun one_12 => ((Bd r other_7.2).pl [])) ha11.2 (x_call (a_cons (xv rfl) (a_cons xi a_nil)) (t__law_narrow _ _ ha11.1 _)) fun one_12 hone_12 => ?_)
    refine g_seq (g_asg (α := ((Int × (List (List Int))) × Dw)) (fun more_14 => .d ((eP2 D.int (eL (eT D.int))) more_14.1)) (fun more_14 => ((Bd r more_14.2).pl [])) hone_12.2.2 (x_call (a_cons (x_callD (a_cons (xv rfl) (a_cons (x_txt T.tx_any) (a_cons xi a_nil))) fun r => t__law_table _ _ _ hone_12.1 r) (a_cons (x_sub xi (x_p21 (em := D.int) (e2 := (eL (eT D.int))) (xv rfl))) a_nil)) (t__law_narrow _ _ hone_12.2.1 _)) fun more_14 hmore_14 => ?_)
    refine g_seq (g_asg (α := (List (List Int))) (fun both_15 => .d ((eL (eT D.int)) both_15)) (fun both_15 => ((Bd r more_14.2).pl [])) hmore_14 (x_frz (x_lstT (em := (eT D.int)) (l_nilT (eT D.int)) (Nat.le_of_ble_eq_true rfl))) fun both_15 hboth_15 => ?_)
    refine g_seq (g_for (em := (eT D.int)) (s0 := both_15) (fun s16 : ((List (List Int))) => ([some (.p 0), none, some (.d ((eP2 D.int (eL (eT D.int))) table_4.1)), some (.d (D.int p5.1)), some (.d ((eL (eT D.int)) p5.2)), none, none, some (.d ((eP2 D.int (eL (eT D.int))) one_12)), some (.d ((eP2 D.int (eL (eT D.int))) more_14.1)), some (.d ((eL (eT D.int)) s16)), none, none, none, none, none, none, none, none, none, none], ((Bd r more_14.2).pl []))) (i_seq (ds := one_12.2.map (eT D.int)) (x_p22 (em := D.int) (e2 := (eL (eT D.int))) (xv rfl)) rfl) rfl rfl hboth_15.1 (fun x17 s16 hx17 => ⟨_, rfl, ?_⟩) hboth_15.2 fun s16 hs16 => ?_)
    · unfold T.l_right_12_L1; unfold T.l_right_12_Q1 at hx17
      try dsimp only [bnd] at hx17
      try dsimp only [bnd]
      refine g_wip ?_
      refine g_wip (g_asg (α := (List (List Int))) (fun both_19 => .d ((eL (eT D.int)) both_19)) (fun both_19 => ((Bd r more_14.2).pl [])) hx17.2.2.2 (x_addL (em := (eT D.int)) hx17.2.2.1 (xv rfl) (x_frz (x_lc (em := (eT D.int)) (e2 := (eT D.int)) (i_seq (ds := more_14.1.2.map (eT D.int)) (x_p22 (em := D.int) (e2 := (eL (eT D.int))) (xv rfl)) rfl) hx17.1 fun x18 hx18 => ⟨_, rfl, (x_addT (em := D.int) (hx17.2.1 x18 hx18) (xv rfl) (xv rfl))⟩)) rfl rfl) fun both_19 hboth_19 => ?_)
      exact gn_nx rfl rfl
    refine g_seq (g_wip (g_asg (α := (Int × (List (List Int)))) (fun due_20 => .d ((eP2 D.int (eL (eT D.int))) due_20)) (fun due_20 => ((Bd r more_14.2).pl [])) hs16 (x_tup2 (em := D.int) (e2 := (eL (eT D.int))) (x_add (x_p21 (em := D.int) (e2 := (eL (eT D.int))) (xv rfl)) (x_p21 (em := D.int) (e2 := (eL (eT D.int))) (xv rfl))) (xv rfl)) fun due_20 hdue_20 => ?_))
    refine g_seq (g_wip (g_if (t_not (t_b (x_told (x := (eH2 (eP2 D.int (eL (eT D.int))) (eP2 D.int (eL (eT D.int)))) (one_12, more_14.1)) (told := (T.beside ((one_12, more_14.1).1) ((one_12, more_14.1).2))) ((nfH2 (nfP2 nfI (nfL (nfT nfI))) (nfP2 nfI (nfL (nfT nfI)))) _) hdue_20.2.1 (a_cons (xv rfl) (a_cons (l_l2 (e := (eP2 D.int (eL (eT D.int)))) (f := (eP2 D.int (eL (eT D.int)))) (p := (one_12, more_14.1)) (xv rfl) (xv rfl)) a_nil)) (x_call (a_cons (x_l21 (e := (eP2 D.int (eL (eT D.int)))) (f := (eP2 D.int (eL (eT D.int)))) (xv rfl)) (a_cons (x_l22 (e := (eP2 D.int (eL (eT D.int)))) (f := (eP2 D.int (eL (eT D.int)))) (xv rfl)) a_nil)) (t_beside__a _ _ hdue_20.1 _))))) (fun hc => ?_) fun hc => ?_))
    · have ha21 := hdue_20.2.2.1 hc
      exact gt_ret xb (fin_d rfl)
    · have ha21 := hdue_20.2.2.2 hc
      refine g_nx ?_
      refine g_seq (g_asgT (α := ((Int × Int) × Dw)) (fun p24 => .d ((eP2 D.int D.int) p24.1)) (fun p24 => ((Bd r p24.2).pl [])) (fun p24 => [some (.p 0), none, some (.d ((eP2 D.int (eL (eT D.int))) table_4.1)), some (.d (D.int p5.1)), some (.d ((eL (eT D.int)) p5.2)), none, none, none, none, none, none, some (.d (D.int p24.1.1)), some (.d (D.int p24.1.2)), none, none, none, none, none, none, none]) ha21.2.2.2.2 (x_tup2 (em := D.int) (e2 := D.int) (x_mod ha21.2.1 (x_callD (a_cons (xv rfl) a_nil) fun r => t__law_next _ ha21.1 r) (xv rfl)) (x_mod ha21.2.2.2.1 (x_callD (a_cons (xv rfl) a_nil) fun r => t__law_next _ ha21.2.2.1 r) (xv rfl))) (fun p24 => rfl) fun p24 hp24 => ?_)
      refine g_seq (g_asg (α := (Int × Dw)) (fun value_26 => .d (D.int value_26.1)) (fun value_26 => ((Bd r value_26.2).pl [])) hp24.2 (x_mod (by decide) (x_callD (a_cons (xv rfl) a_nil) fun r => t__law_next _ hp24.1 r) xi) fun value_26 hvalue_26 => ?_)
      refine g_seq (g_asg (α := (Int × (List (List Int)))) (fun due_29 => .d ((eP2 D.int (eL (eT D.int))) due_29)) (fun due_29 => ((Bd r value_26.2).pl [])) hvalue_26.2.2 (x_tup2 (em := D.int) (e2 := (eL (eT D.int))) (xv rfl) (x_frz (x_lcF (em := (eT D.int)) (e2 := (eT D.int)) (i_seq (ds := p5.2.map (eT D.int)) (xv rfl) rfl) hvalue_26.1 fun x27 hx27 => ⟨_, rfl, (t_b (x_eq (em := D.int) eqI (x_ix (em := D.int) (hvalue_26.2.1 x27 hx27).1 (xv rfl) (xv rfl) rfl) (x_ix (em := D.int) (hvalue_26.2.1 x27 hx27).2 (xv rfl) (xv rfl) rfl) rd_d rd_d)), fun hc28 => (xv rfl)⟩))) fun due_29 hdue_29 => ?_)
      refine g_seq (g_wip (g_if (t_not (t_b (x_told (x := (eH1 (eP2 D.int (eL (eT D.int)))) table_4.1) (told := (T.alike table_4.1 p24.1.1 p24.1.2)) ((nfH1 (nfP2 nfI (nfL (nfT nfI)))) _) hdue_29.2.1 (a_cons (xv rfl) (a_cons (l_l1 (e := (eP2 D.int (eL (eT D.int)))) (xv rfl)) a_nil)) (x_call (a_cons (x_l1 (e := (eP2 D.int (eL (eT D.int)))) (xv rfl)) (a_cons (xv rfl) (a_cons (xv rfl) a_nil))) (t_alike__a _ _ _ hdue_29.1 _))))) (fun hc => ?_) fun hc => ?_))
      · have ha30 := hdue_29.2.2.1 hc
        exact gt_ret xb (fin_d rfl)
      · have ha30 := hdue_29.2.2.2 hc
        refine g_nx ?_
        refine g_seq (g_asg (α := (Int × (List (List Int)))) (fun due_33 => .d ((eP2 D.int (eL (eT D.int))) due_33)) (fun due_33 => ((Bd r value_26.2).pl [])) ha30.2.2 (x_tup2 (em := D.int) (e2 := (eL (eT D.int))) (xv rfl) (x_frz (x_lcF (em := (eT D.int)) (e2 := (eT D.int)) (i_seq (ds := p5.2.map (eT D.int)) (xv rfl) rfl) ha30.1 fun x31 hx31 => ⟨_, rfl, (t_b (x_eq (em := D.int) eqI (x_ix (em := D.int) (ha30.2.1 x31 hx31) (xv rfl) (xv rfl) rfl) (xv rfl) rd_d rd_d)), fun hc32 => (xv rfl)⟩))) fun due_33 hdue_33 => ?_)
        refine g_seq (g_wip (g_if (t_not (t_b (x_told (x := (eH1 (eP2 D.int (eL (eT D.int)))) table_4.1) (told := (T.having table_4.1 p24.1.1 value_26.1)) ((nfH1 (nfP2 nfI (nfL (nfT nfI)))) _) hdue_33.2.1 (a_cons (xv rfl) (a_cons (l_l1 (e := (eP2 D.int (eL (eT D.int)))) (xv rfl)) a_nil)) (x_call (a_cons (x_l1 (e := (eP2 D.int (eL (eT D.int)))) (xv rfl)) (a_cons (xv rfl) (a_cons (xv rfl) a_nil))) (t_having__a _ _ _ hdue_33.1 _))))) (fun hc => ?_) fun hc => ?_))
        · have ha34 := hdue_33.2.2.1 hc
          exact gt_ret xb (fin_d rfl)
        · have ha34 := hdue_33.2.2.2 hc
          refine g_nx ?_
          refine g_seq (g_wip (g_asg (α := ((List Int) × Dw)) (fun places_40 => .d ((eL D.int) places_40.1)) (fun places_40 => ((Bd r places_40.2).pl [])) ha34.2.2.2 (x_frz (x_lcD (em := D.int) (e2 := D.int) (i_rng1 (x_add xi (x_mod (by decide) (x_callD (a_cons (xv rfl) a_nil) fun r => t__law_next _ ha34.1 r) xi)) ha34.2.1) (upto_le ha34.2.1) ha34.2.2.1 fun x36 w37 hx36 => ⟨_, rfl, (x_mod hx36.2 (x_callD (a_cons (xv rfl) a_nil) fun r => t__law_next _ hx36.1 r) (xv rfl))⟩)) fun places_40 hplaces_40 => ?_))
          refine g_seq (g_asg (α := (List (List Int))) (fun _ => .p (r.length + 1 + 0)) (fun made_41 => ((Bd r places_40.2).pl [made_41.map (eT D.int)])) hplaces_40 (x_new (x_lstT (em := (eT D.int)) (l_nilT (eT D.int)) (Nat.le_of_ble_eq_true rfl)) rfl) fun made_41 hmade_41 => ?_)
          refine g_seq (g_join (fun s42 : ((List (List Int)) × Dw) => ([none, none, some (.d ((eP2 D.int (eL (eT D.int))) table_4.1)), none, none, none, none, none, none, none, none, none, none, none, some (.d ((eL D.int) places_40.1)), some (.d ((eL (eT D.int)) s42.1)), none, none, none, none], ((Bd r s42.2).pl []))) hmade_41.2 ?_ fun s42 hs42 => ?_)
          · refine g_fz ?_
            refine g_for (em := (eT D.int)) (s0 := made_41) (fun s43 : ((List (List Int))) => ([none, none, some (.d ((eP2 D.int (eL (eT D.int))) table_4.1)), none, some (.d ((eL (eT D.int)) p5.2)), none, none, none, none, none, none, none, none, none, some (.d ((eL D.int) places_40.1)), some (.p (r.length + 1 + 0)), none, none, none, none], ((Bd r places_40.2).pl [s43.map (eT D.int)]))) (i_seq (ds := (T.l_rows_of (places_40.1.length : Int)).map (eT D.int)) (x_call (a_cons (x_len (em := D.int) (xv rfl) rfl) a_nil) (t__law_rows_of _ hmade_41.1.1 _)) rfl) rfl rfl hmade_41.1.2.1 (fun x44 s43 hx44 => ⟨_, rfl, ?_⟩) hmade_41.1.2.2 fun s43 hs43 => ?_
            · unfold T.l_right_12_L2; unfold T.l_right_12_Q2 at hx44
              try dsimp only [bnd] at hx44
              try dsimp only [bnd]
              refine g_wip ?_
              refine g_wip (g_if (t_b (x_ne (em := (eL (eT D.int))) (eqL (eqT eqI)) (x_frz (x_lcF (em := (eT D.int)) (e2 := (eT D.int)) (i_seq (ds := p5.2.map (eT D.int)) (xv rfl) rfl) hx44.1 fun x45 hx45 => ⟨_, rfl, (t_b (x_eq (em := (eT D.int)) (eqT eqI) (x_tupleL (em := D.int) (x_frz (x_lc (em := D.int) (e2 := D.int) (i_seq (ds := places_40.1.map D.int) (xv rfl) rfl) (hx44.2.1 x45 hx45).1 fun x46 hx46 => ⟨_, rfl, (x_ix (em := D.int) ((hx44.2.1 x45 hx45).2 x46 hx46) (xv rfl) (xv rfl) rfl)⟩)) rfl) (xv rfl) rd_d rd_d)), fun hc47 => (xv rfl)⟩)) (x_frz (x_lstT (em := (eT D.int)) (l_nilT (eT D.int)) (Nat.le_of_ble_eq_true rfl))) rd_d rd_d)) (fun hc => ?_) fun hc => ?_)
              · have ha48 := hx44.2.2.1 hc
                refine g_wip (g_drop (α := (List (List Int))) (fun made_49 => ((Bd r places_40.2).pl [made_49.map (eT D.int)])) ha48.2 (x_app1 (j := 0) (em := (eT D.int)) (xv rfl) rfl rfl (xv rfl) ha48.1) fun made_49 hmade_49 => ?_)
                exact gn_nx rfl rfl
              · have ha48 := hx44.2.2.2 hc
                refine g_nx ?_
                exact gn_nx rfl rfl
            exact g1_nxR (fe_none (fe_none (fe_d (fe_none (fe_d (fe_none (fe_none (fe_none (fe_none (fe_none (fe_none (fe_none (fe_none (fe_none (fe_d (fe_c (Nat.not_lt.mpr (Nat.le_add_right _ _)) (pl_at (j := 0) rfl rfl) (fe_none (fe_none (fe_none (fe_none fe_nil)))))))))))))))))))) rfl (pl_take (j := 0) rfl)
          exact gt_ret (x_told (x := (eH2 (eP2 D.int (eL (eT D.int))) (eL D.int)) (table_4.1, places_40.1)) (told := (T.taken ((table_4.1, places_40.1).1) ((table_4.1, places_40.1).2))) ((nfH2 (nfP2 nfI (nfL (nfT nfI))) (nfL nfI)) _) hs42.2 (a_cons (x_tup2 (em := D.int) (e2 := (eL (eT D.int))) (x_len (em := D.int) (xv rfl) rfl) (xv rfl)) (a_cons (l_l2 (e := (eP2 D.int (eL (eT D.int)))) (f := (eL D.int)) (p := (table_4.1, places_40.1)) (xv rfl) (xv rfl)) a_nil)) (x_call (a_cons (x_l21 (e := (eP2 D.int (eL (eT D.int)))) (f := (eL D.int)) (xv rfl)) (a_cons (x_l22 (e := (eP2 D.int (eL (eT D.int)))) (f := (eL D.int)) (xv rfl)) a_nil)) (t_taken__a _ _ hs42.1 _))) (fin_d rfl)
theorem t__law_draws (z : Int) : F__law_draws__m [.d (.int z)] ((⟨[]⟩ : Store).pl []) = .ok (.p 0) ((Bd [] (drawsP z)).pl []) := t_draws z
theorem t_law (ns : List Int) (hl : ns.length ≤ 63) (h : T.law_K02_pre ns) : F_law [.d (.scr ns)] ⟨[]⟩ = .ok (.d (.bl (T.law_K02 ns))) ⟨[]⟩ := by
  unfold F_law
  refine fn_run (Rs := (fun p : Bool => .ok (.d (.bl p)) ⟨[]⟩)) [some (.d (.scr ns)), none] rfl rfl ?_
  unfold T.law_K02; unfold T.law_K02_pre at h; unfold b_law
  try dsimp only [bnd] at h
  try dsimp only [bnd]
  refine g_seq (g_wip (gt_for (em := D.int) (s0 := ()) (fun s1 : Unit => ([some (.d (.scr ns)), none], ((⟨[]⟩ : Store).pl []))) (cells_of (k := 10) rfl hl) rfl rfl h.1 (fun x2 s1 hx2 => ⟨_, rfl, ?_⟩) h.2 fun s1 hs1 => ?_))
  · unfold T.law_K02_L1; unfold T.law_K02_Q1 at hx2
    try dsimp only [bnd] at hx2
    try dsimp only [bnd]
    refine g_reg ?_
    refine g_wip (g_ifD (α := Bool × Dw) (fun c5 => c5.1) (fun c5 => ((Bd [] c5.2).pl [])) hx2.2 (t_not (t_b (x_callD (a_cons (x_call (a_cons (xv rfl) a_nil) (t__law_draws _)) a_nil) fun r => t__law_right _ hx2.1 r))) fun c5 hc5 => ⟨fun hc => ?_, fun hc => ?_⟩)
    · have ha6 := hc5.1 hc
      exact go_ret xb fin_0
    · have ha6 := hc5.2 hc
      refine g_nx ?_
      exact go_nxR (fe_d (fe_none fe_nil)) rfl rfl
  exact gt_ret xb fin_0
theorem law_true_of (ns : List Int) (hl : ns.length ≤ 63) (h : T.law_K02_pre ns ∧ T.law_K02 ns = true) : F_law [.d (.scr ns)] ⟨[]⟩ = .ok (.d (.bl true)) ⟨[]⟩ := by
  rw [t_law ns hl h.1, h.2]
end K02

/-! M0: rows, tables, plain -/
namespace MP
open PySem PySem.Spec PyProof.Rows L2
def rowsL : Nat → List (List Int)
  | 0 => [[]]
  | n + 1 => (rowsL n).flatMap fun r => [r ++ [0], r ++ [1]]
theorem rowsL_len : ∀ n : Nat, (rowsL n).length = 2 ^ n
  | 0 => rfl
  | n + 1 => by
    have h : ∀ l : List (List Int), (l.flatMap fun r => [r ++ [(0 : Int)], r ++ [1]]).length = 2 * l.length := by
      intro l
      induction l with
      | nil => rfl
      | cons a l ih => rw [List.flatMap_cons, List.length_append, ih, List.length_cons]; simp; omega
    show ((rowsL n).flatMap _).length = _
    rw [h, rowsL_len n, Nat.pow_succ]; omega
theorem rowsL_row : ∀ {n : Nat} {r : List Int}, r ∈ rowsL n → r.length = n ∧ ∀ x ∈ r, x = 0 ∨ x = 1
  | 0, r, h => by
    have : r = [] := by simpa [rowsL] using h
    subst this; exact ⟨rfl, by simp⟩
  | n + 1, r, h => by
    unfold rowsL at h
    obtain ⟨q, hq, hr⟩ := List.mem_flatMap.mp h
    obtain ⟨h1, h2⟩ := rowsL_row hq
    simp at hr
    rcases hr with rfl | rfl
    · exact ⟨by simp [h1], fun x hx => by simp at hx; rcases hx with hx | rfl; exact h2 x hx; exact .inl rfl⟩
    · exact ⟨by simp [h1], fun x hx => by simp at hx; rcases hx with hx | rfl; exact h2 x hx; exact .inr rfl⟩
def Bits (ns : List Int) : Prop := ∀ x ∈ ns, x = 0 ∨ x = 1
def Row (w : Nat) (r : List Int) : Prop := r.length = w ∧ Bits r
def told3 (deed : List Int) : List Int → List Int → List Int → List Int
  | a :: x, b :: y, c :: z => (deed[(4 * a + 2 * b + c).toNat]?).getD 0 :: told3 deed x y z
  | _, _, _ => []
theorem rowsL_mem : ∀ {n : Nat} {r : List Int}, Row n r → r ∈ rowsL n
  | 0, r, ⟨h, _⟩ => by
    obtain rfl := List.length_eq_zero_iff.mp h
    exact List.mem_cons_self ..
  | n + 1, r, ⟨h, hb⟩ => by
    have hne : r ≠ [] := by intro z; subst z; simp at h
    have e := List.dropLast_concat_getLast hne
    have hm : r.dropLast ∈ rowsL n := rowsL_mem ⟨by rw [List.length_dropLast]; omega, fun x hx => hb x (List.dropLast_subset _ hx)⟩
    have hl := hb _ (List.getLast_mem hne)
    unfold rowsL
    refine List.mem_flatMap.mpr ⟨_, hm, ?_⟩
    rcases hl with hl | hl
    · rw [hl] at e; rw [← e]; simp
    · rw [hl] at e; rw [← e]; simp
theorem nodup_len {α : Type} [DecidableEq α] : ∀ {l m : List α}, l.Nodup → (∀ x ∈ l, x ∈ m) → l.length ≤ m.length
  | [], _, _, _ => Nat.zero_le _
  | x :: l, m, h, hs => by
    obtain ⟨h1, h2⟩ := List.nodup_cons.mp h
    have hx := hs x (List.mem_cons_self ..)
    have := nodup_len (m := m.erase x) h2 fun y hy => (List.mem_erase_of_ne (by intro z; subst z; exact h1 hy)).mpr (hs y (List.mem_cons_of_mem _ hy))
    rw [List.length_erase_of_mem hx] at this
    have hp := List.length_pos_of_mem hx
    rw [List.length_cons]; omega
structure Kept (w : Nat) (l : List (List Int)) : Prop where
  row : ∀ r ∈ l, Row w r
  nd : l.Nodup
theorem Kept.le {w : Nat} {l : List (List Int)} (h : Kept w l) : l.length ≤ 2 ^ w := by
  have := nodup_len h.nd fun r hr => rowsL_mem (h.row r hr)
  rwa [rowsL_len] at this
structure Grow (w : Nat) (k0 : List (List Int)) (g0 : Bool) (k : List (List Int)) (g : Bool) : Prop where
  kept : Kept w k
  pre : k0 <+: k
  more : g = true → g0 = true ∨ k0.length < k.length
theorem Grow.refl {w : Nat} {k : List (List Int)} {g : Bool} (h : Kept w k) : Grow w k g k g := ⟨h, List.prefix_refl _, fun h => .inl h⟩
theorem Grow.trans {w : Nat} {k0 k1 k2 : List (List Int)} {g0 g1 g2 : Bool} (a : Grow w k0 g0 k1 g1) (b : Grow w k1 g1 k2 g2) : Grow w k0 g0 k2 g2 := ⟨b.kept, a.pre.trans b.pre, fun h => by
  rcases b.more h with h | h
  · rcases a.more h with h | h
    · exact .inl h
    · exact .inr (Nat.lt_of_lt_of_le h b.pre.length_le)
  · exact .inr (Nat.lt_of_le_of_lt a.pre.length_le h)⟩
structure Tbl (w : Nat) (rows : List (List Int)) : Prop where
  row : ∀ r ∈ rows, Row w r
  srt : rows.Pairwise fun a b => HT.lexLt a b = true
theorem lexLt_irr : ∀ a : List Int, HT.lexLt a a = false
  | [] => rfl
  | x :: a => by rw [HT.lexLt_cons, if_pos rfl]; exact lexLt_irr a
theorem lexLt_tri : ∀ {a b : List Int}, HT.lexLt a b = false → HT.lexLt b a = false → a = b
  | [], [], _, _ => rfl
  | [], _ :: _, h, _ => by simp [HT.lexLt] at h
  | _ :: _, [], _, h => by simp [HT.lexLt] at h
  | x :: a, y :: b, h1, h2 => by
    rw [HT.lexLt_cons] at h1 h2
    by_cases e : x = y
    · subst e
      rw [if_pos rfl] at h1 h2
      rw [lexLt_tri h1 h2]
    · rw [if_neg e] at h1
      rw [if_neg (Ne.symm e)] at h2
      have a := of_decide_eq_false h1
      have b := of_decide_eq_false h2
      omega
theorem Tbl.kept {w : Nat} {rows : List (List Int)} (h : Tbl w rows) : Kept w rows := ⟨h.row, h.srt.imp fun {a b} h e => by subst e; rw [lexLt_irr] at h; cases h⟩

theorem Kept.tbl {w : Nat} {l : List (List Int)} (h : Kept w l) : Tbl w (sortT l) := by
  have hp := isort_perm HT.lexLt l
  refine ⟨fun r hr => h.row r (hp.mem_iff.mp hr), ?_⟩
  have h1 : (sortT l).Pairwise fun x y => HT.lexLt y x = false := isort_srtd (swo_key id) l
  have h2 : (sortT l).Nodup := hp.nodup_iff.mpr h.nd
  exact (h1.and h2).imp fun {a b} ⟨x, y⟩ => by
    cases q : HT.lexLt a b with
    | true => rfl
    | false => exact absurd (lexLt_tri q x) y
theorem rowsL_srt : ∀ n : Nat, (rowsL n).Pairwise fun a b => HT.lexLt a b = true
  | 0 => List.pairwise_singleton _ _
  | n + 1 => by
    have app : ∀ {a b : List Int} (x y : List Int), a.length = b.length → HT.lexLt a b = true → HT.lexLt (a ++ x) (b ++ y) = true := by
      intro a
      induction a with
      | nil => intro b x y hl h; cases b with
        | nil => simp [HT.lexLt] at h
        | cons _ _ => simp at hl
      | cons p a ih => intro b x y hl h; cases b with
        | nil => simp at hl
        | cons q b =>
          rw [List.cons_append, List.cons_append, HT.lexLt_cons]
          rw [HT.lexLt_cons] at h
          by_cases e : p = q
          · rw [if_pos e] at h ⊢; exact ih x y (by simpa using hl) h
          · rw [if_neg e] at h ⊢; exact h
    have own : ∀ a : List Int, HT.lexLt (a ++ [0]) (a ++ [1]) = true := by
      intro a
      induction a with
      | nil => decide
      | cons p a ih => rw [List.cons_append, List.cons_append, HT.lexLt_cons, if_pos rfl]; exact ih
    have gen : ∀ l : List (List Int), (∀ r ∈ l, r.length = n) → (l.Pairwise fun a b => HT.lexLt a b = true) → (l.flatMap fun r => [r ++ [(0 : Int)], r ++ [1]]).Pairwise fun a b => HT.lexLt a b = true := by
      intro l
      induction l with
      | nil => intro _ _; exact List.Pairwise.nil
      | cons a l ih =>
        intro hl hp
        obtain ⟨h1, h2⟩ := List.pairwise_cons.mp hp
        rw [List.flatMap_cons]
        refine List.pairwise_append.mpr ⟨List.pairwise_cons.mpr ⟨fun z hz => ?_, List.pairwise_singleton _ _⟩, ih (fun r hr => hl r (List.mem_cons_of_mem _ hr)) h2, fun x hx y hy => ?_⟩
        · have : z = a ++ [1] := by simpa using hz
          subst this; exact own a
        · obtain ⟨q, hq, hy⟩ := List.mem_flatMap.mp hy
          have hlq : a.length = q.length := by rw [hl a (List.mem_cons_self ..), hl q (List.mem_cons_of_mem _ hq)]
          have hlt := h1 q hq
          simp at hx hy
          rcases hx with rfl | rfl <;> rcases hy with rfl | rfl <;> exact app _ _ hlq hlt
    exact gen _ (fun r hr => (rowsL_row hr).1) (rowsL_srt n)
theorem Tbl.sub {w : Nat} {l : List (List Int)} (h : l.Sublist (rowsL w)) : Tbl w l := ⟨fun r hr => rowsL_row (h.subset hr), (rowsL_srt w).sublist h⟩
end MP

/-! M1: loops, plain; the drawn table -/
namespace MP
open PySem PySem.Spec PyProof.Rows L2
/-! ### loops -/
section
variable {α β σ ρ : Type}
theorem loopF_filter {f : α → List α → List α} {p : α → Bool} : ∀ {xs : List α} {s : List α}, (∀ x ∈ xs, ∀ s, f x s = if p x = true then s ++ [x] else s) → loopF f xs s = s ++ xs.filter p
  | [], s, _ => by simp [loopF]
  | x :: xs, s, h => by
    unfold loopF
    rw [loopF_filter fun y hy => h y (List.mem_cons_of_mem _ hy), h x (List.mem_cons_self ..)]
    cases q : p x <;> simp [q]
theorem loopF_flat {f : α → List β → List β} {g : α → List β} : ∀ {xs : List α} {s : List β}, (∀ x ∈ xs, ∀ s, f x s = s ++ g x) → loopF f xs s = s ++ xs.flatMap g
  | [], s, _ => by simp [loopF]
  | x :: xs, s, h => by
    unfold loopF
    rw [loopF_flat fun y hy => h y (List.mem_cons_of_mem _ hy), h x (List.mem_cons_self ..)]
    simp
theorem loopO_any {f : α → Unit → Oc Unit ρ} {c : α → Bool} {z : ρ} : ∀ {xs : List α}, (∀ x ∈ xs, f x () = if c x = true then .rt z else .nx ()) → loopO f xs () = if xs.any c = true then .rt z else .nx ()
  | [], _ => rfl
  | x :: xs, h => by
    unfold loopO
    rw [h x (List.mem_cons_self ..)]
    have ih := loopO_any (f := f) (c := c) (z := z) (xs := xs) fun y hy => h y (List.mem_cons_of_mem _ hy)
    cases q : c x with
    | true => simp [q]
    | false => simp [q]; rw [ih]; simp
theorem loopP_all {P : α → Unit → Prop} {f : α → Unit → Oc Unit ρ} : ∀ {xs : List α}, (∀ x ∈ xs, P x ()) → loopP P f xs ()
  | [], _ => trivial
  | x :: xs, h => by
    refine ⟨h x (List.mem_cons_self ..), ?_⟩
    cases f x () with
    | nx s => exact loopP_all fun y hy => h y (List.mem_cons_of_mem _ hy)
    | rt r => trivial
end
/-! ### places -/
theorem ix_pos {α : Type} [Inhabited α] {xs : List α} {i : Int} (h : 0 ≤ i ∧ i < xs.length) : ∃ (j : Nat) (hj : j < xs.length), i = j ∧ ix xs i = xs[j] := by
  have hj : i.toNat < xs.length := by omega
  refine ⟨i.toNat, hj, by omega, ?_⟩
  have := ix_nat hj
  rw [Int.toNat_of_nonneg h.1] at this; exact this
theorem ix_mem {α : Type} [Inhabited α] {xs : List α} {i : Int} (h : 0 ≤ i ∧ i < xs.length) : ix xs i ∈ xs := by
  obtain ⟨j, hj, _, e⟩ := ix_pos h
  rw [e]; exact List.getElem_mem hj
theorem row_ix {w : Nat} {r : List Int} (h : Row w r) {p : Int} (hp : p ∈ upto (w : Int)) : ix r p = 0 ∨ ix r p = 1 := by
  obtain ⟨h0, h1⟩ := upto_mem.mp hp
  exact h.2 _ (ix_mem ⟨h0, by rw [h.1]; exact h1⟩)
theorem w_le {w : Nat} (h : w ≤ 8) : (rowsL w).length ≤ 256 := by rw [rowsL_len]; exact Nat.le_trans (Nat.pow_le_pow_right (by decide) h) (by decide)
/-! ### rows of a width -/
theorem l_rows_inner (l acc : List (List Int)) : loopF T.l_rows_of_L1 l acc = acc ++ l.flatMap fun r => [r ++ [0], r ++ [1]] := loopF_flat fun x _ s => rfl
theorem l_rows_of_eq (w : Nat) : T.l_rows_of (w : Int) = rowsL w := by
  have key : ∀ (xs : List Int) (k : Nat), loopF T.l_rows_of_L2 xs (rowsL k) = rowsL (k + xs.length) := by
    intro xs
    induction xs with
    | nil => intro k; rfl
    | cons x xs ih =>
      intro k
      have : T.l_rows_of_L2 x (rowsL k) = rowsL (k + 1) := by
        show loopF T.l_rows_of_L1 (rowsL k) [] = _
        rw [l_rows_inner]; rfl
      unfold loopF
      rw [this, ih, List.length_cons]; congr 1; omega
  have := key (upto (w : Int)) 0
  rw [upto_len, Int.toNat_natCast, Nat.zero_add] at this
  exact this
theorem l_rows_of_ok {w : Nat} (h : w ≤ 8) : T.l_rows_of_pre (w : Int) := by
  have inner : ∀ (l acc : List (List Int)), (∀ r ∈ l, r.length ≤ 10) → acc.length + 2 * l.length ≤ 10000 → foldP T.l_rows_of_Q1 T.l_rows_of_L1 l acc := by
    intro l
    induction l with
    | nil => intro _ _ _; trivial
    | cons r l ih =>
      intro acc hl hz
      have hr := hl r (List.mem_cons_self ..)
      rw [List.length_cons] at hz
      refine ⟨⟨?_, ?_, ?_, trivial⟩, ih _ (fun q hq => hl q (List.mem_cons_of_mem _ hq)) ?_⟩
      · show r.length + 1 ≤ _; omega
      · show r.length + 1 ≤ _; omega
      · show acc.length + 2 ≤ _; omega
      · show (acc ++ _).length + _ ≤ _; rw [List.length_append]; show acc.length + 2 + _ ≤ _; omega
  have key : ∀ (xs : List Int) (k : Nat), k + xs.length ≤ 8 → foldP T.l_rows_of_Q2 T.l_rows_of_L2 xs (rowsL k) := by
    intro xs
    induction xs with
    | nil => intro _ _; trivial
    | cons x xs ih =>
      intro k hk
      rw [List.length_cons] at hk
      have e : T.l_rows_of_L2 x (rowsL k) = rowsL (k + 1) := by
        show loopF T.l_rows_of_L1 (rowsL k) [] = _
        rw [l_rows_inner]; rfl
      refine ⟨⟨inner _ _ (fun r hr => by rw [(rowsL_row hr).1]; omega) ?_, trivial⟩, by rw [e]; exact ih _ (by omega)⟩
      have := w_le (w := k) (by omega)
      simp; omega
  exact ⟨by omega, key _ 0 (by rw [upto_len]; omega), trivial⟩
/-! ### closed tables -/
theorem ix_bits {d : List Int} (h : Bits d) (i : Int) : ix d i = 0 ∨ ix d i = 1 := by
  unfold ix atI
  cases ixN d.length i with
  | none => left; rfl
  | some j =>
    show (d[j]?).getD default = 0 ∨ (d[j]?).getD default = 1
    cases q : d[j]? with
    | none => left; rfl
    | some v => exact h v (List.mem_of_getElem? q)
theorem zip3_len {α β γ : Type} : ∀ {w : Nat} {x : List α} {y : List β} {z : List γ}, x.length = w → y.length = w → z.length = w → (zip3 x y z).length = w
  | 0, [], [], [], _, _, _ => rfl
  | w + 1, _ :: x, _ :: y, _ :: z, h1, h2, h3 => by
    unfold zip3; rw [List.length_cons, zip3_len (w := w) (by simpa using h1) (by simpa using h2) (by simpa using h3)]
theorem zip3_mem {α β γ : Type} : ∀ {x : List α} {y : List β} {z : List γ} {p : α × β × γ}, p ∈ zip3 x y z → p.1 ∈ x ∧ p.2.1 ∈ y ∧ p.2.2 ∈ z
  | _ :: x, _ :: y, _ :: z, p, h => by
    unfold zip3 at h
    rcases List.mem_cons.mp h with rfl | h
    · exact ⟨List.mem_cons_self .., List.mem_cons_self .., List.mem_cons_self ..⟩
    · obtain ⟨a, b, c⟩ := zip3_mem h
      exact ⟨List.mem_cons_of_mem _ a, List.mem_cons_of_mem _ b, List.mem_cons_of_mem _ c⟩
  | [], _, _, _, h => by simp [zip3] at h
  | _ :: _, [], _, _, h => by simp [zip3] at h
  | _ :: _, _ :: _, [], _, h => by simp [zip3] at h
theorem l_done_row {w : Nat} {d x y z : List Int} (hd : Bits d) (h1 : Row w x) (h2 : Row w y) (h3 : Row w z) : Row w (T.l_done d x y z) := by
  refine ⟨?_, fun v hv => ?_⟩
  · unfold T.l_done; rw [List.length_map]; exact zip3_len h1.1 h2.1 h3.1
  · unfold T.l_done at hv
    obtain ⟨q, _, rfl⟩ := List.mem_map.mp hv
    exact ix_bits hd _
theorem l_done_ok {w : Nat} {d x y z : List Int} (hl : d.length = 8) (hw : w ≤ 1000) (h1 : Row w x) (h2 : Row w y) (h3 : Row w z) : T.l_done_pre d x y z := by
  refine ⟨by rw [zip3_len h1.1 h2.1 h3.1]; omega, fun p hp => ?_⟩
  obtain ⟨a, b, c⟩ := zip3_mem hp
  have := h1.2 _ a; have := h2.2 _ b; have := h3.2 _ c
  rw [hl]; omega
section
variable {w : Nat} {d : List Int}
abbrev Ks := List (List Int) × Bool
theorem Kept.snoc {k : List (List Int)} {r : List Int} (h : Kept w k) (hr : Row w r) (hn : ¬ r ∈ k) : Kept w (k ++ [r]) := ⟨fun q hq => by
    rcases List.mem_append.mp hq with hq | hq
    · exact h.row q hq
    · rw [List.mem_singleton.mp hq]; exact hr, List.nodup_append.mpr ⟨h.nd, by simp, fun a ha b hb => by
      rw [List.mem_singleton.mp hb]; intro z; subst z; exact hn ha⟩⟩
theorem close_1 (hl : d.length = 8) (hd : Bits d) (hw : w ≤ 10) {x y z : List Int} (hx : Row w x) (hy : Row w y) (hz : Row w z) {s : Ks} (hs : Kept w s.1) : T.l_closed_Q1 d x y z s ∧ Grow w s.1 s.2 (T.l_closed_L1 d x y z s).1 (T.l_closed_L1 d x y z s).2 := by
  have hr := l_done_row hd hx hy hz
  have hle := hs.le
  have h2 : 2 ^ w ≤ 1024 := Nat.le_trans (Nat.pow_le_pow_right (by decide) hw) (by decide)
  refine ⟨⟨l_done_ok hl (by omega) hx hy hz, fun _ => ⟨by omega, trivial⟩, fun _ => trivial⟩, ?_⟩
  show Grow w s.1 s.2 (if (!mem (T.l_done d x y z) s.1) = true then (s.1 ++ [T.l_done d x y z], true) else (s.1, s.2)).1 (if (!mem (T.l_done d x y z) s.1) = true then (s.1 ++ [T.l_done d x y z], true) else (s.1, s.2)).2
  by_cases q : mem (T.l_done d x y z) s.1 = true
  · rw [q]; exact Grow.refl hs
  · have q' : mem (T.l_done d x y z) s.1 = false := by simpa using q
    rw [q']
    exact ⟨hs.snoc hr (by simpa using q'), List.prefix_append _ _, fun _ => .inr (by simp)⟩
theorem grow_loop {P : List Int → Ks → Prop} {f : List Int → Ks → Ks} (h : ∀ r, Row w r → ∀ s : Ks, Kept w s.1 → P r s ∧ Grow w s.1 s.2 (f r s).1 (f r s).2) : ∀ (l : List (List Int)) (s : Ks), (∀ r ∈ l, Row w r) → Kept w s.1 → foldP P f l s ∧ Grow w s.1 s.2 (loopF f l s).1 (loopF f l s).2
  | [], s, _, hs => ⟨trivial, Grow.refl hs⟩
  | r :: l, s, hl, hs => by
    obtain ⟨h1, h2⟩ := h r (hl r (List.mem_cons_self ..)) s hs
    obtain ⟨h3, h4⟩ := grow_loop h l (f r s) (fun q hq => hl q (List.mem_cons_of_mem _ hq)) h2.kept
    exact ⟨⟨h1, h3⟩, h2.trans h4⟩
theorem close_2 (hl : d.length = 8) (hd : Bits d) (hw : w ≤ 10) {x y : List Int} (hx : Row w x) (hy : Row w y) {s : Ks} (hs : Kept w s.1) : T.l_closed_Q2 d x y s ∧ Grow w s.1 s.2 (T.l_closed_L2 d x y s).1 (T.l_closed_L2 d x y s).2 := by
  obtain ⟨h1, h2⟩ := grow_loop (P := T.l_closed_Q1 d x y) (f := T.l_closed_L1 d x y) (fun r hr s hs => close_1 hl hd hw hx hy hr hs) s.1 s hs.row hs
  exact ⟨⟨h1, trivial⟩, h2⟩
theorem close_3 (hl : d.length = 8) (hd : Bits d) (hw : w ≤ 10) {x : List Int} (hx : Row w x) {s : Ks} (hs : Kept w s.1) : T.l_closed_Q3 d x s ∧ Grow w s.1 s.2 (T.l_closed_L3 d x s).1 (T.l_closed_L3 d x s).2 := by
  obtain ⟨h1, h2⟩ := grow_loop (P := T.l_closed_Q2 d x) (f := T.l_closed_L2 d x) (fun r hr s hs => close_2 hl hd hw hx hr hs) s.1 s hs.row hs
  exact ⟨⟨h1, trivial⟩, h2⟩
theorem close_4 (hl : d.length = 8) (hd : Bits d) (hw : w ≤ 10) {s : Ks} (hs : Kept w s.1) : T.l_closed_Q4 d s ∧ Grow w s.1 false (T.l_closed_L4 d s).1 (T.l_closed_L4 d s).2 := by
  obtain ⟨h1, h2⟩ := grow_loop (P := T.l_closed_Q3 d) (f := T.l_closed_L3 d) (fun r hr s hs => close_3 hl hd hw hr hs) s.1 (s.1, false) hs.row hs
  exact ⟨⟨h1, trivial⟩, h2⟩
theorem close_w (hl : d.length = 8) (hd : Bits d) (hw : w ≤ 10) : ∀ (m : Nat) (s : Ks), Kept w s.1 → (if s.2 = true then 2 ^ w - s.1.length + 1 else 0) < m → whlP (T.l_closed_C4 d) (T.l_closed_L4 d) (T.l_closed_D4 d) (T.l_closed_Q4 d) m s ∧ Kept w (whl (T.l_closed_C4 d) (T.l_closed_L4 d) m s).1
  | 0, _, _, h => by omega
  | m + 1, s, hs, h => by
    unfold whlP whl
    cases q : s.2 with
    | false =>
      have : T.l_closed_C4 d s = false := q
      rw [this]
      exact ⟨⟨trivial, fun z => by cases z⟩, hs⟩
    | true =>
      have : T.l_closed_C4 d s = true := q
      rw [this]
      obtain ⟨h1, h2⟩ := close_4 hl hd hw hs
      have hle := h2.kept.le
      have hpl := h2.pre.length_le
      rw [q, if_pos rfl] at h
      obtain ⟨h3, h4⟩ := close_w hl hd hw m (T.l_closed_L4 d s) h2.kept (by
        by_cases g : (T.l_closed_L4 d s).2 = true
        · rw [if_pos g]
          rcases h2.more g with z | z
          · cases z
          · omega
        · rw [if_neg g]; omega)
      exact ⟨⟨trivial, fun _ => ⟨h1, h3⟩⟩, h4⟩
theorem l_closed_ok (hl : d.length = 8) (hd : Bits d) (hw : 1 ≤ w ∧ w ≤ 6) {rows : List (List Int)} (hk : Kept w rows) : T.l_closed_pre d rows ∧ Tbl w (T.l_closed d rows) := by
  have h2 : 2 ^ w ≤ 64 := Nat.le_trans (Nat.pow_le_pow_right (by decide) hw.2) (by decide)
  obtain ⟨h3, h4⟩ := close_w hl hd (by omega) 100 (rows, true) hk (by rw [if_pos rfl]; omega)
  exact ⟨⟨h3, fun r hr z => by have := (h4.row r hr).1; rw [z] at this; simp at this; omega⟩, h4.tbl⟩
end
/-! ### the drawn table -/
def Dok (n : Nat) (s : Dw) : Prop := 0 ≤ s.k ∧ s.k ≤ n
theorem Dok.pre {n : Nat} {s : Dw} (h : Dok n s) (hn : n < 1000000000) : nextP_pre s := ⟨h.1, by have := h.2; omega⟩
theorem Dok.nx {n : Nat} {s : Dw} (h : Dok n s) : Dok (n + 1) (nextP s).2 := by
  unfold Dok at *; rw [nextP_k]; omega
theorem Dok.mono {n m : Nat} {s : Dw} (h : Dok n s) (hm : n ≤ m) : Dok m s := ⟨h.1, by have := h.2; omega⟩
theorem Dok.dr (z : Int) : Dok 0 (drawsP z) := by unfold Dok; rw [drawsP_k]; omega
theorem mod_in {x m : Int} (h : 0 < m) : 0 ≤ x % m ∧ x % m < m := ⟨Int.emod_nonneg _ (by omega), Int.emod_lt_of_pos _ h⟩
/-- the five words that a table's drawing takes -/
def words5 : List Tx := [T.tx_both, T.tx_either, T.tx_middle, T.tx_odd, T.tx_any]
def words4 : List Tx := [T.tx_both, T.tx_either, T.tx_middle, T.tx_odd]
theorem l_deed_ok {t : Tx} (h : t ∈ words4) : T.l_deed_pre t ∧ (T.l_deed t).length = 8 ∧ Bits (T.l_deed t) := by
  unfold words4 at h
  simp only [List.mem_cons, List.not_mem_nil, or_false] at h
  unfold Bits
  rcases h with rfl | rfl | rfl | rfl
  · exact ⟨⟨by simp, by decide +kernel⟩, by decide +kernel, by decide +kernel⟩
  · exact ⟨⟨by simp, by decide +kernel⟩, by decide +kernel, by decide +kernel⟩
  · exact ⟨⟨by simp, by decide +kernel⟩, by decide +kernel, by decide +kernel⟩
  · exact ⟨⟨by simp, by decide +kernel⟩, by decide +kernel, by decide +kernel⟩
theorem words5_4 {t : Tx} (h : t ∈ words5) (hn : ¬ t = T.tx_any) : t ∈ words4 := by
  unfold words5 at h; unfold words4
  simp only [List.mem_cons, List.not_mem_nil, or_false] at h ⊢
  rcases h with h | h | h | h | h
  · exact .inl h
  · exact .inr (.inl h)
  · exact .inr (.inr (.inl h))
  · exact .inr (.inr (.inr h))
  · exact absurd h hn
theorem table_draw {w : Nat} (number : Int × Dw) : ∀ (l : List (List Int)) (s : List (List Int) × Dw) (n : Nat), Dok n s.2 → n + l.length < 1000000 → s.1.length + l.length ≤ 1000 → 
    foldP (T.l_table_Q1 number) (T.l_table_L1 number) l s ∧ (∃ k, k.Sublist l ∧ (loopF (T.l_table_L1 number) l s).1 = s.1 ++ k) ∧ Dok (n + l.length) (loopF (T.l_table_L1 number) l s).2
  | [], s, n, h, _, _ => ⟨trivial, ⟨[], List.Sublist.refl _, by simp [loopF]⟩, h⟩
  | r :: l, s, n, h, hn, hz => by
    rw [List.length_cons] at hn hz
    have m := mod_in (x := number.1) (m := 4) (by decide)
    have hp : 0 < ix [(2 : Int), 3, 4, 8] (number.1 % 4) := by
      obtain ⟨a, b⟩ := m
      have : number.1 % 4 = 0 ∨ number.1 % 4 = 1 ∨ number.1 % 4 = 2 ∨ number.1 % 4 = 3 := by omega
      rcases this with e | e | e | e <;> rw [e] <;> decide
    have e : T.l_table_L1 number r s = (if (eqb ((nextP s.2).1 % ix [(2 : Int), 3, 4, 8] (number.1 % 4)) 1) = true then (s.1 ++ [r], (nextP s.2).2) else (s.1, (nextP s.2).2)) := rfl
    have h1 : Dok (n + 1) (T.l_table_L1 number r s).2 := by rw [e]; split <;> exact h.nx
    have h2 : (T.l_table_L1 number r s).1.length ≤ s.1.length + 1 := by rw [e]; split <;> simp
    obtain ⟨i1, ⟨k, hk, ek⟩, i3⟩ := table_draw (w := w) number l (T.l_table_L1 number r s) (n + 1) h1 (by omega) (by omega)
    refine ⟨⟨⟨h.pre (by omega), by show -4 ≤ _ ∧ _ < 4; omega, hp, fun _ => ⟨by show s.1.length < _; omega, trivial⟩, fun _ => trivial⟩, i1⟩, ?_, by rw [List.length_cons]; exact i3.mono (by omega)⟩
    show ∃ k, k.Sublist (r :: l) ∧ (loopF (T.l_table_L1 number) l (T.l_table_L1 number r s)).1 = s.1 ++ k
    rw [ek, e]
    split
    · exact ⟨r :: k, hk.cons₂ r, by simp⟩
    · exact ⟨k, hk.cons r, rfl⟩
theorem l_table_ok {n W : Nat} {s : Dw} {t : Tx} (hs : Dok n s) (hn : n < 900000) (ht : t ∈ words5) (hW : 1 ≤ W ∧ W ≤ 5) :
    T.l_table_pre s t (W : Int) ∧ ∃ w : Nat, (1 ≤ w ∧ w ≤ W) ∧ (T.l_table s t (W : Int)).1.1 = (w : Int) ∧ Tbl w (T.l_table s t (W : Int)).1.2 ∧ Dok (n + 40) (T.l_table s t (W : Int)).2 := by
  obtain ⟨w, ew⟩ : ∃ w : Nat, 1 + (nextP s).1 % (W : Int) = (w : Int) := ⟨(1 + (nextP s).1 % (W : Int)).toNat, by have := mod_in (x := (nextP s).1) (m := (W : Int)) (by omega); omega⟩
  have hw : 1 ≤ w ∧ w ≤ W := by have := mod_in (x := (nextP s).1) (m := (W : Int)) (by omega); omega
  have hp : 2 ^ w ≤ 32 := Nat.le_trans (Nat.pow_le_pow_right (by decide) (by omega : w ≤ 5)) (by decide)
  have hp0 : 0 < 2 ^ w := Nat.pow_pos (by decide)
  have d1 := hs.nx
  have d2 := d1.nx
  obtain ⟨q1, ⟨k, hk, ek⟩, q3⟩ := table_draw (w := w) (nextP (nextP s).2) (rowsL w) ([], (nextP (nextP s).2).2) (n + 1 + 1) d2 (by rw [rowsL_len]; omega) (by rw [rowsL_len]; simp; omega)
  rw [List.nil_append] at ek
  rw [rowsL_len] at q3
  have ro := l_rows_of_ok (w := w) (by omega)
  have cl : ∀ {rows : List (List Int)}, Tbl w rows → ((!eqb t T.tx_any) = true → T.l_deed_pre t ∧ T.l_closed_pre (T.l_deed t) rows ∧ True) ∧ ((!eqb t T.tx_any) = false → True) := fun {rows} h => ⟨fun z => by
    obtain ⟨a, b, c⟩ := l_deed_ok (words5_4 ht (by simpa using z))
    exact ⟨a, (l_closed_ok b c (by omega) h.kept).1, trivial⟩, fun _ => trivial⟩
  have hk1 : Tbl w k := Tbl.sub hk
  have one : ∀ x : Int, -(((rowsL w).length : Nat) : Int) ≤ x % (((rowsL w).length : Nat) : Int) ∧ x % (((rowsL w).length : Nat) : Int) < (((rowsL w).length : Nat) : Int) ∧ Tbl w [ix (rowsL w) (x % (((rowsL w).length : Nat) : Int))] := fun x => by
    have m := mod_in (x := x) (m := (((rowsL w).length : Nat) : Int)) (by rw [rowsL_len]; omega)
    refine ⟨by omega, m.2, fun r hr => ?_, List.pairwise_singleton _ _⟩
    rw [List.mem_singleton.mp hr]
    exact rowsL_row (ix_mem m)
  have pre : T.l_table_pre s t (W : Int) := by
    refine ⟨hs.pre (by omega), by omega, ?_⟩
    dsimp only [bnd, lett]
    rw [ew, l_rows_of_eq]
    refine ⟨d1.pre (by omega), ro, q1, ?_⟩
    rw [ek]
    refine ⟨fun _ => ⟨ro, ro, by rw [rowsL_len]; omega, ⟨(one _).1, (one _).2.1⟩, cl (one _).2.2⟩, fun _ => cl hk1⟩
  refine ⟨pre, w, hw, ?_⟩
  unfold T.l_table
  dsimp only [bnd, lett]
  rw [ew, l_rows_of_eq]
  rw [ek]
  have fin : ∀ {rows : List (List Int)}, Tbl w rows → ∀ o : (Int × List (List Int)) × Dw, o = (if (!eqb t T.tx_any) = true then (((w : Int), T.l_closed (T.l_deed t) rows), (loopF (T.l_table_L1 (nextP (nextP s).2)) (rowsL w) ([], (nextP (nextP s).2).2)).2) else (((w : Int), rows), (loopF (T.l_table_L1 (nextP (nextP s).2)) (rowsL w) ([], (nextP (nextP s).2).2)).2)) → o.1.1 = (w : Int) ∧ Tbl w o.1.2 ∧ Dok (n + 40) o.2 := by
    intro rows h o ho
    by_cases z : (!eqb t T.tx_any) = true
    · rw [if_pos z] at ho
      subst ho
      obtain ⟨a, b, c⟩ := l_deed_ok (words5_4 ht (by simpa using z))
      exact ⟨rfl, (l_closed_ok b c (by omega) h.kept).2, q3.mono (by omega)⟩
    · rw [if_neg z] at ho
      subst ho
      exact ⟨rfl, h, q3.mono (by omega)⟩
  split
  · exact fin (one _).2.2 _ rfl
  · exact fin hk1 _ rfl
end MP

set_option synthInstance.maxSize 4000
/-! M3: drawn books and questions -/
namespace MP
open PySem PySem.Spec PyProof.Rows L2
section
variable {α β σ ρ : Type}
theorem mapD_ok {P : α → Dw → Prop} {f : α → Dw → β × Dw} {Q : α → β → Prop} {c N : Nat} : ∀ {xs : List α} {n : Nat} {s : Dw}, (∀ x ∈ xs, ∀ s n, Dok n s → n + c ≤ N → P x s ∧ Q x (f x s).1 ∧ Dok (n + c) (f x s).2) → Dok n s → n + c * xs.length ≤ N →
    mapDP P f xs s ∧ (∀ y ∈ (mapD f xs s).1, ∃ x ∈ xs, Q x y) ∧ (mapD f xs s).1.length = xs.length ∧ Dok (n + c * xs.length) (mapD f xs s).2
  | [], n, s, _, hs, _ => ⟨trivial, fun y hy => (nomatch hy), rfl, hs⟩
  | x :: xs, n, s, h, hs, hN => by
    rw [List.length_cons, Nat.mul_add, Nat.mul_one] at hN
    obtain ⟨h1, h2, h3⟩ := h x (List.mem_cons_self ..) s n hs (by omega)
    obtain ⟨i1, i2, i3, i4⟩ := mapD_ok (xs := xs) (fun y hy => h y (List.mem_cons_of_mem _ hy)) h3 (by omega)
    refine ⟨⟨h1, i1⟩, fun y hy => ?_, by unfold mapD; rw [List.length_cons, List.length_cons, i3], ?_⟩
    · unfold mapD at hy
      rcases List.mem_cons.mp hy with rfl | hy
      · exact ⟨x, List.mem_cons_self .., h2⟩
      · obtain ⟨z, hz, q⟩ := i2 y hy
        exact ⟨z, List.mem_cons_of_mem _ hz, q⟩
    · rw [List.length_cons, Nat.mul_add, Nat.mul_one, show n + (c * xs.length + c) = n + c + c * xs.length by omega]; exact i4
end
/-! ### texts -/
/-! ### books -/
abbrev Tab := Int × List (List Int)
abbrev Book := List (Tx × Tab)
abbrev Ask := Int × List Int
abbrev Ques := Int × List Ask × List (Int × Int)
def TabOk (W : Nat) (t : Tab) : Prop := ∃ w : Nat, (1 ≤ w ∧ w ≤ W) ∧ t.1 = (w : Int) ∧ Tbl w t.2
structure BookOk (W : Nat) (b : Book) : Prop where
  len : 1 ≤ b.length ∧ b.length ≤ 6
  tab : ∀ e ∈ b, TabOk W e.2
/-! ### questions -/
structure AskOk (b : Book) (many : Int) (a : Ask) : Prop where
  pl : 0 ≤ a.1 ∧ a.1 < (b.length : Int)
  len : (a.2.length : Int) = (ix b a.1).2.1
  nm : ∀ x ∈ a.2, 0 ≤ x ∧ x < many
def FastOk (many : Int) (f : Int × Int) : Prop := (0 ≤ f.1 ∧ f.1 < many) ∧ (f.2 = 0 ∨ f.2 = 1)
structure QOk (b : Book) (q : Ques) : Prop where
  many : 1 ≤ q.1
  asks : ∀ a ∈ q.2.1, AskOk b q.1 a
  fast : ∀ f ∈ q.2.2, FastOk q.1 f
theorem BookOk.at {W : Nat} {b : Book} (h : BookOk W b) {i : Int} (hi : 0 ≤ i ∧ i < (b.length : Int)) : TabOk W (ix b i).2 := h.tab _ (ix_mem hi)
end MP

set_option synthInstance.maxSize 4000
/-! K32M: fillings that fit -/
namespace K32
open PySem PySem.Spec PyProof.Rows L2 MP
theorem dr_list {n k : Nat} {m : Int} {s : Dw} (hm : 0 < m) (hs : Dok n s) (hn : n + k < 900000) :
    (mapDP (fun (_ : Int) (w : Dw) => nextP_pre w) (fun (_ : Int) (w : Dw) => ((nextP w).1 % m, (nextP w).2)) (upto (k : Int)) s ∧ mapDP (fun (_ : Int) (w : Dw) => nextP_pre w ∧ 0 < m) (fun (_ : Int) (w : Dw) => ((nextP w).1 % m, (nextP w).2)) (upto (k : Int)) s) ∧
    (∀ y ∈ (mapD (fun (_ : Int) (w : Dw) => ((nextP w).1 % m, (nextP w).2)) (upto (k : Int)) s).1, 0 ≤ y ∧ y < m) ∧ (mapD (fun (_ : Int) (w : Dw) => ((nextP w).1 % m, (nextP w).2)) (upto (k : Int)) s).1.length = k ∧ Dok (n + k) (mapD (fun (_ : Int) (w : Dw) => ((nextP w).1 % m, (nextP w).2)) (upto (k : Int)) s).2 := by
  have hl : (upto (k : Int)).length = k := by rw [upto_len]; omega
  obtain ⟨a, b, c, d⟩ := mapD_ok (P := fun (_ : Int) (w : Dw) => nextP_pre w) (f := fun (_ : Int) (w : Dw) => ((nextP w).1 % m, (nextP w).2)) (Q := fun _ y => 0 ≤ y ∧ y < m) (c := 1) (N := 900000) (xs := upto (k : Int)) (fun x _ z j hz hj => ⟨hz.pre (by omega), mod_in hm, hz.nx⟩) hs (by omega)
  obtain ⟨a', _⟩ := mapD_ok (P := fun (_ : Int) (w : Dw) => nextP_pre w ∧ 0 < m) (f := fun (_ : Int) (w : Dw) => ((nextP w).1 % m, (nextP w).2)) (Q := fun _ y => 0 ≤ y ∧ y < m) (c := 1) (N := 900000) (xs := upto (k : Int)) (fun x _ z j hz hj => ⟨⟨hz.pre (by omega), hm⟩, mod_in hm, hz.nx⟩) hs (by omega)
  rw [hl] at c d
  exact ⟨⟨a, a'⟩, fun y hy => by obtain ⟨_, _, h⟩ := b y hy; exact h, c, by rw [Nat.one_mul] at d; exact d⟩
section
variable {b : Book} {q : Ques} {f : List Int} {W : Nat}
/-- bounds of a question -/
structure QB (b : Book) (q : Ques) : Prop where
  ok : QOk b q
  fl : q.2.2.length ≤ 1000
  al : ∀ a ∈ q.2.1, a.2.length ≤ 1000
end
theorem QB.of {W : Nat} {b : Book} (hW : W ≤ 5) (hb : BookOk W b) {q : Ques} (hq : QOk b q) (h2 : q.2.2.length ≤ 2) : QB b q := ⟨hq, by omega, fun a ha => by
  have h := hq.asks a ha
  obtain ⟨w, hw, ew, _⟩ := hb.at h.pl
  have := h.len
  rw [ew] at this; omega⟩
end K32

/-! M2: tables told by pairs, sums, leasts, greatests -/
namespace MP
open PySem PySem.Spec PyProof.Rows L2
theorem lexLt_trans {a b c : List Int} (h1 : HT.lexLt a b = true) (h2 : HT.lexLt b c = true) : HT.lexLt a c = true := by
  have O := swo_key (α := List Int) id
  cases q : HT.lexLt a c with
  | true => rfl
  | false =>
    -- c ≤ a, a < b, b < c
    exfalso
    have h3 : ∀ {a b c : List Int}, HT.lexLt a b = true → HT.lexLt b c = true → HT.lexLt a c = true := by
      intro a
      induction a with
      | nil => intro b c h1 h2; cases b with
        | nil => simp [HT.lexLt] at h1
        | cons y b => cases c with
          | nil => simp [HT.lexLt] at h2
          | cons z c => rfl
      | cons x a ih => intro b c h1 h2; cases b with
        | nil => simp [HT.lexLt] at h1
        | cons y b => cases c with
          | nil => simp [HT.lexLt] at h2
          | cons z c =>
            rw [HT.lexLt_cons] at h1 h2 ⊢
            by_cases e1 : x = y
            · subst e1
              rw [if_pos rfl] at h1
              by_cases e2 : x = z
              · subst e2; rw [if_pos rfl] at h2 ⊢; exact ih h1 h2
              · rw [if_neg e2] at h2 ⊢; exact h2
            · rw [if_neg e1] at h1
              have l1 := of_decide_eq_true h1
              by_cases e2 : y = z
              · subst e2; rw [if_neg e1]; exact h1
              · rw [if_neg e2] at h2
                have l2 := of_decide_eq_true h2
                rw [if_neg (by omega)]; exact decide_eq_true (by omega)
    rw [h3 h1 h2] at q; cases q
theorem srt_ext : ∀ {a b : List (List Int)}, (a.Pairwise fun x y => HT.lexLt x y = true) → (b.Pairwise fun x y => HT.lexLt x y = true) → (∀ r, r ∈ a ↔ r ∈ b) → a = b
  | [], [], _, _, _ => rfl
  | [], y :: b, _, _, h => absurd ((h y).mpr (List.mem_cons_self ..)) (by simp)
  | x :: a, [], _, _, h => absurd ((h x).mp (List.mem_cons_self ..)) (by simp)
  | x :: a, y :: b, ha, hb, h => by
    obtain ⟨a1, a2⟩ := List.pairwise_cons.mp ha
    obtain ⟨b1, b2⟩ := List.pairwise_cons.mp hb
    have irr : ∀ {z : List Int}, HT.lexLt z z = true → False := fun {z} q => by rw [lexLt_irr] at q; cases q
    have e : x = y := by
      rcases List.mem_cons.mp ((h x).mp (List.mem_cons_self ..)) with e | e
      · exact e
      · rcases List.mem_cons.mp ((h y).mpr (List.mem_cons_self ..)) with e' | e'
        · exact e'.symm
        · exact (irr (lexLt_trans (b1 x e) (a1 y e'))).elim
    subst e
    rw [srt_ext a2 b2 fun r => ⟨fun hr => by
      rcases List.mem_cons.mp ((h r).mp (List.mem_cons_of_mem _ hr)) with e | e
      · subst e; exact (irr (a1 _ hr)).elim
      · exact e, fun hr => by
      rcases List.mem_cons.mp ((h r).mpr (List.mem_cons_of_mem _ hr)) with e | e
      · subst e; exact (irr (b1 _ hr)).elim
      · exact e⟩]
theorem Tbl.ext {w : Nat} {a b : List (List Int)} (ha : Tbl w a) (hb : Tbl w b) (h : ∀ r, r ∈ a ↔ r ∈ b) : a = b := srt_ext ha.srt hb.srt h
theorem Tbl.len {w : Nat} {t : List (List Int)} (h : Tbl w t) (hw : w ≤ 5) : t.length ≤ 32 := Nat.le_trans h.kept.le (Nat.le_trans (Nat.pow_le_pow_right (by decide) hw) (by decide))
section
variable {w : Nat} {t : List (List Int)} {r : List Int}
/-! ### pairs -/
/-! ### sums -/
/-! ### leasts -/
/-- one has top wherever r has -/
def Up (w : Nat) (top : Int) (r one : List Int) : Prop := ∀ p ∈ upto (w : Int), ix r p = top → ix one p = top
instance {w : Nat} {top : Int} {r one : List Int} : Decidable (Up w top r one) := by unfold Up; infer_instance
/-! ### greatests -/
end
end MP

set_option synthInstance.maxSize 4000
/-! K02M: tables put together -/
namespace K02
open PySem PySem.Spec PyProof.Rows L2 MP
/-! ### texts of tables -/
/-- rows of at most 8 small numbers, at most 64 of them -/
structure Fine (t : Tab) : Prop where
  w : 0 ≤ t.1 ∧ t.1 ≤ 8
  len : t.2.length ≤ 64
  row : ∀ r ∈ t.2, r.length ≤ 8 ∧ Bits r
theorem fine_of {W : Nat} {t : Tab} (h : TabOk W t) (hW : W ≤ 4) : Fine t := by
  obtain ⟨w, hw, e, ht⟩ := h
  exact ⟨by omega, Nat.le_trans ht.kept.le (Nat.le_trans (Nat.pow_le_pow_right (by decide) (by omega : w ≤ 6)) (by decide)), fun r hr => ⟨by rw [(ht.row r hr).1]; omega, (ht.row r hr).2⟩⟩
theorem ints_shn {k n m : Nat} {r : List Int} (hl : r.length ≤ n) (hr : ∀ i ∈ r, 0 ≤ i ∧ i ≤ m) (hm : m ≤ 1000) : ∀ x ∈ r.map D.int, Shn k 41 x := fun x hx => by
  obtain ⟨i, hi, rfl⟩ := List.mem_map.mp hx
  exact .int (by have := hr i hi; omega)
theorem fine_shn {k : Nat} {t : Tab} (h : Fine t) : Shn (k + 3) 50000 (eP2 D.int (eL (eT D.int)) t) := by
  have hrow : ∀ r ∈ t.2, Shn (k + 1) 347 (eT D.int r) := fun r hr => by
    obtain ⟨h1, h2⟩ := h.row r hr
    have := Shn.tup (k := k) (n := 41) (ds := r.map D.int) (ints_shn (n := 8) (m := 1) h1 (fun i hi => by have := h2 i hi; omega) (by decide))
    rw [List.length_map] at this
    exact this.mono (by have : r.length * (41 + 2) ≤ 8 * (41 + 2) := Nat.mul_le_mul_right _ h1; omega)
  have h1 := Shn.lst (k := k + 1) (n := 347) (ds := t.2.map (eT D.int)) fun x hx => by
    obtain ⟨r, hr, rfl⟩ := List.mem_map.mp hx
    exact hrow r hr
  rw [List.length_map] at h1
  have h1 := h1.mono (m := 22500) (by have : t.2.length * (347 + 2) ≤ 64 * (347 + 2) := Nat.mul_le_mul_right _ h.len; omega)
  have h2 := Shn.tup (k := k + 2) (n := 22500) (ds := [D.int t.1, eL (eT D.int) t.2]) fun x hx => by
    have : x = D.int t.1 ∨ x = eL (eT D.int) t.2 := by simpa using hx
    rcases this with rfl | rfl
    · exact (Shn.int (by have := h.w; omega)).mono (by omega)
    · exact h1
  exact h2.mono (by show 3 + 2 * _ ≤ _; omega)
theorem two_shn {a b : D} {k : Nat} (h1 : Shn k 50000 a) (h2 : Shn k 50000 b) : Shn (k + 1) 16777216 (.lst [a, b]) :=
  (Shn.lst (k := k) (n := 50000) (ds := [a, b]) fun x hx => by
    have : x = a ∨ x = b := by simpa using hx
    rcases this with rfl | rfl
    · exact h1
    · exact h2).mono (by show 2 + 2 * _ ≤ _; omega)
theorem one_shn {a : D} {k : Nat} (h1 : Shn k 50000 a) : Shn (k + 1) 16777216 (.lst [a]) :=
  (Shn.lst (k := k) (n := 50000) (ds := [a]) fun x hx => by
    have : x = a := by simpa using hx
    rcases this with rfl
    exact h1).mono (by show 2 + 1 * _ ≤ _; omega)
theorem told2 {a b c : Tab} (ha : Fine a) (hb : Fine b) (hc : c.2.length ≤ 1000) (hr : ∀ r ∈ c.2, r.length ≤ 1000) : ToldP (eH2 (eP2 D.int (eL (eT D.int))) (eP2 D.int (eL (eT D.int))) (a, b)) c :=
  ⟨two_shn (fine_shn (k := 16) ha) (fine_shn (k := 16) hb), rfl, hc, hr⟩
theorem told1 {a c : Tab} (ha : Fine a) (hc : c.2.length ≤ 1000) (hr : ∀ r ∈ c.2, r.length ≤ 1000) : ToldP (eH1 (eP2 D.int (eL (eT D.int))) a) c :=
  ⟨one_shn (fine_shn (k := 16) ha), rfl, hc, hr⟩
theorem told3 {a c : Tab} {ps : List Int} (ha : Fine a) (hl : ps.length ≤ 8) (hp : ∀ p ∈ ps, 0 ≤ p ∧ p ≤ (8 : Nat)) (hc : c.2.length ≤ 1000) (hr : ∀ r ∈ c.2, r.length ≤ 1000) : ToldP (eH2 (eP2 D.int (eL (eT D.int))) (eL D.int) (a, ps)) c := by
  have h1 := Shn.lst (k := 18) (n := 41) (ds := ps.map D.int) (ints_shn (n := 8) (m := 8) hl hp (by decide))
  rw [List.length_map] at h1
  exact ⟨two_shn (fine_shn (k := 16) ha) (h1.mono (by have : ps.length * (41 + 2) ≤ 8 * (41 + 2) := Nat.mul_le_mul_right _ hl; omega)), rfl, hc, hr⟩
/-! ### drawn and narrow tables -/
theorem same_loop {w : Nat} : ∀ (l : List (List Int)) (s : List (List Int) × Dw) (n : Nat), Dok n s.2 → n + l.length < 1000000 → s.1.length + l.length ≤ 1000 →
    foldP T.l_same_width_Q1 T.l_same_width_L1 l s ∧ (∃ k, k.Sublist l ∧ (loopF T.l_same_width_L1 l s).1 = s.1 ++ k) ∧ Dok (n + l.length) (loopF T.l_same_width_L1 l s).2
  | [], s, n, h, _, _ => ⟨trivial, ⟨[], List.Sublist.refl _, by simp [loopF]⟩, h⟩
  | r :: l, s, n, h, hn, hz => by
    rw [List.length_cons] at hn hz
    have e : T.l_same_width_L1 r s = if (decide ((0 : Int) < (nextP s.2).1 % 3)) = true then (s.1 ++ [r], (nextP s.2).2) else (s.1, (nextP s.2).2) := rfl
    have h1 : Dok (n + 1) (T.l_same_width_L1 r s).2 := by rw [e]; split <;> exact h.nx
    have h2 : (T.l_same_width_L1 r s).1.length ≤ s.1.length + 1 := by rw [e]; split <;> simp
    obtain ⟨i1, ⟨k, hk, ek⟩, i3⟩ := same_loop (w := w) l (T.l_same_width_L1 r s) (n + 1) h1 (by omega) (by omega)
    refine ⟨⟨⟨h.pre (by omega), fun _ => ⟨by omega, trivial⟩, fun _ => trivial⟩, i1⟩, ?_, by rw [List.length_cons]; exact i3.mono (by omega)⟩
    show ∃ k, k.Sublist (r :: l) ∧ (loopF T.l_same_width_L1 l (T.l_same_width_L1 r s)).1 = s.1 ++ k
    rw [ek, e]
    split
    · exact ⟨r :: k, hk.cons₂ r, by simp⟩
    · exact ⟨k, hk.cons r, rfl⟩
theorem same_ok {n w : Nat} {s : Dw} (hs : Dok n s) (hn : n < 900000) (hw : 1 ≤ w ∧ w ≤ 4) : T.l_same_width_pre s (w : Int) ∧ TabOk 4 (T.l_same_width s (w : Int)).1 ∧ Dok (n + 16) (T.l_same_width s (w : Int)).2 := by
  have hp : 2 ^ w ≤ 16 := Nat.le_trans (Nat.pow_le_pow_right (by decide) hw.2) (by decide)
  obtain ⟨q1, ⟨k, hk, ek⟩, q3⟩ := same_loop (w := w) (rowsL w) ([], s) n hs (by rw [rowsL_len]; omega) (by rw [rowsL_len]; simp; omega)
  rw [List.nil_append] at ek
  rw [rowsL_len] at q3
  have e : T.l_rows_of (w : Int) = rowsL w := l_rows_of_eq w
  refine ⟨⟨l_rows_of_ok (by omega), ?_, trivial⟩, ⟨w, hw, rfl, ?_⟩, ?_⟩
  · rw [e]; exact q1
  · show Tbl w (loopF T.l_same_width_L1 (T.l_rows_of (w : Int)) ([], s)).1
    rw [e, ek]; exact Tbl.sub hk
  · show Dok _ (loopF T.l_same_width_L1 (T.l_rows_of (w : Int)) ([], s)).2
    rw [e]; exact q3.mono (by omega)
theorem cut_take {α : Type} (l : List α) (k : Nat) : MP.cutD l none (some (k : Int)) = l.take k := by
  unfold MP.cutD
  rw [HT.sIx_none, HT.sIx_nat, List.drop_zero, Nat.sub_zero, List.take_eq_take_iff]
  omega
theorem setOk_row {w : Nat} (hw : 1 ≤ w) {rs : List (List Int)} (hl : rs.length < 64) (hr : ∀ r ∈ rs, Row w r) : setOkT rs = true := by
  have key : ∀ r ∈ rs, r.length = (rs.headD [0]).length ∧ 1 ≤ (rs.headD [0]).length := fun r h => by
    cases rs with
    | nil => cases h
    | cons a l =>
      have ha := (hr a (List.mem_cons_self ..)).1
      exact ⟨by rw [(hr r h).1]; exact ha.symm, by show 1 ≤ a.length; omega⟩
  have h1 : 1 ≤ (rs.headD [0]).length := by
    cases rs with
    | nil => show 1 ≤ 1; decide
    | cons a l => exact (key a (List.mem_cons_self ..)).2
  unfold setOkT
  simp only [Bool.and_eq_true, decide_eq_true_eq, List.all_eq_true]
  exact ⟨⟨hl, h1⟩, fun r h => ⟨(key r h).1, fun x hx => by have := (hr r h).2 x hx; omega⟩⟩
theorem narrow_ok {W V : Nat} {t : Tab} (h : TabOk W t) (hW : W ≤ 4) (hV : 1 ≤ V) : T.l_narrow_pre t (V : Int) ∧ ∃ w, (1 ≤ w ∧ w ≤ V ∧ w ≤ 4) ∧ (T.l_narrow t (V : Int)).1 = (w : Int) ∧ Tbl w (T.l_narrow t (V : Int)).2 := by
  obtain ⟨w, hw, e, ht⟩ := h
  obtain ⟨v, hv, ev⟩ : ∃ v : Nat, (1 ≤ v ∧ v ≤ V ∧ v ≤ w) ∧ (if (V : Int) < t.1 then (V : Int) else t.1) = (v : Int) := by
    by_cases z : (V : Int) < t.1
    · exact ⟨V, by omega, by rw [if_pos z]⟩
    · exact ⟨w, by omega, by rw [if_neg z, e]⟩
  have h16 : t.2.length ≤ 16 := Nat.le_trans ht.kept.le (Nat.le_trans (Nat.pow_le_pow_right (by decide) (by omega : w ≤ 4)) (by decide))
  have hm : ∀ r ∈ t.2.map (fun (x2 : (List Int)) => (MP.cutD x2 none (some (v : Int)))), Row v r := fun r hr => by
    obtain ⟨q, hq, rfl⟩ := List.mem_map.mp hr
    have := ht.row q hq
    rw [cut_take]
    exact ⟨by rw [List.length_take, this.1]; omega, fun x hx => this.2 x (List.mem_of_mem_take hx)⟩
  unfold T.l_narrow_pre T.l_narrow
  rw [ev]
  refine ⟨⟨by omega, setOk_row hv.1 (by rw [List.length_map]; omega) hm⟩, v, by omega, rfl, fun r hr => hm r (usortT_mem.mp hr), usortT_srt _⟩
theorem two_fine {w : Nat} {t : Tab} (hw : 1 ≤ w ∧ w ≤ 4) (e : t.1 = (w : Int)) (ht : Tbl w t.2) : TabOk 4 t := ⟨w, hw, e, ht⟩
/-! ### beside -/
theorem beside_eq (other : Tab) : ∀ (l s : List (List Int)), loopF (T.beside_L1 other) l s = s ++ l.flatMap fun r => other.2.map (r ++ ·) := fun l s => loopF_flat (g := fun r => other.2.map (r ++ ·)) fun x _ s => rfl
theorem flat_le {l m : List (List Int)} : (l.flatMap fun r => m.map (r ++ ·)).length = l.length * m.length := by
  induction l with
  | nil => simp
  | cons a l ih => rw [List.flatMap_cons, List.length_append, ih, List.length_map, List.length_cons, Nat.succ_mul]; omega
theorem beside_run {v w : Nat} {one other : Tab} (h1 : ∀ r ∈ one.2, Row v r) (h2 : ∀ r ∈ other.2, Row w r) (l1 : one.2.length ≤ 16) (l2 : other.2.length ≤ 16) (hv : v ≤ 4 ∧ w ≤ 4) :
    foldP (T.beside_Q1 other) (T.beside_L1 other) one.2 [] := by
  have key : ∀ (l s : List (List Int)), (∀ r ∈ l, Row v r) → s.length + l.length * 16 ≤ 1000 → foldP (T.beside_Q1 other) (T.beside_L1 other) l s := by
    intro l
    induction l with
    | nil => intro _ _ _; trivial
    | cons r l ih =>
      intro s hl hz
      rw [List.length_cons] at hz
      have hr := hl r (List.mem_cons_self ..)
      refine ⟨⟨by omega, fun x hx => by rw [hr.1, (h2 x hx).1]; omega, by rw [List.length_map]; omega, trivial⟩, ih _ (fun q hq => hl q (List.mem_cons_of_mem _ hq)) ?_⟩
      show (s ++ other.2.map _).length + _ ≤ _
      rw [List.length_append, List.length_map]; omega
  exact key one.2 [] h1 (by show 0 + _ ≤ _; omega)
/-! ### taken -/
theorem taken_loop (t : Tab) (ps : List Int × Dw) : ∀ (l s : List (List Int)), loopF (T.l_right_12_L2 t ps) l s = s ++ l.filter fun x => !eqb ((t.2.filter fun y => eqb (ps.1.map fun p => ix y p) x).map fun y => y) [] := fun l s => loopF_filter (p := fun x => !eqb ((t.2.filter fun y => eqb (ps.1.map fun p => ix y p) x).map fun y => y) []) fun x _ s => rfl
theorem taken_eq {w n : Nat} {t : Tab} {ps : List Int × Dw} (ht : Tbl w t.2) (hp : ∀ p ∈ ps.1, 0 ≤ p ∧ p < (w : Int)) (hn : ps.1.length = n) : usortT (t.2.map fun r => ps.1.map fun p => ix r p) = loopF (T.l_right_12_L2 t ps) (rowsL n) [] := by
  rw [taken_loop, List.nil_append]
  refine srt_ext (usortT_srt _) ((rowsL_srt n).sublist List.filter_sublist) fun r => ?_
  rw [usortT_mem, List.mem_filter]
  have hrow : ∀ y ∈ t.2, Row n (ps.1.map fun p => ix y p) := fun y hy => ⟨by rw [List.length_map, hn], fun z hz => by
    obtain ⟨p, hq, rfl⟩ := List.mem_map.mp hz
    exact row_ix (ht.row y hy) (upto_mem.mpr (hp p hq))⟩
  constructor
  · intro h
    obtain ⟨y, hy, rfl⟩ := List.mem_map.mp h
    refine ⟨rowsL_mem (hrow y hy), ?_⟩
    rw [Bool.not_eq_true', eqb_iff', List.map_eq_nil_iff, List.filter_eq_nil_iff]
    intro z
    exact z y hy (eqb_iff.mpr rfl)
  · rintro ⟨_, h⟩
    rw [Bool.not_eq_true', eqb_iff', List.map_eq_nil_iff, List.filter_eq_nil_iff] at h
    apply Classical.byContradiction
    intro hc
    exact h fun y hy e => hc (List.mem_map.mpr ⟨y, hy, eqb_iff.mp e⟩)
theorem taken_run {w : Nat} {t : Tab} {ps : List Int × Dw} (ht : Tbl w t.2) (hw : w ≤ 4) (hp : ∀ p ∈ ps.1, 0 ≤ p ∧ p < (w : Int)) (hn : ps.1.length ≤ 4) : ∀ (l s : List (List Int)), s.length + l.length ≤ 1000 → foldP (T.l_right_12_Q2 t ps) (T.l_right_12_L2 t ps) l s
  | [], _, _ => trivial
  | x :: l, s, hz => by
    rw [List.length_cons] at hz
    have h16 : t.2.length ≤ 16 := Nat.le_trans ht.kept.le (Nat.le_trans (Nat.pow_le_pow_right (by decide) hw) (by decide))
    refine ⟨⟨by omega, fun y hy => ⟨by omega, fun p hq => by have := hp p hq; rw [(ht.row y hy).1]; omega⟩, fun _ => ⟨by omega, trivial⟩, fun _ => trivial⟩, taken_run ht hw hp hn l _ ?_⟩
    have e : T.l_right_12_L2 t ps x s = if (!eqb ((t.2.filter fun y => eqb (ps.1.map fun p => ix y p) x).map fun y => y) []) = true then s ++ [x] else s := rfl
    rw [e]
    split
    · rw [List.length_append]; show s.length + 1 + _ ≤ _; omega
    · omega
/-! ### the law -/
section
variable {α β γ δ : Type} {v : α} {w : γ} {p a b : Prop} {c d : γ → Prop} {u : γ → δ} {f : δ → Prop} {P : α → Prop} {Q : α → β} {R : β → Prop}
theorem rt_l (h : ∀ y, y = v → P y ∧ R (Q y)) : lett v P ∧ R (lett v Q) := h v rfl
theorem rt_p (hp : p) (h : ∀ y, y = v → P y ∧ R (Q y)) : (p ∧ lett v P) ∧ R (lett v Q) := ⟨⟨hp, (h v rfl).1⟩, (h v rfl).2⟩
theorem rt_pp (hp : p) (ha : a) (h : ∀ y, y = v → P y ∧ R (Q y)) : (p ∧ a ∧ lett v P) ∧ R (lett v Q) := ⟨⟨hp, ha, (h v rfl).1⟩, (h v rfl).2⟩
theorem rt_b (hp : p) (h : ∀ y, y = v → P y ∧ R (Q y)) : (p ∧ bnd w fun _ => lett v P) ∧ R (lett v Q) := ⟨⟨hp, (h v rfl).1⟩, (h v rfl).2⟩
theorem rt_c (hp : p) (hc : c w) (h : ∀ y, y = v → P y ∧ R (Q y)) : (p ∧ bnd w fun q => c q ∧ lett v P) ∧ R (lett v Q) := ⟨⟨hp, hc, (h v rfl).1⟩, (h v rfl).2⟩
theorem rt_d (hp : p) (hc : c w) (hd : d w) (h : ∀ y, y = v → P y ∧ R (Q y)) : (p ∧ bnd w fun q => c q ∧ d q ∧ bnd (u q) fun _ => lett v P) ∧ R (lett v Q) := ⟨⟨hp, hc, hd, (h v rfl).1⟩, (h v rfl).2⟩
theorem rt_f (hp : p) (hc : c w) (hd : d w) (hf : f (u w)) (h : ∀ y, y = v → P y ∧ R (Q y)) : (p ∧ bnd w fun q => c q ∧ d q ∧ bnd (u q) fun z => f z ∧ lett v P) ∧ R (lett v Q) := ⟨⟨hp, hc, hd, hf, (h v rfl).1⟩, (h v rfl).2⟩
theorem rt_i {t : Bool} {A : Prop} {x y : β} (ha : a) (hb : b) (ht : t = true) (h : A ∧ R y) : (a ∧ b ∧ (((!t) = true → True) ∧ ((!t) = false → A))) ∧ R (if (!t) = true then x else y) := by
  subst ht
  exact ⟨⟨ha, hb, fun _ => trivial, fun _ => h.1⟩, h.2⟩
end
theorem td (x y : Tab) (h : x = y) : toldB x y = true := decide_eq_true h
theorem right_ok {s : Dw} (d0 : Dok 0 s) : T.l_right_12_pre s ∧ (T.l_right_12 s).1 = true := by
  unfold T.l_right_12_pre T.l_right_12
  have m5 := mod_in (x := (nextP s).1) (m := 5) (by decide)
  refine rt_c (R := fun o : Bool × Dw => o.1 = true) (d0.pre (by omega)) (show -(5 : Int) ≤ _ ∧ _ < (5 : Int) by omega) fun word e1 => ?_
  have hword : word.1 ∈ words5 := by
    rw [e1]
    exact ix_mem (xs := words5) ⟨m5.1, m5.2⟩
  have d1 : Dok 1 word.2 := by rw [e1]; exact d0.nx
  clear e1 m5
  obtain ⟨t1, w, hw, t2, t3, t4⟩ := l_table_ok (W := 4) d1 (by omega) hword (by omega)
  refine rt_b (R := fun o : Bool × Dw => o.1 = true) t1 fun tab e2 => ?_
  have t2 : tab.1.1 = (w : Int) := by rw [e2]; exact t2
  have t3 : Tbl w tab.1.2 := by rw [e2]; exact t3
  have d2 : Dok 41 tab.2 := by rw [e2]; exact t4
  clear e2 t4 t1 hword d1
  have tok : TabOk 4 tab.1 := ⟨w, hw, t2, t3⟩
  have tf := fine_of tok (by decide)
  have h16 : tab.1.2.length ≤ 16 := Nat.le_trans t3.kept.le (Nat.le_trans (Nat.pow_le_pow_right (by decide) hw.2) (by decide))
  refine rt_l (R := fun o : Bool × Dw => o.1 = true) fun p5 e3 => ?_
  subst e3
  rw [t2]
  obtain ⟨s1, s2, s3⟩ := same_ok d2 (by omega) hw
  refine rt_b (R := fun o : Bool × Dw => o.1 = true) s1 fun oth e4 => ?_
  have s2 : TabOk 4 oth.1 := by rw [e4]; exact s2
  have d3 : Dok 57 oth.2 := by rw [e4]; exact s3
  clear e4 s1 s3 d2
  have of := fine_of s2 (by decide)
  have rowB : ∀ r ∈ tab.1.2, r.length ≤ 1000 := fun r hr => by have := (t3.row r hr).1; omega
  refine rt_p (R := fun o : Bool × Dw => o.1 = true) (by omega) fun due e5 => ?_
  have hc1 : (T.common tab.1 oth.1).2.length ≤ 1000 := by
    show ((tab.1.2.filter _).map _).length ≤ _
    rw [List.length_map]
    exact Nat.le_trans (List.length_filter_le _ _) (by omega)
  have hc2 : ∀ r ∈ (T.common tab.1 oth.1).2, r.length ≤ 1000 := fun r hr => by
    have hr : r ∈ (tab.1.2.filter _).map fun x => x := hr
    rw [List.map_id'] at hr
    exact rowB r ((List.mem_filter.mp hr).1)
  refine rt_i (R := fun o : Bool × Dw => o.1 = true) (show tab.1.2.length ≤ 16777216 by omega) (told2 tf of hc1 hc2) (td _ _ (by rw [e5, ← t2]; rfl)) ?_
  clear e5 hc1 hc2 due of s2
  obtain ⟨n1, v, hv, n2, n3⟩ := narrow_ok (V := 3) tok (by decide) (by decide)
  refine rt_p (R := fun o : Bool × Dw => o.1 = true) n1 fun one e6 => ?_
  have n2 : one.1 = (v : Int) := by rw [e6]; exact n2
  have n3 : Tbl v one.2 := by rw [e6]; exact n3
  clear e6 n1
  obtain ⟨u1, w2, hw2, u2, u3, u4⟩ := l_table_ok (W := 3) (t := T.tx_any) d3 (by omega) (by decide +kernel) (by omega)
  obtain ⟨V, eV⟩ : ∃ V : Nat, (4 : Int) - one.1 = (V : Int) ∧ 1 ≤ V ∧ V ≤ 3 := ⟨4 - v, by omega, by omega, by omega⟩
  obtain ⟨q1, v2, hv2, q2, q3⟩ := narrow_ok (V := V) (t := (T.l_table oth.2 T.tx_any ((3 : Nat) : Int)).1) ⟨w2, hw2, u2, u3⟩ (by decide) eV.2.1
  rw [eV.1]
  refine rt_c (R := fun o : Bool × Dw => o.1 = true) u1 q1 fun more e7 => ?_
  have q2 : more.1.1 = (v2 : Int) := by rw [e7]; exact q2
  have q3 : Tbl v2 more.1.2 := by rw [e7]; exact q3
  have d4 : Dok 97 more.2 := by rw [e7]; exact u4
  clear e7 u1 u2 u3 u4 q1 d3 hw2 w2
  have of1 := fine_of (two_fine (t := one) (by omega) n2 n3) (by decide)
  have of2 := fine_of (two_fine (t := more.1) (by omega) q2 q3) (by decide)
  have l1 : one.2.length ≤ 16 := Nat.le_trans n3.kept.le (Nat.le_trans (Nat.pow_le_pow_right (by decide) (by omega : v ≤ 4)) (by decide))
  have l2 : more.1.2.length ≤ 16 := Nat.le_trans q3.kept.le (Nat.le_trans (Nat.pow_le_pow_right (by decide) (by omega : v2 ≤ 4)) (by decide))
  refine rt_l (R := fun o : Bool × Dw => o.1 = true) fun both e8 => ?_
  subst e8
  have br := beside_run (one := one) (other := more.1) n3.row q3.row l1 l2 (by omega)
  have eF : T.l_right_12_L1 more = T.beside_L1 more.1 := rfl
  have eQ : T.l_right_12_Q1 more = T.beside_Q1 more.1 := rfl
  rw [eF, eQ]
  refine rt_p (R := fun o : Bool × Dw => o.1 = true) br fun s16 e9 => ?_
  refine rt_l (R := fun o : Bool × Dw => o.1 = true) fun due e10 => ?_
  have hb1 : (T.beside one more.1).2.length ≤ 1000 := by
    show (loopF (T.beside_L1 more.1) one.2 []).length ≤ _
    rw [beside_eq, List.nil_append, flat_le]
    exact Nat.le_trans (Nat.mul_le_mul l1 l2) (by decide)
  have hb2 : ∀ r ∈ (T.beside one more.1).2, r.length ≤ 1000 := fun r hr => by
    have hr : r ∈ loopF (T.beside_L1 more.1) one.2 [] := hr
    rw [beside_eq, List.nil_append] at hr
    obtain ⟨x, hx, hr⟩ := List.mem_flatMap.mp hr
    obtain ⟨y, hy, rfl⟩ := List.mem_map.mp hr
    have := (n3.row x hx).1
    have := (q3.row y hy).1
    rw [List.length_append]; omega
  refine rt_i (R := fun o : Bool × Dw => o.1 = true) (⟨br, trivial⟩ : T.beside_pre one more.1) (told2 of1 of2 hb1 hb2) (td _ _ (by rw [e10, e9]; rfl)) ?_
  clear e10 e9 hb1 hb2 due s16 br eF eQ l1 l2 of1 of2 q2 q3 n2 n3 hv2 hv eV
  have hw0 : (0 : Int) < (w : Int) := by omega
  refine rt_f (R := fun o : Bool × Dw => o.1 = true) (d4.pre (by omega)) hw0 (d4.nx.pre (by omega)) hw0 fun p24 e11 => ?_
  have hi : 0 ≤ p24.1.1 ∧ p24.1.1 < (w : Int) := by rw [e11]; exact mod_in hw0
  have hj : 0 ≤ p24.1.2 ∧ p24.1.2 < (w : Int) := by rw [e11]; exact mod_in hw0
  have d5 : Dok 99 p24.2 := by rw [e11]; exact d4.nx.nx
  clear e11 d4
  refine rt_b (R := fun o : Bool × Dw => o.1 = true) (d5.pre (by omega)) fun val e12 => ?_
  have d6 : Dok 100 val.2 := by rw [e12]; exact d5.nx
  clear e12 d5
  have hin : ∀ {z : Int}, 0 ≤ z ∧ z < (w : Int) → ∀ x ∈ tab.1.2, -(x.length : Int) ≤ z ∧ z < (x.length : Int) := fun hz x hx => by
    rw [(t3.row x hx).1]; omega
  have hfl : ∀ (f : List Int → Bool), ((tab.1.2.filter f).map fun x => x).length ≤ 1000 := fun f => by
    rw [List.length_map]
    exact Nat.le_trans (List.length_filter_le _ _) (by omega)
  have hfr : ∀ (f : List Int → Bool), ∀ r ∈ (tab.1.2.filter f).map fun x => x, r.length ≤ 1000 := fun f r hr => by
    rw [List.map_id'] at hr
    exact rowB r ((List.mem_filter.mp hr).1)
  have pa : T.alike_pre tab.1 p24.1.1 p24.1.2 := ⟨by omega, fun x hx => ⟨hin hi x hx, hin hj x hx⟩⟩
  refine rt_pp (R := fun o : Bool × Dw => o.1 = true) pa.1 pa.2 fun due e13 => ?_
  refine rt_i (R := fun o : Bool × Dw => o.1 = true) pa (told1 tf (hfl _) (hfr _)) (td _ _ (by rw [e13, ← t2]; rfl)) ?_
  clear e13 due pa
  have ph : T.having_pre tab.1 p24.1.1 val.1 := ⟨by omega, fun x hx => hin hi x hx⟩
  refine rt_pp (R := fun o : Bool × Dw => o.1 = true) ph.1 ph.2 fun due e14 => ?_
  refine rt_i (R := fun o : Bool × Dw => o.1 = true) ph (told1 tf (hfl _) (hfr _)) (td _ _ (by rw [e14, ← t2]; rfl)) ?_
  clear e14 due ph
  obtain ⟨k, ek⟩ : ∃ k : Nat, (1 : Int) + (nextP val.2).1 % 4 = (k : Int) ∧ 1 ≤ k ∧ k ≤ 4 := ⟨(1 + (nextP val.2).1 % 4).toNat, by have := mod_in (x := (nextP val.2).1) (m := 4) (by decide); omega⟩
  obtain ⟨⟨a0, a1⟩, a2, a3, a4⟩ := K32.dr_list (n := 101) (k := k) (m := (w : Int)) hw0 d6.nx (by omega)
  rw [← ek.1] at a1 a2 a3
  refine rt_d (R := fun o : Bool × Dw => o.1 = true) (d6.pre (by omega)) (by omega) a1 fun ps e15 => ?_
  have p1 : ∀ p ∈ ps.1, 0 ≤ p ∧ p < (w : Int) := by rw [e15]; exact a2
  have p2 : ps.1.length = k := by rw [e15]; exact a3
  clear e15 a0 a1 a2 a3 a4 d6
  refine rt_l (R := fun o : Bool × Dw => o.1 = true) fun made e16 => ?_
  subst e16
  rw [p2, show T.l_rows_of (k : Int) = rowsL k from l_rows_of_eq k]
  have hk16 : (rowsL k).length ≤ 16 := by rw [rowsL_len]; exact Nat.le_trans (Nat.pow_le_pow_right (by decide) ek.2.2) (by decide)
  have eT := taken_eq (ps := ps) t3 p1 p2
  have pt : T.taken_pre tab.1 ps.1 := ⟨by omega, fun x hx => ⟨by omega, fun p hp => hin (p1 p hp) x hx⟩, setOk_row (w := k) ek.2.1 (by rw [List.length_map]; omega) fun r hr => by
    obtain ⟨y, hy, rfl⟩ := List.mem_map.mp hr
    exact ⟨by rw [List.length_map, p2], fun z hz => by
      obtain ⟨p, hq, rfl⟩ := List.mem_map.mp hz
      exact row_ix (t3.row y hy) (upto_mem.mpr (p1 p hq))⟩⟩
  have te : T.taken tab.1 ps.1 = ((k : Int), loopF (T.l_right_12_L2 tab.1 ps) (rowsL k) []) := by
    have h0 : T.taken tab.1 ps.1 = ((ps.1.length : Int), usortT (tab.1.2.map fun r => ps.1.map fun p => ix r p)) := rfl
    rw [h0, eT, p2]
  have hm : ∀ r ∈ (T.taken tab.1 ps.1).2, r ∈ rowsL k := fun r hr => by
    rw [te] at hr
    have hr : r ∈ loopF (T.l_right_12_L2 tab.1 ps) (rowsL k) [] := hr
    rw [taken_loop, List.nil_append] at hr
    exact (List.mem_filter.mp hr).1
  have hl2 : (T.taken tab.1 ps.1).2.length ≤ 1000 := by
    rw [te]
    show (loopF (T.l_right_12_L2 tab.1 ps) (rowsL k) []).length ≤ 1000
    rw [taken_loop, List.nil_append]
    exact Nat.le_trans (List.length_filter_le _ _) (by omega)
  have rp : T.l_rows_of_pre (k : Int) := l_rows_of_ok (by omega)
  have fr := taken_run (t := tab.1) (ps := ps) t3 hw.2 p1 (by omega) (rowsL k) [] (by show 0 + _ ≤ _; omega)
  have tp := told3 (a := tab.1) (ps := ps.1) (c := T.taken tab.1 ps.1) tf (by omega) (fun p hp => by have := p1 p hp; omega) hl2 fun r hr => by
    have := (rowsL_row (hm r hr)).1; omega
  exact ⟨⟨⟨rp, fr, trivial⟩, pt, tp⟩, td _ _ te⟩
theorem law_step (x : Int) : T.law_K02_Q1 x () ∧ T.law_K02_L1 x () = .nx () := by
  obtain ⟨r1, r2⟩ := right_ok (Dok.dr x)
  unfold T.law_K02_Q1 T.law_K02_L1
  generalize T.l_right_12_pre = RP at r1 ⊢
  generalize T.l_right_12 = RT at r2 ⊢
  refine ⟨⟨r1, fun _ => trivial, fun _ => trivial⟩, ?_⟩
  show (if (!(RT (drawsP x)).1) = true then _ else _) = _
  rw [r2]
  rfl
theorem law_all (ns : List Int) (hl : ns.length ≤ 63) : T.law_K02_pre ns ∧ T.law_K02 ns = true := by
  have e : loopO T.law_K02_L1 (ns.take 10 ++ [(0 : Int)]) () = .nx () := by
    rw [loopO_any (c := fun _ => false) (z := false) fun x _ => (law_step x).2]; simp
  unfold T.law_K02_pre T.law_K02
  rw [e]
  exact ⟨⟨loopP_all fun x _ => (law_step x).1, trivial⟩, rfl⟩
end K02

namespace K02
theorem law_true (ns : List Int) (hl : ns.length ≤ 63) (hb : ∀ z ∈ ns, PySem.Builtin.Int.intBits z ≤ 1048576) : F_law [.d (.scr ns)] ⟨[]⟩ = .ok (.d (.bl true)) ⟨[]⟩ := law_true_of ns hl (law_all ns hl)
end K02

namespace K02
open PySem PySem.Spec PyProof.Rows L2 MP
theorem all_mk {l : PySem.W.OpenLaw} {w : World} {K : PySem.W.Frag} {h : Heap} {mg : Str → Option Value} {fa : Addr} (X : K.In h) (Gh : h.Ns mainGlobals mg) (hfa : mg "law" = some (.ref fa))
    {f0 : Addr} {od0 an0 : Option Addr} {sl0 : Array (Option Value)} {oc0 kV0 dc0 pm0 cd0 ct0 : Value}
    (a0 : PySem.W.nsIn K mainGlobals "_law_next" = some (some (.ref f0))) (l0 : K.lookup f0 = some ⟨oc0, od0, .func (PySem.W.fnOf "_law_next" "_law_next" (defArgs s__law_next) (defBody s__law_next) (defScope s__law_next) .none kV0 dc0 pm0 an0 cd0 ct0), sl0⟩) (c0 : PySem.W.codeIn K cd0 "_law_next" = true) (k0 : PySem.W.keepIn K (.ref f0) = true)
    {f1 : Addr} {od1 an1 : Option Addr} {sl1 : Array (Option Value)} {oc1 kV1 dc1 pm1 cd1 ct1 : Value}
    (a1 : PySem.W.nsIn K mainGlobals "_law_rows_of" = some (some (.ref f1))) (l1 : K.lookup f1 = some ⟨oc1, od1, .func (PySem.W.fnOf "_law_rows_of" "_law_rows_of" (defArgs s__law_rows_of) (defBody s__law_rows_of) (defScope s__law_rows_of) .none kV1 dc1 pm1 an1 cd1 ct1), sl1⟩) (c1 : PySem.W.codeIn K cd1 "_law_rows_of" = true) (k1 : PySem.W.keepIn K (.ref f1) = true)
    {f2 : Addr} {od2 an2 : Option Addr} {sl2 : Array (Option Value)} {oc2 kV2 dc2 pm2 cd2 ct2 : Value}
    (a2 : PySem.W.nsIn K mainGlobals "_law_done" = some (some (.ref f2))) (l2 : K.lookup f2 = some ⟨oc2, od2, .func (PySem.W.fnOf "_law_done" "_law_done" (defArgs s__law_done) (defBody s__law_done) (defScope s__law_done) .none kV2 dc2 pm2 an2 cd2 ct2), sl2⟩) (c2 : PySem.W.codeIn K cd2 "_law_done" = true) (k2 : PySem.W.keepIn K (.ref f2) = true)
    {f3 : Addr} {od3 an3 : Option Addr} {sl3 : Array (Option Value)} {oc3 kV3 dc3 pm3 cd3 ct3 : Value}
    (a3 : PySem.W.nsIn K mainGlobals "_law_closed" = some (some (.ref f3))) (l3 : K.lookup f3 = some ⟨oc3, od3, .func (PySem.W.fnOf "_law_closed" "_law_closed" (defArgs s__law_closed) (defBody s__law_closed) (defScope s__law_closed) .none kV3 dc3 pm3 an3 cd3 ct3), sl3⟩) (c3 : PySem.W.codeIn K cd3 "_law_closed" = true) (k3 : PySem.W.keepIn K (.ref f3) = true)
    {f4 : Addr} {od4 an4 : Option Addr} {sl4 : Array (Option Value)} {oc4 kV4 dc4 pm4 cd4 ct4 : Value}
    (a4 : PySem.W.nsIn K mainGlobals "_law_deed" = some (some (.ref f4))) (l4 : K.lookup f4 = some ⟨oc4, od4, .func (PySem.W.fnOf "_law_deed" "_law_deed" (defArgs s__law_deed) (defBody s__law_deed) (defScope s__law_deed) .none kV4 dc4 pm4 an4 cd4 ct4), sl4⟩) (c4 : PySem.W.codeIn K cd4 "_law_deed" = true) (k4 : PySem.W.keepIn K (.ref f4) = true)
    {f5 : Addr} {od5 an5 : Option Addr} {sl5 : Array (Option Value)} {oc5 kV5 dc5 pm5 cd5 ct5 : Value}
    (a5 : PySem.W.nsIn K mainGlobals "_law_table" = some (some (.ref f5))) (l5 : K.lookup f5 = some ⟨oc5, od5, .func (PySem.W.fnOf "_law_table" "_law_table" (defArgs s__law_table) (defBody s__law_table) (defScope s__law_table) .none kV5 dc5 pm5 an5 cd5 ct5), sl5⟩) (c5 : PySem.W.codeIn K cd5 "_law_table" = true) (k5 : PySem.W.keepIn K (.ref f5) = true)
    {f6 : Addr} {od6 an6 : Option Addr} {sl6 : Array (Option Value)} {oc6 kV6 dc6 pm6 cd6 ct6 : Value}
    (a6 : PySem.W.nsIn K mainGlobals "_law_same_width" = some (some (.ref f6))) (l6 : K.lookup f6 = some ⟨oc6, od6, .func (PySem.W.fnOf "_law_same_width" "_law_same_width" (defArgs s__law_same_width) (defBody s__law_same_width) (defScope s__law_same_width) .none kV6 dc6 pm6 an6 cd6 ct6), sl6⟩) (c6 : PySem.W.codeIn K cd6 "_law_same_width" = true) (k6 : PySem.W.keepIn K (.ref f6) = true)
    {f7 : Addr} {od7 an7 : Option Addr} {sl7 : Array (Option Value)} {oc7 kV7 dc7 pm7 cd7 ct7 : Value}
    (a7 : PySem.W.nsIn K mainGlobals "_law_narrow" = some (some (.ref f7))) (l7 : K.lookup f7 = some ⟨oc7, od7, .func (PySem.W.fnOf "_law_narrow" "_law_narrow" (defArgs s__law_narrow) (defBody s__law_narrow) (defScope s__law_narrow) .none kV7 dc7 pm7 an7 cd7 ct7), sl7⟩) (c7 : PySem.W.codeIn K cd7 "_law_narrow" = true) (k7 : PySem.W.keepIn K (.ref f7) = true)
    {f8 : Addr} {od8 an8 : Option Addr} {sl8 : Array (Option Value)} {oc8 kV8 dc8 pm8 cd8 ct8 : Value}
    (a8 : PySem.W.nsIn K mainGlobals "alike" = some (some (.ref f8))) (l8 : K.lookup f8 = some ⟨oc8, od8, .func (PySem.W.fnOf "alike" "alike" (defArgs s_alike) (defBody s_alike) (defScope s_alike) .none kV8 dc8 pm8 an8 cd8 ct8), sl8⟩) (c8 : PySem.W.codeIn K cd8 "alike" = true) (k8 : PySem.W.keepIn K (.ref f8) = true)
    {f9 : Addr} {od9 an9 : Option Addr} {sl9 : Array (Option Value)} {oc9 kV9 dc9 pm9 cd9 ct9 : Value}
    (a9 : PySem.W.nsIn K mainGlobals "beside" = some (some (.ref f9))) (l9 : K.lookup f9 = some ⟨oc9, od9, .func (PySem.W.fnOf "beside" "beside" (defArgs s_beside) (defBody s_beside) (defScope s_beside) .none kV9 dc9 pm9 an9 cd9 ct9), sl9⟩) (c9 : PySem.W.codeIn K cd9 "beside" = true) (k9 : PySem.W.keepIn K (.ref f9) = true)
    {f10 : Addr} {od10 an10 : Option Addr} {sl10 : Array (Option Value)} {oc10 kV10 dc10 pm10 cd10 ct10 : Value}
    (a10 : PySem.W.nsIn K mainGlobals "common" = some (some (.ref f10))) (l10 : K.lookup f10 = some ⟨oc10, od10, .func (PySem.W.fnOf "common" "common" (defArgs s_common) (defBody s_common) (defScope s_common) .none kV10 dc10 pm10 an10 cd10 ct10), sl10⟩) (c10 : PySem.W.codeIn K cd10 "common" = true) (k10 : PySem.W.keepIn K (.ref f10) = true)
    {f11 : Addr} {od11 an11 : Option Addr} {sl11 : Array (Option Value)} {oc11 kV11 dc11 pm11 cd11 ct11 : Value}
    (a11 : PySem.W.nsIn K mainGlobals "having" = some (some (.ref f11))) (l11 : K.lookup f11 = some ⟨oc11, od11, .func (PySem.W.fnOf "having" "having" (defArgs s_having) (defBody s_having) (defScope s_having) .none kV11 dc11 pm11 an11 cd11 ct11), sl11⟩) (c11 : PySem.W.codeIn K cd11 "having" = true) (k11 : PySem.W.keepIn K (.ref f11) = true)
    {f12 : Addr} {od12 an12 : Option Addr} {sl12 : Array (Option Value)} {oc12 kV12 dc12 pm12 cd12 ct12 : Value}
    (a12 : PySem.W.nsIn K mainGlobals "taken" = some (some (.ref f12))) (l12 : K.lookup f12 = some ⟨oc12, od12, .func (PySem.W.fnOf "taken" "taken" (defArgs s_taken) (defBody s_taken) (defScope s_taken) .none kV12 dc12 pm12 an12 cd12 ct12), sl12⟩) (c12 : PySem.W.codeIn K cd12 "taken" = true) (k12 : PySem.W.keepIn K (.ref f12) = true)
    {f13 : Addr} {od13 an13 : Option Addr} {sl13 : Array (Option Value)} {oc13 kV13 dc13 pm13 cd13 ct13 : Value}
    (a13 : PySem.W.nsIn K mainGlobals "_law_told" = some (some (.ref f13))) (l13 : K.lookup f13 = some ⟨oc13, od13, .func (PySem.W.fnOf "_law_told" "_law_told" (defArgs s__law_told) (defBody s__law_told) (defScope s__law_told) .none kV13 dc13 pm13 an13 cd13 ct13), sl13⟩) (c13 : PySem.W.codeIn K cd13 "_law_told" = true) (k13 : PySem.W.keepIn K (.ref f13) = true)
    {f14 : Addr} {od14 an14 : Option Addr} {sl14 : Array (Option Value)} {oc14 kV14 dc14 pm14 cd14 ct14 : Value}
    (a14 : PySem.W.nsIn K mainGlobals "_law_right" = some (some (.ref f14))) (l14 : K.lookup f14 = some ⟨oc14, od14, .func (PySem.W.fnOf "_law_right" "_law_right" (defArgs s__law_right) (defBody s__law_right) (defScope s__law_right) .none kV14 dc14 pm14 an14 cd14 ct14), sl14⟩) (c14 : PySem.W.codeIn K cd14 "_law_right" = true) (k14 : PySem.W.keepIn K (.ref f14) = true)
    {f15 : Addr} {od15 an15 : Option Addr} {sl15 : Array (Option Value)} {oc15 kV15 dc15 pm15 cd15 ct15 : Value}
    (a15 : PySem.W.nsIn K mainGlobals "_law_draws" = some (some (.ref f15))) (l15 : K.lookup f15 = some ⟨oc15, od15, .func (PySem.W.fnOf "_law_draws" "_law_draws" (defArgs s__law_draws) (defBody s__law_draws) (defScope s__law_draws) .none kV15 dc15 pm15 an15 cd15 ct15), sl15⟩) (c15 : PySem.W.codeIn K cd15 "_law_draws" = true) (k15 : PySem.W.keepIn K (.ref f15) = true)
    {f16 : Addr} {od16 an16 : Option Addr} {sl16 : Array (Option Value)} {oc16 kV16 dc16 pm16 cd16 ct16 : Value}
    (a16 : PySem.W.nsIn K mainGlobals "law" = some (some (.ref f16))) (l16 : K.lookup f16 = some ⟨oc16, od16, .func (PySem.W.fnOf "law" "law" (defArgs s_law) (defBody s_law) (defScope s_law) .none kV16 dc16 pm16 an16 cd16 ct16), sl16⟩) (c16 : PySem.W.codeIn K cd16 "law" = true) (k16 : PySem.W.keepIn K (.ref f16) = true)
    (z0 : PySem.W.nsIn K mainGlobals "bool" = some none)
    (z1 : PySem.W.nsIn K mainGlobals "isinstance" = some none)
    (z2 : PySem.W.nsIn K mainGlobals "len" = some none)
    (z3 : PySem.W.nsIn K mainGlobals "list" = some none)
    (z4 : PySem.W.nsIn K mainGlobals "min" = some none)
    (z5 : PySem.W.nsIn K mainGlobals "range" = some none)
    (z6 : PySem.W.nsIn K mainGlobals "set" = some none)
    (z7 : PySem.W.nsIn K mainGlobals "sorted" = some none)
    (z8 : PySem.W.nsIn K mainGlobals "str" = some none)
    (z9 : PySem.W.nsIn K mainGlobals "sum" = some none)
    (z10 : PySem.W.nsIn K mainGlobals "tuple" = some none)
    (z11 : PySem.W.nsIn K mainGlobals "zip" = some none)
    {ct pt : Addr} {ce : Value} {cdd : Option Addr} {cus : Array Value} {csl : Array (Option Value)} (hcd : cd14 = .ref ct) (hkc : K.lookup ct = some ⟨ce, cdd, .fields cus, csl⟩) (hku : cus[11]? = some (.ref pt)) (hn : K.lookup pt = none) :
    ∃ c Pt, PySem.W.tabIn K "_law_right" = some (c, Pt) ∧ K.lookup Pt = none ∧ ∃ fd : FuncData, (∀ (s : Shared) (v : Value), BindsTo s fd ⟨[v], []⟩ [("_law_script", v)]) ∧ ∀ base : Heap, K.In base → base.Ns mainGlobals mg → LamX.TabB base mg c Pt → MP.FnOk l.prog w K mg base (L2.CX l.prog w) 5 fa fd ["_law_script"] (spAT K (("_law_right" : Str) ++ (".<locals>." : Str) ++ ("<lambda>" : Str)) F_law Pt) := by
  subst hcd
  have ht : PySem.W.tabIn K "_law_right" = some (ct, pt) := tabIn_of a14 l14 rfl hkc hku
  have C : ∀ cls fn, cls = clsOf mg → fn = refOf mg → Cf w K mg ⟨K, cls, fn, [(pt, (("_law_right" : Str) ++ (".<locals>." : Str) ++ ("<lambda>" : Str)))], noHp⟩ := fun cls fn e1 e2 => by subst e1 e2; exact cf_mk X Gh a0 l0 c0 k0 a1 l1 c1 k1 a2 l2 c2 k2 a3 l3 c3 k3 a4 l4 c4 k4 a5 l5 c5 k5 a6 l6 c6 k6 a7 l7 c7 k7 a8 l8 c8 k8 a9 l9 c9 k9 a10 l10 c10 k10 a11 l11 c11 k11 a12 l12 c12 k12 a13 l13 c13 k13 a14 l14 c14 k14 a15 l15 c15 k15 a16 l16 c16 k16 z0 z1 z2 z3 z4 z5 z6 z7 z8 z9 z10 z11
  have e := hfa.symm.trans (PySem.W.mg_of X Gh a16)
  cases e
  have F1 := fun_mk (st := s_law) l16 c16 k16
  refine ⟨ct, pt, ht, hn, PySem.W.fnOf "law" "law" (defArgs s_law) (defBody s_law) (defScope s_law) .none kV16 dc16 pm16 an16 cd16 ct16, fun s v => .of_eq rfl, fun base _ _ TB => ?_⟩
  have c := C _ _ rfl rfl
  have E : Lm K mg base ⟨K, clsOf mg, refOf mg, [(pt, (("_law_right" : Str) ++ (".<locals>." : Str) ++ ("<lambda>" : Str)))], noHp⟩ ct pt := ⟨by show refOf mg "len" = none; unfold refOf; rw [c.z_len], rfl, rfl, TB, has_mkC X Gh a14 l14 c14 k14 fun _ _ _ _ _ _ us hl => match us, hl with | [_], _ => rfl⟩
  exact MP.FnOk.imp (sp' := spAT K (("_law_right" : Str) ++ (".<locals>." : Str) ++ ("<lambda>" : Str)) F_law pt) (fn_ok (N := ["_law_script", "_law_cell"]) .frz b_law F1 sc_law rfl (p_law c E _)) fun vs H Q E q => q _ _
end K02
open PySem PySem.W PyProof.Rows
set_option maxHeartbeats 0 in
theorem PySem.Challenge.cw_easykinds_k02_tables_put_together_holds : PySem.Challenge.rw_easykinds_k02_tables_put_together.Holds := by
  w_on; o_law; k_head; (case hw => w_witness2)
  k_fill
  refine MP.walk_ofGT (l := PySem.Challenge.rw_easykinds_k02_tables_put_together) (n := 63) (k := 5) (x := "_law_script") (y := "_law_right") (C := fun w => L2.CX (PySem.Challenge.rw_easykinds_k02_tables_put_together).prog w) (sp := fun w Pt => MP.spAT _ (("_law_right" : Str) ++ (".<locals>." : Str) ++ ("<lambda>" : Str)) K02.F_law Pt) rfl (by decide) rfl { hd := rfl, dp := by decide, un := by decide, gd := rfl } rfl (fun w h Y => PySem.W.km_in_of Y) ?F (fun w H a Pt ns hl hb hO hS => MP.law_spAT hO hS (K02.law_true ns hl hb)) ?X
  case F =>
    intro w mg fa h KX G hmg
    refine' K02.all_mk KX G hmg ?a0 ?l0 ?c0 ?k0 ?a1 ?l1 ?c1 ?k1 ?a2 ?l2 ?c2 ?k2 ?a3 ?l3 ?c3 ?k3 ?a4 ?l4 ?c4 ?k4 ?a5 ?l5 ?c5 ?k5 ?a6 ?l6 ?c6 ?k6 ?a7 ?l7 ?c7 ?k7 ?a8 ?l8 ?c8 ?k8 ?a9 ?l9 ?c9 ?k9 ?a10 ?l10 ?c10 ?k10 ?a11 ?l11 ?c11 ?k11 ?a12 ?l12 ?c12 ?k12 ?a13 ?l13 ?c13 ?k13 ?a14 ?l14 ?c14 ?k14 ?a15 ?l15 ?c15 ?k15 ?a16 ?l16 ?c16 ?k16 ?z0 ?z1 ?z2 ?z3 ?z4 ?z5 ?z6 ?z7 ?z8 ?z9 ?z10 ?z11 ?hcd ?hkc ?hku ?hn
    (case a0 => k_is); (case l0 => k_is); (case c0 => k_is); (case k0 => k_is); (case a1 => k_is); (case l1 => k_is); (case c1 => k_is); (case k1 => k_is); (case a2 => k_is); (case l2 => k_is); (case c2 => k_is); (case k2 => k_is); (case a3 => k_is); (case l3 => k_is); (case c3 => k_is); (case k3 => k_is); (case a4 => k_is); (case l4 => k_is); (case c4 => k_is); (case k4 => k_is); (case a5 => k_is); (case l5 => k_is); (case c5 => k_is); (case k5 => k_is); (case a6 => k_is); (case l6 => k_is); (case c6 => k_is); (case k6 => k_is); (case a7 => k_is); (case l7 => k_is); (case c7 => k_is); (case k7 => k_is); (case a8 => k_is); (case l8 => k_is); (case c8 => k_is); (case k8 => k_is); (case a9 => k_is); (case l9 => k_is); (case c9 => k_is); (case k9 => k_is); (case a10 => k_is); (case l10 => k_is); (case c10 => k_is); (case k10 => k_is); (case a11 => k_is); (case l11 => k_is); (case c11 => k_is); (case k11 => k_is); (case a12 => k_is); (case l12 => k_is); (case c12 => k_is); (case k12 => k_is); (case a13 => k_is); (case l13 => k_is); (case c13 => k_is); (case k13 => k_is); (case a14 => k_is); (case l14 => k_is); (case c14 => k_is); (case k14 => k_is); (case a15 => k_is); (case l15 => k_is); (case c15 => k_is); (case k15 => k_is); (case a16 => k_is); (case l16 => k_is); (case c16 => k_is); (case k16 => k_is); (case z0 => k_is); (case z1 => k_is); (case z2 => k_is); (case z3 => k_is); (case z4 => k_is); (case z5 => k_is); (case z6 => k_is); (case z7 => k_is); (case z8 => k_is); (case z9 => k_is); (case z10 => k_is); (case z11 => k_is); (case hcd => rfl); (case hkc => k_is); (case hku => rfl); (case hn => kernel_rfl)
  case X =>
    intro w H s e s' h
    exact MP.cx_false h

