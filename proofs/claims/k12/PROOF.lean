import PyProof.Rows.All
import Wide.All
import OpenK.AllK
import Wide.FinOn
import PySem.Challenge.RW_easykinds_k12_deeds_done_and_put
import HandS.ForMost
import HandS.TupAny
import HandS.Exc
import HandS.ExcOwn
import HandS.TryOnly
import HandS.CallSlots
import HandS.WordsExc
import HandS.CallLocal
import KE.GoesEnum
import KE.GoesZip
import KE.GoesMore
import PyProof.EnumMake
import HandS.Deep
import KE.KIndexOf
import HandS.IsInst
import HandS.More
import HandS.Codes
import HandS.EndBits
set_option Elab.async false
set_option linter.all false
set_option maxRecDepth 100000
/-! MPT: new tuples, each known as the object that it is -/
namespace MP
open PySem PySem.Spec PyProof.Rows L2
/-- a tuple made of these -/
abbrev TObj (its : List Value) : Obj := { cls := .type "tuple", data := .seq its.toArray }
/-- what a new tuple is to be -/
def NewT (H : Hp) (Q : VK) (vs : List V) : Prop := ∀ (p : Addr) (o : Obj), H p = none → o.dict = none → Q (.ref p) (upd H p (.frz o (.tup vs)))
section
variable {X : Cx} {pins : List (Addr × Obj)} {σ : L2.St} {H : Hp} {s : Shared}
theorem tup_obj {P : Program} {w : World} {vs : List V} {its : List Value} {h : Heap} {a : Addr} (rv : Vals vs its) (hz : vs.length ≤ sizeLine) (e : h.get? a = some (TObj its)) : ObjOk P w H h a (.frz (TObj its) (.tup vs)) :=
  ⟨e, hz, its, rv, _, e, rfl, 0, rfl⟩
theorem inv_tnew {vs : List V} {its : List Value} {t' : Nat} (I : Inv X pins σ H s) (rv : Vals vs its) (hz : vs.length ≤ sizeLine) :
    Inv X pins σ (upd H s.heap.objs.size (.frz (TObj its) (.tup vs))) { s with heap := s.heap.push (TObj its), toks := t' } :=
  I.laid (t' := t') (fun b u e => Heap.get?_push_of_some _ e) (Nat.le_refl _) (tup_obj rv hz (Heap.get?_push_size _ rfl))
theorem new_fin {vs : List V} {its : List Value} {t' : Nat} {Q : VK} (I : Inv X pins σ H s) (rv : Vals vs its) (hz : vs.length ≤ sizeLine) (q : NewT H Q vs) :
    EP X pins σ Q (.ref s.heap.objs.size) { s with heap := s.heap.push (TObj its), toks := t' } :=
  ⟨.ref s.heap.objs.size, _, inv_tnew (t' := t') I rv hz, rfl, q _ _ (I.hok.fresh (Nat.le_refl _)) rfl⟩
end
def tTupF (t : TA) : TE := fun σ H Q => t σ H fun xs H1 => xs.length ≤ sizeLine ∧ NewT H1 Q xs
theorem pe_tupF {X : Cx} {es : List Expr} {k : Nat} {pos : Pos} {t : TA} (h : PA X es t) : PE X (.Tuple es k pos) (tTupF t) :=
  ⟨fun pins s σ H Q I hq => wpAny_Tuple_spliced (thn (h.run pos pins s σ H _ I hq) fun us s1 ⟨xs, H1, I1, r, z, q⟩ => ⟨by rw [← r.length]; exact z, new_fin (t' := s1.toks) I1 r z q⟩)⟩
def rTupOfF (K : PySem.W.Frag) : List V → Hp → VK → Prop := fun xs H Q => ∃ p ys, xs = [.ref p] ∧ ((SqL K H p ys ∧ NewT H Q ys) ∨ (SqT K H p ys ∧ Q (.ref p) H))
theorem call_tuple_ofF {X : Cx} : CallR X (.type "tuple") (rTupOfF X.K) := fun pins s σ H xs us Q I r h => by
  obtain ⟨p, ys, rfl, h⟩ := h
  rcases h with ⟨hq, q⟩ | ⟨hq, q⟩
  · obtain ⟨u, rfl, rx⟩ := vals1 r
    cases rx
    obtain ⟨its, rv, pl, hz⟩ := I.list hq
    have hlen := rv.length
    refine call_tuple_list pl.isList (fun h' kp => ?_) (by simp only [List.size_toArray] <;> omega)
    exact new_fin (t' := s.toks) (I.kept (t' := s.toks) kp) rv hz q
  · exact call_tuple_of pins s σ H _ us Q I r ⟨p, ys, rfl, .inr ⟨hq, q⟩⟩
def rCatF (K : PySem.W.Frag) : R2 := fun x y H Q => ∃ a b xs ys, x = .ref a ∧ y = .ref b ∧ SqT K H a xs ∧ SqT K H b ys ∧ xs.length + ys.length ≤ sizeLine ∧
  (xs = [] → Q (.ref b) H) ∧ (xs ≠ [] → ys = [] → Q (.ref a) H) ∧ (xs ≠ [] → ys ≠ [] → NewT H Q (xs ++ ys))
theorem op_catF {X : Cx} : OpR X (binaryOp .Add) (rCatF X.K) := fun pins s σ H x y v u Q I rx ry h => by
  obtain ⟨a, b, xs, ys, rfl, rfl, ha, hb, hz, q0, q1, q2⟩ := h
  by_cases hx : xs = []
  · subst hx
    exact op_catA pins s σ H _ _ v u Q I rx ry ⟨a, b, [], ys, rfl, rfl, ha, hb, hz, q0, fun z => absurd rfl z, fun z => absurd rfl z⟩
  · by_cases hy : ys = []
    · subst hy
      exact op_catA pins s σ H _ _ v u Q I rx ry ⟨a, b, xs, [], rfl, rfl, ha, hb, hz, fun z => absurd z hx, q1, fun _ z => absurd rfl z⟩
    · cases rx
      cases ry
      obtain ⟨its, r1, p1, _⟩ := I.tuple ha
      obtain ⟨its2, r2, p2, _⟩ := I.tuple hb
      exact HT.cat_tup p1 p2 (fun z => hx (r1.nil_iff.mp z)) (fun z => absurd (r2.nil_iff.mp z) hy) (fun z => new_fin (t' := s.toks) I (r1.append r2) (by rw [List.length_append]; exact hz) (q2 hx hy)) (by rw [← r1.length, ← r2.length]; exact hz)
def rSlF (K : PySem.W.Frag) : V → Option Int → Option Int → Hp → VK → Prop := fun x lo hi H Q => ∃ a xs, x = .ref a ∧ SqT K H a xs ∧
  (HT.sIx xs.length 0 lo = 0 ∧ HT.sIx xs.length xs.length hi = xs.length → Q (.ref a) H) ∧ (¬ (HT.sIx xs.length 0 lo = 0 ∧ HT.sIx xs.length xs.length hi = xs.length) → NewT H Q (cutV xs lo hi))
theorem sl_tupF {X : Cx} : SlR X (rSlF X.K) := fun pins s σ H x v vl vu lo hi sl Q I rx hs pl pu h => by
  obtain ⟨a, xs, rfl, hx, q1, q2⟩ := h
  by_cases hw : HT.sIx xs.length 0 lo = 0 ∧ HT.sIx xs.length xs.length hi = xs.length
  · exact sl_tupA pins s σ H _ v vl vu lo hi sl Q I rx hs pl pu ⟨a, xs, rfl, hx, q1, fun n => absurd hw n⟩
  · cases rx
    obtain ⟨its, r, ht, hz⟩ := I.tuple hx
    have hn : its.toArray.size = xs.length := by rw [List.size_toArray]; exact r.length.symm
    refine ⟨"tuple", _, PyProof.Rows.slot_tuple_getitem.lookup, ht.typeIs, HT.getItem_tuple_cut ht hs pl pu (by rw [hn]; exact hw) ?_ (by rw [hn]; exact hz)⟩
    rw [hn]
    exact new_fin (t' := s.toks) I ((r.drop (HT.sIx xs.length 0 lo)).take (HT.sIx xs.length xs.length hi - HT.sIx xs.length 0 lo)) (Nat.le_trans (cutV_length xs lo hi) hz) (q2 hw)
end MP

/-! MP1: values as trees, a small store, what relates them to the layer's heap -/
namespace MP
open PySem PySem.Spec PyProof.Rows L2

inductive D where
  | non | bl (b : Bool) | int (i : Int) | str (s : Str) | tup (xs : List D) | lst (xs : List D)
  | obj (c : Nat) (ns : List Str) (fs : List D) | err (c : Nat) | dct (ks vs : List D) | scr (ns : List Int)
  deriving Inhabited
inductive Vl where
  | d (x : D) | p (n : Nat) | t (xs : List Vl)
  deriving Inhabited
structure Store where
  L : List (Option (List D))
  deriving Inhabited
abbrev En := List (Option Vl)
inductive Res (α : Type) where
  | ok (a : α) (S : Store) | exc (c : Nat) (S : Store) | stuck
@[simp] def Res.bind {α β : Type} (r : Res α) (k : α → Store → Res β) : Res β := match r with
  | .ok a S => k a S
  | .exc c S => .exc c S
  | .stuck => .stuck
/-- what a statement does -/
inductive SR where
  | next (η : En) (S : Store) | ret (v : Vl) (S : Store) | brk (η : En) (S : Store) | cont (η : En) (S : Store)
  | exc (c : Nat) (η : En) (S : Store) | stuck
@[simp] def SR.seq (r : SR) (k : En → Store → SR) : SR := match r with
  | .next η S => k η S
  | r => r
abbrev Ex := En → Store → Res Vl
abbrev Stm := Nat → En → Store → SR

structure GI where
  K : PySem.W.Frag
  cls : Nat → Addr
def Sub (M M' : Hp) : Prop := ∀ a o, M a = some o → M' a = some o
theorem Sub.refl (M : Hp) : Sub M M := fun _ _ h => h
theorem Sub.trans {A B C : Hp} (a : Sub A B) (b : Sub B C) : Sub A C := fun x o h => b x o (a x o h)
theorem Sub.new {M : Hp} {p : Addr} {o : HO} (h : M p = none) : Sub M (upd M p o) := fun a u e => by
  rw [upd_ne (ne_of_none e h)]; exact e
theorem Sub.rd {H H' : Hp} {a : Addr} {u : HO} (e : Sub H H') (h : Rd H a u) : Rd H' a u := by
  rcases h with h | ⟨o, h⟩
  · exact Or.inl (e a _ h)
  · exact Or.inr ⟨o, e a _ h⟩
theorem Sub.l {K : PySem.W.Frag} {H H' : Hp} {a : Addr} {xs : List V} (e : Sub H H') (h : SqL K H a xs) : SqL K H' a xs := by
  rcases h with h | h
  · exact Or.inl (e.rd h)
  · exact Or.inr h
theorem Sub.t {K : PySem.W.Frag} {H H' : Hp} {a : Addr} {xs : List V} (e : Sub H H') (h : SqT K H a xs) : SqT K H' a xs := by
  rcases h with h | h
  · exact Or.inl (e.rd h)
  · exact Or.inr h
theorem Sub.free {H H' : Hp} {p : Addr} (e : Sub H H') (h : H' p = none) : H p = none := by
  cases h1 : H p with
  | none => rfl
  | some o => rw [e p o h1] at h; cases h

/-- a tuple that is known as the object it is -/
def TupAt (K : PySem.W.Frag) (M : Hp) (a : Addr) (vs : List V) : Prop :=
  (∃ o, M a = some (.frz o (.tup vs)) ∧ o.dict = none) ∨
    ∃ (o : Obj) (its : Array Value) (n : Nat), K.lookup a = some o ∧ o.cls = .type "tuple" ∧ o.dict = none ∧ o.data = .seq its n ∧ its.size ≤ sizeLine ∧ Vals vs its.toList
theorem TupAt.t {K : PySem.W.Frag} {M : Hp} {a : Addr} {vs : List V} (h : TupAt K M a vs) : SqT K M a vs := by
  rcases h with ⟨o, e, _⟩ | ⟨o, its, n, h1, h2, _, h3, h4, h5⟩
  · exact .inl (.inr ⟨o, e⟩)
  · exact .inr ⟨o, its, n, h1, h2, h3, h4, h5⟩
theorem TupAt.mono {K : PySem.W.Frag} {M M' : Hp} {a : Addr} {vs : List V} (e : Sub M M') (h : TupAt K M a vs) : TupAt K M' a vs := by
  rcases h with ⟨o, h, d⟩ | h
  · exact .inl ⟨o, e _ _ h, d⟩
  · exact .inr h
theorem TupAt.new {K : PySem.W.Frag} {M : Hp} {a : Addr} {o : Obj} {vs : List V} (d : o.dict = none) : TupAt K (upd M a (.frz o (.tup vs))) a vs := .inl ⟨o, upd_same, d⟩
mutual
inductive RD (G : GI) (M : Hp) : D → V → Prop
  | non : RD G M .non .non
  | bl (b : Bool) : RD G M (.bl b) (.bl b)
  | int (i : Int) : RD G M (.int i) (.int i)
  | str (s : Str) : RD G M (.str s) (.str s)
  | tup {a : Addr} {vs : List V} {ds : List D} : TupAt G.K M a vs → RDs G M ds vs → RD G M (.tup ds) (.ref a)
  | lst {a : Addr} {vs : List V} {ds : List D} : M a = some (.lst vs) → RDs G M ds vs → RD G M (.lst ds) (.ref a)
  | scr {a : Addr} {ns : List Int} : SqL G.K M a (ns.map V.int) → RD G M (.scr ns) (.ref a)
  | obj {c : Nat} {ns : List Str} {fs : List D} {a dx : Addr} {vs : List V} : M a = some (.ins (G.cls c) dx (ns.zip vs)) → M dx = some (.own a) → ns.length = vs.length → RDs G M fs vs → RD G M (.obj c ns fs) (.ref a)
inductive RDs (G : GI) (M : Hp) : List D → List V → Prop
  | nil : RDs G M [] []
  | cons {d : D} {v : V} {ds : List D} {vs : List V} : RD G M d v → RDs G M ds vs → RDs G M (d :: ds) (v :: vs)
end
mutual
theorem RD.mono {G : GI} {M M' : Hp} (e : Sub M M') : ∀ {d : D} {v : V}, RD G M d v → RD G M' d v
  | _, _, .non => .non
  | _, _, .bl b => .bl b
  | _, _, .int i => .int i
  | _, _, .str s => .str s
  | _, _, .tup h t => .tup (h.mono e) (RDs.mono e t)
  | _, _, .lst h t => .lst (e _ _ h) (RDs.mono e t)
  | _, _, .scr h => .scr (e.l h)
  | _, _, .obj h1 h2 h3 t => .obj (e _ _ h1) (e _ _ h2) h3 (RDs.mono e t)
theorem RDs.mono {G : GI} {M M' : Hp} (e : Sub M M') : ∀ {d : List D} {v : List V}, RDs G M d v → RDs G M' d v
  | _, _, .nil => .nil
  | _, _, .cons h t => .cons (RD.mono e h) (RDs.mono e t)
end
/-- the world: what is known for good, where the cells stand -/
structure Wd where
  M : Hp
  ρ : List Addr
mutual
inductive RV (G : GI) (w : Wd) : Vl → V → Prop
  | d {x : D} {v : V} : RD G w.M x v → RV G w (.d x) v
  | p {n : Nat} {a : Addr} : w.ρ[n]? = some a → RV G w (.p n) (.ref a)
  | t {xs : List Vl} {vs : List V} {a : Addr} : TupAt G.K w.M a vs → RVs G w xs vs → RV G w (.t xs) (.ref a)
inductive RVs (G : GI) (w : Wd) : List Vl → List V → Prop
  | nil : RVs G w [] []
  | cons {d : Vl} {v : V} {ds : List Vl} {vs : List V} : RV G w d v → RVs G w ds vs → RVs G w (d :: ds) (v :: vs)
end
/-- the world grows -/
structure Nxt (w w' : Wd) : Prop where
  m : Sub w.M w'.M
  r : w.ρ <+: w'.ρ
theorem Nxt.refl (w : Wd) : Nxt w w := ⟨Sub.refl _, List.prefix_refl _⟩
theorem Nxt.trans {w w1 w2 : Wd} (a : Nxt w w1) (b : Nxt w1 w2) : Nxt w w2 := ⟨a.m.trans b.m, a.r.trans b.r⟩
/-- what is tracked and no cell stays as it is -/
def Frm (w : Wd) (H : Hp) (w' : Wd) (H' : Hp) : Prop := ∀ a o, H a = some o → a ∉ w.ρ → H' a = some o ∧ a ∉ w'.ρ ∧ (w.M a = none → w'.M a = none)
theorem Frm.refl (w : Wd) (H : Hp) : Frm w H w H := fun _ _ e n => ⟨e, n, fun z => z⟩
theorem Frm.trans {w w1 w2 : Wd} {H H1 H2 : Hp} (a : Frm w H w1 H1) (b : Frm w1 H1 w2 H2) : Frm w H w2 H2 := fun x o e n => let ⟨e1, n1, m1⟩ := a x o e n; let ⟨e2, n2, m2⟩ := b x o e1 n1; ⟨e2, n2, fun z => m2 (m1 z)⟩
structure Go (w : Wd) (H : Hp) (w' : Wd) (H' : Hp) : Prop where
  n : Nxt w w'
  f : Frm w H w' H'
theorem Go.refl (w : Wd) (H : Hp) : Go w H w H := ⟨Nxt.refl w, Frm.refl w H⟩
theorem Go.trans {w w1 w2 : Wd} {H H1 H2 : Hp} (a : Go w H w1 H1) (b : Go w1 H1 w2 H2) : Go w H w2 H2 := ⟨a.n.trans b.n, a.f.trans b.f⟩
theorem pre_get {ρ ρ' : List Addr} (h : ρ <+: ρ') {n : Nat} {a : Addr} (e : ρ[n]? = some a) : ρ'[n]? = some a := by
  obtain ⟨t, rfl⟩ := h
  obtain ⟨hl, e'⟩ := List.getElem?_eq_some_iff.mp e
  rw [List.getElem?_append_left hl]; exact e
mutual
theorem RV.mono {G : GI} {w w' : Wd} (n : Nxt w w') : ∀ {d : Vl} {v : V}, RV G w d v → RV G w' d v
  | _, _, .d h => .d (h.mono n.m)
  | _, _, .p h => .p (pre_get n.r h)
  | _, _, .t h t => .t (h.mono n.m) (RVs.mono n t)
theorem RVs.mono {G : GI} {w w' : Wd} (n : Nxt w w') : ∀ {d : List Vl} {v : List V}, RVs G w d v → RVs G w' d v
  | _, _, .nil => .nil
  | _, _, .cons h t => .cons (RV.mono n h) (RVs.mono n t)
end
theorem RDs.length {G : GI} {M : Hp} : ∀ {d : List D} {v : List V}, RDs G M d v → d.length = v.length
  | _, _, .nil => rfl
  | _, _, .cons _ t => by rw [List.length_cons, List.length_cons, t.length]
theorem RVs.length {G : GI} {w : Wd} : ∀ {d : List Vl} {v : List V}, RVs G w d v → d.length = v.length
  | _, _, .nil => rfl
  | _, _, .cons _ t => by rw [List.length_cons, List.length_cons, t.length]
theorem RDs.get {G : GI} {M : Hp} : ∀ {ds : List D} {vs : List V} {i : Nat} {d : D}, RDs G M ds vs → ds[i]? = some d → ∃ v, vs[i]? = some v ∧ RD G M d v
  | _, _, _, _, .nil, e => by simp at e
  | _, _, 0, _, .cons h _, e => by simp at e; subst e; exact ⟨_, rfl, h⟩
  | _, _, i + 1, d, .cons _ t, e => by
    obtain ⟨v, h1, h2⟩ := t.get (i := i) (d := d) (by simpa using e)
    exact ⟨v, by simpa using h1, h2⟩
theorem RDs.app {G : GI} {M : Hp} : ∀ {a b : List D} {v w : List V}, RDs G M a v → RDs G M b w → RDs G M (a ++ b) (v ++ w)
  | _, _, _, _, .nil, s => s
  | _, _, _, _, .cons h t, s => .cons h (t.app s)
theorem RVs.ofD {G : GI} {w : Wd} : ∀ {ds : List D} {vs : List V}, RDs G w.M ds vs → RVs G w (ds.map .d) vs
  | _, _, .nil => .nil
  | _, _, .cons h t => .cons (.d h) (RVs.ofD t)
theorem RVs.toD {G : GI} {w : Wd} : ∀ {ds : List D} {vs : List V}, RVs G w (ds.map .d) vs → RDs G w.M ds vs
  | [], _, h => by cases h; exact .nil
  | d :: ds, _, h => by cases h with | cons h t => cases h with | d h => exact .cons h (RVs.toD t)

/-- what stands in a cell -/
def CellR (G : GI) (M : Hp) (H : Hp) (a : Addr) (ds : List D) : Prop := ∃ vs, H a = some (.lst vs) ∧ RDs G M ds vs
structure Rel (G : GI) (w : Wd) (S : Store) (H : Hp) : Prop where
  sub : Sub w.M H
  len : w.ρ.length = S.L.length
  nd : w.ρ.Nodup
  dom : ∀ a ∈ w.ρ, ∃ o, H a = some o
  cel : ∀ (n : Nat) (c : List D) (a : Addr), S.L[n]? = some (some c) → w.ρ[n]? = some a → w.M a = none ∧ CellR G w.M H a c
structure EnR (G : GI) (w : Wd) (η : En) (σ : L2.St) : Prop where
  len : η.length = σ.length
  get : ∀ (i : Nat) (v : Vl), η[i]? = some (some v) → ∃ x, σ[i]? = some (some x) ∧ RV G w v x
theorem EnR.mono {G : GI} {w w' : Wd} {η : En} {σ : L2.St} (n : Nxt w w') (h : EnR G w η σ) : EnR G w' η σ :=
  ⟨h.len, fun i v e => let ⟨x, h1, h2⟩ := h.get i v e; ⟨x, h1, h2.mono n⟩⟩

def Post {α β : Type} (G : GI) (w : Wd) (H : Hp) (RR : Hp → Wd → α → β → Prop) (r : Res α) (Q : β → Hp → Prop) (XX : Nat → Hp → Prop) : Prop := match r with
  | .ok v S' => ∀ w' H' x, Go w H w' H' → Rel G w' S' H' → RR H' w' v x → Q x H'
  | .exc c S' => ∀ w' H', Go w H w' H' → Rel G w' S' H' → XX c H'
  | .stuck => False
theorem Post.mono {α β : Type} {G : GI} {w w1 : Wd} {H H1 : Hp} {RR : Hp → Wd → α → β → Prop} {r : Res α} {Q : β → Hp → Prop} {XX : Nat → Hp → Prop} (n : Go w H w1 H1) (h : Post G w H RR r Q XX) : Post G w1 H1 RR r Q XX := by
  cases r with
  | ok v S' => exact fun w' H' x n' => h w' H' x (n.trans n')
  | exc c S' => exact fun w' H' n' => h w' H' (n.trans n')
  | stuck => exact h
theorem Post.thn {α β γ δ : Type} {G : GI} {w : Wd} {H : Hp} {RA : Hp → Wd → α → γ → Prop} {RB : Hp → Wd → β → δ → Prop} {r : Res α} {k : α → Store → Res β} {Q : δ → Hp → Prop} {Q1 : γ → Hp → Prop} {XX : Nat → Hp → Prop} (h : Post G w H RB (r.bind k) Q XX)
    (hk : ∀ w1 S1 H1 x v, Go w H w1 H1 → Rel G w1 S1 H1 → RA H1 w1 x v → Post G w1 H1 RB (k x S1) Q XX → Q1 v H1) : Post G w H RA r Q1 XX := by
  cases r with
  | ok v S' => exact fun w' H' x n hR hv => hk w' S' H' v x n hR hv (Post.mono n h)
  | exc c S' => exact h
  | stuck => exact h
abbrev RB : Hp → Wd → Bool → Bool → Prop := fun _ _ a b => a = b
abbrev rV (G : GI) : Hp → Wd → Vl → V → Prop := fun _ w a b => RV G w a b
abbrev rVs (G : GI) : Hp → Wd → List Vl → List V → Prop := fun _ w a b => RVs G w a b
/-- a wish about an own exception -/
abbrev xw (G : GI) (W : WX) (σ : L2.St) : Nat → Hp → Prop := fun c H => W (.ref (G.cls c)) none σ H
def tE (G : GI) (W : WX) (f : Ex) : TE := fun σ H Q => ∃ w S η, Rel G w S H ∧ EnR G w η σ ∧ Post G w H (rV G) (f η S) Q (xw G W σ)
def tA (G : GI) (W : WX) (f : En → Store → Res (List Vl)) : TA := fun σ H Q => ∃ w S η, Rel G w S H ∧ EnR G w η σ ∧ Post G w H (rVs G) (f η S) Q (xw G W σ)
def tT (G : GI) (W : WX) (f : En → Store → Res Bool) : TT := fun σ H Q => ∃ w S η, Rel G w S H ∧ EnR G w η σ ∧ Post G w H RB (f η S) Q (xw G W σ)
/-- a new list is about to be laid -/
abbrev rL (G : GI) : Hp → Wd → List D → Addr × List V → Prop := fun H w ds pv => H pv.1 = none ∧ RDs G w.M ds pv.2
abbrev qL (Q : VK) : Addr × List V → Hp → Prop := fun pv H => Q (.ref pv.1) (upd H pv.1 (.lst pv.2))
def tL (G : GI) (W : WX) (f : En → Store → Res (List D)) : TE := fun σ H Q => ∃ w S η, Rel G w S H ∧ EnR G w η σ ∧ Post G w H (rL G) (f η S) (qL Q) (xw G W σ)
/-! ### how the world goes on -/
section
variable {G : GI} {w : Wd} {S : Store} {H : Hp}
theorem Rel.at (h : Rel G w S H) {n : Nat} {c : List D} (e : S.L[n]? = some (some c)) : ∃ a, w.ρ[n]? = some a ∧ CellR G w.M H a c ∧ w.M a = none := by
  have hn : n < S.L.length := (List.getElem?_eq_some_iff.mp e).1
  have hr : n < w.ρ.length := by rw [h.len]; exact hn
  obtain ⟨h1, h2⟩ := h.cel n c _ e (List.getElem?_eq_getElem hr)
  exact ⟨w.ρ[n], List.getElem?_eq_getElem hr, h2, h1⟩
theorem Rel.notin (h : Rel G w S H) {p : Addr} (hp : H p = none) : p ∉ w.ρ := fun hm => by
  obtain ⟨o, e⟩ := h.dom p hm
  rw [hp] at e; cases e
/-- what stood stands, M grows by what no cell is -/
theorem Rel.grow (h : Rel G w S H) {M' H' : Hp} (hs : Sub w.M M') (hs' : Sub M' H') (hH : ∀ a o, H a = some o → H' a = some o) (ho : ∀ a ∈ w.ρ, w.M a = none → M' a = none) : Rel G ⟨M', w.ρ⟩ S H' where
  sub := hs'
  len := h.len
  nd := h.nd
  dom := fun a ha => let ⟨o, e⟩ := h.dom a ha; ⟨o, hH a o e⟩
  cel := fun n c a e1 e2 => by
    obtain ⟨h1, vs, e, r⟩ := h.cel n c a e1 e2
    exact ⟨ho a (List.mem_of_getElem? e2) h1, vs, hH _ _ e, r.mono hs⟩
/-- a new thing that is known for good -/
theorem Rel.fix (h : Rel G w S H) {p : Addr} {o : HO} (hp : H p = none) : Rel G ⟨upd w.M p o, w.ρ⟩ S (upd H p o) := by
  have hm : w.M p = none := h.sub.free hp
  refine h.grow (Sub.new hm) (fun a u e => ?_) (fun a u e => ?_) (fun a ha e => ?_)
  · by_cases q : a = p
    · subst q; rw [upd_same] at e ⊢; exact e
    · rw [upd_ne q] at e ⊢; exact h.sub a u e
  · rw [upd_ne (ne_of_none e hp)]; exact e
  · rw [upd_ne (show a ≠ p from fun z => h.notin hp (by rw [← z]; exact ha))]; exact e
/-- a new thing that is not known for good -/
theorem Rel.add (h : Rel G w S H) {p : Addr} {o : HO} (hp : H p = none) : Rel G w S (upd H p o) := by
  refine h.grow (Sub.refl w.M) (fun a u e => ?_) (fun a u e => ?_) (fun _ _ e => e)
  · rw [upd_ne (ne_of_none (h.sub a u e) hp)]; exact h.sub a u e
  · rw [upd_ne (ne_of_none e hp)]; exact e
/-- a list that no cell is becomes known for good -/
theorem Rel.frz (h : Rel G w S H) {p : Addr} {o : HO} (hp : H p = some o) (hm : w.M p = none) (hr : p ∉ w.ρ) : Rel G ⟨upd w.M p o, w.ρ⟩ S H := by
  refine h.grow (Sub.new hm) (fun a u e => ?_) (fun _ _ e => e) (fun a ha e => ?_)
  · by_cases q : a = p
    · subst q; rw [upd_same] at e; rw [← e]; exact hp
    · rw [upd_ne q] at e; exact h.sub a u e
  · rw [upd_ne (show a ≠ p from fun z => hr (by rw [← z]; exact ha))]; exact e
/-- a new list becomes a cell -/
theorem Rel.cell0 (h : Rel G w S H) {p : Addr} {vs : List V} {ds : List D} (hp : H p = some (.lst vs)) (hm : w.M p = none) (hr : p ∉ w.ρ) (hv : RDs G w.M ds vs) : Rel G ⟨w.M, w.ρ ++ [p]⟩ ⟨S.L ++ [some ds]⟩ H where
  sub := h.sub
  len := by rw [List.length_append, List.length_append, h.len] <;> rfl
  nd := List.nodup_append.mpr ⟨h.nd, by simp, fun a ha b hb => by
    have : b = p := by simpa using hb
    subst this; exact fun e => hr (e ▸ ha)⟩
  dom := fun a ha => by
    rcases List.mem_append.mp ha with ha | ha
    · exact h.dom a ha
    · have : a = p := by simpa using ha
      subst this; exact ⟨_, hp⟩
  cel := fun n c a e1 e2 => by
    simp only at e1 e2
    by_cases hn : n < S.L.length
    · rw [List.getElem?_append_left hn] at e1
      rw [List.getElem?_append_left (by rw [h.len]; exact hn)] at e2
      exact h.cel n c a e1 e2
    · rw [List.getElem?_append_right (by omega)] at e1
      rw [List.getElem?_append_right (by rw [h.len]; omega), h.len] at e2
      by_cases hz : n - S.L.length = 0
      · rw [hz] at e1 e2
        simp at e1 e2
        subst e1 e2
        exact ⟨hm, vs, hp, hv⟩
      · rw [List.getElem?_eq_none (by simp; omega)] at e1; cases e1
theorem Go.fix (h : Rel G w S H) {p : Addr} {o : HO} (hp : H p = none) : Go w H ⟨upd w.M p o, w.ρ⟩ (upd H p o) :=
  ⟨⟨Sub.new (h.sub.free hp), List.prefix_refl _⟩, fun a u e n => ⟨by rw [upd_ne (ne_of_none e hp)]; exact e, n, fun z => by show upd w.M p o a = none; rw [upd_ne (ne_of_none e hp)]; exact z⟩⟩
theorem Go.add {p : Addr} {o : HO} (hp : H p = none) : Go w H w (upd H p o) :=
  ⟨Nxt.refl w, fun a u e n => ⟨by rw [upd_ne (ne_of_none e hp)]; exact e, n, fun z => z⟩⟩
theorem Go.wr {n : Nat} {a : Addr} {o : HO} (ea : w.ρ[n]? = some a) : Go w H w (upd H a o) :=
  ⟨Nxt.refl w, fun b u e n => ⟨by rw [upd_ne (show b ≠ a from fun z => n (by rw [z]; exact List.mem_of_getElem? ea))]; exact e, n, fun z => z⟩⟩
/-- a new thing becomes a cell -/
theorem Go.new {p : Addr} {o : HO} (hp : H p = none) : Go w H ⟨w.M, w.ρ ++ [p]⟩ (upd H p o) :=
  ⟨⟨Sub.refl _, List.prefix_append _ _⟩, fun a u e n => ⟨by rw [upd_ne (ne_of_none e hp)]; exact e, (fun hm => by
    rcases List.mem_append.mp hm with hm | hm
    · exact n hm
    · have : a = p := by simpa using hm
      rw [this, hp] at e; cases e), fun z => z⟩⟩
theorem Rel.cell (h : Rel G w S H) {p : Addr} {vs : List V} {ds : List D} (hp : H p = none) (hv : RDs G w.M ds vs) : Rel G ⟨w.M, w.ρ ++ [p]⟩ ⟨S.L ++ [some ds]⟩ (upd H p (.lst vs)) :=
  (h.add hp).cell0 upd_same (h.sub.free hp) (h.notin hp) hv
theorem nd_get {l : List Addr} (hN : l.Nodup) {i j : Nat} {x : Addr} (a : l[i]? = some x) (b : l[j]? = some x) : i = j := by
  obtain ⟨h1, e1⟩ := List.getElem?_eq_some_iff.mp a
  obtain ⟨h2, e2⟩ := List.getElem?_eq_some_iff.mp b
  exact (List.getElem_inj hN).mp (e1.trans e2.symm)
/-- a cell's list is another one -/
theorem Rel.wr (h : Rel G w S H) {n : Nat} {a : Addr} {ds ds' : List D} {vs' : List V} (e : S.L[n]? = some (some ds)) (ea : w.ρ[n]? = some a) (hv : RDs G w.M ds' vs') : Rel G w ⟨S.L.set n (some ds')⟩ (upd H a (.lst vs')) where
  sub := fun b o q => by
    have hm : w.M a = none := (h.cel n _ a e ea).1
    rw [upd_ne (ne_of_none q hm)]; exact h.sub b o q
  len := by rw [List.length_set]; exact h.len
  nd := h.nd
  dom := fun b hb => by
    by_cases q : b = a
    · subst q; exact ⟨_, upd_same⟩
    · rw [upd_ne q]; exact h.dom b hb
  cel := fun m c b e1 e2 => by
    simp only at e1
    by_cases hm : m = n
    · subst hm
      rw [ea] at e2
      cases e2
      rw [List.getElem?_set_self (List.getElem?_eq_some_iff.mp e).1] at e1
      cases e1
      exact ⟨(h.cel m _ a e ea).1, vs', upd_same, hv⟩
    · rw [List.getElem?_set_ne (Ne.symm hm)] at e1
      have hb : b ≠ a := fun z => by subst z; exact hm (nd_get h.nd e2 ea)
      obtain ⟨h1, vs, e3, r⟩ := h.cel m c b e1 e2
      exact ⟨h1, vs, by rw [upd_ne hb]; exact e3, r⟩
/-- all cells from n on are known for good and no cells any more -/
def Wd.fr (w : Wd) (n : Nat) (H : Hp) : Wd := ⟨fun a => if a ∈ w.ρ.drop n then H a else w.M a, w.ρ.take n⟩
def Wd.tk (w : Wd) (n : Nat) : Wd := ⟨w.M, w.ρ.take n⟩
theorem Rel.fr_sub (h : Rel G w S H) (n : Nat) : Sub w.M (w.fr n H).M := fun a o e => by
  unfold Wd.fr
  simp only
  split
  · exact h.sub a o e
  · exact e
theorem Rel.fr (h : Rel G w S H) (n : Nat) : Rel G (w.fr n H) ⟨S.L.take n⟩ H where
  sub := fun a o e => by
    unfold Wd.fr at e
    simp only at e
    split at e
    · exact e
    · exact h.sub a o e
  len := by unfold Wd.fr; simp only [List.length_take, h.len]
  nd := h.nd.sublist (List.take_sublist n _)
  dom := fun a ha => h.dom a (List.mem_of_mem_take ha)
  cel := fun m c a e1 e2 => by
    have e2 : (w.ρ.take n)[m]? = some a := e2
    simp only at e1
    have hm : m < n := by
      have := (List.getElem?_eq_some_iff.mp e1).1
      rw [List.length_take] at this; omega
    rw [List.getElem?_take_of_lt hm] at e1 e2
    obtain ⟨h1, vs, e3, r⟩ := h.cel m c a e1 e2
    refine ⟨?_, vs, e3, r.mono (h.fr_sub n)⟩
    unfold Wd.fr
    simp only
    rw [if_neg]
    · exact h1
    · intro hd
      obtain ⟨j, hj, ej⟩ := List.mem_iff_getElem.mp hd
      rw [List.getElem_drop] at ej
      have : w.ρ[n + j]? = some a := by rw [List.getElem?_eq_getElem (by rw [List.length_drop] at hj; omega), ej]
      have := nd_get h.nd e2 this
      omega
theorem Nxt.fr (h : Rel G w S H) (n : Nat) : Nxt (w.tk n) (w.fr n H) := ⟨h.fr_sub n, List.prefix_refl _⟩
theorem Nxt.tk_le {w w' : Wd} {n m : Nat} (h : Nxt (w.tk m) w') (hn : n ≤ m) : Nxt (w.tk n) w' := ⟨h.m, by
  refine List.IsPrefix.trans ?_ h.r
  show w.ρ.take n <+: w.ρ.take m
  exact List.take_prefix_take_left hn⟩
theorem Nxt.tk {w w' : Wd} (h : Nxt w w') (n : Nat) : Nxt (w.tk n) w' := ⟨h.m, (List.take_prefix n _).trans h.r⟩
theorem Frm.fr (n : Nat) : Frm w H (w.fr n H) H := fun a o e hn => ⟨e, fun hm => hn (List.mem_of_mem_take hm), fun z => by unfold Wd.fr; simp only; rw [if_neg (fun hd => hn (List.mem_of_mem_drop hd))]; exact z⟩
/-- behind a statement -/
theorem Nxt.tkt {w w1 w2 : Wd} {n : Nat} (hn : n ≤ w.ρ.length) (h : Nxt (w.tk n) w1) (h2 : Nxt (w1.tk n) w2) : Nxt (w.tk n) w2 := ⟨h.m.trans h2.m, by
  have e : (w1.ρ.take n) = w.ρ.take n := by
    obtain ⟨t, ht⟩ := h.r
    rw [← ht, List.take_append_of_le_length (by show n ≤ (w.ρ.take n).length; rw [List.length_take]; omega)]
    show (w.ρ.take n).take n = _
    rw [List.take_take, Nat.min_self]
  have := h2.r
  show w.ρ.take n <+: _
  rw [← e]; exact this⟩
theorem Nxt.tk_len {w w1 : Wd} {n : Nat} (hn : n ≤ w.ρ.length) (h : Nxt (w.tk n) w1) : n ≤ w1.ρ.length := by
  have := h.r.length_le
  have e : (w.tk n).ρ.length = n := by show (w.ρ.take n).length = n; rw [List.length_take]; omega
  omega
end
/-! a value when the cells from n on are known for good: a tree, if it speaks of no cell below n -/
mutual
def res (n : Nat) (S : Store) : Vl → Option D
  | .d x => some x
  | .p k => if k < n then none else match S.L[k]? with
    | some (some ds) => some (.lst ds)
    | _ => none
  | .t xs => (ress n S xs).map .tup
def ress (n : Nat) (S : Store) : List Vl → Option (List D)
  | [] => some []
  | x :: xs => match res n S x, ress n S xs with
    | some d, some ds => some (d :: ds)
    | _, _ => none
end
def frV (n : Nat) (S : Store) (v : Vl) : Option Vl := match v with
  | .d x => some (.d x)
  | .p k => if k < n then some (.p k) else (res n S (.p k)).map .d
  | .t xs => (res n S (.t xs)).map .d
def frEn (n : Nat) (S : Store) (η : En) : En := η.map fun o => o.bind (frV n S)
section
variable {G : GI} {w : Wd} {S : Store} {H : Hp}
mutual
theorem res_ok (h : Rel G w S H) (n : Nat) : ∀ {v : Vl} {x : V} {d : D}, res n S v = some d → RV G w v x → RD G (w.fr n H).M d x
  | .d x, _, _, e, .d r => by unfold res at e; cases e; exact r.mono (h.fr_sub n)
  | .p k, _, _, e, .p r => by
    unfold res at e
    split at e
    · cases e
    · rename_i hk
      split at e
      · rename_i ds q
        cases e
        obtain ⟨h1, vs, e3, rr⟩ := h.cel k ds _ q r
        refine .lst (vs := vs) ?_ (rr.mono (h.fr_sub n))
        unfold Wd.fr
        simp only
        rw [if_pos]
        · exact e3
        · obtain ⟨hl, e4⟩ := List.getElem?_eq_some_iff.mp r
          refine List.mem_iff_getElem.mpr ⟨k - n, by rw [List.length_drop]; omega, ?_⟩
          rw [List.getElem_drop]
          simp only [show n + (k - n) = k by omega]
          exact e4
      · cases e
  | .t xs, _, _, e, .t s r => by
    unfold res at e
    cases q : ress n S xs with
    | none => rw [q] at e; cases e
    | some ds => rw [q] at e; cases e; exact .tup (s.mono (h.fr_sub n)) (ress_ok h n q r)
theorem ress_ok (h : Rel G w S H) (n : Nat) : ∀ {v : List Vl} {x : List V} {d : List D}, ress n S v = some d → RVs G w v x → RDs G (w.fr n H).M d x
  | [], _, _, e, .nil => by unfold ress at e; cases e; exact .nil
  | v :: vs, _, _, e, .cons r rs => by
    unfold ress at e
    split at e
    · rename_i d ds q1 q2
      cases e
      exact .cons (res_ok h n q1 r) (ress_ok h n q2 rs)
    · cases e
end
theorem frV_ok (h : Rel G w S H) (n : Nat) {v v' : Vl} {x : V} (e : frV n S v = some v') (r : RV G w v x) : RV G (w.fr n H) v' x := by
  unfold frV at e
  split at e
  · cases e; cases r with | d r => exact .d (r.mono (h.fr_sub n))
  · split at e
    · rename_i k hk
      cases e
      cases r with
      | p r => exact .p (by show (w.ρ.take n)[k]? = _; rw [List.getElem?_take_of_lt hk]; exact r)
    · rename_i k hk
      cases q : res n S (.p k) with
      | none => rw [q] at e; cases e
      | some d => rw [q] at e; cases e; exact .d (res_ok h n q r)
  · rename_i xs
    cases q : res n S (.t xs) with
    | none => rw [q] at e; cases e
    | some d => rw [q] at e; cases e; exact .d (res_ok h n q r)
theorem EnR.fr {η : En} {σ : L2.St} (hE : EnR G w η σ) (h : Rel G w S H) (n : Nat) : EnR G (w.fr n H) (frEn n S η) σ where
  len := by unfold frEn; rw [List.length_map]; exact hE.len
  get := fun i v e => by
    unfold frEn at e
    rw [List.getElem?_map] at e
    cases q : η[i]? with
    | none => rw [q] at e; cases e
    | some o => cases o with
      | none => rw [q] at e; cases e
      | some u =>
        rw [q] at e
        have e : frV n S u = some v := by simpa using e
        obtain ⟨x, h1, h2⟩ := hE.get i u q
        exact ⟨x, h1, frV_ok h n e h2⟩
end
end MP

/-! MP2: expressions -/
namespace MP
open PySem PySem.Spec PyProof.Rows L2
theorem _root_.L2.PE.imp {X : Cx} {e : Expr} {t t' : TE} (h : PE X e t) (hi : ∀ σ H Q, t' σ H Q → t σ H Q) : PE X e t' := ⟨fun pins s σ H Q I q => h.run pins s σ H Q I (hi σ H Q q)⟩
theorem _root_.L2.PT.imp {X : Cx} {e : Expr} {t t' : TT} (h : PT X e t) (hi : ∀ σ H Q, t' σ H Q → t σ H Q) : PT X e t' := ⟨fun pins s σ H Q I q => h.run pins s σ H Q I (hi σ H Q q)⟩
theorem _root_.L2.PA.imp {X : Cx} {e : List Expr} {t t' : TA} (h : PA X e t) (hi : ∀ σ H Q, t' σ H Q → t σ H Q) : PA X e t' := ⟨fun pos pins s σ H Q I q => h.run pos pins s σ H Q I (hi σ H Q q)⟩
theorem _root_.L2.PS.imp {X : Cx} {e : Stmt} {t t' : TS} (h : PS X e t) (hi : ∀ D σ H, t' D σ H → t D σ H) : PS X e t' := ⟨fun pins s σ H D I q => h.run pins s σ H D I (hi D σ H q)⟩
theorem _root_.L2.PSs.imp {X : Cx} {e : List Stmt} {t t' : TS} (h : PSs X e t) (hi : ∀ D σ H, t' D σ H → t D σ H) : PSs X e t' := ⟨fun pins s σ H D I q => h.run pins s σ H D I (hi D σ H q)⟩

/-! ### the combinators -/
def var (i : Nat) : Ex := fun η S => match η[i]? with
  | some (some v) => .ok v S
  | _ => .stuck
def cst (x : D) : Ex := fun _ S => .ok (.d x) S
def bin (g : Vl → Vl → Store → Res Vl) (a b : Ex) : Ex := fun η S => (a η S).bind fun x S1 => (b η S1).bind fun y S2 => g x y S2
def una (g : Vl → Store → Res Vl) (a : Ex) : Ex := fun η S => (a η S).bind fun x S1 => g x S1
def asB (a : Ex) : En → Store → Res Bool := fun η S => (a η S).bind fun x S1 => match x with
  | .d (.bl b) => .ok b S1
  | _ => .stuck
abbrev Te := En → Store → Res Bool
def andT (a b : Te) : Te := fun η S => (a η S).bind fun c S1 => if c = true then b η S1 else .ok false S1
def orT (a b : Te) : Te := fun η S => (a η S).bind fun c S1 => if c = true then .ok true S1 else b η S1
def notT (a : Te) : Te := fun η S => (a η S).bind fun c S1 => .ok (!c) S1
def ofT (a : Te) : Ex := fun η S => (a η S).bind fun c S1 => .ok (.d (.bl c)) S1
def ifE (c : Te) (a b : Ex) : Ex := fun η S => (c η S).bind fun k S1 => if k = true then a η S1 else b η S1
abbrev As := En → Store → Res (List Vl)
def nilA : As := fun _ S => .ok [] S
def consA (a : Ex) (r : As) : As := fun η S => (a η S).bind fun x S1 => (r η S1).bind fun xs S2 => .ok (x :: xs) S2
/-- all of them trees -/
def allD : List Vl → Option (List D)
  | [] => some []
  | .d x :: r => (allD r).map (x :: ·)
  | _ :: _ => none
def tupE (a : As) : Ex := fun η S => (a η S).bind fun xs S1 => if xs.length ≤ 16777216 then (match allD xs with
  | some ds => .ok (.d (.tup ds)) S1
  | none => .ok (.t xs) S1) else .stuck
abbrev Li := En → Store → Res (List D)
def lstE (a : As) : Li := fun η S => (a η S).bind fun xs S1 => if xs.length ≤ 16777216 then (match allD xs with
  | some ds => .ok ds S1
  | none => .stuck) else .stuck
/-- a new list, known for good; a new list, a cell -/
def frz (l : Li) : Ex := fun η S => (l η S).bind fun ds S1 => .ok (.d (.lst ds)) S1
def new (l : Li) : Ex := fun η S => (l η S).bind fun ds S1 => .ok (.p S1.L.length) ⟨S1.L ++ [some ds]⟩

theorem szl : (sizeLine : Nat) = 16777216 := by rw [sizeLine_eq] <;> rfl

section
variable {X : Cx} {G : GI} {W : WX} {pos : Pos}
theorem sE {f : Ex} {σ : L2.St} {H : Hp} {Q : VK} {w S η} (hR : Rel G w S H) (hE : EnR G w η σ) (h : Post G w H (rV G) (f η S) Q (xw G W σ)) : tE G W f σ H Q := ⟨w, S, η, hR, hE, h⟩
theorem me_var (i : Nat) {x : Str} (hN : X.N[i]? = some x := by rfl) (hv : Vis X.env.scope x := by first | exact Or.inl rfl | exact Or.inr (Or.inl rfl) | exact Or.inr (Or.inr rfl)) (hd : (x == ("__debug__" : Str)) = false := by decide) (hcd : (x == ("__classdict__" : Str)) = false := by decide) :
    PE X (.Name x pos) (tE G W (var i)) := by
  refine (pe_var (i := i) hN hv hd hcd).imp fun σ H Q ⟨w, S, η, hR, hE, h⟩ => ?_
  unfold var at h
  split at h
  · rename_i v e
    obtain ⟨x, e1, r⟩ := hE.get _ _ e
    exact ⟨x, e1, h w H x (Go.refl w H) hR r⟩
  · exact h.elim
theorem me_c {x : D} {v : V} {e : Expr} (h : PE X e (tC v)) (hr : ∀ M, RD G M x v) : PE X e (tE G W (cst x)) :=
  h.imp fun σ H Q ⟨w, S, η, hR, hE, q⟩ => q w H v (Go.refl w H) hR (.d (hr _))
theorem me_int {i j} : PE X (.Constant (.int i) j pos) (tE G W (cst (.int i))) := me_c pe_int fun _ => .int i
theorem me_bl {i j} : PE X (.Constant (.bool i) j pos) (tE G W (cst (.bl i))) := me_c pe_bl fun _ => .bl i
theorem me_str {i j} : PE X (.Constant (.str i) j pos) (tE G W (cst (.str i))) := me_c pe_str fun _ => .str i
theorem me_non {j} : PE X (.Constant .none j pos) (tE G W (cst .non)) := me_c pe_non fun _ => .non

/-- an operation by values, and what it is in trees -/
def OpS (G : GI) (r : R2) (g : Vl → Vl → Store → Res Vl) : Prop := ∀ w S H x y v u (Q : VK), Rel G w S H → RV G w x v → RV G w y u → Post G w H (rV G) (g x y S) Q (fun _ _ => False) → r v u H Q
def UnS (G : GI) (r : V → Hp → VK → Prop) (g : Vl → Store → Res Vl) : Prop := ∀ w S H x v (Q : VK), Rel G w S H → RV G w x v → Post G w H (rV G) (g x S) Q (fun _ _ => False) → r v H Q
def noX {α : Type} : Res α → Prop
  | .exc _ _ => False
  | _ => True
theorem Post.noX {α β : Type} {w : Wd} {H : Hp} {RR : Hp → Wd → α → β → Prop} {r : Res α} {Q : β → Hp → Prop} {XX : Nat → Hp → Prop} (h : Post G w H RR r Q XX) (n : MP.noX r) : Post G w H RR r Q (fun _ _ => False) := by
  cases r with
  | ok v S => exact h
  | exc c S => exact n.elim
  | stuck => exact h
theorem binI {ta tb : Ex} {r : R2} {g : Vl → Vl → Store → Res Vl} (hg : OpS G r g) (hn : ∀ x y S, noX (g x y S)) {σ H Q} (h : tE G W (bin g ta tb) σ H Q) : tE G W ta σ H fun x H1 => tE G W tb σ H1 fun y H2 => r x y H2 Q := by
  obtain ⟨w, S, η, hR, hE, h⟩ := h
  exact ⟨w, S, η, hR, hE, Post.thn h fun w1 S1 H1 x v n hR1 rx h2 => ⟨w1, _, η, hR1, hE.mono n.n, Post.thn h2 fun w2 S2 H2 y u n2 hR2 ry h4 =>
    hg w2 _ H2 _ _ v u Q hR2 (rx.mono n2.n) ry (h4.noX (hn _ _ _))⟩⟩
theorem me_op {op : Operator} {r : R2} {g} {a b : Expr} {fa fb : Ex} (ho : OpR X (binaryOp op) r) (hg : OpS G r g) (hn : ∀ x y S, noX (g x y S)) (ha : PE X a (tE G W fa)) (hb : PE X b (tE G W fb)) : PE X (.BinOp a op b pos) (tE G W (bin g fa fb)) :=
  (pe_op ho ha hb).imp fun _ _ _ h => binI hg hn h
theorem me_cmp {op : CmpOp} {r : R2} {g} {a b : Expr} {fa fb : Ex} (ho : OpR X (compareOp op) r) (hg : OpS G r g) (hn : ∀ x y S, noX (g x y S)) (ha : PE X a (tE G W fa)) (hb : PE X b (tE G W fb)) (hm : behindInMarks op b = false) : PE X (.Compare a [op] [b] pos) (tE G W (bin g fa fb)) :=
  (pe_cmpR ho ha hb hm).imp fun _ _ _ h => binI hg hn h
theorem asBI {ta : Ex} {σ H Q} (h : tT G W (asB ta) σ H Q) : tE G W ta σ H fun x H' => ∃ k, x = .bl k ∧ Q k H' := by
  obtain ⟨w, S, η, hR, hE, h⟩ := h
  refine ⟨w, S, η, hR, hE, Post.thn h fun w1 S1 H1 x v n hR1 rx h2 => ?_⟩
  cases rx with
  | d r => cases r with
    | bl b => exact ⟨b, rfl, h2 w1 H1 b (Go.refl _ _) hR1 rfl⟩
    | _ => exact h2.elim
  | p _ => exact h2.elim
  | t _ _ => exact h2.elim
theorem mt_cmp {op : CmpOp} {r : R2} {g} {a b : Expr} {fa fb : Ex} (ho : OpR X (compareOp op) r) (hg : OpS G r g) (hn : ∀ x y S, noX (g x y S)) (ha : PE X a (tE G W fa)) (hb : PE X b (tE G W fb)) (hm : behindInMarks op b = false) : PT X (.Compare a [op] [b] pos) (tT G W (asB (bin g fa fb))) :=
  (pt_cmpR ho ha hb hm).imp fun _ _ _ h => binI hg hn (asBI h)
theorem mt_val {e : Expr} {f : Ex} (h : PE X e (tE G W f)) (he : ∀ whole, isTrue e X.env whole = (do let v ← whole; standAt e.pos; holding [v] (truthy v)) := by intro _; rfl) : PT X e (tT G W (asB f)) :=
  (pt_val h he).imp fun _ _ _ h => asBI h
theorem me_un {op : UnaryOp} {r} {g} {a : Expr} {fa : Ex} (ho : UnR X (unaryOp op) r) (hg : UnS G r g) (hn : ∀ x S, noX (g x S)) (ha : PE X a (tE G W fa)) : PE X (.UnaryOp op a pos) (tE G W (una g fa)) :=
  (pe_un ho ha).imp fun σ H Q ⟨w, S, η, hR, hE, h⟩ => ⟨w, S, η, hR, hE, Post.thn h fun w1 S1 H1 x v n hR1 rx h2 => hg w1 _ H1 _ v Q hR1 rx (h2.noX (hn _ _))⟩
/-! ### tests -/
theorem bT {f : Te} {σ H Q} {R : Bool → Te} {Q1 : Bool → Hp → Prop} (h : tT G W (fun η S => (f η S).bind fun c S1 => R c η S1) σ H Q) (hq : ∀ c H1, tT G W (R c) σ H1 Q → Q1 c H1) : tT G W f σ H Q1 := by
  obtain ⟨w, S, η, hR, hE, h⟩ := h
  refine ⟨w, S, η, hR, hE, Post.thn h fun w1 S1 H1 x v n hR1 rx h2 => ?_⟩
  cases rx
  exact hq _ _ ⟨w1, _, η, hR1, hE.mono n.n, h2⟩
theorem tT_ok {b : Bool} {σ H Q} (h : tT G W (fun _ S => .ok b S) σ H Q) : Q b H := by
  obtain ⟨w, S, η, hR, hE, h⟩ := h
  exact h w H b (Go.refl w H) hR rfl
theorem mw_and1 {a : Expr} {f : Te} (ha : PT X a (tT G W f)) : PW X (.BoolOp .And [a] pos) (tT G W f) := pw_and1 ha
theorem mw_or1 {a : Expr} {f : Te} (ha : PT X a (tT G W f)) : PW X (.BoolOp .Or [a] pos) (tT G W f) := pw_or1 ha
theorem _root_.L2.PW.imp {e : Expr} {t t' : TT} (h : PW X e t) (hi : ∀ σ H Q, t' σ H Q → t σ H Q) : PW X e t' := ⟨fun w pins s σ H Q I q => h.run w pins s σ H Q I (hi σ H Q q)⟩
theorem mw_and {a b : Expr} {rest : List Expr} {f g : Te} (ha : PT X a (tT G W f)) (hb : PW X (.BoolOp .And (b :: rest) pos) (tT G W g)) : PW X (.BoolOp .And (a :: b :: rest) pos) (tT G W (andT f g)) := by
  refine L2.PW.imp (pw_and ha hb) fun σ H Q h => bT (R := fun c η S1 => if c = true then g η S1 else .ok false S1) h fun c H1 q => ?_
  cases c with
  | true => exact q
  | false => exact tT_ok q
theorem mw_or {a b : Expr} {rest : List Expr} {f g : Te} (ha : PT X a (tT G W f)) (hb : PW X (.BoolOp .Or (b :: rest) pos) (tT G W g)) : PW X (.BoolOp .Or (a :: b :: rest) pos) (tT G W (orT f g)) := by
  refine L2.PW.imp (pw_or ha hb) fun σ H Q h => bT (R := fun c η S1 => if c = true then .ok true S1 else g η S1) h fun c H1 q => ?_
  cases c with
  | true => exact tT_ok q
  | false => exact q
theorem mt_not {a : Expr} {f : Te} (ha : PT X a (tT G W f)) : PT X (.UnaryOp .Not a pos) (tT G W (notT f)) :=
  (pt_not ha).imp fun σ H Q h => bT (R := fun c η S1 => .ok (!c) S1) h fun c H1 q => tT_ok q
/-! ### and, or, not as values -/
def andE (a b : Ex) : Ex := fun η S => (a η S).bind fun x S1 => match x with
  | .d (.bl true) => b η S1
  | .d (.bl false) => .ok (.d (.bl false)) S1
  | _ => .stuck
def orE (a b : Ex) : Ex := fun η S => (a η S).bind fun x S1 => match x with
  | .d (.bl true) => .ok (.d (.bl true)) S1
  | .d (.bl false) => b η S1
  | _ => .stuck
def notE (a : Ex) : Ex := fun η S => (a η S).bind fun x S1 => match x with
  | .d (.bl b) => .ok (.d (.bl (!b))) S1
  | _ => .stuck
theorem ok1 {w S H} {x : Vl} {v : V} {Q : VK} {XX} (h : Post G w H (rV G) (.ok x S) Q XX) (hR : Rel G w S H) (r : RV G w x v) : Q v H := h w H v (Go.refl w H) hR r
theorem me_and {a b : Expr} {rest : List Expr} {f g : Ex} (ha : PE X a (tE G W f)) (hb : PE X (.BoolOp .And (b :: rest) pos) (tE G W g)) : PE X (.BoolOp .And (a :: b :: rest) pos) (tE G W (andE f g)) := by
  refine (pe_and ha hb).imp fun σ H Q ⟨w, S, η, hR, hE, h⟩ => ⟨w, S, η, hR, hE, Post.thn h fun w1 S1 H1 x v n hR1 rx h2 => ?_⟩
  cases rx with
  | d r => cases r with
    | bl b => cases b with
      | true => exact ⟨true, rfl, ⟨w1, _, η, hR1, hE.mono n.n, h2⟩⟩
      | false => exact ⟨false, rfl, ok1 h2 hR1 (.d (.bl false))⟩
    | _ => exact h2.elim
  | p _ => exact h2.elim
  | t _ _ => exact h2.elim
theorem me_or {a b : Expr} {rest : List Expr} {f g : Ex} (ha : PE X a (tE G W f)) (hb : PE X (.BoolOp .Or (b :: rest) pos) (tE G W g)) : PE X (.BoolOp .Or (a :: b :: rest) pos) (tE G W (orE f g)) := by
  refine (pe_or ha hb).imp fun σ H Q ⟨w, S, η, hR, hE, h⟩ => ⟨w, S, η, hR, hE, Post.thn h fun w1 S1 H1 x v n hR1 rx h2 => ?_⟩
  cases rx with
  | d r => cases r with
    | bl b => cases b with
      | false => exact ⟨false, rfl, ⟨w1, _, η, hR1, hE.mono n.n, h2⟩⟩
      | true => exact ⟨true, rfl, ok1 h2 hR1 (.d (.bl true))⟩
    | _ => exact h2.elim
  | p _ => exact h2.elim
  | t _ _ => exact h2.elim
theorem me_one {op} {a : Expr} {f : Ex} (h : PE X a (tE G W f)) : PE X (.BoolOp op [a] pos) (tE G W f) := pe_one h
theorem me_not {a : Expr} {f : Ex} (ha : PE X a (tE G W f)) : PE X (.UnaryOp .Not a pos) (tE G W (notE f)) := by
  refine (pe_not ha).imp fun σ H Q ⟨w, S, η, hR, hE, h⟩ => ⟨w, S, η, hR, hE, Post.thn h fun w1 S1 H1 x v n hR1 rx h2 => ?_⟩
  cases rx with
  | d r => cases r with
    | bl b => exact ⟨b, rfl, ok1 h2 hR1 (.d (.bl (!b)))⟩
    | _ => exact h2.elim
  | p _ => exact h2.elim
  | t _ _ => exact h2.elim
theorem me_if {c a b : Expr} {fc : Te} {f g : Ex} (hc : PT X c (tT G W fc)) (ha : PE X a (tE G W f)) (hb : PE X b (tE G W g)) : PE X (.IfExp c a b pos) (tE G W (ifE fc f g)) := by
  refine (pe_ifExp hc ha hb).imp fun σ H Q ⟨w, S, η, hR, hE, h⟩ => ⟨w, S, η, hR, hE, Post.thn (RA := RB) h fun w1 S1 H1 x v n hR1 rx h2 => ?_⟩
  cases rx
  cases x with
  | true => exact ⟨w1, _, η, hR1, hE.mono n.n, h2⟩
  | false => exact ⟨w1, _, η, hR1, hE.mono n.n, h2⟩
/-! ### argument lists, displays -/
theorem ma_nil : PA X [] (tA G W nilA) := pa_nil.imp fun σ H Q ⟨w, S, η, hR, hE, h⟩ => h w H [] (Go.refl w H) hR .nil
theorem ma_cons {e : Expr} {es : List Expr} {f : Ex} {g : As} (ha : PE X e (tE G W f)) (hr : PA X es (tA G W g)) (hs : starEach (e :: es) X.env = (false, eval e X.env) :: starEach es X.env := by rfl) : PA X (e :: es) (tA G W (consA f g)) :=
  (pa_cons ha hr hs).imp fun σ H Q ⟨w, S, η, hR, hE, h⟩ => ⟨w, S, η, hR, hE, Post.thn h fun w1 S1 H1 x v n hR1 rx h2 => ⟨w1, _, η, hR1, hE.mono n.n, Post.thn h2 fun w2 S2 H2 y u n2 hR2 ry h4 =>
    h4 w2 H2 (v :: u) (Go.refl _ _) hR2 (.cons (rx.mono n2.n) ry)⟩⟩
theorem allD_ok {w} : ∀ {xs : List Vl} {ds : List D} {vs : List V}, allD xs = some ds → RVs G w xs vs → RDs G w.M ds vs
  | [], ds, vs, e, r => by cases e; cases r; exact .nil
  | .d x :: xs, ds, vs, e, r => by
    unfold allD at e
    cases q : allD xs with
    | none => rw [q] at e; cases e
    | some ds' =>
      rw [q] at e; cases e
      cases r with
      | cons r rs => cases r with
        | d r => exact .cons r (allD_ok q rs)
  | .p _ :: _, _, _, e, _ => by cases e
  | .t _ :: _, _, _, e, _ => by cases e
theorem me_tup {es : List Expr} {k} {f : As} (h : PA X es (tA G W f)) : PE X (.Tuple es k pos) (tE G W (tupE f)) := by
  refine (pe_tupF h).imp fun σ H Q ⟨w, S, η, hR, hE, h⟩ => ⟨w, S, η, hR, hE, Post.thn h fun w1 S1 H1 xs vs n hR1 rx h2 => ?_⟩
  split at h2
  · rename_i hz
    refine ⟨by rw [← rx.length, szl]; exact hz, fun p o hp hd => ?_⟩
    have hs : Sub w1.M (upd w1.M p (.frz o (.tup vs))) := Sub.new (hR1.sub.free hp)
    have hR2 := hR1.fix (o := .frz o (.tup vs)) hp
    have hn := Go.fix (o := .frz o (.tup vs)) hR1 hp
    split at h2
    · rename_i ds e
      exact h2 _ _ _ hn hR2 (.d (.tup (.new hd) ((allD_ok e rx).mono hs)))
    · exact h2 _ _ _ hn hR2 (.t (.new hd) (rx.mono hn.n))
  · exact h2.elim
theorem ml_lst {es : List Expr} {f : As} (h : PA X es (tA G W f)) : PE X (.List es pos) (tL G W (lstE f)) := by
  refine (pe_lst h).imp fun σ H Q ⟨w, S, η, hR, hE, h⟩ => ⟨w, S, η, hR, hE, Post.thn h fun w1 S1 H1 xs vs n hR1 rx h2 => ?_⟩
  split at h2
  · rename_i hz
    refine ⟨by rw [← rx.length, szl]; exact hz, fun p hp => ?_⟩
    split at h2
    · rename_i ds e
      exact h2 w1 _ (p, vs) (Go.refl _ _) hR1 ⟨hp, allD_ok e rx⟩
    · exact h2.elim
  · exact h2.elim
theorem me_frz {e : Expr} {f : Li} (h : PE X e (tL G W f)) : PE X e (tE G W (frz f)) :=
  h.imp fun σ H Q ⟨w, S, η, hR, hE, h⟩ => ⟨w, S, η, hR, hE, Post.thn h fun w1 S1 H1 ds pv n hR1 ⟨e1, r⟩ h2 =>
    h2 ⟨upd w1.M pv.1 (.lst pv.2), w1.ρ⟩ _ _ (Go.fix hR1 e1) (hR1.fix e1) (.d (.lst upd_same (r.mono (Sub.new (hR1.sub.free e1)))))⟩
theorem me_new {e : Expr} {f : Li} (h : PE X e (tL G W f)) : PE X e (tE G W (new f)) :=
  h.imp fun σ H Q ⟨w, S, η, hR, hE, h⟩ => ⟨w, S, η, hR, hE, Post.thn h fun w1 S1 H1 ds pv n hR1 ⟨e1, r⟩ h2 => by
    refine h2 ⟨w1.M, w1.ρ ++ [pv.1]⟩ _ _ (Go.new e1) (hR1.cell e1 r) (.p ?_)
    rw [← hR1.len, List.getElem?_append_right (Nat.le_refl _), Nat.sub_self] <;> rfl⟩
end
end MP

/-! MP3: statements, loops -/
namespace MP
open PySem PySem.Spec PyProof.Rows L2

/-- behind a statement: the cells below n stay -/
structure Gs (n : Nat) (w : Wd) (H : Hp) (w' : Wd) (H' : Hp) : Prop where
  n : Nxt (w.tk n) w'
  f : Frm w H w' H'
theorem Go.s {w w' : Wd} {H H' : Hp} (h : Go w H w' H') (n : Nat) : Gs n w H w' H' := ⟨h.n.tk n, h.f⟩
theorem Gs.refl (n : Nat) (w : Wd) (H : Hp) : Gs n w H w H := (Go.refl w H).s n
theorem Gs.tr {w w1 w2 : Wd} {H H1 H2 : Hp} {n : Nat} (hn : n ≤ w.ρ.length) (a : Gs n w H w1 H1) (b : Gs n w1 H1 w2 H2) : Gs n w H w2 H2 := ⟨a.n.tkt hn b.n, a.f.trans b.f⟩
theorem Gs.len {w w1 : Wd} {H H1 : Hp} {n : Nat} (a : Gs n w H w1 H1) (hn : n ≤ w.ρ.length) : n ≤ w1.ρ.length := a.n.tk_len hn
def PostS (G : GI) (W : WX) (n0 : Nat) (w : Wd) (H : Hp) (r : SR) (Dn : Ends) : Prop := match r with
  | .next η' S' => ∀ w' H' σ', Gs n0 w H w' H' → Rel G w' S' H' → EnR G w' η' σ' → Dn.nx σ' H'
  | .brk η' S' => ∀ w' H' σ', Gs n0 w H w' H' → Rel G w' S' H' → EnR G w' η' σ' → Dn.bk σ' H'
  | .cont η' S' => ∀ w' H' σ', Gs n0 w H w' H' → Rel G w' S' H' → EnR G w' η' σ' → Dn.ct σ' H'
  | .ret v S' => ∀ w' H' x, Gs n0 w H w' H' → Rel G w' S' H' → RV G w' v x → Dn.rt x H'
  | .exc c η' S' => ∀ w' H' σ', Gs n0 w H w' H' → Rel G w' S' H' → EnR G w' η' σ' → W (.ref (G.cls c)) none σ' H'
  | .stuck => False
theorem PostS.mono {G : GI} {W : WX} {n0 : Nat} {w w1 : Wd} {H H1 : Hp} {r : SR} {Dn : Ends} (hn : n0 ≤ w.ρ.length) (n : Gs n0 w H w1 H1) (h : PostS G W n0 w H r Dn) : PostS G W n0 w1 H1 r Dn := by
  cases r with
  | next η S => exact fun w' H' σ' n' => h w' H' σ' (n.tr hn n')
  | brk η S => exact fun w' H' σ' n' => h w' H' σ' (n.tr hn n')
  | cont η S => exact fun w' H' σ' n' => h w' H' σ' (n.tr hn n')
  | ret v S => exact fun w' H' x n' => h w' H' x (n.tr hn n')
  | exc c η S => exact fun w' H' σ' n' => h w' H' σ' (n.tr hn n')
  | stuck => exact h
def tS (G : GI) (W : WX) (n0 : Nat) (f : Stm) : TS := fun Dn σ H => ∃ w S η, Rel G w S H ∧ EnR G w η σ ∧ n0 ≤ w.ρ.length ∧ PostS G W n0 w H (f n0 η S) Dn

/-! ### the combinators -/
def nextS : Stm := fun _ η S => .next η S
def seqS (a b : Stm) : Stm := fun n η S => (a n η S).seq (b n)
/-- an expression, then -/
@[simp] def Res.st {α : Type} (r : Res α) (η : En) (k : α → Store → SR) : SR := match r with
  | .ok a S => k a S
  | .exc c S => .exc c η S
  | .stuck => .stuck
def asg (i : Nat) (e : Ex) : Stm := fun _ η S => (e η S).st η fun v S1 => .next (η.set i (some v)) S1
def ret (e : Ex) : Stm := fun _ η S => (e η S).st η fun v S1 => .ret v S1
def retN : Stm := fun _ η S => .ret (.d .non) S
def drop (e : Ex) : Stm := fun _ η S => (e η S).st η fun _ S1 => .next η S1
def ifS (c : Te) (a b : Stm) : Stm := fun n η S => (c η S).st η fun k S1 => if k = true then a n η S1 else b n η S1
def contS : Stm := fun _ η S => .cont η S
def brkS : Stm := fun _ η S => .brk η S
/-- ghosts: cells made within are known for good behind; slots are forgotten -/
def wipeE : List Nat → En → En
  | [], η => η
  | i :: is, η => (wipeE is η).set i none
def regS (is : List Nat) (s : Stm) : Stm := fun n η S => match s n η S with
  | .next η' S' => .next (wipeE is (frEn S.L.length S' η')) ⟨S'.L.take S.L.length⟩
  | .cont η' S' => .cont (wipeE is (frEn S.L.length S' η')) ⟨S'.L.take S.L.length⟩
  | r => r
def wipS (is : List Nat) (s : Stm) : Stm := fun n η S => match s n η S with
  | .next η' S' => .next (wipeE is η') S'
  | .cont η' S' => .cont (wipeE is η') S'
  | r => r
/-- targets -/
abbrev Tg := Vl → En → Option En
def tgN (i : Nat) : Tg := fun v η => some (η.set i (some v))
def parts : Vl → Option (List Vl)
  | .d (.tup xs) => some (xs.map .d)
  | .t xs => some xs
  | _ => none
abbrev Tgs := List Vl → En → Option En
def tgNil : Tgs := fun vs η => match vs with
  | [] => some η
  | _ => none
def tgCons (t : Tg) (u : Tgs) : Tgs := fun vs η => match vs with
  | v :: r => (t v η).bind (u r)
  | [] => none
def tgT (n : Nat) (t : Tgs) : Tg := fun v η => match parts v with
  | some xs => if xs.length = n then t xs η else none
  | none => none
def asgT (t : Tg) (e : Ex) : Stm := fun _ η S => (e η S).st η fun v S1 => match t v η with
  | some η' => .next η' S1
  | none => .stuck
/-- a loop over known items -/
def loopL (t : Tg) (b : Stm) (n : Nat) : List D → En → Store → SR
  | [], η, S => .next η S
  | d :: ds, η, S => match t (.d d) η with
    | none => .stuck
    | some η1 => match b n η1 S with
      | .next η2 S2 => loopL t b n ds η2 S2
      | .cont η2 S2 => loopL t b n ds η2 S2
      | .brk η2 S2 => .next η2 S2
      | r => r
def forS (t : Tg) (it : Li) (b : Stm) : Stm := fun n η S => (it η S).st η fun ds S1 => loopL t b n ds η S1
def loopW (c : Te) (b : Stm) (n : Nat) : Nat → En → Store → SR
  | 0, _, _ => .stuck
  | k + 1, η, S => (c η S).st η fun q S1 => if q = true then (match b n η S1 with
      | .next η2 S2 => loopW c b n k η2 S2
      | .cont η2 S2 => loopW c b n k η2 S2
      | .brk η2 S2 => .next η2 S2
      | r => r) else .next η S1
def whileS (k : Nat) (c : Te) (b : Stm) : Stm := fun n η S => loopW c b n k η S

section
variable {X : Cx} {G : GI} {W : WX} {pos : Pos} {n0 : Nat}
theorem EnR.set {w : Wd} {η : En} {σ : L2.St} (h : EnR G w η σ) (i : Nat) {v : Vl} {x : V} (r : RV G w v x) : EnR G w (η.set i (some v)) (σ.set i (some x)) where
  len := by rw [List.length_set, List.length_set]; exact h.len
  get := fun j u e => by
    by_cases hj : i = j
    · subst hj
      by_cases hi : i < η.length
      · rw [List.getElem?_set_self hi] at e
        cases e
        exact ⟨x, List.getElem?_set_self (by rw [← h.len]; exact hi), r⟩
      · rw [List.getElem?_eq_none (by simpa using hi)] at e; cases e
    · rw [List.getElem?_set_ne hj] at e
      obtain ⟨y, h1, h2⟩ := h.get j u e
      exact ⟨y, by rw [List.getElem?_set_ne hj]; exact h1, h2⟩
theorem EnR.wipe {w : Wd} {σ : L2.St} : ∀ (is : List Nat) {η : En}, EnR G w η σ → EnR G w (wipeE is η) σ
  | [], _, h => h
  | i :: is, η, h => by
    have h1 := EnR.wipe is h
    refine ⟨by unfold wipeE; rw [List.length_set]; exact h1.len, fun j u e => ?_⟩
    unfold wipeE at e
    by_cases hj : i = j
    · subst hj
      by_cases hi : i < (wipeE is η).length
      · rw [List.getElem?_set_self hi] at e; cases e
      · rw [List.getElem?_eq_none (by simpa using hi)] at e; cases e
    · rw [List.getElem?_set_ne hj] at e
      exact h1.get j u e
theorem Nxt.len {w w' : Wd} (n : Nxt w w') {m : Nat} (h : m ≤ w.ρ.length) : m ≤ w'.ρ.length := Nat.le_trans h n.r.length_le
/-- an expression, then a statement's end -/
theorem PostS.ex {α β : Type} {RA : Hp → Wd → α → β → Prop} {w : Wd} {H : Hp} {r : Res α} {η : En} {σ : L2.St} {k : α → Store → SR} {Dn : Ends} {Q : β → Hp → Prop} (hE : EnR G w η σ) (hn : n0 ≤ w.ρ.length) (h : PostS G W n0 w H (r.st η k) Dn)
    (hq : ∀ w1 S1 H1 v x, Go w H w1 H1 → Rel G w1 S1 H1 → RA H1 w1 v x → PostS G W n0 w1 H1 (k v S1) Dn → Q x H1) : Post G w H RA r Q (xw G W σ) := by
  cases r with
  | ok a S => exact fun w' H' x n hR hv => hq w' S H' a x n hR hv (PostS.mono hn (n.s n0) h)
  | exc c S => exact fun w' H' n hR => h w' H' σ (n.s n0) hR (hE.mono n.n)
  | stuck => exact h
theorem ms_seq {st : Stmt} {rest : List Stmt} {f g : Stm} (h1 : PS X st (tS G W n0 f)) (h2 : PSs X rest (tS G W n0 g)) : PSs X (st :: rest) (tS G W n0 (seqS f g)) := by
  refine (pss_cons h1 h2).imp fun D σ H ⟨w, S, η, hR, hE, hn, h⟩ => ⟨w, S, η, hR, hE, hn, ?_⟩
  revert h
  unfold seqS
  cases f n0 η S with
  | next η1 S1 => exact fun h w' H' σ' n hR' hE' => ⟨w', S1, η1, hR', hE', n.len hn, PostS.mono hn n h⟩
  | brk η S => exact fun h => h
  | cont η S => exact fun h => h
  | ret v S => exact fun h => h
  | exc c η S => exact fun h => h
  | stuck => exact fun h => h
theorem ms_nil : PSs X [] (tS G W n0 nextS) := pss_nil.imp fun D σ H ⟨w, S, η, hR, hE, hn, h⟩ => h w H σ (Gs.refl n0 w H) hR hE
theorem ms_one {st : Stmt} {f : Stm} (h : PS X st (tS G W n0 f)) : PSs X [st] (tS G W n0 f) := pss_one h
theorem ms_pass : PS X (.Pass pos) (tS G W n0 nextS) := ps_pass.imp fun D σ H ⟨w, S, η, hR, hE, hn, h⟩ => h w H σ (Gs.refl n0 w H) hR hE
theorem ms_cont : PS X (.Continue pos) (tS G W n0 contS) := ps_continue.imp fun D σ H ⟨w, S, η, hR, hE, hn, h⟩ => h w H σ (Gs.refl n0 w H) hR hE
theorem ms_brk : PS X (.Break pos) (tS G W n0 brkS) := ps_break.imp fun D σ H ⟨w, S, η, hR, hE, hn, h⟩ => h w H σ (Gs.refl n0 w H) hR hE
theorem ms_ret {e : Expr} {f : Ex} (he : PE X e (tE G W f)) : PS X (.Return (some e) pos) (tS G W n0 (ret f)) :=
  (ps_ret he).imp fun D σ H ⟨w, S, η, hR, hE, hn, h⟩ => ⟨w, S, η, hR, hE, PostS.ex hE hn h fun w1 S1 H1 v x n hR1 r h1 => h1 w1 H1 x (Gs.refl n0 w1 H1) hR1 r⟩
theorem ms_retN : PS X (.Return none pos) (tS G W n0 retN) := ps_retN.imp fun D σ H ⟨w, S, η, hR, hE, hn, h⟩ => h w H .non (Gs.refl n0 w H) hR (.d .non)
theorem ms_drop {e : Expr} {f : Ex} (he : PE X e (tE G W f)) (hs : swapsWith e none pos.line X.env = pure false := by rfl) : PS X (.Expr e pos) (tS G W n0 (drop f)) :=
  (ps_expr he hs).imp fun D σ H ⟨w, S, η, hR, hE, hn, h⟩ => ⟨w, S, η, hR, hE, PostS.ex hE hn h fun w1 S1 H1 v x n hR1 r h1 => h1 w1 H1 σ (Gs.refl n0 w1 H1) hR1 (hE.mono n.n)⟩
theorem ms_asg {i : Nat} {x : Str} {e : Expr} {f : Ex} {pos' : Pos} (hN : X.N.Nodup) (he : PE X e (tE G W f)) (hi : X.N[i]? = some x := by rfl) (hx : Loc X.env.scope x := by first | exact Or.inl rfl | exact Or.inr rfl) (hs : swapsWith e (some (.Name x pos')) pos.line X.env = pure false := by rfl) (hf : X.fn x = true ∨ X.env.scope.names.lookup x = some .local := by first | exact .inl rfl | exact .inr rfl | assumption) :
    PS X (.Assign [.Name x pos'] e pos) (tS G W n0 (asg i f)) :=
  (ps_set (i := i) hN hi hx he hs hf).imp fun D σ H ⟨w, S, η, hR, hE, hn, h⟩ => ⟨w, S, η, hR, hE, PostS.ex hE hn h fun w1 S1 H1 v x n hR1 r h1 => h1 w1 H1 _ (Gs.refl n0 w1 H1) hR1 ((hE.mono n.n).set i r)⟩
theorem ms_if {c : Expr} {a b : List Stmt} {fc : Te} {f g : Stm} (hc : PT X c (tT G W fc)) (ha : PSs X a (tS G W n0 f)) (hb : PSs X b (tS G W n0 g)) : PS X (.If c a b pos) (tS G W n0 (ifS fc f g)) := by
  refine (ps_if hc ha hb).imp fun D σ H ⟨w, S, η, hR, hE, hn, h⟩ => ⟨w, S, η, hR, hE, PostS.ex (RA := RB) hE hn h fun w1 S1 H1 v x n hR1 r h1 => ?_⟩
  cases r
  cases v with
  | true => exact ⟨w1, S1, η, hR1, hE.mono n.n, n.n.len hn, h1⟩
  | false => exact ⟨w1, S1, η, hR1, hE.mono n.n, n.n.len hn, h1⟩
/-! ### ghosts -/
theorem reg_imp {f : Stm} {is : List Nat} {D σ H} (h : tS G W n0 (regS is f) D σ H) : tS G W n0 f D σ H := by
  obtain ⟨w, S, η, hR, hE, hn, h⟩ := h
  refine ⟨w, S, η, hR, hE, hn, ?_⟩
  have hS : n0 ≤ S.L.length := by rw [← hR.len]; exact hn
  have key : ∀ {w' : Wd} {S' : Store} {H' : Hp} {η' : En} {σ' : L2.St}, Gs n0 w H w' H' → Rel G w' S' H' → EnR G w' η' σ' → Gs n0 w H (w'.fr S.L.length H') H' ∧ Rel G (w'.fr S.L.length H') ⟨S'.L.take S.L.length⟩ H' ∧ EnR G (w'.fr S.L.length H') (wipeE is (frEn S.L.length S' η')) σ' := fun {w' S' H' η' σ'} n hR' hE' =>
    ⟨n.tr hn ⟨(Nxt.fr hR' _).tk_le hS, Frm.fr _⟩, hR'.fr _, (hE'.fr hR' _).wipe is⟩
  revert h
  unfold regS
  cases f n0 η S with
  | next η1 S1 => exact fun h w' H' σ' n hR' hE' => let ⟨a, b, c⟩ := key n hR' hE'; h _ H' σ' a b c
  | brk η S => exact fun h => h
  | cont η S1 => exact fun h w' H' σ' n hR' hE' => let ⟨a, b, c⟩ := key n hR' hE'; h _ H' σ' a b c
  | ret v S => exact fun h => h
  | exc c η S => exact fun h => h
  | stuck => exact fun h => h
theorem wip_imp {f : Stm} {is : List Nat} {D σ H} (h : tS G W n0 (wipS is f) D σ H) : tS G W n0 f D σ H := by
  obtain ⟨w, S, η, hR, hE, hn, h⟩ := h
  refine ⟨w, S, η, hR, hE, hn, ?_⟩
  revert h
  unfold wipS
  cases f n0 η S with
  | next η1 S1 => exact fun h w' H' σ' n hR' hE' => h w' H' σ' n hR' (hE'.wipe is)
  | brk η S => exact fun h => h
  | cont η S1 => exact fun h w' H' σ' n hR' hE' => h w' H' σ' n hR' (hE'.wipe is)
  | ret v S => exact fun h => h
  | exc c η S => exact fun h => h
  | stuck => exact fun h => h
theorem mg_reg {st : List Stmt} {f : Stm} (is : List Nat) (h : PSs X st (tS G W n0 f)) : PSs X st (tS G W n0 (regS is f)) := h.imp fun _ _ _ => reg_imp
theorem mg_wip {st : List Stmt} {f : Stm} (is : List Nat) (h : PSs X st (tS G W n0 f)) : PSs X st (tS G W n0 (wipS is f)) := h.imp fun _ _ _ => wip_imp
theorem mg_wip1 {st : Stmt} {f : Stm} (is : List Nat) (h : PS X st (tS G W n0 f)) : PS X st (tS G W n0 (wipS is f)) := h.imp fun _ _ _ => wip_imp
theorem mg_reg1 {st : Stmt} {f : Stm} (is : List Nat) (h : PS X st (tS G W n0 f)) : PS X st (tS G W n0 (regS is f)) := h.imp fun _ _ _ => reg_imp
/-! ### targets -/
def TgR (G : GI) (is : List Nat) (g : TG) (t : Tg) : Prop := ∀ w η σ v x H η' (Q : L2.St → Hp → Prop) (S : Store), Rel G w S H → EnR G w η σ → RV G w v x → t v η = some η' → (∀ σ', EnR G w η' σ' → (∀ vs, (∀ i ∈ is, i ∈ vs) → wipe σ' vs = wipe σ vs) → Q σ' H) → g x σ H Q
def TgsR (G : GI) (is : List Nat) (g : TGs) (t : Tgs) : Prop := ∀ w η σ v x H η' (Q : L2.St → Hp → Prop) (S : Store), Rel G w S H → EnR G w η σ → RVs G w v x → t v η = some η' → (∀ σ', EnR G w η' σ' → (∀ vs, (∀ i ∈ is, i ∈ vs) → wipe σ' vs = wipe σ vs) → Q σ' H) → g x σ H Q
theorem wipe_set {σ : L2.St} {i : Nat} {x : Option V} : ∀ {vs : List Nat}, i ∈ vs → wipe (σ.set i x) vs = wipe σ vs
  | v :: vs, h => by
    unfold wipe
    by_cases hi : i ∈ vs
    · rw [wipe_set hi]
    · have e : i = v := by
        rcases List.mem_cons.mp h with e | e
        · exact e
        · exact absurd e hi
      subst e
      have : ∀ (σ : L2.St) (vs : List Nat), i ∉ vs → wipe (σ.set i x) vs = (wipe σ vs).set i x := by
        intro σ vs
        induction vs with
        | nil => intro _; rfl
        | cons v vs ih =>
          intro h
          have h1 : i ≠ v := fun e => h (by simp [e])
          have h2 : i ∉ vs := fun e => h (by simp [e])
          unfold wipe
          rw [ih h2, List.set_comm _ _ h1]
      rw [this σ vs hi, List.set_set]
  | [], h => by cases h
theorem tg_name (i : Nat) : TgR G [i] (gName i) (tgN i) := fun w η σ v x H η' Q S hR hE r e q => by
  cases e
  exact q _ (hE.set i r) fun vs h => wipe_set (h i (by simp))
theorem tg_nil : TgsR G [] gNil tgNil := fun w η σ v x H η' Q S hR hE r e q => by
  cases r with
  | nil => cases e; exact ⟨rfl, q σ hE fun _ _ => rfl⟩
  | cons _ _ => cases e
theorem tg_cons {is js : List Nat} {g u t s} (h1 : TgR G is g t) (h2 : TgsR G js u s) : TgsR G (is ++ js) (gCons g u) (tgCons t s) := fun w η σ v x H η' Q S hR hE r e q => by
  cases r with
  | nil => cases e
  | cons r rs =>
    rename_i d y ds ys
    unfold tgCons at e
    cases q1 : t d η with
    | none => simp only [q1] at e; cases e
    | some η1 =>
      simp only [q1] at e
      exact ⟨_, _, rfl, h1 w η σ d y H η1 _ S hR hE r q1 fun σ1 hE1 w1 => h2 w η1 σ1 ds ys H η' _ S hR hE1 rs e fun σ2 hE2 w2 => q σ2 hE2 fun vs hv =>
        (w2 vs fun i hi => hv i (List.mem_append_right _ hi)).trans (w1 vs fun i hi => hv i (List.mem_append_left _ hi))⟩
theorem parts_ok {w : Wd} {S : Store} {H : Hp} {v : Vl} {x : V} {xs : List Vl} (hR : Rel G w S H) (e : parts v = some xs) (r : RV G w v x) : ∃ a vs, x = .ref a ∧ SqT G.K H a vs ∧ RVs G w xs vs := by
  unfold parts at e
  split at e
  · cases e
    cases r with | d r => cases r with | tup s t => exact ⟨_, _, rfl, hR.sub.t s.t, RVs.ofD t⟩
  · cases e
    cases r with | t s t => exact ⟨_, _, rfl, hR.sub.t s.t, t⟩
  · cases e
theorem tg_tup {is : List Nat} {u s} {n : Nat} (h : TgsR G is u s) : TgR G is (gTup G.K n u) (tgT n s) := fun w η σ v x H η' Q S hR hE r e q => by
  unfold tgT at e
  split at e
  · rename_i xs e1
    split at e
    · rename_i hl
      obtain ⟨a, vs, rfl, hs, hv⟩ := parts_ok hR e1 r
      exact ⟨a, vs, rfl, hs, by rw [← hv.length]; exact hl, h w η σ xs vs H η' Q S hR hE hv e q⟩
    · cases e
  · cases e
theorem ms_asgT {tg e : Expr} {is : List Nat} {g : TG} {t : Tg} {f : Ex} (he : PE X e (tE G W f)) (hg : PG X tg g) (ht : TgR G is g t) (hs : swapsWithSole [tg] e pos.line X.env = pure false := by rfl) (hw : swappedStores [tg] e X.env = pure none := by rfl)
    (h1 : (assignEach [tg] X.env).map (·.2) = [assign tg X.env] := by rfl) : PS X (.Assign [tg] e pos) (tS G W n0 (asgT t f)) := by
  refine (ps_asg he hg hs hw h1).imp fun D σ H ⟨w, S, η, hR, hE, hn, h⟩ => ⟨w, S, η, hR, hE, PostS.ex hE hn h fun w1 S1 H1 v x n hR1 r h1 => ?_⟩
  split at h1
  · rename_i η' e
    exact ht w1 η σ v x H1 η' _ S1 hR1 (hE.mono n.n) r e fun σ' hE' _ => h1 w1 H1 σ' (Gs.refl n0 w1 H1) hR1 hE'
  · exact h1.elim
/-! ### loops -/
/-- the items ds come by J, as long as what is known for good stays -/
structure ItOk (G : GI) (J : It) (M0 : Hp) (ds : List D) : Prop where
  go : ∀ (i : Nat) w S H, Sub M0 w.M → Rel G w S H → i < ds.length → J.go i H
  yld : ∀ (i : Nat) w S H x H', Sub M0 w.M → Rel G w S H → i < ds.length → J.yld i H x H' → ∃ d w', ds[i]? = some d ∧ Go w H w' H' ∧ Rel G w' S H' ∧ RV G w' (.d d) x
  stop : ∀ w S H, Sub M0 w.M → Rel G w S H → J.stop ds.length H
def tI (G : GI) (W : WX) (f : Li) : TI := fun σ H R => ∃ w S η, Rel G w S H ∧ EnR G w η σ ∧ Post G w H (fun H' w' ds J => ItOk G J w'.M ds) (f η S) R (xw G W σ)
theorem _root_.L2.PI.imp {tg iter : Expr} {t t' : TI} (h : PI X tg iter t) (hi : ∀ σ H R, t' σ H R → t σ H R) : PI X tg iter t' := ⟨fun pins s σ H R I q => h.run pins s σ H R I (hi σ H R q)⟩
theorem mi_for {iter tg : Expr} {body : List Stmt} {fi : Li} {is : List Nat} {g : TG} {t : Tg} {f : Stm} (hp : PassesOwn (model X.prog X.w) X.A X.env X.xe) (hc : X.calm = true) (hi : PI X tg iter (tI G W fi)) (hg : PG X tg g) (ht : TgR G is g t) (hb : PSs X body (tS G W n0 f))
    (hs : ∀ x, foldedSetIterable iter X.env x = pure x := by intro _; rfl) : PS X (.For tg iter body [] pos) (tS G W n0 (forS t fi f)) := by
  refine (ps_for hp hc hi hg hb hs).imp fun D σ H ⟨w, S, η, hR, hE, hn, h⟩ => ⟨w, S, η, hR, hE, PostS.ex hE hn h fun w1 S1 H1 ds J n1 hR1 hJ h1 => ?_⟩
  refine ⟨fun i m σ2 H2 => m = ds.length - i ∧ i ≤ ds.length ∧ ∃ w2 S2 η2, Rel G w2 S2 H2 ∧ EnR G w2 η2 σ2 ∧ n0 ≤ w2.ρ.length ∧ Sub w1.M w2.M ∧ PostS G W n0 w2 H2 (loopL t f n0 (ds.drop i) η2 S2) D,
    ⟨ds.length, by simp, Nat.zero_le _, w1, S1, η, hR1, hE.mono n1.n, n1.n.len hn, Sub.refl _, h1⟩, ?_⟩
  rintro i m σ2 H2 ⟨rfl, hi, w2, S2, η2, hR2, hE2, hn2, hs2, h2⟩
  by_cases hlt : i < ds.length
  · refine .inr ⟨hJ.go i w2 S2 H2 hs2 hR2 hlt, fun σ3 H3 => ∃ w3 S3 η3, Rel G w3 S3 H3 ∧ EnR G w3 η3 σ3 ∧ n0 ≤ w3.ρ.length ∧ Sub w1.M w3.M ∧ PostS G W n0 w3 H3 (loopL t f n0 (ds.drop (i + 1)) η3 S3) D,
      fun σ3 H3 ⟨w3, S3, η3, a, b, c, d, e⟩ => ⟨ds.length - (i + 1), by omega, rfl, hlt, w3, S3, η3, a, b, c, d, e⟩, fun x H3 hy => ?_⟩
    obtain ⟨d, w3, ed, n3, hR3, r3⟩ := hJ.yld i w2 S2 H2 x H3 hs2 hR2 hlt hy
    have edr : ds.drop i = d :: ds.drop (i + 1) := by
      obtain ⟨hl, e⟩ := List.getElem?_eq_some_iff.mp ed
      rw [← e]; exact (List.drop_eq_getElem_cons hl)
    rw [edr] at h2
    unfold loopL at h2
    split at h2
    · exact h2.elim
    · rename_i η1 e1
      refine ht w3 η2 σ2 (.d d) x H3 η1 _ S2 hR3 (hE2.mono n3.n) r3 e1 fun σ4 hE4 _ => ?_
      refine ⟨w3, S2, η1, hR3, hE4, n3.n.len hn2, ?_⟩
      have again : ∀ {η5 : En} {S5 : Store}, PostS G W n0 w2 H2 (loopL t f n0 (ds.drop (i + 1)) η5 S5) D → ∀ w' H' σ', Gs n0 w3 H3 w' H' → Rel G w' S5 H' → EnR G w' η5 σ' →
          ∃ w3 S3 η3, Rel G w3 S3 H' ∧ EnR G w3 η3 σ' ∧ n0 ≤ w3.ρ.length ∧ Sub w1.M w3.M ∧ PostS G W n0 w3 H' (loopL t f n0 (ds.drop (i + 1)) η3 S3) D := fun {η5 S5} h5 w' H' σ' n' hR' hE' =>
        ⟨w', S5, η5, hR', hE', n'.len (n3.n.len hn2), hs2.trans (n3.n.m.trans n'.n.m), PostS.mono hn2 ((n3.s n0).tr hn2 n') h5⟩
      revert h2
      cases f n0 η1 S2 with
      | next η5 S5 => exact fun h2 => again h2
      | cont η5 S5 => exact fun h2 => again h2
      | brk η5 S5 => exact fun h2 w' H' σ' n' => h2 w' H' σ' ((n3.s n0).tr hn2 n')
      | ret v S5 => exact fun h2 w' H' x n' => h2 w' H' x ((n3.s n0).tr hn2 n')
      | exc c η5 S5 => exact fun h2 w' H' σ' n' => h2 w' H' σ' ((n3.s n0).tr hn2 n')
      | stuck => exact fun h2 => h2
  · have e : i = ds.length := by omega
    subst e
    rw [List.drop_eq_nil_of_le (Nat.le_refl _)] at h2
    exact .inl ⟨hJ.stop w2 S2 H2 hs2 hR2, h2 w2 H2 σ2 (Gs.refl n0 w2 H2) hR2 hE2⟩
theorem ms_while {c : Expr} {body : List Stmt} {fc : Te} {f : Stm} (k : Nat) (hp : PassesOwn (model X.prog X.w) X.A X.env X.xe) (hc : PT X c (tT G W fc)) (hb : PSs X body (tS G W n0 f)) : PS X (.While c body [] pos) (tS G W n0 (whileS k fc f)) := by
  refine (ps_while hp hc hb).imp fun D σ H ⟨w, S, η, hR, hE, hn, h⟩ => ?_
  refine ⟨fun m σ2 H2 => ∃ w2 S2 η2, Rel G w2 S2 H2 ∧ EnR G w2 η2 σ2 ∧ n0 ≤ w2.ρ.length ∧ PostS G W n0 w2 H2 (loopW fc f n0 m η2 S2) D, ⟨k, w, S, η, hR, hE, hn, h⟩, ?_⟩
  rintro m σ2 H2 ⟨w2, S2, η2, hR2, hE2, hn2, h2⟩
  cases m with
  | zero => exact h2.elim
  | succ m =>
    unfold loopW at h2
    refine ⟨w2, S2, η2, hR2, hE2, PostS.ex (RA := RB) hE2 hn2 h2 fun w3 S3 H3 v x n3 hR3 r h3 => ?_⟩
    cases r
    cases v with
    | false => exact h3 w3 H3 σ2 (Gs.refl n0 w3 H3) hR3 (hE2.mono n3.n)
    | true =>
      simp only [if_true] at h3
      rw [if_pos rfl]
      refine ⟨fun σ4 H4 => ∃ w4 S4 η4, Rel G w4 S4 H4 ∧ EnR G w4 η4 σ4 ∧ n0 ≤ w4.ρ.length ∧ PostS G W n0 w4 H4 (loopW fc f n0 m η4 S4) D, fun σ4 H4 h4 => ⟨m, Nat.lt_succ_self m, h4⟩, ?_⟩
      have hn3 := n3.n.len hn2
      refine ⟨w3, S3, η2, hR3, hE2.mono n3.n, hn3, ?_⟩
      have again : ∀ {η5 : En} {S5 : Store}, PostS G W n0 w3 H3 (loopW fc f n0 m η5 S5) D → ∀ w' H' σ', Gs n0 w3 H3 w' H' → Rel G w' S5 H' → EnR G w' η5 σ' →
          ∃ w4 S4 η4, Rel G w4 S4 H' ∧ EnR G w4 η4 σ' ∧ n0 ≤ w4.ρ.length ∧ PostS G W n0 w4 H' (loopW fc f n0 m η4 S4) D := fun {η5 S5} h5 w' H' σ' n' hR' hE' =>
        ⟨w', S5, η5, hR', hE', n'.len hn3, PostS.mono hn3 n' h5⟩
      revert h3
      cases f n0 η2 S3 with
      | next η5 S5 => exact fun h2 => again h2
      | cont η5 S5 => exact fun h2 => again h2
      | brk η5 S5 => exact fun h2 => h2
      | ret v S5 => exact fun h2 => h2
      | exc c η5 S5 => exact fun h2 => h2
      | stuck => exact fun h2 => h2
end
end MP

/-! MP4: defs, calls, comprehensions -/
namespace MP
open PySem PySem.Spec PyProof.Rows L2
abbrev Fn := List Vl → Store → Res Vl
inductive FM where | frz | mut
def finV (m : FM) (n : Nat) (v : Vl) (S : Store) : Res Vl := match m, v with
  | .mut, .p k => if k < n then .ok (.p k) ⟨S.L.take n⟩ else match S.L[k]? with
    | some (some ds) => .ok (.p n) ⟨S.L.take n ++ [some ds]⟩
    | _ => .stuck
  | _, v => match frV n S v with
    | some v' => .ok v' ⟨S.L.take n⟩
    | none => .stuck
def fin (m : FM) (n : Nat) : SR → Res Vl
  | .next _ S => finV m n (.d .non) S
  | .ret v S => finV m n v S
  | .exc c _ S => .exc c ⟨S.L.take n⟩
  | _ => .stuck
def fnF (np ns : Nat) (m : FM) (b : Stm) : Fn := fun args S => if args.length = np then fin m S.L.length (b S.L.length (args.map some ++ List.replicate (ns - np) none) S) else .stuck
def spF (G : GI) (F : Fn) : Sp := fun vs H Q E => ∃ w S args, Rel G w S H ∧ RVs G w args vs ∧ Post G w H (rV G) (F args S) Q (fun c H' => E (.ref (G.cls c)) none H')
abbrev wOf (E : XK) : WX := fun cls d _ H => E cls d H

section
variable {G : GI} {w : Wd} {S : Store} {H : Hp}
theorem EnR.begin {N : List Str} {args : List Vl} {vs : List V} (r : RVs G w args vs) : EnR G w (args.map some ++ List.replicate (N.length - args.length) none) (L2.start N vs) where
  len := by unfold L2.start; simp [r.length]
  get := fun i v e => by
    unfold L2.start
    by_cases hi : i < args.length
    · rw [List.getElem?_append_left (by rw [List.length_map]; exact hi)] at e
      rw [List.getElem?_append_left (by rw [List.length_map, ← r.length]; exact hi)]
      rw [List.getElem?_map] at e
      cases q : args[i]? with
      | none => rw [q] at e; cases e
      | some u =>
        rw [q] at e; cases e
        have : ∀ {as : List Vl} {xs : List V} {i : Nat} {v : Vl}, RVs G w as xs → as[i]? = some v → ∃ x, xs[i]? = some x ∧ RV G w v x := by
          intro as xs i v r
          induction r using RVs.rec (motive_1 := fun _ _ _ => True) generalizing i with
          | d _ => trivial
          | p _ => trivial
          | t _ _ _ => trivial
          | nil => intro e; simp at e
          | cons r _ _ ih => cases i with
            | zero => intro e; simp at e; subst e; exact ⟨_, rfl, r⟩
            | succ i => intro e; obtain ⟨x, h1, h2⟩ := ih (i := i) (by simpa using e); exact ⟨x, by simpa using h1, h2⟩
        obtain ⟨x, h1, h2⟩ := this r q
        exact ⟨x, by rw [List.getElem?_map, h1]; rfl, h2⟩
    · rw [List.getElem?_append_right (by rw [List.length_map]; omega)] at e
      rw [List.getElem?_replicate] at e
      split at e
      · cases e
      · cases e
theorem finV_ok (hR : Rel G w S H) {m : FM} {n : Nat} {v : Vl} {x : V} (hn : n ≤ w.ρ.length) (r : RV G w v x) {w0 : Wd} {H0 : Hp} (hg : Gs n w0 H0 w H) (hn0 : n = w0.ρ.length) {Q : VK} {XX : Nat → Hp → Prop} (h : Post G w0 H0 (rV G) (finV m n v S) Q XX) : Q x H := by
  have e0 : w0.tk n = w0 := by
    unfold Wd.tk
    rw [hn0, List.take_length]
  have hg' : ∀ (w1 : Wd), Nxt w0 w1 → (∀ a, a ∉ w.ρ → a ∉ w1.ρ) → (∀ a, a ∉ w.ρ → w.M a = none → w1.M a = none) → Go w0 H0 w1 H := fun w1 h1 h2 h3 => ⟨h1, fun a o e hn => let ⟨p, q, z⟩ := hg.f a o e hn; ⟨p, h2 a q, fun y => h3 a q (z y)⟩⟩
  have frN : ∀ a, a ∉ w.ρ → w.M a = none → (w.fr n H).M a = none := fun a hn z => by unfold Wd.fr; simp only; rw [if_neg (fun hd => hn (List.mem_of_mem_drop hd))]; exact z
  have nf : Nxt w0 (w.fr n H) := by
    have := (hg.n.m)
    refine ⟨this.trans (hR.fr_sub n), ?_⟩
    have h2 := hg.n.r
    rw [e0] at h2
    show w0.ρ <+: w.ρ.take n
    obtain ⟨t, ht⟩ := h2
    rw [← ht, List.take_append_of_le_length (by omega), hn0, List.take_length]
    exact List.prefix_refl _
  have base : ∀ v', frV n S v = some v' → Post G w0 H0 (rV G) (.ok v' ⟨S.L.take n⟩) Q XX → Q x H := fun v' e h =>
    h _ H x (hg' _ nf (fun a hn hm => hn (List.mem_of_mem_take hm)) frN) (hR.fr n) (frV_ok hR n e r)
  have gen : Post G w0 H0 (rV G) (match frV n S v with
    | some v' => .ok v' ⟨S.L.take n⟩
    | none => .stuck) Q XX → Q x H := fun h => by
    split at h
    · rename_i v' e; exact base v' e h
    · exact h.elim
  unfold finV at h
  split at h
  · rename_i k
    split at h
    · rename_i hk
      exact base (.p k) (by unfold frV; simp only; rw [if_pos hk]) h
    · rename_i hk
      split at h
      · rename_i ds q
        cases r with
        | p r =>
          rename_i a
          obtain ⟨hm, vs, ev, rr⟩ := hR.cel k ds a q r
          have hkl : k < w.ρ.length := (List.getElem?_eq_some_iff.mp r).1
          -- the cells below n, then this one
          have hw : Rel G ⟨w.M, w.ρ.take n ++ [a]⟩ ⟨S.L.take n ++ [some ds]⟩ H := by
            refine ⟨hR.sub, ?_, ?_, ?_, ?_⟩
            · simp only [List.length_append, List.length_take, hR.len]; rfl
            · refine List.nodup_append.mpr ⟨hR.nd.sublist (List.take_sublist n _), by simp, fun b hb c hc => ?_⟩
              have hc : c = a := by simpa using hc
              subst hc
              intro z
              subst z
              obtain ⟨j, hj, ej⟩ := List.mem_iff_getElem.mp hb
              rw [List.length_take] at hj
              rw [List.getElem_take] at ej
              have := nd_get hR.nd (i := j) (j := k) (by rw [List.getElem?_eq_getElem (by omega), ej]) r
              omega
            · intro b hb
              rcases List.mem_append.mp hb with hb | hb
              · exact hR.dom b (List.mem_of_mem_take hb)
              · have : b = a := by simpa using hb
                subst this; exact ⟨_, ev⟩
            · intro m c b e1 e2
              simp only at e1 e2
              have hlt : (S.L.take n).length = n := by rw [List.length_take, ← hR.len]; omega
              have hlr : (w.ρ.take n).length = n := by rw [List.length_take]; omega
              by_cases hmn : m < n
              · rw [List.getElem?_append_left (by omega), List.getElem?_take_of_lt hmn] at e1 e2
                exact hR.cel m c b e1 e2
              · rw [List.getElem?_append_right (by omega)] at e1 e2
                rw [hlt] at e1
                rw [hlr] at e2
                by_cases hz : m - n = 0
                · rw [hz] at e1 e2
                  simp at e1 e2
                  subst e1 e2
                  exact ⟨hm, vs, ev, rr⟩
                · rw [List.getElem?_eq_none (by simp; omega)] at e1; cases e1
          refine h ⟨w.M, w.ρ.take n ++ [a]⟩ H _ (hg' _ ⟨hg.n.m, ?_⟩ (fun b hb hm => ?_) (fun _ _ z => z)) hw (.p ?_)
          · have h2 := nf.r
            exact h2.trans (List.prefix_append _ _)
          · rcases List.mem_append.mp hm with hm | hm
            · exact hb (List.mem_of_mem_take hm)
            · have : b = a := by simpa using hm
              subst this; exact hb (List.mem_of_getElem? r)
          · show (w.ρ.take n ++ [a])[n]? = some a
            rw [List.getElem?_append_right (by rw [List.length_take]; omega), List.length_take, Nat.min_eq_left hn, Nat.sub_self] <;> rfl
      · exact h.elim
  · exact gen h
end

section
variable {P : Program} {W0 : World} {K : PySem.W.Frag} {mg : Str → Option Value} {base : Heap} {G : GI}
/-- THE RULE for a def -/
theorem fn_ok {x qual : Str} {st : Stmt} {f : Addr} {fd : FuncData} {N ps : List Str} {k : Nat} (m : FM) (b : Stm) (F : L2.Fun K x qual st f fd) (S : FnScope N ps (defScope st)) (hK : K = G.K)
    (hb : ∀ (cdv : Value) (A : Around) (outer : List Env) (s : Shared) (H : Hp) (E : XK) (n0 : Nat), Room k (A.deeper (envOfC qual (defScope st) s.heap.objs.size f cdv)) →
      Takes (cxOf (L2.CX P W0) P W0 K mg base N qual (defScope st) f cdv A outer s H E) (wOf E) → PassesOwn (model P W0) (A.deeper (envOfC qual (defScope st) s.heap.objs.size f cdv)) (envOfC qual (defScope st) s.heap.objs.size f cdv) (cxOf (L2.CX P W0) P W0 K mg base N qual (defScope st) f cdv A outer s H E).xe →
      PSs (cxOf (L2.CX P W0) P W0 K mg base N qual (defScope st) f cdv A outer s H E) (defBody st) (tS G (wOf E) n0 b)) :
    FnOk P W0 K mg base (L2.CX P W0) (k + 1) f fd ps (spF G (fnF ps.length N.length m b)) := by
  refine F.okX S (fun vs H Q E h => ?_) (fun cdv A outer s H vs Q E hr h => ?_)
  · obtain ⟨w, S, args, hR, r, h⟩ := h
    unfold fnF at h
    split at h
    · rename_i e; rw [← r.length]; exact e
    · exact h.elim
  · obtain ⟨w, S', args, hR, r, h⟩ := h
    unfold fnF at h
    split at h
    · rename_i e
      refine ⟨_, hb cdv A outer s H E S'.L.length hr (takes_of rfl rfl rfl rfl) (passes_of rfl), w, S', _, hR, EnR.begin r, by rw [hR.len]; exact Nat.le_refl _, ?_⟩
      have en : N.length - args.length = N.length - ps.length := by rw [e]
      rw [en]
      have hl : S'.L.length = w.ρ.length := hR.len.symm
      revert h
      cases b S'.L.length (args.map some ++ List.replicate (N.length - ps.length) none) S' with
      | next η1 S1 => exact fun h w' H' σ' g hR' hE' => finV_ok hR' (g.len (by omega)) (.d .non) g hl h
      | ret v S1 => exact fun h w' H' x g hR' r' => finV_ok hR' (g.len (by omega)) r' g hl h
      | exc c η1 S1 =>
        intro h w' H' σ' g hR' hE'
        refine h (w'.fr S'.L.length H') H' ⟨⟨g.n.m.trans (hR'.fr_sub _), ?_⟩, fun a o e hn => let ⟨p, q, z⟩ := g.f a o e hn; ⟨p, fun hm => q (List.mem_of_mem_take hm), fun y => by unfold Wd.fr; simp only; rw [if_neg (fun hd => q (List.mem_of_mem_drop hd))]; exact z y⟩⟩ (hR'.fr _)
        have h2 := g.n.r
        show w.ρ <+: w'.ρ.take S'.L.length
        have e0 : (w.tk S'.L.length).ρ = w.ρ := by show w.ρ.take _ = _; rw [hl, List.take_length]
        rw [e0] at h2
        obtain ⟨t, ht⟩ := h2
        rw [← ht, List.take_append_of_le_length (by omega), hl, List.take_length]
        exact List.prefix_refl _
      | brk η1 S1 => exact fun h => h.elim
      | cont η1 S1 => exact fun h => h.elim
      | stuck => exact fun h => h.elim
    · exact h.elim

/-- what a def of the text is worth, up to level k -/
structure Def (P : Program) (W0 : World) (K : PySem.W.Frag) (mg : Str → Option Value) (base : Heap) (G : GI) (k : Nat) (x : Str) (F : Fn) : Prop where
  ex : ∃ f fd ps, mg x = some (.ref f) ∧ PySem.W.keepIn K (.ref f) = true ∧ Binds K fd ps [] ∧ FnOk P W0 K mg base (L2.CX P W0) k f fd ps (spF G F)
theorem Def.mono {j k : Nat} {x : Str} {F : Fn} (h : Def P W0 K mg base G j x F) (hk : j ≤ k) : Def P W0 K mg base G k x F := by
  obtain ⟨f, fd, ps, h1, h2, h3, h4⟩ := h.ex
  exact ⟨f, fd, ps, h1, h2, h3, h4.mono hk⟩
end
def callE (F : Fn) (a : As) : Ex := fun η S => (a η S).bind F
section
variable {X : Cx} {G : GI} {W : WX} {pos : Pos} {k : Nat} {x : Str} {F : Fn}
theorem me_call {p : Pos} {e : Expr} {es : List Expr} {fa : As} (O : Def X.prog X.w X.K X.mg X.base G k x F) (hr : Room k X.A) (tk : Takes X W) (hg : Gl X x) (ha : PA X (e :: es) (tA G W fa)) (hdb : (x == ("__debug__" : Str)) = false := by decide)
    (he : starEach (e :: es) X.env = (false, eval e X.env) :: starEach es X.env := by rfl) (hpl : (backTo pos (starEach es X.env)).any (·.1) = false := by rfl) : PE X (.Call (.Name x p) (e :: es) [] pos) (tE G W (callE F fa)) := by
  obtain ⟨f, fd, ps, hm, hk, hb, hf⟩ := O.ex
  exact (pe_callS hf hr hg hm hk hb (fun σ => passAt tk σ) ha hdb he hpl).imp fun σ H Q ⟨w, S, η, hR, hE, h⟩ => ⟨w, S, η, hR, hE, Post.thn h fun w1 S1 H1 xs vs n hR1 rx h2 => ⟨w1, S1, xs, hR1, rx, h2⟩⟩
theorem pe_call0S {p : Pos} {sp : Sp} {CX : CXT} {f : Addr} {fd : FuncData} {ps : List Str} {E : L2.St → XK} (F : FnOk X.prog X.w X.K X.mg X.base CX k f fd ps sp) (hr : Room k X.A) (hg : Gl X x) (hm : X.mg x = some (.ref f)) (hk : PySem.W.keepIn X.K (.ref f) = true) (hb : Binds X.K fd ps []) (hx : ∀ σ, PassesAt CX X σ (E σ))
    (hdb : (x == ("__debug__" : Str)) = false := by decide) : PE X (.Call (.Name x p) [] [] pos) (tCallS sp E tNil) := by
  refine ⟨fun pins s σ H Q I h => ?_⟩
  refine wpAny_Call_Name_kw (ld_glob I hg hm ?_ hdb)
  exact PySem.W.callWith_K0 I.kIn hk (run_fnS (us := []) F hr hb (hx σ) I .nil h)
theorem me_call0 {p : Pos} (O : Def X.prog X.w X.K X.mg X.base G k x F) (hr : Room k X.A) (tk : Takes X W) (hg : Gl X x) (hdb : (x == ("__debug__" : Str)) = false := by decide) : PE X (.Call (.Name x p) [] [] pos) (tE G W (callE F nilA)) := by
  obtain ⟨f, fd, ps, hm, hk, hb, hf⟩ := O.ex
  exact (pe_call0S hf hr hg hm hk hb (fun σ => passAt tk σ) hdb).imp fun σ H Q ⟨w, S, η, hR, hE, h⟩ => ⟨w, S, [], hR, .nil, h⟩
end
end MP

set_option maxHeartbeats 2000000
/-! MPW: zip of two, of three, enumerate: over lists and tuples, mixed -/
namespace MP
open PySem PySem.Spec PyProof.Rows L2

/-- k: a list, else a tuple -/
def SqK (k : Bool) (K : PySem.W.Frag) (H : Hp) (a : Addr) (xs : List V) : Prop := match k with
  | true => SqL K H a xs
  | false => SqT K H a xs
def ItK (k : Bool) (h : Heap) (it a : Addr) (i : Nat) : Prop := match k with
  | true => h.IsListIter it a i
  | false => h.IsTupleIter it a i
def HpK (k : Bool) (h : Heap) (a : Addr) (its : Array Value) : Prop := match k with
  | true => h.IsList a its
  | false => h.IsTuple a its
def itO (k : Bool) (a : Addr) : Obj := match k with
  | true => { cls := .type "list_iterator", data := .fields #[.ref a, .int 0 0] }
  | false => { cls := .type "tuple_iterator", data := .fields #[.ref a, .int 0 0] }
theorem beginsK (k : Bool) (a : Addr) (its : Array Value) : Begins (.ref a) (itO k a) fun h => HpK k h a its := by
  cases k with
  | true => exact begins_list a its
  | false => exact begins_tuple a its
theorem itO_it {k : Bool} {h : Heap} {it a : Addr} (e : h.get? it = some (itO k a)) : ItK k h it a 0 := by
  cases k with
  | true => exact ⟨_, e, rfl, rfl⟩
  | false => exact ⟨_, e, rfl, rfl⟩
theorem ItK.at {k : Bool} {h h' : Heap} {it a : Addr} {i : Nat} (x : ItK k h it a i) (e : ∀ o, h.get? it = some o → h'.get? it = some o) : ItK k h' it a i := by
  cases k with
  | true => exact Heap.IsListIter.at x e
  | false => exact Heap.IsTupleIter.at x e
theorem ItK.obj {k : Bool} {h : Heap} {it a : Addr} {i : Nat} (x : ItK k h it a i) : ∃ o, h.get? it = some o ∧ ∀ v, o.data ≠ .cell v := by
  cases k with
  | true => obtain ⟨o, e, c, d⟩ := x; exact ⟨o, e, fun v z => by rw [d] at z; cases z⟩
  | false => obtain ⟨o, e, c, d⟩ := x; exact ⟨o, e, fun v z => by rw [d] at z; cases z⟩
theorem drawsK (k : Bool) {P : Program} {w : World} {A : Around} (hh : A.handled = none) (it a : Addr) (hne : a ≠ it) (its : Array Value) :
    Draws P w A it [it, a] its.size (fun i v => its[i]? = some v) (fun i h => ItK k h it a i ∧ HpK k h a its) := by
  cases k with
  | true => exact Draws.list hh it a hne its
  | false => exact Draws.tuple hh it a hne its
section
variable {X : Cx} {pins : List (Addr × Obj)} {σ : L2.St} {H : Hp} {s : Shared}
theorem inv_sqK (I : Inv X pins σ H s) {k : Bool} {a : Addr} {xs : List V} (h : SqK k X.K H a xs) : ∃ its : List Value, Vals xs its ∧ HpK k s.heap a its.toArray ∧ a < s.heap.objs.size := by
  cases k with
  | true => obtain ⟨its, r, p, _⟩ := I.list h; exact ⟨its, r, p.isList, p.lt⟩
  | false => obtain ⟨its, r, p, _⟩ := I.tuple h; exact ⟨its, r, p, p.lt⟩
theorem inv_sqK_inj (I : Inv X pins σ H s) {k : Bool} {a : Addr} {xs ys : List V} (h : SqK k X.K H a xs) (h' : SqK k X.K H a ys) : xs = ys := by
  cases k with
  | true => exact I.list_inj h h'
  | false => exact I.tuple_inj h h'
/-- what is tracked is no iterator -/
theorem sqK_ne (I : Inv X pins σ H s) {k : Bool} {a : Addr} {xs : List V} (h : SqK k X.K H a xs) {k' : Bool} {it b : Addr} {i : Nat} (hi : ItK k' s.heap it b i) : a ≠ it := fun e => by
  subst e
  obtain ⟨its, _, p, _⟩ := inv_sqK I h
  have : ∃ o T, s.heap.get? a = some o ∧ o.cls = .type T ∧ (T = "list" ∨ T = "tuple") := by
    cases k with
    | true => obtain ⟨o, e, c, _⟩ := p; exact ⟨o, _, e, c, .inl rfl⟩
    | false => obtain ⟨o, e, c, _⟩ := p; exact ⟨o, _, e, c, .inr rfl⟩
  obtain ⟨o, T, e, c, hT⟩ := this
  have : ∃ T', o.cls = .type T' ∧ (T' = "list_iterator" ∨ T' = "tuple_iterator") := by
    cases k' with
    | true => obtain ⟨o', e', c', _⟩ := hi; rw [e] at e'; cases e'; exact ⟨_, c', .inl rfl⟩
    | false => obtain ⟨o', e', c', _⟩ := hi; rw [e] at e'; cases e'; exact ⟨_, c', .inr rfl⟩
  obtain ⟨T', c', hT'⟩ := this
  rw [c] at c'
  cases c'
  rcases hT with rfl | rfl <;> rcases hT' with h | h <;> exact absurd h (by decide)
end

/-! ### enumerate -/
def IteK (k : Bool) (K : PySem.W.Frag) (a : Addr) : It :=
  ⟨fun i H => ∃ (xs : List V) (x : V), SqK k K H a xs ∧ xs[i]? = some x, fun i H v H' => ∃ T o x, v = .ref T ∧ H T = none ∧ o.dict = none ∧ H' = upd H T (.frz o (.tup [.int (i : Nat), x])) ∧ ∀ xs, SqK k K H a xs → xs[i]? = some x, fun i H => ∃ xs : List V, SqK k K H a xs ∧ xs.length = i⟩
theorem turn_enumK (k : Bool) {P : Program} {w : World} {K : PySem.W.Frag} {elts : List Expr} {kk : Nat} {tpos : Pos} (a e it : Addr) :
    Turn P w K (.Tuple elts kk tpos) (IteK k K a) [e, it] e (fun i h => (∃ old, IsEnum h e it ((i : Nat) : Int) old) ∧ ItK k h it a i ∧ e ≠ it ∧ a ≠ it ∧ a ≠ e) where
  mem := by simp
  obj := fun i h st b hb => by
    obtain ⟨⟨old, he⟩, hi, _⟩ := st
    have e' : b = e ∨ b = it := by simpa using hb
    rcases e' with z | z
    · rw [z]; exact ⟨_, he, fun v q => nomatch q⟩
    · rw [z]; exact hi.obj
  keep := fun i h h' st k => let ⟨⟨old, he⟩, hi, hne, h1⟩ := st; ⟨⟨old, k e (by simp) _ he⟩, hi.at fun o q => k it (by simp) o q, hne, h1⟩
  item := by
    intro X hP hw hK hc i pins s σ H E I hf st hg
    subst hP hw hK
    obtain ⟨⟨old, he⟩, hit, hne, hai, hae⟩ := st
    obtain ⟨xs, x, hq, hx⟩ := hg
    obtain ⟨its, rv, p, ha⟩ := inv_sqK I hq
    obtain ⟨u, hu, ru⟩ := rv.get hx
    have hlt : i < its.toArray.size := by
      have := (List.getElem?_eq_some_iff.mp hu).1
      simpa using this
    have hh : X.A.in1.handled = none := I.ok.hd hc
    have hel : e < s.heap.objs.size := Heap.lt_size he
    have hil : it < s.heap.objs.size := by obtain ⟨_, q, _⟩ := hit.obj; exact Heap.lt_size q
    refine wpAny_pyNext_enum_itemC (D := drawsK k hh it a hai its.toArray) he ⟨hit, p⟩ hlt hne (by simp [hne, Ne.symm hae]) fun x' h' tk hP ho hst' hT hsz hk => ?_
    have hxu : x' = u := by
      have h1 : its.toArray[i]? = some u := by simpa using hu
      rw [h1] at hP; exact (Option.some.inj hP).symm
    subst hxu
    refine ⟨_, rfl, wpAny_letOwnedTupleGo_enum (s := { s with heap := h', toks := tk + 1 }) ho fun h'' he' sb => ?_⟩
    have hT2 : h''.get? s.heap.objs.size = some { cls := .type "tuple", data := .seq #[.int i tk, x'] } := (sb.2 _ (Nat.ne_of_gt hel)).trans hT
    have new : ObjOk X.prog X.w (upd H s.heap.objs.size (.frz (TObj [.int i tk, x']) (.tup [.int (i : Nat), x]))) h'' s.heap.objs.size (.frz (TObj [.int i tk, x']) (.tup [.int (i : Nat), x])) :=
      tup_obj (its := [.int i tk, x']) (.cons ⟨_, rfl⟩ (.cons ru .nil)) (by show 2 ≤ sizeLine; decide) hT2
    have I1 : Inv X pins σ (upd H s.heap.objs.size (.frz (TObj [.int i tk, x']) (.tup [.int (i : Nat), x]))) { s with heap := h'', toks := tk + 1 } :=
      I.turnedNew (ch := [e, it]) (fun b ob hb q => (sb.2 b (fun z => hb (by simp [z]))).trans (hk b ob (fun z => hb (by simp [z])) (fun z => hb (by simp [z])) q)) hf (Nat.le_refl _) new
    refine ⟨.ref s.heap.objs.size, _, I1, rfl, ⟨_, _, x, rfl, I.hok.fresh (Nat.le_refl _), rfl, rfl, fun ys hy => by rw [inv_sqK_inj I hy hq]; exact hx⟩, ⟨⟨x', ?_⟩, hst'.1.at fun o q => (sb.2 it (Ne.symm hne)).trans q, hne, hai, hae⟩, fun b hb => ?_⟩
    · have e1 : ((i + 1 : Nat) : Int) = (i : Int) + 1 := by omega
      rw [e1]; exact he'
    · have hb' : b < s.heap.objs.size := by
        have e' : b = e ∨ b = it := by simpa using hb
        rcases e' with z | z
        · rw [z]; exact hel
        · rw [z]; exact hil
      rw [upd_ne (Nat.ne_of_lt hb')]
      exact (hf b hb).1
  done := by
    intro X hP hw hK hc i pins s σ H E I hf st hg
    subst hP hw hK
    obtain ⟨⟨old, he⟩, hit, hne, hai, hae⟩ := st
    obtain ⟨xs, hq, hx⟩ := hg
    obtain ⟨its, rv, p, ha⟩ := inv_sqK I hq
    obtain ⟨f0, f1, f2, f3, f4, f5⟩ := hf it (by simp)
    have hl := rv.length
    have hn : i = its.toArray.size := by simp; omega
    subst hn
    exact wpAny_pyNext_enum_endD (drawsK k (A := X.A.in1) (I.ok.hd hc) it a hai its.toArray) he ⟨hit, p⟩ fun h' eb => ⟨rfl, I.turned (t' := s.toks) (fun b o hb q => eb b o hb q) f0 f1 f3 f4 f5⟩
  self := fun A i s Q E st h => let ⟨⟨_, he⟩, _⟩ := st; wpAny_pyIter_enum he h
theorem meets_enumerate_newB1 {v : Value} {o : Obj} {H : Heap → Prop} (B : Begins v o H) :
    Meets (Builtin.«enumerate.__new__» ⟨[.type "enumerate", v], []⟩) (fun _ R s => H s.heap ∧
      R (.ok (.ret (.ref (s.heap.push o).objs.size))) { s with heap := (s.heap.push o).push { cls := .type "enumerate", data := .fields #[.none, .bool false, .ref s.heap.objs.size, rawInt 0, .none, .none] } }) :=
  .of_wp fun prog w A R s h => by
    obtain ⟨hp, g, d, tk, os⟩ := s; obtain ⟨h1, h⟩ := h
    have hsub := sub_enumerate
    have q1 : ∀ {A' : Around} {E : Value → Shared → Prop} {Q : Value → Shared → Prop}, Q (.ref hp.objs.size) ⟨hp.push o, g, d, tk, os⟩ → wpAny (model prog w) A' (pyIter v) Q E ⟨hp, g, d, tk, os⟩ :=
      fun q => B.iter prog w _ _ ⟨hp, g, d, tk, os⟩ _ h1 q
    wp_walk using q1
    refine wpAny_stack_any fun st => wpAny_pure ?_
    split
    · rename_i c _ _ _ _ _
      cases (c == Value.type "enumerate")
      · wp_walk using q1
        exact ⟨_, rfl, h⟩
      · wp_walk using q1
        exact ⟨_, rfl, h⟩
    · wp_walk using q1
      exact ⟨_, rfl, h⟩
theorem enum_begins1 {prog : Program} {w : World} {A : Around} {E : Value → Shared → Prop} {s : Shared} {v : Value} {o : Obj} {H : Heap → Prop} {Q : Value → Shared → Prop} (B : Begins v o H) (h1 : H s.heap)
    (h : ∀ h', IsEnum h' (s.heap.objs.size + 1) s.heap.objs.size 0 .none → h'.get? s.heap.objs.size = some o → h'.objs.size = s.heap.objs.size + 2 →
      (∀ b o, s.heap.get? b = some o → h'.get? b = some o) → Q (.ref (s.heap.objs.size + 1)) { s with heap := h' }) :
    wpAny (model prog w) A (call (.type "enumerate") [v]) Q E s := by
  refine callType_new F.called_enumerate (by decide) (F.typeCall_enumerate_1 _) (F.newCall_enumerate_1 _) (fun obj => F.args_object_init_2 obj _) F.entry_enumerate_new
    (meets_enumerate_newB1 B) ⟨h1, ?_⟩
  have hz : (s.heap.push o).objs.size = s.heap.objs.size + 1 := Heap.size_push ..
  show _ ∧ _
  rw [hz]
  have he : IsEnum ((s.heap.push o).push { cls := .type "enumerate", data := .fields #[.none, .bool false, .ref s.heap.objs.size, rawInt 0, .none, .none] }) (s.heap.objs.size + 1) s.heap.objs.size 0 .none := by
    have := Heap.get?_push_size (s.heap.push o) (o := { cls := .type "enumerate", data := .fields #[.none, .bool false, .ref s.heap.objs.size, rawInt 0, .none, .none] }) rfl
    rw [hz] at this; exact this
  refine ⟨⟨_, he, rfl⟩, h _ he (Heap.get?_push_of_some _ (Heap.get?_push_size _ B.free)) (by rw [Heap.size_push, hz]) fun b o x => Heap.get?_push_of_some _ (Heap.get?_push_of_some _ x)⟩
def iEnumK (K : PySem.W.Frag) (ta : TA) : TI := fun σ H R => ta σ H fun vs H1 => ∃ k a xs, vs = [.ref a] ∧ SqK k K H1 a xs ∧ R (IteK k K a) H1
theorem pi_enumK {X : Cx} {e : Expr} {ta : TA} {p pos tpos : Pos} {elts : List Expr} {kk : Nat} (hg : Gl X "enumerate") (hm : X.mg "enumerate" = none) (ha : PA X [e] ta) (hs : starEach [e] X.env = [(false, eval e X.env)] := by rfl) :
    PI X (.Tuple elts kk tpos) (.Call (.Name "enumerate" p) [e] [] pos) (iEnumK X.K ta) := by
  refine ⟨fun pins s σ H R I h => ?_⟩
  refine Call_ (ld_blt I hg hm boot_enumerate (PyProof.Rows.callWith_type1 (thn (ha.run pos pins s σ H _ I h) fun us s1 ⟨vs, H1, I1, r1, q1⟩ => ?_) hs rfl))
  obtain ⟨k, a, xs, ex, hq, q⟩ := q1
  subst ex
  cases r1 with
  | cons r rr =>
    cases rr
    cases r
    obtain ⟨its, rv, p', hlt⟩ := inv_sqK I1 hq
    refine enum_begins1 (beginsK k a its.toArray) p' fun h' he hit hsz hk => wpAny_pyIter_enum he ?_
    have I2 : Inv X pins σ H1 { s1 with heap := h' } := I1.kept (t' := s1.toks) hk
    refine ⟨s1.heap.objs.size + 1, [s1.heap.objs.size + 1, s1.heap.objs.size], _, _, H1, rfl, I2, turn_enumK k a (s1.heap.objs.size + 1) s1.heap.objs.size, ⟨⟨.none, he⟩, itO_it hit, Nat.succ_ne_self _, Nat.ne_of_lt hlt, Nat.ne_of_lt (Nat.lt_succ_of_lt hlt)⟩, fun b hb => ?_, q⟩
    have e' : b = s1.heap.objs.size + 1 ∨ b = s1.heap.objs.size := by simpa using hb
    have hle : s1.heap.objs.size ≤ b := by
      rcases e' with z | z
      · rw [z]; exact Nat.le_add_right _ _
      · rw [z]; exact Nat.le_refl _
    exact I1.fpOk hle (I1.hok.fresh hle)

/-! ### zip of two -/
def Itz2 (k1 k2 : Bool) (K : PySem.W.Frag) (a b : Addr) : It :=
  ⟨fun i H => ∃ (xs ys : List V) (x y : V), SqK k1 K H a xs ∧ SqK k2 K H b ys ∧ xs[i]? = some x ∧ ys[i]? = some y,
    fun i H v H' => ∃ T o x y, v = .ref T ∧ H T = none ∧ o.dict = none ∧ H' = upd H T (.frz o (.tup [x, y])) ∧ (∀ xs, SqK k1 K H a xs → xs[i]? = some x) ∧ ∀ ys, SqK k2 K H b ys → ys[i]? = some y,
    fun i H => ∃ xs ys : List V, SqK k1 K H a xs ∧ SqK k2 K H b ys ∧ i ≤ xs.length ∧ i ≤ ys.length ∧ (i = xs.length ∨ i = ys.length)⟩
theorem mem3 {α : Type} {b x y : α} {l m : List α} (h : b = x ∨ b = y ∨ b ∈ l) : b ∈ x :: y :: l := by simpa using h
theorem turn_zip2 (k1 k2 : Bool) {P : Program} {w : World} {K : PySem.W.Frag} {elts : List Expr} {kk : Nat} {tpos : Pos} {a b z TI TO i1 i2 : Addr} (S : ZipSep2 z TI TO i1 i2 [i1, a] [i2, b]) (ha : a ≠ i1) (hb : b ≠ i2) :
    Turn P w K (.Tuple elts kk tpos) (Itz2 k1 k2 K a b) [z, TI, TO, i1, i2] z (fun i h => IsZip h z TI TO .none ∧ IsTupOf2 h TI (.ref i1) (.ref i2) ∧ (∃ x y, IsTupOf2 h TO x y) ∧ ItK k1 h i1 a i ∧ ItK k2 h i2 b i) where
  mem := by simp
  obj := fun i h st c hc => by
    obtain ⟨hz, hTI, ⟨x, y, hTO⟩, h1, h2⟩ := st
    have e' : c = z ∨ c = TI ∨ c = TO ∨ c = i1 ∨ c = i2 := by simpa using hc
    rcases e' with q | q | q | q | q
    · rw [q]; exact ⟨_, hz, fun v q => nomatch q⟩
    · rw [q]; exact ⟨_, hTI, fun v q => nomatch q⟩
    · rw [q]; exact ⟨_, hTO, fun v q => nomatch q⟩
    · rw [q]; exact h1.obj
    · rw [q]; exact h2.obj
  keep := fun i h h' st k => by
    obtain ⟨hz, hTI, ⟨x, y, hTO⟩, h1, h2⟩ := st
    exact ⟨k z (by simp) _ hz, k TI (by simp) _ hTI, ⟨x, y, k TO (by simp) _ hTO⟩, h1.at fun o q => k i1 (by simp) o q, h2.at fun o q => k i2 (by simp) o q⟩
  item := by
    intro X hP hw hK hc i pins s σ H E I hf st hg
    subst hP hw hK
    obtain ⟨hz, hTI, ⟨x0, y0, hTO⟩, h1, h2⟩ := st
    obtain ⟨xs, ys, x, y, hqx, hqy, hx, hy⟩ := hg
    obtain ⟨its, rv, p, _⟩ := inv_sqK I hqx
    obtain ⟨its2, rv2, p2, _⟩ := inv_sqK I hqy
    obtain ⟨u, hu, ru⟩ := rv.get hx
    obtain ⟨u2, hu2, ru2⟩ := rv2.get hy
    have hh : X.A.in1.handled = none := I.ok.hd hc
    have hzl : z < s.heap.objs.size := Heap.lt_size hz
    have hu' : its.toArray[i]? = some u := by simpa using hu
    have hu2' : its2.toArray[i]? = some u2 := by simpa using hu2
    refine wpAny_pyNext_zipD2_item S (drawsK k1 hh i1 a ha its.toArray) (drawsK k2 hh i2 b hb its2.toArray) hz hTI hTO ⟨h1, p⟩ ⟨h2, p2⟩ (Array.getElem?_eq_some_iff.mp hu').1 (Array.getElem?_eq_some_iff.mp hu2').1 fun x1 x2 h' tk e1 e2 z' TO' h1' h2' hT hsz hk => ?_
    obtain rfl : x1 = u := by rw [hu'] at e1; exact (Option.some.inj e1).symm
    obtain rfl : x2 = u2 := by rw [hu2'] at e2; exact (Option.some.inj e2).symm
    refine ⟨_, rfl, wpAny_letOwnedTupleGo_zip (s := { s with heap := h', toks := tk }) z' fun h'' z'' sb => ?_⟩
    have hT2 : h''.get? s.heap.objs.size = some { cls := .type "tuple", data := .seq #[x1, x2] } := (sb.2 _ (Nat.ne_of_gt hzl)).trans hT
    have new : ObjOk X.prog X.w (upd H s.heap.objs.size (.frz (TObj [x1, x2]) (.tup [x, y]))) h'' s.heap.objs.size (.frz (TObj [x1, x2]) (.tup [x, y])) :=
      tup_obj (its := [x1, x2]) (.cons ru (.cons ru2 .nil)) (by show 2 ≤ sizeLine; decide) hT2
    have I1 : Inv X pins σ (upd H s.heap.objs.size (.frz (TObj [x1, x2]) (.tup [x, y]))) { s with heap := h'', toks := tk } :=
      I.turnedNew (t' := tk) (ch := [z, TI, TO, i1, i2]) (fun c o hb q => (sb.2 c (fun q' => hb (by simp [q']))).trans (hk c o (fun q' => hb (by simp [q'])) (fun q' => hb (by simp [q'])) (fun q' => hb (by simp [q'])) (fun q' => hb (by simp [q'])) q)) hf (Nat.le_refl _) new
    have zi1 : i1 ≠ z := fun q => S.zf1 (by simp [q])
    have zi2 : i2 ≠ z := fun q => S.zf2 (by simp [q])
    refine ⟨.ref s.heap.objs.size, _, I1, rfl, ⟨_, _, x, y, rfl, I.hok.fresh (Nat.le_refl _), rfl, rfl, fun l hl => by rw [inv_sqK_inj I hl hqx]; exact hx, fun l hl => by rw [inv_sqK_inj I hl hqy]; exact hy⟩, ⟨z'', ?_, ⟨x1, x2, ?_⟩, ?_, ?_⟩, fun c hcm => ?_⟩
    · exact (sb.2 _ S.TIz).trans (hk _ _ S.TIz S.TITO S.TIi1 S.TIi2 hTI)
    · exact (sb.2 _ S.TOz).trans TO'
    · exact h1'.1.at fun o q => (sb.2 _ zi1).trans q
    · exact h2'.1.at fun o q => (sb.2 _ zi2).trans q
    · have hlt : c < s.heap.objs.size := by
        have e' : c = z ∨ c = TI ∨ c = TO ∨ c = i1 ∨ c = i2 := by simpa using hcm
        rcases e' with q | q | q | q | q
        · rw [q]; exact hzl
        · rw [q]; exact Heap.lt_size hTI
        · rw [q]; exact Heap.lt_size hTO
        · rw [q]; obtain ⟨_, e1, _⟩ := h1.obj; exact Heap.lt_size e1
        · rw [q]; obtain ⟨_, e2, _⟩ := h2.obj; exact Heap.lt_size e2
      rw [upd_ne (Nat.ne_of_lt hlt)]
      exact (hf c hcm).1
  done := by
    intro X hP hw hK hc i pins s σ H E I hf st hg
    subst hP hw hK
    obtain ⟨hz, hTI, ⟨x0, y0, hTO⟩, h1, h2⟩ := st
    obtain ⟨xs, ys, hqx, hqy, hle1, hle2, hend⟩ := hg
    obtain ⟨its, rv, p, _⟩ := inv_sqK I hqx
    obtain ⟨its2, rv2, p2, _⟩ := inv_sqK I hqy
    have l1 := rv.length
    have l2 := rv2.length
    have hh : X.A.in1.handled = none := I.ok.hd hc
    exact wpAny_pyNext_zipD2_end S (drawsK k1 hh i1 a ha its.toArray) (drawsK k2 hh i2 b hb its2.toArray) hz hTI hTO ⟨h1, p⟩ ⟨h2, p2⟩ (by simp; omega) (by simp; omega) (by simp; omega) fun h' tk hk => ⟨rfl, I.turnedL (t' := tk) (ch := [z, TI, TO, i1, i2]) (fun c o hb q =>
      hk c o (fun q' => hb (by simp [q'])) (fun q' => hb (by simp [q'])) (fun q' => hb (by simp [q'])) (fun q' => hb (by simp [q'])) q) hf⟩
  self := fun A i s Q E st h => wpAny_pyIter_zip st.1 h
def iZip2 (K : PySem.W.Frag) (ta : TA) : TI := fun σ H R => ta σ H fun vs H1 => ∃ k1 k2 a b xs ys, vs = [.ref a, .ref b] ∧ SqK k1 K H1 a xs ∧ SqK k2 K H1 b ys ∧ R (Itz2 k1 k2 K a b) H1
theorem pi_zip2 {X : Cx} {e e2 : Expr} {ta : TA} {p pos tpos : Pos} {elts : List Expr} {kk : Nat} (hg : Gl X "zip") (hm : X.mg "zip" = none) (ha : PA X [e, e2] ta)
    (hs : starEach [e, e2] X.env = (false, eval e X.env) :: starEach [e2] X.env := by rfl) (hpl : (backTo pos (starEach [e2] X.env)).any (·.1) = false := by rfl) :
    PI X (.Tuple elts kk tpos) (.Call (.Name "zip" p) [e, e2] [] pos) (iZip2 X.K ta) := by
  refine ⟨fun pins s σ H R I h => ?_⟩
  refine Call_ (ld_blt I hg hm PyProof.Rows.boot_zip (PyProof.Rows.callWith_type1 (thn (ha.run pos pins s σ H _ I h) fun us s1 ⟨vs, H1, I1, r1, q1⟩ => ?_) hs hpl))
  obtain ⟨k1, k2, a, b, xs, ys, ex, hqx, hqy, q⟩ := q1
  subst ex
  cases r1 with
  | cons r rr =>
    cases rr with
    | cons r' rr =>
      cases rr
      cases r
      cases r'
      obtain ⟨its, rv, p1, la⟩ := inv_sqK I1 hqx
      obtain ⟨its2, rv2, p2, lb⟩ := inv_sqK I1 hqy
      refine zip_begins2 (beginsK k1 a its.toArray) (beginsK k2 b its2.toArray) p1 p2 fun h' hz hTI hTO h1 h2 hsz hk => wpAny_pyIter_zip hz ?_
      have I2 : Inv X pins σ H1 { s1 with heap := h' } := I1.kept (t' := s1.toks) hk
      refine ⟨s1.heap.objs.size + 4, [s1.heap.objs.size + 4, s1.heap.objs.size + 2, s1.heap.objs.size + 3, s1.heap.objs.size, s1.heap.objs.size + 1], _, _, H1, rfl, I2,
        turn_zip2 k1 k2 (zip_sep2 (fp1 := [a]) (fp2 := [b]) (fun c hc => by rw [List.mem_singleton.mp hc]; exact la) (fun c hc => by rw [List.mem_singleton.mp hc]; exact lb)) (Nat.ne_of_lt la) (Nat.ne_of_lt (Nat.lt_succ_of_lt lb)), ⟨hz, hTI, ⟨_, _, hTO⟩, itO_it h1, itO_it h2⟩, fun c hcm => ?_, q⟩
      have e' : c = s1.heap.objs.size + 4 ∨ c = s1.heap.objs.size + 2 ∨ c = s1.heap.objs.size + 3 ∨ c = s1.heap.objs.size ∨ c = s1.heap.objs.size + 1 := by simpa using hcm
      have hle : s1.heap.objs.size ≤ c := by
        rcases e' with z | z | z | z | z
        · rw [z]; exact Nat.le_add_right _ _
        · rw [z]; exact Nat.le_add_right _ _
        · rw [z]; exact Nat.le_add_right _ _
        · rw [z]; exact Nat.le_refl _
        · rw [z]; exact Nat.le_add_right _ _
      exact I1.fpOk hle (I1.hok.fresh hle)

/-! ### zip of three -/
def Itz3 (k1 k2 k3 : Bool) (K : PySem.W.Frag) (a b d : Addr) : It :=
  ⟨fun i H => ∃ (xs ys zs : List V) (x y z : V), SqK k1 K H a xs ∧ SqK k2 K H b ys ∧ SqK k3 K H d zs ∧ xs[i]? = some x ∧ ys[i]? = some y ∧ zs[i]? = some z,
    fun i H v H' => ∃ T o x y z, v = .ref T ∧ H T = none ∧ o.dict = none ∧ H' = upd H T (.frz o (.tup [x, y, z])) ∧ (∀ xs, SqK k1 K H a xs → xs[i]? = some x) ∧ (∀ ys, SqK k2 K H b ys → ys[i]? = some y) ∧ ∀ zs, SqK k3 K H d zs → zs[i]? = some z,
    fun i H => ∃ xs ys zs : List V, SqK k1 K H a xs ∧ SqK k2 K H b ys ∧ SqK k3 K H d zs ∧ i ≤ xs.length ∧ i ≤ ys.length ∧ i ≤ zs.length ∧ (i = xs.length ∨ i = ys.length ∨ i = zs.length)⟩
theorem turn_zip3 (k1 k2 k3 : Bool) {P : Program} {w : World} {K : PySem.W.Frag} {elts : List Expr} {kk : Nat} {tpos : Pos} {a b d z TI TO i1 i2 i3 : Addr} (S : ZipSep3 z TI TO i1 i2 i3 [i1, a] [i2, b] [i3, d]) (ha : a ≠ i1) (hb : b ≠ i2) (hd : d ≠ i3) :
    Turn P w K (.Tuple elts kk tpos) (Itz3 k1 k2 k3 K a b d) [z, TI, TO, i1, i2, i3] z (fun i h => IsZip h z TI TO .none ∧ IsTupOf3 h TI (.ref i1) (.ref i2) (.ref i3) ∧ (∃ x y q, IsTupOf3 h TO x y q) ∧ ItK k1 h i1 a i ∧ ItK k2 h i2 b i ∧ ItK k3 h i3 d i) where
  mem := by simp
  obj := fun i h st c hc => by
    obtain ⟨hz, hTI, ⟨x, y, q, hTO⟩, h1, h2, h3⟩ := st
    have e' : c = z ∨ c = TI ∨ c = TO ∨ c = i1 ∨ c = i2 ∨ c = i3 := by simpa using hc
    rcases e' with q | q | q | q | q | q
    · rw [q]; exact ⟨_, hz, fun v q => nomatch q⟩
    · rw [q]; exact ⟨_, hTI, fun v q => nomatch q⟩
    · rw [q]; exact ⟨_, hTO, fun v q => nomatch q⟩
    · rw [q]; exact h1.obj
    · rw [q]; exact h2.obj
    · rw [q]; exact h3.obj
  keep := fun i h h' st k => by
    obtain ⟨hz, hTI, ⟨x, y, q, hTO⟩, h1, h2, h3⟩ := st
    exact ⟨k z (by simp) _ hz, k TI (by simp) _ hTI, ⟨x, y, q, k TO (by simp) _ hTO⟩, h1.at fun o q => k i1 (by simp) o q, h2.at fun o q => k i2 (by simp) o q, h3.at fun o q => k i3 (by simp) o q⟩
  item := by
    intro X hP hw hK hc i pins s σ H E I hf st hg
    subst hP hw hK
    obtain ⟨hz, hTI, ⟨x0, y0, q0, hTO⟩, h1, h2, h3⟩ := st
    obtain ⟨xs, ys, zs, x, y, v, hqx, hqy, hqz, hx, hy, hv⟩ := hg
    obtain ⟨its, rv, p, _⟩ := inv_sqK I hqx
    obtain ⟨its2, rv2, p2, _⟩ := inv_sqK I hqy
    obtain ⟨its3, rv3, p3, _⟩ := inv_sqK I hqz
    obtain ⟨u, hu, ru⟩ := rv.get hx
    obtain ⟨u2, hu2, ru2⟩ := rv2.get hy
    obtain ⟨u3, hu3, ru3⟩ := rv3.get hv
    have hh : X.A.in1.handled = none := I.ok.hd hc
    have hzl : z < s.heap.objs.size := Heap.lt_size hz
    have hu' : its.toArray[i]? = some u := by simpa using hu
    have hu2' : its2.toArray[i]? = some u2 := by simpa using hu2
    have hu3' : its3.toArray[i]? = some u3 := by simpa using hu3
    refine wpAny_pyNext_zipD3_item S (drawsK k1 hh i1 a ha its.toArray) (drawsK k2 hh i2 b hb its2.toArray) (drawsK k3 hh i3 d hd its3.toArray) hz hTI hTO ⟨h1, p⟩ ⟨h2, p2⟩ ⟨h3, p3⟩ (Array.getElem?_eq_some_iff.mp hu').1 (Array.getElem?_eq_some_iff.mp hu2').1 (Array.getElem?_eq_some_iff.mp hu3').1 fun x1 x2 x3 h' tk e1 e2 e3 z' TO' h1' h2' h3' hT hsz hk => ?_
    obtain rfl : x1 = u := by rw [hu'] at e1; exact (Option.some.inj e1).symm
    obtain rfl : x2 = u2 := by rw [hu2'] at e2; exact (Option.some.inj e2).symm
    obtain rfl : x3 = u3 := by rw [hu3'] at e3; exact (Option.some.inj e3).symm
    refine ⟨_, rfl, wpAny_letOwnedTupleGo_zip (s := { s with heap := h', toks := tk }) z' fun h'' z'' sb => ?_⟩
    have hT2 : h''.get? s.heap.objs.size = some { cls := .type "tuple", data := .seq #[x1, x2, x3] } := (sb.2 _ (Nat.ne_of_gt hzl)).trans hT
    have new : ObjOk X.prog X.w (upd H s.heap.objs.size (.frz (TObj [x1, x2, x3]) (.tup [x, y, v]))) h'' s.heap.objs.size (.frz (TObj [x1, x2, x3]) (.tup [x, y, v])) :=
      tup_obj (its := [x1, x2, x3]) (.cons ru (.cons ru2 (.cons ru3 .nil))) (by show 3 ≤ sizeLine; decide) hT2
    have I1 : Inv X pins σ (upd H s.heap.objs.size (.frz (TObj [x1, x2, x3]) (.tup [x, y, v]))) { s with heap := h'', toks := tk } :=
      I.turnedNew (t' := tk) (ch := [z, TI, TO, i1, i2, i3]) (fun c o hb q => (sb.2 c (fun q' => hb (by simp [q']))).trans (hk c o (fun q' => hb (by simp [q'])) (fun q' => hb (by simp [q'])) (fun q' => hb (by simp [q'])) (fun q' => hb (by simp [q'])) (fun q' => hb (by simp [q'])) q)) hf (Nat.le_refl _) new
    have zi1 : i1 ≠ z := fun q => S.zf1 (by simp [q])
    have zi2 : i2 ≠ z := fun q => S.zf2 (by simp [q])
    have zi3 : i3 ≠ z := fun q => S.zf3 (by simp [q])
    refine ⟨.ref s.heap.objs.size, _, I1, rfl, ⟨_, _, x, y, v, rfl, I.hok.fresh (Nat.le_refl _), rfl, rfl, fun l hl => by rw [inv_sqK_inj I hl hqx]; exact hx, fun l hl => by rw [inv_sqK_inj I hl hqy]; exact hy, fun l hl => by rw [inv_sqK_inj I hl hqz]; exact hv⟩, ⟨z'', ?_, ⟨x1, x2, x3, ?_⟩, ?_, ?_, ?_⟩, fun c hcm => ?_⟩
    · exact (sb.2 _ S.TIz).trans (hk _ _ S.TIz S.TITO S.TIi1 S.TIi2 S.TIi3 hTI)
    · exact (sb.2 _ S.TOz).trans TO'
    · exact h1'.1.at fun o q => (sb.2 _ zi1).trans q
    · exact h2'.1.at fun o q => (sb.2 _ zi2).trans q
    · exact h3'.1.at fun o q => (sb.2 _ zi3).trans q
    · have hlt : c < s.heap.objs.size := by
        have e' : c = z ∨ c = TI ∨ c = TO ∨ c = i1 ∨ c = i2 ∨ c = i3 := by simpa using hcm
        rcases e' with q | q | q | q | q | q
        · rw [q]; exact hzl
        · rw [q]; exact Heap.lt_size hTI
        · rw [q]; exact Heap.lt_size hTO
        · rw [q]; obtain ⟨_, e1, _⟩ := h1.obj; exact Heap.lt_size e1
        · rw [q]; obtain ⟨_, e2, _⟩ := h2.obj; exact Heap.lt_size e2
        · rw [q]; obtain ⟨_, e3, _⟩ := h3.obj; exact Heap.lt_size e3
      rw [upd_ne (Nat.ne_of_lt hlt)]
      exact (hf c hcm).1
  done := by
    intro X hP hw hK hc i pins s σ H E I hf st hg
    subst hP hw hK
    obtain ⟨hz, hTI, ⟨x0, y0, q0, hTO⟩, h1, h2, h3⟩ := st
    obtain ⟨xs, ys, zs, hqx, hqy, hqz, hle1, hle2, hle3, hend⟩ := hg
    obtain ⟨its, rv, p, _⟩ := inv_sqK I hqx
    obtain ⟨its2, rv2, p2, _⟩ := inv_sqK I hqy
    obtain ⟨its3, rv3, p3, _⟩ := inv_sqK I hqz
    have l1 := rv.length
    have l2 := rv2.length
    have l3 := rv3.length
    have hh : X.A.in1.handled = none := I.ok.hd hc
    exact wpAny_pyNext_zipD3_end S (drawsK k1 hh i1 a ha its.toArray) (drawsK k2 hh i2 b hb its2.toArray) (drawsK k3 hh i3 d hd its3.toArray) hz hTI hTO ⟨h1, p⟩ ⟨h2, p2⟩ ⟨h3, p3⟩ (by simp; omega) (by simp; omega) (by simp; omega) (by simp; omega) fun h' tk hk => ⟨rfl, I.turnedL (t' := tk) (ch := [z, TI, TO, i1, i2, i3]) (fun c o hb q =>
      hk c o (fun q' => hb (by simp [q'])) (fun q' => hb (by simp [q'])) (fun q' => hb (by simp [q'])) (fun q' => hb (by simp [q'])) (fun q' => hb (by simp [q'])) q) hf⟩
  self := fun A i s Q E st h => wpAny_pyIter_zip st.1 h
def iZip3 (K : PySem.W.Frag) (ta : TA) : TI := fun σ H R => ta σ H fun vs H1 => ∃ k1 k2 k3 a b d xs ys zs, vs = [.ref a, .ref b, .ref d] ∧ SqK k1 K H1 a xs ∧ SqK k2 K H1 b ys ∧ SqK k3 K H1 d zs ∧ R (Itz3 k1 k2 k3 K a b d) H1
theorem pi_zip3 {X : Cx} {e e2 e3 : Expr} {ta : TA} {p pos tpos : Pos} {elts : List Expr} {kk : Nat} (hg : Gl X "zip") (hm : X.mg "zip" = none) (ha : PA X [e, e2, e3] ta)
    (hs : starEach [e, e2, e3] X.env = (false, eval e X.env) :: starEach [e2, e3] X.env := by rfl) (hpl : (backTo pos (starEach [e2, e3] X.env)).any (·.1) = false := by rfl) :
    PI X (.Tuple elts kk tpos) (.Call (.Name "zip" p) [e, e2, e3] [] pos) (iZip3 X.K ta) := by
  refine ⟨fun pins s σ H R I h => ?_⟩
  refine Call_ (ld_blt I hg hm PyProof.Rows.boot_zip (PyProof.Rows.callWith_type1 (thn (ha.run pos pins s σ H _ I h) fun us s1 ⟨vs, H1, I1, r1, q1⟩ => ?_) hs hpl))
  obtain ⟨k1, k2, k3, a, b, d, xs, ys, zs, ex, hqx, hqy, hqz, q⟩ := q1
  subst ex
  cases r1 with
  | cons r rr =>
    cases rr with
    | cons r' rr =>
      cases rr with
      | cons r'' rr =>
        cases rr
        cases r
        cases r'
        cases r''
        obtain ⟨its, rv, p1, la⟩ := inv_sqK I1 hqx
        obtain ⟨its2, rv2, p2, lb⟩ := inv_sqK I1 hqy
        obtain ⟨its3, rv3, p3, ld⟩ := inv_sqK I1 hqz
        refine zip_begins3 (beginsK k1 a its.toArray) (beginsK k2 b its2.toArray) (beginsK k3 d its3.toArray) p1 p2 p3 fun h' hz hTI hTO h1 h2 h3 hsz hk => wpAny_pyIter_zip hz ?_
        have I2 : Inv X pins σ H1 { s1 with heap := h' } := I1.kept (t' := s1.toks) hk
        refine ⟨s1.heap.objs.size + 5, [s1.heap.objs.size + 5, s1.heap.objs.size + 3, s1.heap.objs.size + 4, s1.heap.objs.size, s1.heap.objs.size + 1, s1.heap.objs.size + 2], _, _, H1, rfl, I2,
          turn_zip3 k1 k2 k3 (zip_sep3 (fp1 := [a]) (fp2 := [b]) (fp3 := [d]) (fun c hc => by rw [List.mem_singleton.mp hc]; exact la) (fun c hc => by rw [List.mem_singleton.mp hc]; exact lb) (fun c hc => by rw [List.mem_singleton.mp hc]; exact ld)) (Nat.ne_of_lt la) (Nat.ne_of_lt (Nat.lt_succ_of_lt lb)) (Nat.ne_of_lt (Nat.lt_succ_of_lt (Nat.lt_succ_of_lt ld))), ⟨hz, hTI, ⟨_, _, _, hTO⟩, itO_it h1, itO_it h2, itO_it h3⟩, fun c hcm => ?_, q⟩
        have e' : c = s1.heap.objs.size + 5 ∨ c = s1.heap.objs.size + 3 ∨ c = s1.heap.objs.size + 4 ∨ c = s1.heap.objs.size ∨ c = s1.heap.objs.size + 1 ∨ c = s1.heap.objs.size + 2 := by simpa using hcm
        have hle : s1.heap.objs.size ≤ c := by
          rcases e' with z | z | z | z | z | z
          · rw [z]; exact Nat.le_add_right _ _
          · rw [z]; exact Nat.le_add_right _ _
          · rw [z]; exact Nat.le_add_right _ _
          · rw [z]; exact Nat.le_refl _
          · rw [z]; exact Nat.le_add_right _ _
          · rw [z]; exact Nat.le_add_right _ _
        exact I1.fpOk hle (I1.hok.fresh hle)
end MP

/-! MP5: what is walked; comprehensions -/
namespace MP
open PySem PySem.Spec PyProof.Rows L2
/-- the items of a known list, of a tuple, the signs of a text -/
def itemsD : Vl → Option (List D)
  | .d (.lst ds) => some ds
  | .d (.tup ds) => some ds
  | .d (.str s) => some (s.cps.toList.map fun c => .str ⟨#[c]⟩)
  | _ => none
def seqI (e : Ex) : Li := fun η S => (e η S).bind fun v S1 => match itemsD v with
  | some ds => .ok ds S1
  | none => .stuck
def rangeD (lo : Int) (n : Nat) : List D := (List.range n).map fun (i : Nat) => .int (lo + i)
def rangeDc (lo c : Int) (n : Nat) : List D := (List.range n).map fun (i : Nat) => .int (lo + i * c)
def rng1 (vs : List Vl) (S : Store) : Res (List D) := match vs with
  | [.d (.int j)] => if -4611686018427387904 ≤ j ∧ j < 4611686018427387904 then .ok (rangeD 0 j.toNat) S else .stuck
  | _ => .stuck
def rng2 (vs : List Vl) (S : Store) : Res (List D) := match vs with
  | [.d (.int i), .d (.int j)] => if (-4611686018427387904 ≤ i ∧ i < 4611686018427387904) ∧ -4611686018427387904 ≤ j ∧ j < 4611686018427387904 then .ok (rangeD i (j - i).toNat) S else .stuck
  | _ => .stuck
def rng3 (vs : List Vl) (S : Store) : Res (List D) := match vs with
  | [.d (.int i), .d (.int j), .d (.int (-1))] => if (-1048576 ≤ i ∧ i ≤ 1048576) ∧ (-1048576 ≤ j ∧ j ≤ 1048576) then .ok (rangeDc i (-1) (i - j).toNat) S else .stuck
  | _ => .stuck
def rngI1 (a : As) : Li := fun η S => (a η S).bind rng1
def rngI2 (a : As) : Li := fun η S => (a η S).bind rng2
def rngI3 (a : As) : Li := fun η S => (a η S).bind rng3
def zip2D (xs ys : List D) : List D := List.zipWith (fun x y => .tup [x, y]) xs ys
def zip3D : List D → List D → List D → List D
  | x :: xs, y :: ys, z :: zs => .tup [x, y, z] :: zip3D xs ys zs
  | _, _, _ => []
def enumD (n : Nat) : List D → List D
  | [] => []
  | x :: xs => .tup [.int n, x] :: enumD (n + 1) xs
/-- lists and tuples alone -/
def itemsT : Vl → Option (List D)
  | .d (.lst ds) => some ds
  | .d (.tup ds) => some ds
  | _ => none
def zip2S (vs : List Vl) (S : Store) : Res (List D) := match vs with
  | [x, y] => match itemsT x, itemsT y with
    | some xs, some ys => .ok (zip2D xs ys) S
    | _, _ => .stuck
  | _ => .stuck
def zip3S (vs : List Vl) (S : Store) : Res (List D) := match vs with
  | [x, y, z] => match itemsT x, itemsT y, itemsT z with
    | some xs, some ys, some zs => .ok (zip3D xs ys zs) S
    | _, _, _ => .stuck
  | _ => .stuck
def zipI2 (a : As) : Li := fun η S => (a η S).bind zip2S
def zipI3 (a : As) : Li := fun η S => (a η S).bind zip3S
def enumI (a : As) : Li := fun η S => (a η S).bind fun vs S1 => match vs with
  | [x] => match itemsT x with
    | some xs => .ok (enumD 0 xs) S1
    | none => .stuck
  | _ => .stuck

theorem L2PI_or {X : Cx} {tg e : Expr} {t1 t2 : TI} (h1 : PI X tg e t1) (h2 : PI X tg e t2) : PI X tg e (fun σ H R => t1 σ H R ∨ t2 σ H R) :=
  ⟨fun pins s σ H R I q => q.elim (h1.run pins s σ H R I) (h2.run pins s σ H R I)⟩
section
variable {X : Cx} {G : GI} {W : WX} {pos : Pos}
theorem RDs.get2 {M : Hp} : ∀ {ds : List D} {vs : List V} {i : Nat} {v : V}, RDs G M ds vs → vs[i]? = some v → ∃ d, ds[i]? = some d ∧ RD G M d v
  | _, _, _, _, .nil, e => by simp at e
  | _, _, 0, _, .cons h _, e => by simp at e; subst e; exact ⟨_, rfl, h⟩
  | _, _, i + 1, v, .cons _ t, e => by
    obtain ⟨d, h1, h2⟩ := t.get2 (i := i) (v := v) (by simpa using e)
    exact ⟨d, by simpa using h1, h2⟩
theorem ok_list {w : Wd} {a : Addr} {vs : List V} {ds : List D} (h : SqL G.K w.M a vs) (r : RDs G w.M ds vs) : ItOk G (Itl G.K a) w.M ds where
  go := fun i w' S H hs hR hi => by
    obtain ⟨v, e, _⟩ := r.get (List.getElem?_eq_getElem hi)
    exact ⟨vs, v, hR.sub.l (hs.l h), e⟩
  yld := fun i w' S H x H' hs hR hi y => by
    obtain ⟨rfl, y⟩ := y
    obtain ⟨d, e1, e2⟩ := r.get2 (y vs (hR.sub.l (hs.l h)))
    exact ⟨d, w', e1, Go.refl _ _, hR, .d (e2.mono hs)⟩
  stop := fun w' S H hs hR => ⟨vs, hR.sub.l (hs.l h), by rw [r.length]; exact Nat.le_refl _⟩
theorem ok_tup {w : Wd} {a : Addr} {vs : List V} {ds : List D} (h : SqT G.K w.M a vs) (r : RDs G w.M ds vs) : ItOk G (Itt G.K a) w.M ds where
  go := fun i w' S H hs hR hi => by
    obtain ⟨v, e, _⟩ := r.get (List.getElem?_eq_getElem hi)
    exact ⟨vs, v, hR.sub.t (hs.t h), e⟩
  yld := fun i w' S H x H' hs hR hi y => by
    obtain ⟨rfl, y⟩ := y
    obtain ⟨d, e1, e2⟩ := r.get2 (y vs (hR.sub.t (hs.t h)))
    exact ⟨d, w', e1, Go.refl _ _, hR, .d (e2.mono hs)⟩
  stop := fun w' S H hs hR => ⟨vs, hR.sub.t (hs.t h), by rw [r.length]; exact Nat.le_refl _⟩
theorem ok_str {M : Hp} (z : Str) : ItOk G (Its z) M (z.cps.toList.map fun c => .str ⟨#[c]⟩) where
  go := fun i w' S H hs hR hi => by simpa [Its] using hi
  yld := fun i w' S H x H' hs hR hi y => by
    obtain ⟨rfl, c, e, rfl⟩ := y
    exact ⟨_, w', by rw [List.getElem?_map, Array.getElem?_toList, e]; rfl, Go.refl _ _, hR, .d (.str _)⟩
  stop := fun w' S H hs hR => by simp [Its]
theorem mi_seq {tg e : Expr} {f : Ex} (hK : X.K = G.K) (h : PE X e (tE G W f)) : PI X tg e (tI G W (seqI f)) := by
  refine (L2PI_or (L2PI_or (pi_list h) (pi_tup h)) (pi_str h)).imp fun σ H R ⟨w, S, η, hR, hE, q⟩ => ?_
  revert q
  unfold seqI
  cases hf : f η S with
  | ok v S1 =>
    intro q
    simp only [Res.bind] at q
    cases v with
    | d x => cases x with
      | lst ds =>
        refine .inl (.inl ⟨w, S, η, hR, hE, ?_⟩)
        rw [hf]
        intro w1 H1 x g hR1 r
        cases r with | d r => cases r with
          | lst s r => rw [hK]; exact ⟨_, rfl, ⟨_, hR1.sub.l (SqL.of s)⟩, q w1 H1 _ g hR1 (ok_list (SqL.of s) r)⟩
      | tup ds =>
        refine .inl (.inr ⟨w, S, η, hR, hE, ?_⟩)
        rw [hf]
        intro w1 H1 x g hR1 r
        cases r with | d r => cases r with
          | tup s r => rw [hK]; exact ⟨_, rfl, ⟨_, hR1.sub.t s.t⟩, q w1 H1 _ g hR1 (ok_tup s.t r)⟩
      | str z =>
        refine .inr ⟨w, S, η, hR, hE, ?_⟩
        rw [hf]
        intro w1 H1 x g hR1 r
        cases r with | d r => cases r with
          | str z => exact ⟨z, rfl, q w1 H1 _ g hR1 (ok_str z)⟩
      | _ => exact q.elim
    | p _ => exact q.elim
    | t _ => exact q.elim
  | exc c S1 =>
    intro q
    refine .inl (.inl ⟨w, S, η, hR, hE, ?_⟩)
    rw [hf]
    exact q
  | stuck => exact fun q => q.elim
theorem ok_range {M : Hp} (lo : Int) (n : Nat) : ItOk G (Itr lo n) M (rangeD lo n) where
  go := fun i w' S H hs hR hi => by simpa [Itr, rangeD] using hi
  yld := fun i w' S H x H' hs hR hi y => by
    obtain ⟨rfl, rfl⟩ := y
    have hi : i < n := by simpa [rangeD] using hi
    exact ⟨_, w', by unfold rangeD; rw [List.getElem?_map, List.getElem?_range hi]; rfl, Go.refl _ _, hR, .d (.int _)⟩
  stop := fun w' S H hs hR => by simp [Itr, rangeD]
theorem ok_rangec {M : Hp} (lo c : Int) (n : Nat) : ItOk G (Itc lo c n) M (rangeDc lo c n) where
  go := fun i w' S H hs hR hi => by simpa [Itc, rangeDc] using hi
  yld := fun i w' S H x H' hs hR hi y => by
    obtain ⟨rfl, rfl⟩ := y
    have hi : i < n := by simpa [rangeDc] using hi
    exact ⟨_, w', by unfold rangeDc; rw [List.getElem?_map, List.getElem?_range hi]; rfl, Go.refl _ _, hR, .d (.int _)⟩
  stop := fun w' S H hs hR => by simp [Itc, rangeDc]
theorem int1 {w : Wd} {j : Int} {v : V} (r : RV G w (.d (.int j)) v) : v = .int j := by
  cases r with | d r => cases r with | int => rfl
theorem mi_range1 {tg a : Expr} {f : As} {p : Pos} (hm : X.mg "range" = none) (hg : Gl X "range") (ha : PA X [a] (tA G W f)) (hs : starEach [a] X.env = [(false, eval a X.env)] := by rfl) : PI X tg (.Call (.Name "range" p) [a] [] pos) (tI G W (rngI1 f)) := by
  refine (pi_range1 hg hm ha hs).imp fun σ H R ⟨w, S, η, hR, hE, q⟩ => ⟨w, S, η, hR, hE, Post.thn q fun w1 S1 H1 vs us g hR1 r q1 => ?_⟩
  unfold rng1 at q1
  split at q1
  · rename_i j
    cases r with | cons r rs =>
      cases rs
      cases int1 r
      split at q1
      · rename_i hj
        exact ⟨j, rfl, by omega, by omega, q1 w1 H1 _ (Go.refl _ _) hR1 (ok_range 0 j.toNat)⟩
      · exact q1.elim
  · exact q1.elim
theorem mi_range2 {tg a b : Expr} {f : As} {p : Pos} (hm : X.mg "range" = none) (hg : Gl X "range") (ha : PA X [a, b] (tA G W f)) (hs : starEach [a, b] X.env = [(false, eval a X.env), (false, eval b X.env)] := by rfl) (hs2 : starEach [b] X.env = [(false, eval b X.env)] := by rfl) :
    PI X tg (.Call (.Name "range" p) [a, b] [] pos) (tI G W (rngI2 f)) := by
  refine (pi_range2 hg hm ha hs hs2).imp fun σ H R ⟨w, S, η, hR, hE, q⟩ => ⟨w, S, η, hR, hE, Post.thn q fun w1 S1 H1 vs us g hR1 r q1 => ?_⟩
  unfold rng2 at q1
  split at q1
  · rename_i i j
    cases r with | cons r rs => cases rs with | cons r2 rs =>
      cases rs
      cases int1 r
      cases int1 r2
      split at q1
      · rename_i hj
        exact ⟨i, j, rfl, by omega, q1 w1 H1 _ (Go.refl _ _) hR1 (ok_range i (j - i).toNat)⟩
      · exact q1.elim
  · exact q1.elim
theorem mi_range3 {tg a b c : Expr} {f : As} {p : Pos} (hm : X.mg "range" = none) (hg : Gl X "range") (ha : PA X [a, b, c] (tA G W f)) (hs : starEach [a, b, c] X.env = (false, eval a X.env) :: starEach [b, c] X.env := by rfl) (hpl : (backTo pos (starEach [b, c] X.env)).any (·.1) = false := by rfl) :
    PI X tg (.Call (.Name "range" p) [a, b, c] [] pos) (tI G W (rngI3 f)) := by
  refine (pi_range3 hg hm ha hs hpl).imp fun σ H R ⟨w, S, η, hR, hE, q⟩ => ⟨w, S, η, hR, hE, Post.thn q fun w1 S1 H1 vs us g hR1 r q1 => ?_⟩
  unfold rng3 at q1
  split at q1
  · rename_i i j
    cases r with | cons r rs => cases rs with | cons r2 rs => cases rs with | cons r3 rs =>
      cases rs
      cases int1 r
      cases int1 r2
      cases int1 r3
      split at q1
      · rename_i hj
        exact ⟨i, j, -1, _, rfl, RgC.neg (by omega) (by omega) (by omega) (by omega), q1 w1 H1 _ (Go.refl _ _) hR1 (ok_rangec i (-1) (i - j).toNat)⟩
      · exact q1.elim
  · exact q1.elim
theorem me_kind {w : Wd} {S : Store} {H : Hp} (hR : Rel G w S H) {v : Vl} {x : V} {ds : List D} (e : itemsT v = some ds) (r : RV G w v x) : ∃ k a xs, x = .ref a ∧ SqK k G.K w.M a xs ∧ RDs G w.M ds xs := by
  unfold itemsT at e
  split at e
  · cases e; cases r with | d r => cases r with | lst s r => exact ⟨true, _, _, rfl, SqL.of s, r⟩
  · cases e; cases r with | d r => cases r with | tup s r => exact ⟨false, _, _, rfl, s.t, r⟩
  · cases e
theorem Sub.k {k : Bool} {K : PySem.W.Frag} {M M' : Hp} {a : Addr} {xs : List V} (e : Sub M M') (h : SqK k K M a xs) : SqK k K M' a xs := by
  cases k with
  | true => exact e.l h
  | false => exact e.t h
theorem tup_new {w : Wd} {S : Store} {H : Hp} (hR : Rel G w S H) {p : Addr} {o : Obj} (hp : H p = none) (hd : o.dict = none) {ds : List D} {xs : List V} (r : RDs G w.M ds xs) : Rel G ⟨upd w.M p (.frz o (.tup xs)), w.ρ⟩ S (upd H p (.frz o (.tup xs))) ∧ Go w H ⟨upd w.M p (.frz o (.tup xs)), w.ρ⟩ (upd H p (.frz o (.tup xs))) ∧ RV G ⟨upd w.M p (.frz o (.tup xs)), w.ρ⟩ (.d (.tup ds)) (.ref p) :=
  ⟨hR.fix hp, Go.fix hR hp, .d (.tup (.new hd) (r.mono (Sub.new (hR.sub.free hp))))⟩
theorem enumD_len : ∀ (ds : List D) (n : Nat), (enumD n ds).length = ds.length
  | [], _ => rfl
  | _ :: ds, n => by show (enumD (n + 1) ds).length + 1 = _; rw [enumD_len ds]; rfl
theorem enumD_get : ∀ {ds : List D} {n i : Nat} {d : D}, ds[i]? = some d → (enumD n ds)[i]? = some (.tup [.int ((n + i : Nat) : Int), d])
  | [], _, _, _, h => by simp at h
  | x :: ds, n, 0, d, h => by simp at h; subst h; rfl
  | x :: ds, n, i + 1, d, h => by
    have := enumD_get (n := n + 1) (i := i) (d := d) (by simpa using h)
    show (enumD (n + 1) ds)[i]? = _
    rw [this, Nat.add_assoc, Nat.add_comm 1 i]
theorem ok_enum {w : Wd} {k : Bool} {a : Addr} {vs : List V} {ds : List D} (h : SqK k G.K w.M a vs) (r : RDs G w.M ds vs) : ItOk G (IteK k G.K a) w.M (enumD 0 ds) where
  go := fun i w' S H hs hR hi => by
    rw [enumD_len] at hi
    obtain ⟨v, e, _⟩ := r.get (List.getElem?_eq_getElem hi)
    exact ⟨vs, v, hR.sub.k (hs.k h), e⟩
  yld := fun i w' S H x H' hs hR hi y => by
    obtain ⟨T, o, v, rfl, hT, hd, rfl, y⟩ := y
    obtain ⟨d, e1, e2⟩ := r.get2 (y vs (hR.sub.k (hs.k h)))
    obtain ⟨q1, q2, q3⟩ := tup_new hR hT hd (ds := [.int (i : Nat), d]) (.cons (.int (i : Nat)) (.cons (e2.mono hs) .nil))
    exact ⟨_, _, by rw [enumD_get e1, Nat.zero_add], q2, q1, q3⟩
  stop := fun w' S H hs hR => ⟨vs, hR.sub.k (hs.k h), by rw [enumD_len, r.length]⟩
theorem mi_enum {e : Expr} {f : As} {p tpos : Pos} {elts : List Expr} {kk : Nat} (hK : X.K = G.K) (hm : X.mg "enumerate" = none) (hg : Gl X "enumerate") (ha : PA X [e] (tA G W f)) (hs : starEach [e] X.env = [(false, eval e X.env)] := by rfl) :
    PI X (.Tuple elts kk tpos) (.Call (.Name "enumerate" p) [e] [] pos) (tI G W (enumI f)) := by
  refine (pi_enumK hg hm ha hs).imp fun σ H R ⟨w, S, η, hR, hE, q⟩ => ⟨w, S, η, hR, hE, Post.thn q fun w1 S1 H1 vs us g hR1 r q1 => ?_⟩
  split at q1
  · split at q1
    · rename_i xs e
      cases r with | cons r rs =>
        cases rs
        obtain ⟨k, a, ys, rfl, s, r⟩ := me_kind hR1 e r
        rw [hK]
        exact ⟨k, a, ys, rfl, hR1.sub.k s, q1 w1 H1 _ (Go.refl _ _) hR1 (ok_enum s r)⟩
    · exact q1.elim
  · exact q1.elim
theorem zip2D_get {xs ys : List D} {i : Nat} {x y : D} (h1 : xs[i]? = some x) (h2 : ys[i]? = some y) : (zip2D xs ys)[i]? = some (.tup [x, y]) := by
  unfold zip2D; rw [List.getElem?_zipWith, h1, h2]
theorem ok_zip2 {w : Wd} {k1 k2 : Bool} {a b : Addr} {vs us : List V} {ds es : List D} (h : SqK k1 G.K w.M a vs) (r : RDs G w.M ds vs) (h2 : SqK k2 G.K w.M b us) (r2 : RDs G w.M es us) : ItOk G (Itz2 k1 k2 G.K a b) w.M (zip2D ds es) where
  go := fun i w' S H hs hR hi => by
    unfold zip2D at hi
    rw [List.length_zipWith] at hi
    obtain ⟨v, e, _⟩ := r.get (List.getElem?_eq_getElem (show i < ds.length by omega))
    obtain ⟨u, e2, _⟩ := r2.get (List.getElem?_eq_getElem (show i < es.length by omega))
    exact ⟨vs, us, v, u, hR.sub.k (hs.k h), hR.sub.k (hs.k h2), e, e2⟩
  yld := fun i w' S H x H' hs hR hi y => by
    obtain ⟨T, o, v, u, rfl, hT, hd, rfl, y1, y2⟩ := y
    obtain ⟨d, e1, q1⟩ := r.get2 (y1 vs (hR.sub.k (hs.k h)))
    obtain ⟨d2, e2, q2⟩ := r2.get2 (y2 us (hR.sub.k (hs.k h2)))
    obtain ⟨p1, p2, p3⟩ := tup_new hR hT hd (ds := [d, d2]) (.cons (q1.mono hs) (.cons (q2.mono hs) .nil))
    exact ⟨_, _, zip2D_get e1 e2, p2, p1, p3⟩
  stop := fun w' S H hs hR => ⟨vs, us, hR.sub.k (hs.k h), hR.sub.k (hs.k h2), by
    unfold zip2D
    rw [List.length_zipWith, ← r.length, ← r2.length]
    omega⟩
theorem zip3D_len : ∀ (xs ys zs : List D), (zip3D xs ys zs).length = min xs.length (min ys.length zs.length)
  | [], _, _ => by simp [zip3D]
  | _ :: _, [], _ => by simp [zip3D]
  | _ :: _, _ :: _, [] => by simp [zip3D]
  | _ :: xs, _ :: ys, _ :: zs => by
    show (zip3D xs ys zs).length + 1 = _
    rw [zip3D_len xs ys zs]
    simp only [List.length_cons]
    omega
theorem zip3D_get : ∀ {xs ys zs : List D} {i : Nat} {x y z : D}, xs[i]? = some x → ys[i]? = some y → zs[i]? = some z → (zip3D xs ys zs)[i]? = some (.tup [x, y, z])
  | [], _, _, _, _, _, _, h, _, _ => by simp at h
  | _ :: _, [], _, _, _, _, _, _, h, _ => by simp at h
  | _ :: _, _ :: _, [], _, _, _, _, _, _, h => by simp at h
  | _ :: xs, _ :: ys, _ :: zs, 0, _, _, _, h1, h2, h3 => by simp at h1 h2 h3; subst h1 h2 h3; rfl
  | _ :: xs, _ :: ys, _ :: zs, i + 1, _, _, _, h1, h2, h3 => zip3D_get (xs := xs) (ys := ys) (zs := zs) (i := i) (by simpa using h1) (by simpa using h2) (by simpa using h3)
theorem ok_zip3 {w : Wd} {k1 k2 k3 : Bool} {a b d : Addr} {vs us ts : List V} {ds es fs : List D} (h : SqK k1 G.K w.M a vs) (r : RDs G w.M ds vs) (h2 : SqK k2 G.K w.M b us) (r2 : RDs G w.M es us) (h3 : SqK k3 G.K w.M d ts) (r3 : RDs G w.M fs ts) : ItOk G (Itz3 k1 k2 k3 G.K a b d) w.M (zip3D ds es fs) where
  go := fun i w' S H hs hR hi => by
    rw [zip3D_len] at hi
    obtain ⟨v, e, _⟩ := r.get (List.getElem?_eq_getElem (show i < ds.length by omega))
    obtain ⟨u, e2, _⟩ := r2.get (List.getElem?_eq_getElem (show i < es.length by omega))
    obtain ⟨t, e3, _⟩ := r3.get (List.getElem?_eq_getElem (show i < fs.length by omega))
    exact ⟨vs, us, ts, v, u, t, hR.sub.k (hs.k h), hR.sub.k (hs.k h2), hR.sub.k (hs.k h3), e, e2, e3⟩
  yld := fun i w' S H x H' hs hR hi y => by
    obtain ⟨T, o, v, u, t, rfl, hT, hd, rfl, y1, y2, y3⟩ := y
    obtain ⟨d, e1, q1⟩ := r.get2 (y1 vs (hR.sub.k (hs.k h)))
    obtain ⟨d2, e2, q2⟩ := r2.get2 (y2 us (hR.sub.k (hs.k h2)))
    obtain ⟨d3, e3, q3⟩ := r3.get2 (y3 ts (hR.sub.k (hs.k h3)))
    obtain ⟨p1, p2, p3⟩ := tup_new hR hT hd (ds := [d, d2, d3]) (.cons (q1.mono hs) (.cons (q2.mono hs) (.cons (q3.mono hs) .nil)))
    exact ⟨_, _, zip3D_get e1 e2 e3, p2, p1, p3⟩
  stop := fun w' S H hs hR => ⟨vs, us, ts, hR.sub.k (hs.k h), hR.sub.k (hs.k h2), hR.sub.k (hs.k h3), by
    rw [zip3D_len, ← r.length, ← r2.length, ← r3.length]
    omega⟩
theorem mi_zip2 {e e2 : Expr} {f : As} {p tpos : Pos} {elts : List Expr} {kk : Nat} (hK : X.K = G.K) (hm : X.mg "zip" = none) (hg : Gl X "zip") (ha : PA X [e, e2] (tA G W f))
    (hs : starEach [e, e2] X.env = (false, eval e X.env) :: starEach [e2] X.env := by rfl) (hpl : (backTo pos (starEach [e2] X.env)).any (·.1) = false := by rfl) : PI X (.Tuple elts kk tpos) (.Call (.Name "zip" p) [e, e2] [] pos) (tI G W (zipI2 f)) := by
  refine (pi_zip2 hg hm ha hs hpl).imp fun σ H R ⟨w, S, η, hR, hE, q⟩ => ⟨w, S, η, hR, hE, Post.thn q fun w1 S1 H1 vs us g hR1 r q1 => ?_⟩
  unfold zip2S at q1
  split at q1
  · split at q1
    · rename_i xs ys e1 e2
      cases r with | cons r rs => cases rs with | cons r2 rs =>
        cases rs
        obtain ⟨k, a, vs1, rfl, s, r⟩ := me_kind hR1 e1 r
        obtain ⟨k2, a2, vs2, rfl, s2, r2⟩ := me_kind hR1 e2 r2
        rw [hK]
        exact ⟨k, k2, a, a2, vs1, vs2, rfl, hR1.sub.k s, hR1.sub.k s2, q1 w1 H1 _ (Go.refl _ _) hR1 (ok_zip2 s r s2 r2)⟩
    · exact q1.elim
  · exact q1.elim
theorem mi_zip3 {e e2 e3 : Expr} {f : As} {p tpos : Pos} {elts : List Expr} {kk : Nat} (hK : X.K = G.K) (hm : X.mg "zip" = none) (hg : Gl X "zip") (ha : PA X [e, e2, e3] (tA G W f))
    (hs : starEach [e, e2, e3] X.env = (false, eval e X.env) :: starEach [e2, e3] X.env := by rfl) (hpl : (backTo pos (starEach [e2, e3] X.env)).any (·.1) = false := by rfl) : PI X (.Tuple elts kk tpos) (.Call (.Name "zip" p) [e, e2, e3] [] pos) (tI G W (zipI3 f)) := by
  refine (pi_zip3 hg hm ha hs hpl).imp fun σ H R ⟨w, S, η, hR, hE, q⟩ => ⟨w, S, η, hR, hE, Post.thn q fun w1 S1 H1 vs us g hR1 r q1 => ?_⟩
  unfold zip3S at q1
  split at q1
  · split at q1
    · rename_i xs ys zs e1 e2 e3
      cases r with | cons r rs => cases rs with | cons r2 rs => cases rs with | cons r3 rs =>
        cases rs
        obtain ⟨k, a, vs1, rfl, s, r⟩ := me_kind hR1 e1 r
        obtain ⟨k2, a2, vs2, rfl, s2, r2⟩ := me_kind hR1 e2 r2
        obtain ⟨k3, a3, vs3, rfl, s3, r3⟩ := me_kind hR1 e3 r3
        rw [hK]
        exact ⟨k, k2, k3, a, a2, a3, vs1, vs2, vs3, rfl, hR1.sub.k s, hR1.sub.k s2, hR1.sub.k s3, q1 w1 H1 _ (Go.refl _ _) hR1 (ok_zip3 s r s2 r2 s3 r3)⟩
    · exact q1.elim
  · exact q1.elim
end
/-! ### comprehensions -/
def loopC (t : Tg) (c : Te) (e : Ex) (η : En) : List D → Store → Res (List D)
  | [], S => .ok [] S
  | d :: ds, S => match t (.d d) η with
    | none => .stuck
    | some η1 => match c η1 S with
      | .ok true S1 => match e η1 S1 with
        | .ok (.d y) S2 => match loopC t c e η ds S2 with
          | .ok ys S3 => .ok (y :: ys) S3
          | _ => .stuck
        | _ => .stuck
      | .ok false S1 => match loopC t c e η ds S1 with
          | .ok ys S3 => .ok ys S3
          | _ => .stuck
      | _ => .stuck
def yesT : Te := fun _ S => .ok true S
def lcL (t : Tg) (it : Li) (c : Te) (e : Ex) (vs : List Nat) : Li := fun η S => (it η S).bind fun ds S1 => if ds.length ≤ 16777216 then loopC t c e (wipeE vs η) ds S1 else .stuck
theorem loopC_exc (t : Tg) (c : Te) (e : Ex) (η : En) : ∀ (ds : List D) (S : Store) (k : Nat) (S' : Store), loopC t c e η ds S ≠ .exc k S'
  | [], S, k, S', h => by cases h
  | d :: ds, S, k, S', h => by
    unfold loopC at h
    split at h
    · cases h
    · split at h
      · split at h
        · split at h <;> cases h
        · cases h
      · split at h <;> cases h
      · cases h
def delH (H : Hp) (a : Addr) : Hp := fun b => if b = a then none else H b
theorem delH_same {H : Hp} {a : Addr} : delH H a a = none := by unfold delH; rw [if_pos rfl]
theorem delH_ne {H : Hp} {a b : Addr} (h : b ≠ a) : delH H a b = H b := by unfold delH; rw [if_neg h]
theorem upd_del {H : Hp} {a : Addr} {o : HO} (h : H a = some o) : upd (delH H a) a o = H := by
  funext b
  by_cases e : b = a
  · subst e; rw [upd_same, h]
  · rw [upd_ne e, delH_ne e]
theorem loopC_len (t : Tg) (c : Te) (e : Ex) (η : En) : ∀ {ds : List D} {S S' : Store} {ys : List D}, loopC t c e η ds S = .ok ys S' → ys.length ≤ ds.length
  | [], _, _, _, h => by cases h; exact Nat.le_refl _
  | d :: ds, S, S', ys, h => by
    unfold loopC at h
    split at h
    · cases h
    · split at h
      · split at h
        · split at h
          · rename_i q; cases h; have := loopC_len t c e η q; simp only [List.length_cons]; omega
          · cases h
        · cases h
      · split at h
        · rename_i q; cases h; have := loopC_len t c e η q; simp only [List.length_cons]; omega
        · cases h
      · cases h
section
variable {X : Cx} {G : GI} {W : WX} {pos : Pos}
abbrev W0 : WX := fun _ _ _ _ => False
theorem EnR.wip2 {w : Wd} {η : En} {σ : L2.St} (h : EnR G w η σ) : ∀ (is : List Nat), EnR G w (wipeE is η) (L2.wipe σ is)
  | [] => h
  | i :: is => by
    have h1 := EnR.wip2 h is
    refine ⟨by unfold wipeE L2.wipe; rw [List.length_set, List.length_set]; exact h1.len, fun j u e => ?_⟩
    unfold wipeE at e
    unfold L2.wipe
    by_cases hj : i = j
    · subst hj
      by_cases hi : i < (wipeE is η).length
      · rw [List.getElem?_set_self hi] at e; cases e
      · rw [List.getElem?_eq_none (by simpa using hi)] at e; cases e
    · rw [List.getElem?_set_ne hj] at e ⊢
      exact h1.get j u e
theorem wipe_wipe {σ : L2.St} : ∀ {vs us : List Nat}, (∀ i ∈ us, i ∈ vs) → wipe (wipe σ us) vs = wipe σ vs
  | vs, [], _ => rfl
  | vs, u :: us, h => by
    show wipe ((wipe σ us).set u none) vs = _
    rw [wipe_set (h u (by simp)), wipe_wipe fun i hi => h i (by simp [hi])]
theorem Rel.del {w : Wd} {S : Store} {H : Hp} {p : Addr} (h : Rel G w S H) (hm : w.M p = none) (hr : p ∉ w.ρ) : Rel G w S (delH H p) where
  sub := fun a o e => by rw [delH_ne (fun z => by rw [z, hm] at e; cases e)]; exact h.sub a o e
  len := h.len
  nd := h.nd
  dom := fun a ha => by rw [delH_ne (fun z => hr (by rw [← z]; exact ha))]; exact h.dom a ha
  cel := fun n c a e1 e2 => by
    obtain ⟨h1, vs, h2, h3⟩ := h.cel n c a e1 e2
    exact ⟨h1, vs, by rw [delH_ne (fun z => hr (by rw [← z]; exact List.mem_of_getElem? e2))]; exact h2, h3⟩
theorem _root_.L2.PTs.imp {ifs : List Expr} {t t' : TT} (h : PTs X ifs t) (hi : ∀ σ H Q, t' σ H Q → t σ H Q) : PTs X ifs t' := ⟨fun pins s σ H Q I q => h.run pins s σ H Q I (hi σ H Q q)⟩
theorem mt_yes : PTs X [] (tT G W yesT) := pts_nil.imp fun _ _ _ h => tT_ok h
theorem mt_one {c : Expr} {f : Te} (h : PT X c (tT G W f)) : PTs X [c] (tT G W f) := pts_one h
/-- [elt for tg in iter if ..] -/
theorem lc_imp {own : List (Str × Nat)} {fi : Li} {is : List Nat} {g : TG} {t : Tg} {fc : Te} {fe : Ex} (ht : TgR G is g t) (his : ∀ i ∈ is, i ∈ own.map (·.2)) {σ : L2.St} {H : Hp} {Q : VK} (hq : tL G W (lcL t fi fc fe (own.map (·.2))) σ H Q) : tLc (tI G W fi) g (tT G W0 fc) (tE G W0 fe) (own.map (·.2)) σ H Q := by
  obtain ⟨w, S, η, hR, hE, h⟩ := hq
  refine ⟨w, S, η, hR, hE, Post.thn h fun w1 S1 H1 ds J g1 hR1 hJ h1 => ?_⟩
  intro D hD
  generalize hv : own.map (·.2) = vs at h1 his ⊢
  split at h1
  · rename_i hz
    cases hl : loopC t fc fe (wipeE vs η) ds S1 with
    | exc c S' =>
      exact (loopC_exc t fc fe _ _ _ _ _ hl).elim
    | stuck => rw [hl] at h1; exact h1.elim
    | ok ys S3 =>
      rw [hl] at h1
      have hD0 : w1.M D = none := hR1.sub.free hD
      refine ⟨fun i m H2 => m = ds.length - i ∧ i ≤ ds.length ∧ ∃ w2 S2 acc ys2 us, loopC t fc fe (wipeE vs η) (ds.drop i) S2 = .ok ys2 S3 ∧ acc ++ ys2 = ys ∧ Rel G w2 S2 H2 ∧ Go w1 H1 w2 (delH H2 D) ∧ Nxt w1 w2 ∧ H2 D = some (.lst us) ∧ RDs G w2.M acc us ∧ D ∉ w2.ρ ∧ w2.M D = none ∧ acc.length ≤ i,
        ⟨ds.length, by simp, Nat.zero_le _, w1, S1, [], ys, [], hl, rfl, hR1.add hD, ?_, Nxt.refl w1, upd_same, .nil, hR1.notin hD, hD0, Nat.zero_le _⟩, ?_⟩
      · refine ⟨Nxt.refl w1, fun a o e hn => ⟨?_, hn, fun z => z⟩⟩
        have hne : a ≠ D := ne_of_none e hD
        rw [delH_ne hne, upd_ne hne]; exact e
      rintro i m H2 ⟨rfl, hi2, w2, S2, acc, ys2, us, e2, ea, hR2, g2, n2, eD, ra, nD, mD, la⟩
      by_cases hlt : i < ds.length
      · refine .inr ⟨hJ.go i w2 S2 H2 n2.m hR2 hlt, fun H3 => ∃ w2 S2 acc ys2 us, loopC t fc fe (wipeE vs η) (ds.drop (i + 1)) S2 = .ok ys2 S3 ∧ acc ++ ys2 = ys ∧ Rel G w2 S2 H3 ∧ Go w1 H1 w2 (delH H3 D) ∧ Nxt w1 w2 ∧ H3 D = some (.lst us) ∧ RDs G w2.M acc us ∧ D ∉ w2.ρ ∧ w2.M D = none ∧ acc.length ≤ i + 1,
          fun H3 h3 => ⟨ds.length - (i + 1), by omega, rfl, hlt, h3⟩, fun x H3 hy => ?_⟩
        obtain ⟨d, w3, ed, g3, hR3, r3⟩ := hJ.yld i w2 S2 H2 x H3 n2.m hR2 hlt hy
        have edr : ds.drop i = d :: ds.drop (i + 1) := by
          obtain ⟨hl, e⟩ := List.getElem?_eq_some_iff.mp ed
          rw [← e]; exact (List.drop_eq_getElem_cons hl)
        rw [edr] at e2
        unfold loopC at e2
        -- the way on from any state behind
        have del : ∀ {w4 : Wd} {H4 : Hp}, Go w2 H2 w4 H4 → Go w1 H1 w4 (delH H4 D) ∧ Nxt w1 w4 ∧ H4 D = some (.lst us) ∧ D ∉ w4.ρ ∧ w4.M D = none := fun {w4 H4} g4 => by
          obtain ⟨a1, a2, a3⟩ := g4.f D _ eD nD
          refine ⟨⟨n2.trans g4.n, fun a o e hn => ?_⟩, n2.trans g4.n, a1, a2, a3 mD⟩
          obtain ⟨b1, b2, b3⟩ := g2.f a o e hn
          have hne : a ≠ D := fun z => by rw [z, delH_same] at b1; cases b1
          rw [delH_ne hne] at b1
          obtain ⟨c1, c2, c3⟩ := g4.f a o b1 b2
          exact ⟨by rw [delH_ne hne]; exact c1, c2, fun z => c3 (b3 z)⟩
        split at e2
        · cases e2
        · rename_i η1 et
          refine ht w3 (wipeE vs η) (L2.wipe σ vs) (.d d) x H3 η1 _ S2 hR3 ((hE.mono (g1.n.trans (n2.trans g3.n))).wip2 vs) r3 et fun σ4 hE4 w4 => ⟨?_, ?_⟩
          · rw [w4 vs his, wipe_wipe fun i hi => hi]
          refine ⟨w3, S2, η1, hR3, hE4, ?_⟩
          split at e2
          · rename_i S4 ec
            rw [ec]
            intro w5 H5 b g5 hR5 eb
            cases eb
            rw [if_pos rfl]
            refine ⟨w5, S4, η1, hR5, hE4.mono g5.n, ?_⟩
            split at e2
            · rename_i y S5 ee
              rw [ee]
              intro w6 H6 v g6 hR6 r6
              obtain ⟨q1, q2, q3, q4, q5⟩ := del (g3.trans (g5.trans g6))
              refine ⟨us, q3, ?_, ?_⟩
              · have := ra.length
                rw [szl]
                omega
              · split at e2
                · rename_i ys3 S6 e6
                  cases e2
                  cases r6 with
                  | d r6 =>
                    have hne : ∀ a, w6.M a ≠ none → a ≠ D := fun a z e => z (by rw [e]; exact q5)
                    refine ⟨w6, S5, acc ++ [y], ys3, us ++ [v], e6, by rw [← ea, List.append_assoc]; rfl, ?_, ?_, q2, upd_same, (ra.mono ((g3.trans (g5.trans g6)).n.m)).app (.cons r6 .nil), q4, q5, by rw [List.length_append]; simp; omega⟩
                    · have h7 := (hR6.del q5 q4).add (p := D) (o := .lst (us ++ [v])) delH_same
                      have e7 : upd (delH H6 D) D (.lst (us ++ [v])) = upd H6 D (.lst (us ++ [v])) := by
                        funext b
                        by_cases z : b = D
                        · rw [z, upd_same, upd_same]
                        · rw [upd_ne z, upd_ne z, delH_ne z]
                      rw [e7] at h7
                      exact h7
                    · have : delH (upd H6 D (.lst (us ++ [v]))) D = delH H6 D := by
                        funext b
                        by_cases z : b = D
                        · rw [z, delH_same, delH_same]
                        · rw [delH_ne z, delH_ne z, upd_ne z]
                      rw [this]; exact q1
                · cases e2
            · cases e2
          · rename_i S4 ec
            rw [ec]
            intro w5 H5 b g5 hR5 eb
            cases eb
            rw [if_neg Bool.false_ne_true]
            split at e2
            · rename_i ys3 S6 e6
              cases e2
              obtain ⟨q1, q2, q3, q4, q5⟩ := del (g3.trans g5)
              exact ⟨w5, S4, acc, ys2, us, e6, ea, hR5, q1, q2, q3, ra.mono ((g3.trans g5).n.m), q4, q5, by omega⟩
            · cases e2
          · cases e2
      · have ei : i = ds.length := by omega
        subst ei
        rw [List.drop_eq_nil_of_le (Nat.le_refl _)] at e2
        have e2 : Res.ok [] S2 = Res.ok ys2 S3 := e2
        injection e2 with e2a e2b
        subst e2a e2b
        refine .inl ⟨hJ.stop w2 S2 H2 n2.m hR2, ?_⟩
        rw [List.append_nil] at ea
        subst ea
        have := h1 w2 (delH H2 D) (D, us) g2 (hR2.del mD nD) ⟨delH_same, ra⟩
        have e3 : upd (delH H2 D) D (.lst us) = H2 := upd_del eD
        simp only [qL] at this
        rw [e3] at this
        exact this
  · exact h1.elim
theorem ml_lc {elt tg iter : Expr} {ifs : List Expr} {scope : Scope} {own : List (Str × Nat)} {fi : Li} {is : List Nat} {g : TG} {t : Tg} {fc : Te} {fe : Ex} (hc : X.calm = true) (hN : X.N.Nodup) (hi : PI X tg iter (tI G W fi)) (ok : BlkOk X.N X.env.scope scope own) (ht : TgR G is g t) (his : ∀ i ∈ is, i ∈ own.map (·.2))
    (hg : ∀ (s : Shared) (H : Hp) (C : Addr) (cl : List (Str × Addr)) (fp : List Addr), PG (X.blk s H scope (compEnvC scope cl C X.env) fp) tg g) (htt : ∀ (s : Shared) (H : Hp) (C : Addr) (cl : List (Str × Addr)) (fp : List Addr), PTs (X.blk s H scope (compEnvC scope cl C X.env) fp) ifs (tT G W0 fc))
    (he : ∀ (s : Shared) (H : Hp) (C : Addr) (cl : List (Str × Addr)) (fp : List Addr), PE (X.blk s H scope (compEnvC scope cl C X.env) fp) elt (tE G W0 fe)) (hs : ∀ x, foldedSetIterable iter X.env x = pure x := by intro _; rfl) :
    PE X (.ListComp elt [⟨tg, iter, ifs, 0⟩] scope pos) (tL G W (lcL t fi fc fe (own.map (·.2)))) :=
  (pe_lc hc hN hi ok hg htt he hs).imp fun σ H Q h => lc_imp ht his h
theorem asg_imp {n0 i : Nat} {f : Ex} {D σ H} (h : tS G W n0 (asg i f) D σ H) : tAsg (tE G W f) (gName i) D σ H := by
  obtain ⟨w, S, η, hR, hE, hn, h⟩ := h
  exact ⟨w, S, η, hR, hE, PostS.ex hE hn h fun w1 S1 H1 v x n hR1 r h1 => h1 w1 H1 _ (Gs.refl n0 w1 H1) hR1 ((hE.mono n.n).set i r)⟩
theorem frz_imp {f : Li} (σ H Q) : tE G W (frz f) σ H Q → tL G W f σ H Q := fun ⟨w, S, η, hR, hE, h⟩ => ⟨w, S, η, hR, hE, Post.thn h fun w1 S1 H1 ds pv n hR1 ⟨e1, r⟩ h2 =>
    h2 ⟨upd w1.M pv.1 (.lst pv.2), w1.ρ⟩ _ _ (Go.fix hR1 e1) (hR1.fix e1) (.d (.lst upd_same (r.mono (Sub.new (hR1.sub.free e1)))))⟩
theorem new_imp {f : Li} (σ H Q) : tE G W (new f) σ H Q → tL G W f σ H Q := fun ⟨w, S, η, hR, hE, h⟩ => ⟨w, S, η, hR, hE, Post.thn h fun w1 S1 H1 ds pv n hR1 ⟨e1, r⟩ h2 => by
    refine h2 ⟨w1.M, w1.ρ ++ [pv.1]⟩ _ _ (Go.new e1) (hR1.cell e1 r) (.p ?_)
    rw [← hR1.len, List.getElem?_append_right (Nat.le_refl _), Nat.sub_self] <;> rfl⟩
theorem ms_lc0 {i : Nat} {y : Str} {py spos : Pos} {n0 : Nat} {fL : Li → Ex} {elt tg iter : Expr} {ifs : List Expr} {scope : Scope} {own : List (Str × Nat)} {fi : Li} {is : List Nat} {g : TG} {t : Tg} {fc : Te} {fe : Ex} (hF : ∀ l σ H Q, tE G W (fL l) σ H Q → tL G W l σ H Q) (hc : X.calm = true) (hN : X.N.Nodup) (hi : PI X tg iter (tI G W fi)) (ok : BlkOk X.N X.env.scope scope own) (ht : TgR G is g t) (his : ∀ i ∈ is, i ∈ own.map (·.2))
    (hg : ∀ (s : Shared) (H : Hp) (C : Addr) (cl : List (Str × Addr)) (fp : List Addr), PG (X.blk s H scope (compEnvC scope cl C X.env) fp) tg g) (htt : ∀ (s : Shared) (H : Hp) (C : Addr) (cl : List (Str × Addr)) (fp : List Addr), PTs (X.blk s H scope (compEnvC scope cl C X.env) fp) ifs (tT G W0 fc))
    (he : ∀ (s : Shared) (H : Hp) (C : Addr) (cl : List (Str × Addr)) (fp : List Addr), PE (X.blk s H scope (compEnvC scope cl C X.env) fp) elt (tE G W0 fe)) (hs : ∀ x, foldedSetIterable iter X.env x = pure x := by intro _; rfl) (hy : X.N[i]? = some y := by rfl) (hyl : X.env.scope.names.lookup y = some .local := by rfl)
    (hsw : swapsWith (.ListComp elt [⟨tg, iter, ifs, 0⟩] scope pos) (some (.Name y py)) spos.line X.env = pure true := by rfl) :
    PS X (.Assign [.Name y py] (.ListComp elt [⟨tg, iter, ifs, 0⟩] scope pos) spos) (tS G W n0 (asg i (fL (lcL t fi fc fe (own.map (·.2)))))) :=
  (ps_setLc hc hN hy hyl hsw hi ok hg htt he hs).imp fun D σ H h => lc_imp ht his (hF _ _ _ _ (asg_imp h))

end
end MP

/-! MP6: operations, built-ins -/
namespace MP
open PySem PySem.Spec PyProof.Rows L2
mutual
def rd (S : Store) : Vl → Option D
  | .d x => some x
  | .p k => match S.L[k]? with
    | some (some ds) => some (.lst ds)
    | _ => none
  | .t xs => (rds S xs).map .tup
def rds (S : Store) : List Vl → Option (List D)
  | [] => some []
  | x :: xs => match rd S x, rds S xs with
    | some d, some ds => some (d :: ds)
    | _, _ => none
end
mutual
def toPy : D → PyData
  | .non => .none
  | .bl b => .bool b
  | .int i => .int i
  | .str s => .str s
  | .tup xs => .tuple (toPys xs)
  | .lst xs => .list (toPys xs)
  | .obj _ _ _ => .dict []
  | .err _ => .dict []
  | .dct _ _ => .dict []
  | .scr _ => .dict []
def toPys : List D → List PyData
  | [] => []
  | x :: xs => toPy x :: toPys xs
end
mutual
def eqvD : D → D → Bool
  | .non, .non => true
  | .bl a, .bl b => a == b
  | .bl a, .int j => (if a then 1 else 0) == j
  | .int i, .bl b => i == (if b then 1 else 0)
  | .int i, .int j => i == j
  | .str a, .str b => a == b
  | .tup a, .tup b => eqvDs a b
  | .lst a, .lst b => eqvDs a b
  | _, _ => false
def eqvDs : List D → List D → Bool
  | [], [] => true
  | x :: xs, y :: ys => eqvD x y && eqvDs xs ys
  | _, _ => false
end
def okD : Nat → D → Bool
  | 0, d => match d with
    | .non => true
    | .bl _ => true
    | .int _ => true
    | .str s => PyData.strOk s
    | _ => false
  | n + 1, d => match d with
    | .non => true
    | .bl _ => true
    | .int _ => true
    | .str s => PyData.strOk s
    | .tup xs => xs.all (okD n)
    | .lst xs => xs.all (okD n)
    | _ => false
def flatD : D → Bool
  | .non => true
  | .bl _ => true
  | .int _ => true
  | .str _ => true
  | _ => false
/-- the items of a list, known or a cell; of a list or tuple -/
def seqL (S : Store) : Vl → Option (List D)
  | .d (.lst ds) => some ds
  | .p k => match S.L[k]? with
    | some (some ds) => some ds
    | _ => none
  | _ => none
def seqV (S : Store) : Vl → Option (List D)
  | .d (.tup ds) => some ds
  | v => seqL S v
mutual
theorem eqv_toPy : ∀ a b : D, PyData.eqv (toPy a) (toPy b) = eqvD a b
  | .tup a, .tup b => by simp only [toPy, PyData.eqv, eqvD]; exact eqv_toPys a b
  | .lst a, .lst b => by simp only [toPy, PyData.eqv, eqvD]; exact eqv_toPys a b
  | .non, b => by cases b <;> simp only [toPy, PyData.eqv, eqvD]
  | .bl _, b => by cases b <;> simp only [toPy, PyData.eqv, eqvD]
  | .int _, b => by cases b <;> simp only [toPy, PyData.eqv, eqvD]
  | .str _, b => by cases b <;> simp only [toPy, PyData.eqv, eqvD]
  | .obj _ _ _, b => by cases b <;> simp only [toPy, PyData.eqv, eqvD]
  | .err _, b => by cases b <;> simp only [toPy, PyData.eqv, eqvD]
  | .dct _ _, b => by cases b <;> simp only [toPy, PyData.eqv, eqvD]
  | .scr _, b => by cases b <;> simp only [toPy, PyData.eqv, eqvD]
  | .tup _, .non => by simp only [toPy, PyData.eqv, eqvD]
  | .tup _, .bl _ => by simp only [toPy, PyData.eqv, eqvD]
  | .tup _, .int _ => by simp only [toPy, PyData.eqv, eqvD]
  | .tup _, .str _ => by simp only [toPy, PyData.eqv, eqvD]
  | .tup _, .lst _ => by simp only [toPy, PyData.eqv, eqvD]
  | .tup _, .obj _ _ _ => by simp only [toPy, PyData.eqv, eqvD]
  | .tup _, .err _ => by simp only [toPy, PyData.eqv, eqvD]
  | .tup _, .dct _ _ => by simp only [toPy, PyData.eqv, eqvD]
  | .tup _, .scr _ => by simp only [toPy, PyData.eqv, eqvD]
  | .lst _, .non => by simp only [toPy, PyData.eqv, eqvD]
  | .lst _, .bl _ => by simp only [toPy, PyData.eqv, eqvD]
  | .lst _, .int _ => by simp only [toPy, PyData.eqv, eqvD]
  | .lst _, .str _ => by simp only [toPy, PyData.eqv, eqvD]
  | .lst _, .tup _ => by simp only [toPy, PyData.eqv, eqvD]
  | .lst _, .obj _ _ _ => by simp only [toPy, PyData.eqv, eqvD]
  | .lst _, .err _ => by simp only [toPy, PyData.eqv, eqvD]
  | .lst _, .dct _ _ => by simp only [toPy, PyData.eqv, eqvD]
  | .lst _, .scr _ => by simp only [toPy, PyData.eqv, eqvD]
theorem eqv_toPys : ∀ a b : List D, PyData.eqvAll (toPys a) (toPys b) = eqvDs a b
  | [], [] => by simp only [toPys, PyData.eqvAll, eqvDs]
  | [], _ :: _ => by simp only [toPys, PyData.eqvAll, eqvDs]
  | _ :: _, [] => by simp only [toPys, PyData.eqvAll, eqvDs]
  | x :: xs, y :: ys => by simp only [toPys, PyData.eqvAll, eqvDs]; rw [eqv_toPy x y, eqv_toPys xs ys]
end
theorem toPys_map (ds : List D) : toPys ds = ds.map toPy := by
  induction ds with
  | nil => rfl
  | cons d ds ih => unfold toPys; rw [ih]; rfl
theorem okD_lay : ∀ (n : Nat) (d : D), okD n d = true → (toPy d).canLay0 = true ∧ (toPy d).depth ≤ n
  | 0, d, h => by cases d <;> simp [okD, toPy, PyData.canLay0, PyData.depth] at h ⊢ <;> assumption
  | n + 1, d, h => by
    have all : ∀ xs : List D, xs.all (okD n) = true → PyData.canLayAll0 (toPys xs) = true ∧ PyData.depthAll (toPys xs) ≤ n := by
      intro xs
      induction xs with
      | nil => intro _; simp [toPys, PyData.canLayAll0, PyData.depthAll]
      | cons x xs ih =>
        intro h
        rw [List.all_cons, Bool.and_eq_true] at h
        obtain ⟨h1, h2⟩ := okD_lay n x h.1
        obtain ⟨h3, h4⟩ := ih h.2
        simp only [toPys, PyData.canLayAll0, PyData.depthAll, h1, h3, Bool.and_self, true_and]
        omega
    cases d with
    | tup xs =>
      obtain ⟨h1, h2⟩ := all xs (by simpa [okD] using h)
      simp only [toPy, PyData.canLay0, PyData.depth, h1, true_and]; omega
    | lst xs =>
      obtain ⟨h1, h2⟩ := all xs (by simpa [okD] using h)
      simp only [toPy, PyData.canLay0, PyData.depth, h1, true_and]; omega
    | _ => simp [okD, toPy, PyData.canLay0, PyData.depth] at h ⊢ <;> assumption
theorem okD_shaped {n : Nat} {d : D} (hn : n ≤ 64) (h : okD n d = true) : SeqAt.shaped (toPy d) = true := by
  obtain ⟨h1, h2⟩ := okD_lay n d h
  unfold SeqAt.shaped
  rw [h1, decide_eq_true (by omega)] <;> rfl
section
variable {G : GI} {w : Wd} {S : Store} {H : Hp}
mutual
theorem rd_ok (h : Rel G w S H) : ∀ {v : Vl} {x : V} {d : D}, rd S v = some d → RV G w v x → RD G H d x
  | .d x, _, _, e, .d r => by unfold rd at e; cases e; exact r.mono h.sub
  | .p k, _, _, e, .p r => by
    unfold rd at e
    split at e
    · rename_i ds q
      cases e
      obtain ⟨h1, vs, e3, rr⟩ := h.cel k ds _ q r
      exact .lst e3 (rr.mono h.sub)
    · cases e
  | .t xs, _, _, e, .t s r => by
    unfold rd at e
    cases q : rds S xs with
    | none => rw [q] at e; cases e
    | some ds => rw [q] at e; cases e; exact .tup (s.mono h.sub) (rds_ok h q r)
theorem rds_ok (h : Rel G w S H) : ∀ {v : List Vl} {x : List V} {d : List D}, rds S v = some d → RVs G w v x → RDs G H d x
  | [], _, _, e, .nil => by unfold rds at e; cases e; exact .nil
  | v :: vs, _, _, e, .cons r rs => by
    unfold rds at e
    split at e
    · rename_i d ds q1 q2
      cases e
      exact .cons (rd_ok h q1 r) (rds_ok h q2 rs)
    · cases e
end
theorem seqL_ok (h : Rel G w S H) {v : Vl} {x : V} {ds : List D} (e : seqL S v = some ds) (r : RV G w v x) : ∃ a vs, x = .ref a ∧ H a = some (.lst vs) ∧ RDs G w.M ds vs := by
  cases r with
  | d r => cases r with
    | lst s r => cases e; exact ⟨_, _, rfl, h.sub _ _ s, r⟩
    | _ => cases e
  | t _ _ => cases e
  | p r =>
    rename_i k a
    unfold seqL at e
    cases q : S.L[k]? with
    | none => simp [q] at e
    | some o => cases o with
      | none => simp [q] at e
      | some ds' =>
        simp [q] at e
        subst e
        obtain ⟨h1, vs, e3, rr⟩ := h.cel k _ _ q r
        exact ⟨_, vs, rfl, e3, rr⟩
theorem seqV_ok (h : Rel G w S H) {v : Vl} {x : V} {ds : List D} (e : seqV S v = some ds) (r : RV G w v x) : ∃ a vs, x = .ref a ∧ (SqL G.K H a vs ∨ SqT G.K H a vs) ∧ RDs G w.M ds vs := by
  unfold seqV at e
  split at e
  · cases e; cases r with | d r => cases r with | tup s r => exact ⟨_, _, rfl, .inr (h.sub.t s.t), r⟩
  · obtain ⟨a, vs, h1, h2, h3⟩ := seqL_ok h e r
    exact ⟨a, vs, h1, .inl (SqL.of h2), h3⟩
mutual
theorem RD.dp : ∀ {n : Nat} {d : D} {x : V}, RD G H d x → okD n d = true → Dp G.K H x (toPy d)
  | _, _, _, .non, _ => .non
  | _, _, _, .bl b, _ => .bl b
  | _, _, _, .int b, _ => .int b
  | _, _, _, .str b, _ => .str b
  | 0, _, _, .tup _ _, h => by cases h
  | 0, _, _, .lst _ _, h => by cases h
  | n + 1, _, _, .tup s r, h => .tup s.t (RDs.dp (n := n) r (by simpa [okD] using h))
  | n + 1, _, _, .lst s r, h => .lst (SqL.of s) (RDs.dp (n := n) r (by simpa [okD] using h))
  | 0, _, _, .obj _ _ _ _, h => by cases h
  | n + 1, _, _, .obj _ _ _ _, h => by cases h
  | 0, _, _, .scr _, h => by cases h
  | n + 1, _, _, .scr _, h => by cases h
theorem RDs.dp : ∀ {n : Nat} {d : List D} {x : List V}, RDs G H d x → (∀ y ∈ d, okD n y = true) → DpAll G.K H x (toPys d)
  | _, _, _, .nil, _ => .nil
  | _, _, _, .cons r rs, h => .cons (RD.dp r (h _ (by simp))) (RDs.dp rs fun y hy => h y (by simp [hy]))
end
end
/-! ### comparisons -/
def oEq (neg : Bool) (x y : Vl) (S : Store) : Res Vl := match rd S x, rd S y with
  | some a, some b => if (okD 60 a && okD 60 b) = true then .ok (.d (.bl (if neg then !eqvD a b else eqvD a b))) S else .stuck
  | _, _ => .stuck
def cmpI (f : Int → Int → Bool) (x y : Vl) (S : Store) : Res Vl := match x, y with
  | .d (.int a), .d (.int b) => .ok (.d (.bl (f a b))) S
  | _, _ => .stuck
abbrev oLe := cmpI fun a b => decide (a ≤ b)
abbrev oGt := cmpI fun a b => decide (b < a)
abbrev oGe := cmpI fun a b => decide (b ≤ a)
def intsD : List D → Option (List Int)
  | [] => some []
  | .int i :: r => (intsD r).map (i :: ·)
  | _ :: _ => none
/-- ints; tuples of ints -/
def oLt (x y : Vl) (S : Store) : Res Vl := match x, y with
  | .d (.int a), .d (.int b) => .ok (.d (.bl (decide (a < b)))) S
  | .d (.tup a), .d (.tup b) => match intsD a, intsD b with
    | some ns, some ms => .ok (.d (.bl (HT.lexLt ns ms))) S
    | _, _ => .stuck
  | _, _ => .stuck
def oIn (neg : Bool) (x y : Vl) (S : Store) : Res Vl := match y with
  | .d (.tup ds) => match x with
    | .d a => if (flatD a && ds.all flatD) = true then .ok (.d (.bl (if neg then !ds.any (fun z => eqvD z a) else ds.any (fun z => eqvD z a)))) S else .stuck
    | _ => .stuck
  | .d (.str b) => match x with
    | .d (.str a) => .ok (.d (.bl (if neg then !(!(Builtin.Str.occurrences b a 0 b.length 1).isEmpty) else !(Builtin.Str.occurrences b a 0 b.length 1).isEmpty))) S
    | _ => .stuck
  | y => match rd S x, seqL S y with
    | some a, some ds => if (okD 60 a && okD 60 (.lst ds)) = true then .ok (.d (.bl (if neg then !ds.any (fun z => eqvD z a) else ds.any (fun z => eqvD z a)))) S else .stuck
    | _, _ => .stuck
def oIsN (neg : Bool) (x y : Vl) (S : Store) : Res Vl := match y with
  | .d .non => match x with
    | .d .non => .ok (.d (.bl (!neg))) S
    | _ => .ok (.d (.bl neg)) S
  | _ => .stuck
/-! ### arithmetic -/
def oAdd (x y : Vl) (S : Store) : Res Vl := match x, y with
  | .d (.scr ns), .d (.lst b) => if ns.length + b.length ≤ 16777216 then .ok (.d (.lst (ns.map .int ++ b))) S else .stuck
  | .d (.int a), .d (.int b) => .ok (.d (.int (a + b))) S
  | .d (.str a), .d (.str b) => if a.length + b.length ≤ 16777216 then .ok (.d (.str (a ++ b))) S else .stuck
  | .d (.tup a), .d (.tup b) => if a.length + b.length ≤ 16777216 then .ok (.d (.tup (a ++ b))) S else .stuck
  | x, y => match seqL S x, seqL S y with
    | some a, some b => if a.length + b.length ≤ 16777216 then .ok (.d (.lst (a ++ b))) S else .stuck
    | _, _ => .stuck
def arI (c : Int → Int → Bool) (f : Int → Int → Int) (x y : Vl) (S : Store) : Res Vl := match x, y with
  | .d (.int a), .d (.int b) => if c a b = true then .ok (.d (.int (f a b))) S else .stuck
  | _, _ => .stuck
abbrev oSub := arI (fun _ _ => true) fun a b => a - b
def mulOk (a b : Int) : Bool := decide ((-18446744073709551616 < a ∧ a < 18446744073709551616) ∨ (-18446744073709551616 < b ∧ b < 18446744073709551616))
abbrev oMod := arI (fun _ b => decide (0 < b)) fun a b => a % b
abbrev oDiv := arI (fun _ b => decide (0 < b ∧ b < 1073741824)) fun a b => a / b
abbrev oPow := arI (fun a b => decide (0 ≤ b ∧ (Builtin.Int.intBits a : Int) * b ≤ 134217728)) fun a b => a ^ b.toNat
/-- ints; a list times an int -/
def oMul (x y : Vl) (S : Store) : Res Vl := match x, y with
  | .d (.int a), .d (.int b) => if mulOk a b = true then .ok (.d (.int (a * b))) S else .stuck
  | x, .d (.int k) => match seqL S x with
    | some ds => if -1048576 ≤ k ∧ k ≤ 1048576 ∧ ds.length * k.toNat ≤ 16777216 then .ok (.d (.lst (List.replicate k.toNat ds).flatten)) S else .stuck
    | none => .stuck
  | _, _ => .stuck
def oNeg (x : Vl) (S : Store) : Res Vl := match x with
  | .d (.int a) => .ok (.d (.int (-a))) S
  | _ => .stuck
/-! ### places -/
def oIx (x y : Vl) (S : Store) : Res Vl := match y with
  | .d (.int i) => match x with
    | .d (.str z) => if z.length ≤ 16777216 then (match atI z.cps.toList i with
      | some c => .ok (.d (.str ⟨#[c]⟩)) S
      | none => .stuck) else .stuck
    | .t xs => match atI xs i with
      | some v => .ok v S
      | none => .stuck
    | x => match seqV S x with
      | some ds => match atI ds i with
        | some d => .ok (.d d) S
        | none => .stuck
      | none => .stuck
  | _ => .stuck
/-! ### the operations keep what they say -/
section
variable {X : Cx} {G : GI} {W : WX} {pos : Pos}
theorem oEq_s (hK : X.K = G.K) {neg : Bool} : OpS G (if neg then rNeD X.K else rEqD X.K) (oEq neg) := fun w S H x y v u Q hR rx ry h => by
  unfold oEq at h
  split at h
  · rename_i a b ea eb
    split at h
    · rename_i hk
      rw [Bool.and_eq_true] at hk
      rw [hK]
      have d1 := (rd_ok hR ea rx).dp hk.1
      have d2 := (rd_ok hR eb ry).dp hk.2
      have s1 := okD_shaped (by decide) hk.1
      have s2 := okD_shaped (by decide) hk.2
      cases neg with
      | true => exact ⟨_, _, d1, d2, s1, s2, by rw [eqv_toPy]; exact ok1 h hR (.d (.bl _))⟩
      | false => exact ⟨_, _, d1, d2, s1, s2, by rw [eqv_toPy]; exact ok1 h hR (.d (.bl _))⟩
    · exact h.elim
  · exact h.elim
theorem cmpI_s {f : Int → Int → Bool} : OpS G (rI0 fun i j => .bl (f i j)) (cmpI f) := fun w S H x y v u Q hR rx ry h => by
  unfold cmpI at h
  split at h
  · cases int1 rx; cases int1 ry
    exact ⟨_, _, rfl, rfl, ok1 h hR (.d (.bl _))⟩
  · exact h.elim
theorem intsD_ok {M : Hp} : ∀ {ds : List D} {ns : List Int} {vs : List V}, intsD ds = some ns → RDs G M ds vs → vs = ns.map V.int
  | [], _, _, e, .nil => by cases e; rfl
  | .int i :: r, ns, _, e, .cons h t => by
    unfold intsD at e
    cases q : intsD r with
    | none => rw [q] at e; cases e
    | some ms =>
      rw [q] at e; cases e
      cases h
      rw [intsD_ok q t]; rfl
  | .non :: _, _, _, e, _ => by cases e
  | .bl _ :: _, _, _, e, _ => by cases e
  | .str _ :: _, _, _, e, _ => by cases e
  | .tup _ :: _, _, _, e, _ => by cases e
  | .lst _ :: _, _, _, e, _ => by cases e
  | .obj _ _ _ :: _, _, _, e, _ => by cases e
  | .err _ :: _, _, _, e, _ => by cases e
  | .dct _ _ :: _, _, _, e, _ => by cases e
  | .scr _ :: _, _, _, e, _ => by cases e
def rLt (K : PySem.W.Frag) : R2 := fun x y H Q => (rI0 fun i j => .bl (decide (i < j))) x y H Q ∨ rLtT K x y H Q
theorem op_lt2 (hu : X.A.units < cLine) : OpR X (compareOp .Lt) (rLt X.K) := op_lt.or (op_ltT hu)
theorem oLt_s (hK : X.K = G.K) : OpS G (rLt X.K) oLt := fun w S H x y v u Q hR rx ry h => by
  unfold oLt at h
  split at h
  · cases int1 rx; cases int1 ry
    exact .inl ⟨_, _, rfl, rfl, ok1 h hR (.d (.bl _))⟩
  · split at h
    · rename_i ns ms e1 e2
      cases rx with | d rx => cases rx with | tup s1 r1 => cases ry with | d ry => cases ry with | tup s2 r2 =>
        rw [hK]
        have q1 := intsD_ok e1 r1
        have q2 := intsD_ok e2 r2
        subst q1 q2
        exact .inr ⟨_, _, ns, ms, rfl, rfl, hR.sub.t s1.t, hR.sub.t s2.t, ok1 h hR (.d (.bl _))⟩
    · exact h.elim
  · exact h.elim
theorem flat_ok {M : Hp} {d : D} {v : V} (h : flatD d = true) (r : RD G M d v) : flatV v = true := by
  cases r <;> first | rfl | cases h
theorem flats_ok {M : Hp} : ∀ {ds : List D} {vs : List V}, ds.all flatD = true → RDs G M ds vs → vs.all flatV = true
  | [], _, _, .nil => rfl
  | d :: ds, _, h, .cons r t => by
    rw [List.all_cons, Bool.and_eq_true] at h ⊢
    exact ⟨flat_ok h.1 r, flats_ok h.2 t⟩
theorem eqV_ok {M : Hp} {a b : D} {v u : V} (ha : flatD a = true) (hb : flatD b = true) (r : RD G M a v) (s : RD G M b u) : eqV v u = eqvD a b := by
  cases r <;> first | (cases ha; done) | skip
  all_goals (cases s <;> first | (cases hb; done) | (simp only [eqV, eqvD]))
theorem inV_ok {M : Hp} {a : D} {u : V} (ha : flatD a = true) (s : RD G M a u) : ∀ {ds : List D} {vs : List V}, ds.all flatD = true → RDs G M ds vs → inV u vs = ds.any fun z => eqvD z a
  | [], _, _, .nil => rfl
  | d :: ds, _, h, .cons r t => by
    rw [List.all_cons, Bool.and_eq_true] at h
    unfold inV
    rw [List.any_cons, List.any_cons, eqV_ok h.1 ha r s]
    have := inV_ok ha s h.2 t
    unfold inV at this
    rw [this]
theorem any_toPy (a : D) (ds : List D) : ((toPys ds).any fun z => PyData.eqv z (toPy a)) = ds.any fun z => eqvD z a := by
  induction ds with
  | nil => rfl
  | cons d ds ih => unfold toPys; rw [List.any_cons, List.any_cons, ih, eqv_toPy]
def rInS2 (neg : Bool) : R2 := fun x y H Q => ∃ i j, x = .str i ∧ y = .str j ∧ Q (.bl (if neg then !(!(Builtin.Str.occurrences j i 0 j.length 1).isEmpty) else !(Builtin.Str.occurrences j i 0 j.length 1).isEmpty)) H
def rInA (K : PySem.W.Frag) (neg : Bool) : R2 := fun x y H Q => ((if neg then rNotInD K else rInD K) x y H Q ∨ rIn K neg x y H Q) ∨ rInS2 neg x y H Q
theorem op_inA (hu : X.A.units + 65 < cLine) : OpR X (compareOp .In) (rInA X.K false) := ((op_inD hu).or op_in_seq).or op_in_str
theorem op_notInA (hu : X.A.units + 65 < cLine) : OpR X (compareOp .NotIn) (rInA X.K true) := ((op_notInD hu).or op_notIn_seq).or op_notIn_str
theorem oIn_s (hK : X.K = G.K) {neg : Bool} : OpS G (rInA X.K neg) (oIn neg) := fun w S H x y v u Q hR rx ry h => by
  unfold oIn at h
  rw [hK]
  split at h
  · rename_i ds
    split at h
    · rename_i a
      split at h
      · rename_i hk
        rw [Bool.and_eq_true] at hk
        cases ry with | d ry => cases ry with | tup s r => cases rx with | d rx =>
          refine .inl (.inr ⟨_, _, rfl, .inr (hR.sub.t s.t), flat_ok hk.1 rx, flats_ok hk.2 r, ?_⟩)
          rw [inV_ok hk.1 rx hk.2 r]
          exact ok1 h hR (.d (.bl _))
      · exact h.elim
    · exact h.elim
  · split at h
    · cases rx with | d rx => cases rx with | str a => cases ry with | d ry => cases ry with | str b =>
        exact .inr ⟨_, _, rfl, rfl, ok1 h hR (.d (.bl _))⟩
    · exact h.elim
  · split at h
    · rename_i a ds ea eb
      split at h
      · rename_i hk
        rw [Bool.and_eq_true] at hk
        obtain ⟨p, vs, rfl, s, r⟩ := seqL_ok hR eb ry
        have d1 := (rd_ok hR ea rx).dp hk.1
        have hk2 : ∀ y ∈ ds, okD 59 y = true := by simpa [okD] using hk.2
        have d2 : Dp G.K H (.ref p) (.list (toPys ds)) := .lst (SqL.of s) (RDs.dp (r.mono hR.sub) hk2)
        have s1 := okD_shaped (by decide) hk.1
        have s2 : SeqAt.shaped (.list (toPys ds)) = true := okD_shaped (d := .lst ds) (by decide) hk.2
        refine .inl (.inl ?_)
        cases neg with
        | true => exact ⟨_, _, d1, d2, s1, s2, by rw [any_toPy]; exact ok1 h hR (.d (.bl _))⟩
        | false => exact ⟨_, _, d1, d2, s1, s2, by rw [any_toPy]; exact ok1 h hR (.d (.bl _))⟩
      · exact h.elim
    · exact h.elim
def rIsA (neg : Bool) : R2 := fun x y H Q => y = .non ∧ Q (.bl (if neg then !decide (x = .non) else decide (x = .non))) H
theorem oIsN_s {neg : Bool} : OpS G (rIsA neg) (oIsN neg) := fun w S H x y v u Q hR rx ry h => by
  unfold oIsN at h
  split at h
  · have hu : u = .non := by cases ry with | d ry => cases ry; rfl
    subst hu
    refine ⟨rfl, ?_⟩
    split at h
    · have hv : v = .non := by cases rx with | d rx => cases rx; rfl
      subst hv
      have := ok1 h hR (.d (.bl _))
      cases neg <;> exact this
    · rename_i hn
      have hv : v ≠ .non := by
        intro e
        subst e
        cases rx with | d rx => cases rx; exact hn rfl
      rw [decide_eq_false hv]
      have := ok1 h hR (.d (.bl _))
      cases neg <;> exact this
  · exact h.elim
theorem RDs.ints {M : Hp} : ∀ (ns : List Int), RDs G M (ns.map .int) (ns.map V.int)
  | [] => .nil
  | n :: ns => .cons (.int n) (RDs.ints ns)
/-- list + list, where one may be locked -/
def rCatR (K : PySem.W.Frag) : R2 := fun x y H Q => ∃ l b xs zs, x = .ref l ∧ y = .ref b ∧ SqL K H l xs ∧ SqL K H b zs ∧ xs.length + zs.length ≤ sizeLine ∧ ∀ p, H p = none → Q (.ref p) (upd H p (.lst (xs ++ zs)))
theorem op_catR : OpR X (binaryOp .Add) (rCatR X.K) := by
  intro pins s σ H x y v u Q I rx ry h
  obtain ⟨l, b, xs, zs, rfl, rfl, hH, hB, hz, q⟩ := h
  cases rx
  cases ry
  obtain ⟨its, r, ht, z⟩ := I.list hH
  obtain ⟨its2, r2, ht2, z2⟩ := I.list hB
  have hl := r.length
  have hl2 := r2.length
  obtain ⟨⟨cls, dd, data, sl⟩, ho, hc, n, hd⟩ := ht.isList
  obtain ⟨⟨cls2, dd2, data2, sl2⟩, ho2, hc2, n2, hd2⟩ := ht2.isList
  simp only at hc hd hc2 hd2
  subst hc hd hc2 hd2
  have ea : its.toArray ++ its2.toArray = (its ++ its2).toArray := by simp
  refine concat_meets ⟨_, ho, rfl⟩ ⟨_, ho2, rfl⟩ noFill_list_add seq_list_add PySem.F.slot_list_add PySem.F.entry_list_add (PySem.F.args_list_add_2 _ _) (list_addW l b its.toArray its2.toArray n n2 dd dd2 sl sl2 (by rw [List.size_toArray, List.size_toArray]; omega)) ⟨ho, ho2, ?_⟩
  rw [ea]
  exact ⟨.ref _, _, I.lnew (t' := s.toks) (r.append r2) (by rw [List.length_append]; omega), rfl, q _ I.fresh⟩
def rAddA (K : PySem.W.Frag) : R2 := fun x y H Q => (((rI0 fun i j => .int (i + j)) x y H Q ∨ (fun x y H Q => ∃ i j, x = .str i ∧ y = .str j ∧ i.length + j.length ≤ sizeLine ∧ Q (.str (i ++ j)) H) x y H Q) ∨ rCatF K x y H Q) ∨ rCatR K x y H Q
theorem op_addA : OpR X (binaryOp .Add) (rAddA X.K) := ((op_add.or op_add_str).or op_catF).or op_catR
theorem fix_lst {w : Wd} {S : Store} {H : Hp} (hR : Rel G w S H) {p : Addr} (hp : H p = none) {ds : List D} {vs : List V} (r : RDs G w.M ds vs) {Q : VK} {XX} (h : Post G w H (rV G) (.ok (.d (.lst ds)) S) Q XX) : Q (.ref p) (upd H p (.lst vs)) :=
  h ⟨upd w.M p (.lst vs), w.ρ⟩ _ _ (Go.fix hR hp) (hR.fix hp) (.d (.lst upd_same (r.mono (Sub.new (hR.sub.free hp)))))
theorem fix_tup {w : Wd} {S : Store} {H : Hp} (hR : Rel G w S H) {ds : List D} {vs : List V} (r : RDs G w.M ds vs) {Q : VK} {XX} (h : Post G w H (rV G) (.ok (.d (.tup ds)) S) Q XX) : NewT H Q vs := fun p o hp hd =>
  h ⟨upd w.M p (.frz o (.tup vs)), w.ρ⟩ _ _ (Go.fix hR hp) (hR.fix hp) (.d (.tup (.new hd) (r.mono (Sub.new (hR.sub.free hp)))))
theorem oAdd_s (hK : X.K = G.K) : OpS G (rAddA X.K) oAdd := fun w S H x y v u Q hR rx ry h => by
  unfold oAdd at h
  rw [hK]
  split at h
  · split at h
    · rename_i ns b hz
      cases rx with | d rx => cases rx with | scr s1 => cases ry with | d ry => cases ry with | lst s2 r2 =>
        exact .inr ⟨_, _, _, _, rfl, rfl, hR.sub.l s1, SqL.of (hR.sub _ _ s2), by rw [List.length_map, ← r2.length, szl]; exact hz, fun p hp => fix_lst hR hp ((RDs.ints ns).app r2) h⟩
    · exact h.elim
  · cases int1 rx; cases int1 ry
    exact .inl (.inl (.inl ⟨_, _, rfl, rfl, ok1 h hR (.d (.int _))⟩))
  · split at h
    · rename_i hz
      cases rx with | d rx => cases rx with | str a => cases ry with | d ry => cases ry with | str b =>
        exact .inl (.inl (.inr ⟨_, _, rfl, rfl, by rw [szl]; exact hz, ok1 h hR (.d (.str _))⟩))
    · exact h.elim
  · split at h
    · rename_i a b hz
      cases rx with | d rx => cases rx with | tup s1 r1 => cases ry with | d ry => cases ry with | tup s2 r2 =>
        refine .inl (.inr ⟨_, _, _, _, rfl, rfl, hR.sub.t s1.t, hR.sub.t s2.t, by rw [← r1.length, ← r2.length, szl]; exact hz, fun e => ?_, fun _ e => ?_, fun _ _ => fix_tup hR (r1.app r2) h⟩)
        · subst e
          have : a = [] := by cases r1; rfl
          subst this
          exact ok1 h hR (.d (.tup s2 r2))
        · subst e
          have : b = [] := by cases r2; rfl
          subst this
          rw [List.append_nil] at h
          exact ok1 h hR (.d (.tup s1 r1))
    · exact h.elim
  · split at h
    · rename_i a b e1 e2
      split at h
      · rename_i hz
        obtain ⟨p1, vs1, rfl, s1, r1⟩ := seqL_ok hR e1 rx
        obtain ⟨p2, vs2, rfl, s2, r2⟩ := seqL_ok hR e2 ry
        exact .inr ⟨_, _, _, _, rfl, rfl, SqL.of s1, SqL.of s2, by rw [← r1.length, ← r2.length, szl]; exact hz, fun p hp => fix_lst hR hp (r1.app r2) h⟩
      · exact h.elim
    · exact h.elim
theorem arI_s {c : Int → Int → Bool} {f : Int → Int → Int} : OpS G (rI (fun i j => c i j = true) fun i j => .int (f i j)) (arI c f) := fun w S H x y v u Q hR rx ry h => by
  unfold arI at h
  split at h
  · split at h
    · rename_i hc
      cases int1 rx; cases int1 ry
      exact ⟨_, _, rfl, rfl, hc, ok1 h hR (.d (.int _))⟩
    · exact h.elim
  · exact h.elim
theorem OpR.cond {f : Value → Value → Sem Value} {C C' : Int → Int → Prop} {g : Int → Int → V} (h : OpR X f (rI C g)) (hc : ∀ i j, C' i j → C i j) : OpR X f (rI C' g) := fun pins s σ H x y v u Q I rx ry ⟨i, j, e1, e2, c, q⟩ => h pins s σ H x y v u Q I rx ry ⟨i, j, e1, e2, hc i j c, q⟩
theorem op_sub' : OpR X (binaryOp .Sub) (rI (fun i j => (fun _ _ => true : Int → Int → Bool) i j = true) fun i j => .int (i - j)) := fun pins s σ H x y v u Q I rx ry ⟨i, j, e1, e2, _, q⟩ => op_sub pins s σ H x y v u Q I rx ry ⟨i, j, e1, e2, q⟩
theorem op_mod' : OpR X (binaryOp .Mod) (rI (fun i j => (fun _ b => decide (0 < b) : Int → Int → Bool) i j = true) fun i j => .int (i % j)) := OpR.cond op_mod fun i j h => of_decide_eq_true h
theorem op_div' : OpR X (binaryOp .FloorDiv) (rI (fun i j => (fun _ b => decide (0 < b ∧ b < 1073741824) : Int → Int → Bool) i j = true) fun i j => .int (i / j)) := OpR.cond op_fdiv fun i j h => by have := of_decide_eq_true (p := 0 < j ∧ j < 1073741824) h; exact this
theorem op_pow' : OpR X (binaryOp .Pow) (rI (fun i j => (fun a b => decide (0 ≤ b ∧ (Builtin.Int.intBits a : Int) * b ≤ 134217728) : Int → Int → Bool) i j = true) fun i j => .int (i ^ j.toNat)) := opI fun _ _ _ _ _ _ _ hc q => by
  have h := of_decide_eq_true hc
  exact pow_int h.1 h.2 q
def rMulA : R2 := fun x y H Q => (rI CMul fun i j => .int (i * j)) x y H Q ∨ rRep x y H Q
theorem op_mulA : OpR X (binaryOp .Mult) rMulA := op_mul.or op_rep
theorem RDs.rep {M : Hp} {ds : List D} {vs : List V} (h : RDs G M ds vs) : ∀ n, RDs G M (List.replicate n ds).flatten (List.replicate n vs).flatten
  | 0 => .nil
  | n + 1 => by rw [List.replicate_succ, List.replicate_succ, List.flatten_cons, List.flatten_cons]; exact h.app (h.rep n)
theorem oMul_s : OpS G rMulA oMul := fun w S H x y v u Q hR rx ry h => by
  unfold oMul at h
  split at h
  · split at h
    · rename_i hc
      cases int1 rx; cases int1 ry
      refine .inl ⟨_, _, rfl, rfl, ?_, ok1 h hR (.d (.int _))⟩
      simpa [mulOk, CMul] using hc
    · exact h.elim
  · split at h
    · rename_i ds e1
      split at h
      · rename_i hz
        obtain ⟨p1, vs1, rfl, s1, r1⟩ := seqL_ok hR e1 rx
        cases int1 ry
        exact .inr ⟨_, _, _, rfl, rfl, s1, by omega, by omega, by rw [← r1.length, szl]; exact hz.2.2, fun p hp => fix_lst hR hp (r1.rep _) h⟩
      · exact h.elim
    · exact h.elim
  · exact h.elim
theorem oNeg_s : UnS G (rU fun i => .int (-i)) oNeg := fun w S H x v Q hR rx h => by
  unfold oNeg at h
  split at h
  · cases int1 rx
    exact ⟨_, rfl, ok1 h hR (.d (.int _))⟩
  · exact h.elim
theorem RVs.get {w : Wd} : ∀ {ds : List Vl} {vs : List V} {i : Nat} {d : Vl}, RVs G w ds vs → ds[i]? = some d → ∃ v, vs[i]? = some v ∧ RV G w d v
  | _, _, _, _, .nil, e => by simp at e
  | _, _, 0, _, .cons h _, e => by simp at e; subst e; exact ⟨_, rfl, h⟩
  | _, _, i + 1, d, .cons _ t, e => by
    obtain ⟨v, h1, h2⟩ := t.get (i := i) (d := d) (by simpa using e)
    exact ⟨v, by simpa using h1, h2⟩
theorem atI_len {α β : Type} {xs : List α} {ys : List β} {i : Int} {x : α} (hl : xs.length = ys.length) (h : atI xs i = some x) : ∃ j : Nat, xs[j]? = some x ∧ ∀ y, ys[j]? = some y → atI ys i = some y := by
  unfold atI at h ⊢
  rw [hl] at h
  cases e : ixN ys.length i with
  | none => rw [e] at h; cases h
  | some j => rw [e] at h; exact ⟨j, h, fun y hy => by simpa using hy⟩
theorem oIx_s (hK : X.K = G.K) : OpS G (rIx X.K) oIx := fun w S H x y v u Q hR rx ry h => by
  unfold oIx at h
  rw [hK]
  split at h
  · rename_i i
    cases int1 ry
    split at h
    · rename_i z
      split at h
      · rename_i hz
        split at h
        · rename_i c e
          cases rx with | d rx => cases rx with | str z =>
            exact .inr (.inr ⟨_, _, c, rfl, rfl, by rw [szl]; exact hz, e, ok1 h hR (.d (.str _))⟩)
        · exact h.elim
      · exact h.elim
    · split at h
      · rename_i xs d e
        cases rx with | t s r =>
          obtain ⟨j, e1, e2⟩ := atI_len r.length e
          obtain ⟨y, e3, r3⟩ := r.get e1
          exact .inr (.inl ⟨_, _, _, y, rfl, rfl, hR.sub.t s.t, e2 y e3, ok1 h hR r3⟩)
      · exact h.elim
    · split at h
      · rename_i ds e
        split at h
        · rename_i d e0
          obtain ⟨a, vs, rfl, s, r⟩ := seqV_ok hR e rx
          obtain ⟨j, e1, e2⟩ := atI_len r.length e0
          obtain ⟨y, e3, r3⟩ := r.get e1
          rcases s with s | s
          · exact .inl ⟨_, _, _, y, rfl, rfl, s, e2 y e3, ok1 h hR (.d r3)⟩
          · exact .inr (.inl ⟨_, _, _, y, rfl, rfl, s, e2 y e3, ok1 h hR (.d r3)⟩)
        · exact h.elim
      · exact h.elim
  · exact h.elim
end
end MP

/-! MP7: built-in functions, methods -/
namespace MP
open PySem PySem.Spec PyProof.Rows L2
def CallS (G : GI) (r : List V → Hp → VK → Prop) (g : List Vl → Store → Res Vl) : Prop := ∀ w S H xs vs (Q : VK), Rel G w S H → RVs G w xs vs → Post G w H (rV G) (g xs S) Q (fun _ _ => False) → r vs H Q
def CallL (G : GI) (r : List V → Hp → VK → Prop) (g : List Vl → Store → Res (List D)) : Prop := ∀ w S H xs vs (Q : VK), Rel G w S H → RVs G w xs vs → Post G w H (rL G) (g xs S) (qL Q) (fun _ _ => False) → r vs H Q
def cal (g : List Vl → Store → Res Vl) (a : As) : Ex := fun η S => (a η S).bind g
def calL (g : List Vl → Store → Res (List D)) (a : As) : Li := fun η S => (a η S).bind g
section
variable {X : Cx} {G : GI} {W : WX} {pos : Pos} {x : Str} {p : Pos} {e : Expr} {es : List Expr} {id T : String} {r : List V → Hp → VK → Prop} {f : As}
theorem me_callB {g : List Vl → Store → Res Vl} (hc : CallR X (.builtin id) r) (hs : CallS G r g) (hx : ∀ a S, noX (g a S)) (hm : X.mg x = none) (hv : bootBuiltins x = some (.builtin id)) (hg : Gl X x) (ha : PA X (e :: es) (tA G W f)) (hn : x ≠ "__name__" := by decide) (hdb : (x == ("__debug__" : Str)) = false := by decide)
    (he : starEach (e :: es) X.env = (false, eval e X.env) :: starEach es X.env := by rfl) (hpl : (backTo pos (starEach es X.env)).any (·.1) = false := by rfl) : PE X (.Call (.Name x p) (e :: es) [] pos) (tE G W (cal g f)) :=
  (pe_callB hc hg hm hv ha hn hdb he hpl).imp fun σ H Q ⟨w, S, η, hR, hE, h⟩ => ⟨w, S, η, hR, hE, Post.thn h fun w1 S1 H1 xs vs n hR1 rx h2 => hs w1 S1 H1 xs vs Q hR1 rx (h2.noX (hx _ _))⟩
theorem me_callTy {g : List Vl → Store → Res Vl} (hc : CallR X (.type T) r) (hs : CallS G r g) (hx : ∀ a S, noX (g a S)) (hm : X.mg x = none) (hv : bootBuiltins x = some (.type T)) (hg : Gl X x) (ha : PA X (e :: es) (tA G W f)) (hn : x ≠ "__name__" := by decide) (hdb : (x == ("__debug__" : Str)) = false := by decide)
    (he : starEach (e :: es) X.env = (false, eval e X.env) :: starEach es X.env := by rfl) (hpl : (backTo pos (starEach es X.env)).any (·.1) = false := by rfl) : PE X (.Call (.Name x p) (e :: es) [] pos) (tE G W (cal g f)) :=
  (pe_callTy hc hg hm hv ha hn hdb he hpl).imp fun σ H Q ⟨w, S, η, hR, hE, h⟩ => ⟨w, S, η, hR, hE, Post.thn h fun w1 S1 H1 xs vs n hR1 rx h2 => hs w1 S1 H1 xs vs Q hR1 rx (h2.noX (hx _ _))⟩
theorem ml_callB {g : List Vl → Store → Res (List D)} (hc : CallR X (.builtin id) r) (hs : CallL G r g) (hx : ∀ a S, noX (g a S)) (hm : X.mg x = none) (hv : bootBuiltins x = some (.builtin id)) (hg : Gl X x) (ha : PA X (e :: es) (tA G W f)) (hn : x ≠ "__name__" := by decide) (hdb : (x == ("__debug__" : Str)) = false := by decide)
    (he : starEach (e :: es) X.env = (false, eval e X.env) :: starEach es X.env := by rfl) (hpl : (backTo pos (starEach es X.env)).any (·.1) = false := by rfl) : PE X (.Call (.Name x p) (e :: es) [] pos) (tL G W (calL g f)) :=
  (pe_callB hc hg hm hv ha hn hdb he hpl).imp fun σ H Q ⟨w, S, η, hR, hE, h⟩ => ⟨w, S, η, hR, hE, Post.thn h fun w1 S1 H1 xs vs n hR1 rx h2 => hs w1 S1 H1 xs vs Q hR1 rx (h2.noX (hx _ _))⟩
theorem ml_callTy {g : List Vl → Store → Res (List D)} (hc : CallR X (.type T) r) (hs : CallL G r g) (hx : ∀ a S, noX (g a S)) (hm : X.mg x = none) (hv : bootBuiltins x = some (.type T)) (hg : Gl X x) (ha : PA X (e :: es) (tA G W f)) (hn : x ≠ "__name__" := by decide) (hdb : (x == ("__debug__" : Str)) = false := by decide)
    (he : starEach (e :: es) X.env = (false, eval e X.env) :: starEach es X.env := by rfl) (hpl : (backTo pos (starEach es X.env)).any (·.1) = false := by rfl) : PE X (.Call (.Name x p) (e :: es) [] pos) (tL G W (calL g f)) :=
  (pe_callTy hc hg hm hv ha hn hdb he hpl).imp fun σ H Q ⟨w, S, η, hR, hE, h⟩ => ⟨w, S, η, hR, hE, Post.thn h fun w1 S1 H1 xs vs n hR1 rx h2 => hs w1 S1 H1 xs vs Q hR1 rx (h2.noX (hx _ _))⟩
end
theorem RVs.one {G : GI} {w : Wd} {x : Vl} {vs : List V} (r : RVs G w [x] vs) : ∃ v, vs = [v] ∧ RV G w x v := by
  cases r with | cons r t => cases t; exact ⟨_, rfl, r⟩
theorem RVs.two {G : GI} {w : Wd} {x y : Vl} {vs : List V} (r : RVs G w [x, y] vs) : ∃ v u, vs = [v, u] ∧ RV G w x v ∧ RV G w y u := by
  cases r with | cons r t => cases t with | cons r2 t => cases t; exact ⟨_, _, rfl, r, r2⟩
def lenV (S : Store) : Vl → Option Nat
  | .d (.str s) => if s.length ≤ 16777216 then some s.length else none
  | .d (.scr ns) => some ns.length
  | .t xs => some xs.length
  | v => (seqV S v).map List.length
def bLen (vs : List Vl) (S : Store) : Res Vl := match vs with
  | [v] => match lenV S v with
    | some n => .ok (.d (.int n)) S
    | none => .stuck
  | _ => .stuck
theorem lenV_ok {G : GI} {w : Wd} {S : Store} {H : Hp} (hR : Rel G w S H) {v : Vl} {x : V} {n : Nat} (e : lenV S v = some n) (r : RV G w v x) : LenV G.K x H n := by
  unfold lenV at e
  split at e
  · split at e
    · rename_i hz
      cases e
      cases r with | d r => cases r; exact ⟨by rw [szl]; exact hz, rfl⟩
    · cases e
  · cases e
    cases r with | d r => cases r with | scr h => exact .inl ⟨_, hR.sub.l h, by rw [List.length_map]⟩
  · cases e
    cases r with | t s r => exact .inr ⟨_, hR.sub.t s.t, r.length⟩
  · cases q : seqV S v with
    | none => rw [q] at e; cases e
    | some ds =>
      rw [q] at e; cases e
      obtain ⟨a, vs, rfl, s, r⟩ := seqV_ok hR q r
      rcases s with s | s
      · exact .inl ⟨vs, s, r.length⟩
      · exact .inr ⟨vs, s, r.length⟩
theorem bLen_s {X : Cx} {G : GI} (hK : X.K = G.K) : CallS G (fun xs H Q => ∃ x n, xs = [x] ∧ LenV X.K x H n ∧ Q (.int n) H) bLen := fun w S H xs vs Q hR rx h => by
  unfold bLen at h
  split at h
  · split at h
    · rename_i n e
      obtain ⟨v, rfl, r⟩ := rx.one
      rw [hK]
      exact ⟨v, n, rfl, lenV_ok hR e r, ok1 h hR (.d (.int _))⟩
    · exact h.elim
  · exact h.elim
def boolsD : List D → Option (List Bool)
  | [] => some []
  | .bl i :: r => (boolsD r).map (i :: ·)
  | _ :: _ => none
theorem boolsD_ok {G : GI} {M : Hp} : ∀ {ds : List D} {ns : List Bool} {vs : List V}, boolsD ds = some ns → RDs G M ds vs → vs = ns.map V.bl
  | [], _, _, e, .nil => by cases e; rfl
  | d :: r, ns, _, e, .cons h t => by
    unfold boolsD at e
    split at e
    · rename_i e0; cases e0
    · rename_i i r' e0
      cases e0
      cases q : boolsD r with
      | none => rw [q] at e; cases e
      | some ms =>
        rw [q] at e; cases e
        cases h
        rw [boolsD_ok q t]; rfl
    · cases e
def bAll (vs : List Vl) (S : Store) : Res Vl := match vs with
  | [v] => match seqL S v with
    | some ds => match boolsD ds with
      | some bs => .ok (.d (.bl (bs.all id))) S
      | none => .stuck
    | none => .stuck
  | _ => .stuck
def bAny (vs : List Vl) (S : Store) : Res Vl := match vs with
  | [v] => match seqL S v with
    | some ds => match boolsD ds with
      | some bs => .ok (.d (.bl (bs.any id))) S
      | none => .stuck
    | none => .stuck
  | _ => .stuck
def bSum (vs : List Vl) (S : Store) : Res Vl := match vs with
  | [v] => match seqL S v with
    | some ds => match intsD ds with
      | some ns => .ok (.d (.int ns.sum)) S
      | none => .stuck
    | none => .stuck
  | _ => .stuck
/-- the least, the greatest of some ints -/
def leastI : List Int → Option Int
  | [] => none
  | [a] => some a
  | a :: r => (leastI r).map fun m => if a ≤ m then a else m
def greatI : List Int → Option Int
  | [] => none
  | [a] => some a
  | a :: r => (greatI r).map fun m => if m ≤ a then a else m
theorem leastI_ok : ∀ {ns : List Int} {m : Int}, leastI ns = some m → m ∈ ns ∧ ∀ y ∈ ns, m ≤ y
  | [], _, h => by cases h
  | [a], m, h => by
    have : a = m := Option.some.inj h
    subst this; simp
  | a :: b :: r, m, h => by
    unfold leastI at h
    cases q : leastI (b :: r) with
    | none => rw [q] at h; cases h
    | some k =>
      rw [q] at h
      obtain ⟨h1, h2⟩ := leastI_ok q
      have e : (if a ≤ k then a else k) = m := Option.some.inj h
      by_cases hak : a ≤ k
      · rw [if_pos hak] at e; subst e
        exact ⟨by simp, fun y hy => by
          rcases List.mem_cons.mp hy with rfl | hy
          · omega
          · have := h2 y hy; omega⟩
      · rw [if_neg hak] at e; subst e
        exact ⟨List.mem_cons_of_mem _ h1, fun y hy => by
          rcases List.mem_cons.mp hy with rfl | hy
          · omega
          · exact h2 y hy⟩
theorem greatI_ok : ∀ {ns : List Int} {m : Int}, greatI ns = some m → m ∈ ns ∧ ∀ y ∈ ns, y ≤ m
  | [], _, h => by cases h
  | [a], m, h => by
    have : a = m := Option.some.inj h
    subst this; simp
  | a :: b :: r, m, h => by
    unfold greatI at h
    cases q : greatI (b :: r) with
    | none => rw [q] at h; cases h
    | some k =>
      rw [q] at h
      obtain ⟨h1, h2⟩ := greatI_ok q
      have e : (if k ≤ a then a else k) = m := Option.some.inj h
      by_cases hak : k ≤ a
      · rw [if_pos hak] at e; subst e
        exact ⟨by simp, fun y hy => by
          rcases List.mem_cons.mp hy with rfl | hy
          · omega
          · have := h2 y hy; omega⟩
      · rw [if_neg hak] at e; subst e
        exact ⟨List.mem_cons_of_mem _ h1, fun y hy => by
          rcases List.mem_cons.mp hy with rfl | hy
          · omega
          · exact h2 y hy⟩
def bMin1 (vs : List Vl) (S : Store) : Res Vl := match vs with
  | [v] => match seqL S v with
    | some ds => match intsD ds with
      | some ns => match leastI ns with
        | some m => .ok (.d (.int m)) S
        | none => .stuck
      | none => .stuck
    | none => .stuck
  | _ => .stuck
def bMax1 (vs : List Vl) (S : Store) : Res Vl := match vs with
  | [v] => match seqL S v with
    | some ds => match intsD ds with
      | some ns => match greatI ns with
        | some m => .ok (.d (.int m)) S
        | none => .stuck
      | none => .stuck
    | none => .stuck
  | _ => .stuck
def bMin2 (vs : List Vl) (S : Store) : Res Vl := match vs with
  | [.d (.int i), .d (.int j)] => .ok (.d (.int (if j < i then j else i))) S
  | _ => .stuck
def bMax2 (vs : List Vl) (S : Store) : Res Vl := match vs with
  | [.d (.int i), .d (.int j)] => .ok (.d (.int (if j > i then j else i))) S
  | _ => .stuck
def bTuple (vs : List Vl) (S : Store) : Res Vl := match vs with
  | [.d (.tup ds)] => .ok (.d (.tup ds)) S
  | [v] => match seqL S v with
    | some ds => .ok (.d (.tup ds)) S
    | none => .stuck
  | _ => .stuck
def bList (vs : List Vl) (S : Store) : Res (List D) := match vs with
  | [v] => match seqV S v with
    | some ds => .ok ds S
    | none => .stuck
  | _ => .stuck
def bInt (vs : List Vl) (S : Store) : Res Vl := match vs with
  | [.d (.int i)] => .ok (.d (.int i)) S
  | [.d (.bl b)] => .ok (.d (.int (if b then 1 else 0))) S
  | _ => .stuck
def bStr (vs : List Vl) (S : Store) : Res Vl := match vs with
  | [.d (.int i)] => if i.natAbs < 10000000000 then .ok (.d (.str (toString i))) S else .stuck
  | _ => .stuck
section
variable {X : Cx} {G : GI}
theorem bAll_s (hK : X.K = G.K) : CallS G (rAll X.K) bAll := fun w S H xs vs Q hR rx h => by
  unfold bAll at h
  rw [hK]
  split at h
  · split at h
    · rename_i ds e
      split at h
      · rename_i bs e2
        obtain ⟨v, rfl, r⟩ := rx.one
        obtain ⟨a, us, rfl, s, r⟩ := seqL_ok hR e r
        have q := boolsD_ok e2 r
        subst q
        exact ⟨a, bs, rfl, SqL.of s, ok1 h hR (.d (.bl _))⟩
      · exact h.elim
    · exact h.elim
  · exact h.elim
theorem bAny_s (hK : X.K = G.K) : CallS G (rAny X.K) bAny := fun w S H xs vs Q hR rx h => by
  unfold bAny at h
  rw [hK]
  split at h
  · split at h
    · rename_i ds e
      split at h
      · rename_i bs e2
        obtain ⟨v, rfl, r⟩ := rx.one
        obtain ⟨a, us, rfl, s, r⟩ := seqL_ok hR e r
        have q := boolsD_ok e2 r
        subst q
        exact ⟨a, bs, rfl, SqL.of s, ok1 h hR (.d (.bl _))⟩
      · exact h.elim
    · exact h.elim
  · exact h.elim
theorem bSum_s (hK : X.K = G.K) : CallS G (rSum X.K) bSum := fun w S H xs vs Q hR rx h => by
  unfold bSum at h
  rw [hK]
  split at h
  · split at h
    · rename_i ds e
      split at h
      · rename_i bs e2
        obtain ⟨v, rfl, r⟩ := rx.one
        obtain ⟨a, us, rfl, s, r⟩ := seqL_ok hR e r
        have q := intsD_ok e2 r
        subst q
        exact ⟨a, bs, rfl, SqL.of s, ok1 h hR (.d (.int _))⟩
      · exact h.elim
    · exact h.elim
  · exact h.elim
theorem bMin1_s (hK : X.K = G.K) : CallS G (rMin X.K) bMin1 := fun w S H xs vs Q hR rx h => by
  unfold bMin1 at h
  rw [hK]
  split at h
  · split at h
    · rename_i ds e
      split at h
      · rename_i ns e2
        split at h
        · rename_i m e3
          obtain ⟨v, rfl, r⟩ := rx.one
          obtain ⟨a, us, rfl, s, r⟩ := seqL_ok hR e r
          have q := intsD_ok e2 r
          subst q
          obtain ⟨h1, h2⟩ := leastI_ok e3
          refine ⟨a, ns, rfl, SqL.of s, List.length_pos_of_mem h1, fun m' m1 m2 => ?_⟩
          have : m' = m := by have := h2 m' m1; have := m2 m h1; omega
          subst this
          exact ok1 h hR (.d (.int _))
        · exact h.elim
      · exact h.elim
    · exact h.elim
  · exact h.elim
theorem bMax1_s (hK : X.K = G.K) : CallS G (rMax X.K) bMax1 := fun w S H xs vs Q hR rx h => by
  unfold bMax1 at h
  rw [hK]
  split at h
  · split at h
    · rename_i ds e
      split at h
      · rename_i ns e2
        split at h
        · rename_i m e3
          obtain ⟨v, rfl, r⟩ := rx.one
          obtain ⟨a, us, rfl, s, r⟩ := seqL_ok hR e r
          have q := intsD_ok e2 r
          subst q
          obtain ⟨h1, h2⟩ := greatI_ok e3
          refine ⟨a, ns, rfl, SqL.of s, List.length_pos_of_mem h1, fun m' m1 m2 => ?_⟩
          have : m' = m := by have := h2 m' m1; have := m2 m h1; omega
          subst this
          exact ok1 h hR (.d (.int _))
        · exact h.elim
      · exact h.elim
    · exact h.elim
  · exact h.elim
theorem bMin2_s : CallS G (fun xs H Q => ∃ i j, xs = [.int i, .int j] ∧ Q (.int (if j < i then j else i)) H) bMin2 := fun w S H xs vs Q hR rx h => by
  unfold bMin2 at h
  split at h
  · obtain ⟨v, u, rfl, r1, r2⟩ := rx.two
    cases int1 r1; cases int1 r2
    exact ⟨_, _, rfl, ok1 h hR (.d (.int _))⟩
  · exact h.elim
theorem bMax2_s : CallS G (fun xs H Q => ∃ i j, xs = [.int i, .int j] ∧ Q (.int (if j > i then j else i)) H) bMax2 := fun w S H xs vs Q hR rx h => by
  unfold bMax2 at h
  split at h
  · obtain ⟨v, u, rfl, r1, r2⟩ := rx.two
    cases int1 r1; cases int1 r2
    exact ⟨_, _, rfl, ok1 h hR (.d (.int _))⟩
  · exact h.elim
theorem bTuple_s (hK : X.K = G.K) : CallS G (rTupOfF X.K) bTuple := fun w S H xs vs Q hR rx h => by
  unfold bTuple at h
  rw [hK]
  split at h
  · obtain ⟨v, rfl, r⟩ := rx.one
    cases r with | d r => cases r with | tup s r => exact ⟨_, _, rfl, .inr ⟨hR.sub.t s.t, ok1 h hR (.d (.tup s r))⟩⟩
  · split at h
    · rename_i ds e
      obtain ⟨v, rfl, r⟩ := rx.one
      obtain ⟨a, us, rfl, s, r⟩ := seqL_ok hR e r
      exact ⟨_, _, rfl, .inl ⟨SqL.of s, fix_tup hR r h⟩⟩
    · exact h.elim
  · exact h.elim
theorem bList_s (hK : X.K = G.K) : CallL G (fun xs H Q => ∃ p ys, xs = [.ref p] ∧ (SqL X.K H p ys ∨ SqT X.K H p ys) ∧ ∀ l, H l = none → Q (.ref l) (upd H l (.lst ys))) bList := fun w S H xs vs Q hR rx h => by
  unfold bList at h
  rw [hK]
  split at h
  · split at h
    · rename_i ds e
      obtain ⟨v, rfl, r⟩ := rx.one
      obtain ⟨a, us, rfl, s, r⟩ := seqV_ok hR e r
      exact ⟨_, _, rfl, s, fun l hl => h w H (l, us) (Go.refl _ _) hR ⟨hl, r⟩⟩
    · exact h.elim
  · exact h.elim
theorem bInt_s : CallS G (fun xs H Q => (∃ i, xs = [.int i] ∧ Q (.int i) H) ∨ ∃ k, xs = [.bl k] ∧ Q (.int (if k then 1 else 0)) H) bInt := fun w S H xs vs Q hR rx h => by
  unfold bInt at h
  split at h
  · obtain ⟨v, rfl, r⟩ := rx.one
    cases int1 r
    exact .inl ⟨_, rfl, ok1 h hR (.d (.int _))⟩
  · obtain ⟨v, rfl, r⟩ := rx.one
    cases r with | d r => cases r; exact .inr ⟨_, rfl, ok1 h hR (.d (.int _))⟩
  · exact h.elim
theorem bStr_s : CallS G (fun xs H Q => ∃ i, xs = [.int i] ∧ i.natAbs.log2 < 1920 ∧ Q (.str (toString i)) H) bStr := fun w S H xs vs Q hR rx h => by
  unfold bStr at h
  split at h
  · split at h
    · rename_i i hi
      obtain ⟨v, rfl, r⟩ := rx.one
      cases int1 r
      refine ⟨_, rfl, ?_, ok1 h hR (.d (.str _))⟩
      by_cases h0 : i.natAbs = 0
      · rw [h0]; decide
      · have := Nat.log2_lt h0 (k := 34)
        have h34 : i.natAbs < 2 ^ 34 := by omega
        have := this.mpr h34
        omega
    · exact h.elim
  · exact h.elim
end
end MP

/-! MP8: slices, isinstance, methods of lists -/
namespace MP
open PySem PySem.Spec PyProof.Rows L2
/-! ### slices -/
def cutD {α : Type} (xs : List α) (lo hi : Option Int) : List α := (xs.drop (HT.sIx xs.length 0 lo)).take (HT.sIx xs.length xs.length hi - HT.sIx xs.length 0 lo)
def slV (x : Vl) (lo hi : Option Int) (S : Store) : Res Vl := match x with
  | .d (.tup ds) => .ok (.d (.tup (cutD ds lo hi))) S
  | .d (.str s) => if s.length ≤ 16777216 then .ok (.d (.str (Txt.slice s lo hi))) S else .stuck
  | .d (.scr ns) => .ok (.d (.lst (cutD (ns.map .int) lo hi))) S
  | x => match seqL S x with
    | some ds => .ok (.d (.lst (cutD ds lo hi))) S
    | none => .stuck
def slL (x : Vl) (lo hi : Option Int) (S : Store) : Res (List D) := match seqL S x with
  | some ds => .ok (cutD ds lo hi) S
  | none => .stuck
/-- a slice's part -/
abbrev Pa := En → Store → Res (Option Int)
def paN : Pa := fun _ S => .ok none S
def paI (e : Ex) : Pa := fun η S => (e η S).bind fun v S1 => match v with
  | .d (.int i) => .ok (some i) S1
  | _ => .stuck
def slE (e : Ex) (lo hi : Pa) : Ex := fun η S => (e η S).bind fun x S1 => (lo η S1).bind fun l S2 => (hi η S2).bind fun h S3 => slV x l h S3
def slLi (e : Ex) (lo hi : Pa) : Li := fun η S => (e η S).bind fun x S1 => (lo η S1).bind fun l S2 => (hi η S2).bind fun h S3 => slL x l h S3
def rP : Hp → Wd → Option Int → Option Int → Prop := fun _ _ a b => a = b
def tP (G : GI) (W : WX) (f : Pa) : TO := fun σ H Q => ∃ w S η, Rel G w S H ∧ EnR G w η σ ∧ Post G w H rP (f η S) Q (xw G W σ)
def rSlAll (K : PySem.W.Frag) : V → Option Int → Option Int → Hp → VK → Prop := fun x lo hi H Q => (rSlL K x lo hi H Q ∨ rSlF K x lo hi H Q) ∨ C8.rSlX x lo hi H Q
theorem RDs.cut {G : GI} {M : Hp} {ds : List D} {vs : List V} (r : RDs G M ds vs) (lo hi : Option Int) : RDs G M (cutD ds lo hi) (cutV vs lo hi) := by
  unfold cutD cutV
  rw [r.length]
  have tk : ∀ {ds : List D} {vs : List V} (n : Nat), RDs G M ds vs → RDs G M (ds.take n) (vs.take n) := by
    intro ds vs n r
    induction n generalizing ds vs with
    | zero => exact .nil
    | succ n ih => cases r with
      | nil => exact .nil
      | cons h t => exact .cons h (ih t)
  have dp : ∀ {ds : List D} {vs : List V} (n : Nat), RDs G M ds vs → RDs G M (ds.drop n) (vs.drop n) := by
    intro ds vs n r
    induction n generalizing ds vs with
    | zero => exact r
    | succ n ih => cases r with
      | nil => exact .nil
      | cons h t => exact ih t
  exact tk _ (dp _ r)
section
variable {X : Cx} {G : GI} {W : WX} {pos p2 : Pos}
theorem mp_none : PO X none (tP G W paN) := ⟨fun pins s σ H Q I ⟨w, S, η, hR, hE, h⟩ => po_none.run pins s σ H Q I (h w H none (Go.refl w H) hR rfl)⟩
theorem mp_some {e : Expr} {f : Ex} (h : PE X e (tE G W f)) : PO X (some e) (tP G W (paI f)) := ⟨fun pins s σ H Q I ⟨w, S, η, hR, hE, hh⟩ => (po_some h).run pins s σ H Q I ⟨w, S, η, hR, hE, Post.thn hh fun w1 S1 H1 x v n hR1 rx h2 => by
  split at h2
  · cases int1 rx; exact ⟨_, rfl, h2 w1 H1 _ (Go.refl _ _) hR1 rfl⟩
  · exact h2.elim⟩⟩
theorem slV_nx (x : Vl) (lo hi : Option Int) (S : Store) : noX (slV x lo hi S) := by
  unfold slV; repeat' split
  all_goals trivial
theorem slL_nx (x : Vl) (lo hi : Option Int) (S : Store) : noX (slL x lo hi S) := by
  unfold slL; repeat' split
  all_goals trivial
theorem slV_s {K : PySem.W.Frag} (hK : K = G.K) {w : Wd} {S : Store} {H : Hp} {x : Vl} {v : V} {lo hi : Option Int} {Q : VK} (hR : Rel G w S H) (rx : RV G w x v) (h : Post G w H (rV G) (slV x lo hi S) Q (fun _ _ => False)) : rSlAll K v lo hi H Q := by
  unfold slV at h
  subst hK
  split at h
  · rename_i ds
    cases rx with | d r => cases r with
      | tup s r =>
        rename_i a vs
        have rc := r.cut lo hi
        refine .inl (.inr ⟨_, vs, rfl, hR.sub.t s.t, fun ⟨e1, e2⟩ => ?_, fun _ => fix_tup hR rc h⟩)
        refine ok1 h hR (.d (.tup s ?_))
        have : cutV vs lo hi = vs := by unfold cutV; rw [e1, e2, List.drop_zero, Nat.sub_zero, List.take_length]
        rw [this] at rc
        exact rc
  · split at h
    · rename_i z hz
      cases rx with | d r => cases r; exact .inr ⟨_, rfl, by rw [szl]; exact hz, ok1 h hR (.d (.str _))⟩
    · exact h.elim
  · cases rx with | d r => cases r with | scr e =>
      rename_i ns a
      have rc : RDs G w.M (cutD (ns.map .int) lo hi) (cutV (ns.map V.int) lo hi) := (RDs.ints ns).cut lo hi
      exact .inl (.inl ⟨_, _, rfl, hR.sub.l e, fun p hp => fix_lst hR hp rc h⟩)
  · split at h
    · rename_i ds e
      obtain ⟨a, vs, rfl, s, r⟩ := seqL_ok hR e rx
      exact .inl (.inl ⟨_, vs, rfl, SqL.of s, fun p hp => fix_lst hR hp (r.cut lo hi) h⟩)
    · exact h.elim
theorem me_sl {e : Expr} {lo hi : Option Expr} {f : Ex} {a b : Pa} (hK : X.K = G.K) (he : PE X e (tE G W f)) (hl : PO X lo (tP G W a)) (hu : PO X hi (tP G W b)) : PE X (.Subscript e (.Slice lo hi none p2) pos) (tE G W (slE f a b)) :=
  (pe_slice ((sl_list.or sl_tupF).or C8.sl_txt) he hl hu).imp fun σ H Q ⟨w, S, η, hR, hE, h⟩ => ⟨w, S, η, hR, hE, Post.thn h fun w1 S1 H1 x v n hR1 rx h2 => ⟨w1, S1, η, hR1, hE.mono n.n, Post.thn h2 fun w2 S2 H2 l l' n2 hR2 rl h3 =>
    ⟨w2, S2, η, hR2, (hE.mono n.n).mono n2.n, Post.thn h3 fun w3 S3 H3 u u' n3 hR3 ru h4 => by
      cases rl; cases ru
      exact slV_s hK hR3 ((rx.mono n2.n).mono n3.n) (h4.noX (slV_nx _ _ _ _))⟩⟩⟩
theorem ml_sl {e : Expr} {lo hi : Option Expr} {f : Ex} {a b : Pa} (hK : X.K = G.K) (he : PE X e (tE G W f)) (hl : PO X lo (tP G W a)) (hu : PO X hi (tP G W b)) : PE X (.Subscript e (.Slice lo hi none p2) pos) (tL G W (slLi f a b)) :=
  (pe_slice sl_list he hl hu).imp fun σ H Q ⟨w, S, η, hR, hE, h⟩ => ⟨w, S, η, hR, hE, Post.thn h fun w1 S1 H1 x v n hR1 rx h2 => ⟨w1, S1, η, hR1, hE.mono n.n, Post.thn h2 fun w2 S2 H2 l l' n2 hR2 rl h3 =>
    ⟨w2, S2, η, hR2, (hE.mono n.n).mono n2.n, Post.thn h3 fun w3 S3 H3 u u' n3 hR3 ru h4 => by
      cases rl; cases ru
      unfold slL at h4
      split at h4
      · rename_i ds e
        obtain ⟨a, vs, rfl, s, r⟩ := seqL_ok hR3 e ((rx.mono n2.n).mono n3.n)
        rw [hK]
        exact ⟨_, vs, rfl, SqL.of s, fun p hp => h4 w3 H3 (p, _) (Go.refl _ _) hR3 ⟨hp, r.cut _ _⟩⟩
      · exact h4.elim⟩⟩⟩
end
/-! ### isinstance, one built-in class -/
def tyN (S : Store) : Vl → Option String
  | .d .non => some "NoneType"
  | .d (.bl _) => some "bool"
  | .d (.int _) => some "int"
  | .d (.str _) => some "str"
  | .d (.tup _) => some "tuple"
  | .d (.lst _) => some "list"
  | .p k => match S.L[k]? with
    | some (some _) => some "list"
    | _ => none
  | .t _ => some "tuple"
  | _ => none
def isD (T : String) (x : Vl) (S : Store) : Res Vl := match tyN S x with
  | some t => .ok (.d (.bl (t == T || (t == "bool" && T == "int")))) S
  | none => .stuck
section
variable {X : Cx} {G : GI} {W : WX} {pos : Pos}
theorem tyN_ok {K : PySem.W.Frag} (hK : K = G.K) {w : Wd} {S : Store} {H : Hp} (hR : Rel G w S H) {x : Vl} {v : V} {t : String} (e : tyN S x = some t) (r : RV G w x v) : TyX K H v (.type t) := by
  unfold tyN at e
  split at e
  · cases e; cases r with | d r => cases r; exact .base .non
  · cases e; cases r with | d r => cases r; exact .base (.bl _)
  · cases e; cases r with | d r => cases r; exact .base (.int _)
  · cases e; cases r with | d r => cases r; exact .base (.str _)
  · cases e; cases r with | d r => cases r with | tup s r =>
      rcases s with ⟨o, h1, h2⟩ | ⟨o, its, n, h1, h2, _⟩
      · exact .fTuple (hR.sub _ _ h1)
      · exact .kTuple (by rw [hK]; exact h1) h2
  · cases e; cases r with | d r => cases r with | lst s r => exact .base (.lst (hR.sub _ _ s))
  · split at e
    · rename_i ds q
      cases e
      cases r with | p r =>
        obtain ⟨h1, vs, e3, rr⟩ := hR.cel _ _ _ q r
        exact .base (.lst e3)
    · cases e
  · cases e; cases r with | t s r =>
      rcases s with ⟨o, h1, h2⟩ | ⟨o, its, n, h1, h2, _⟩
      · exact .fTuple (hR.sub _ _ h1)
      · exact .kTuple (by rw [hK]; exact h1) h2
  · cases e
def TyOkB (T : String) : Prop := ∀ t ∈ ["NoneType", "bool", "int", "str", "tuple", "list"], kitB t T = some (t == T || (t == "bool" && T == "int"))
theorem tyN_mem {S : Store} {x : Vl} {t : String} (e : tyN S x = some t) : t ∈ ["NoneType", "bool", "int", "str", "tuple", "list"] := by
  unfold tyN at e
  repeat' split at e
  all_goals first
    | cases e; decide
    | cases e
theorem me_isi {x z : Str} {p pz : Pos} {e : Expr} {T : String} {f : Ex} (hK : X.K = G.K) (hT : TyOkB T) (hg : Gl X x) (hm : X.mg x = none) (hv : bootBuiltins x = some (.builtin "isinstance")) (hgz : Gl X z) (hmz : X.mg z = none) (hvz : bootBuiltins z = some (.type T)) (ha : PE X e (tE G W f))
    (hn : x ≠ "__name__" := by decide) (hdb : (x == ("__debug__" : Str)) = false := by decide) (hn2 : z ≠ "__name__" := by decide) (hdb2 : (z == ("__debug__" : Str)) = false := by decide)
    (he : starEach [e, .Name z pz] X.env = (false, eval e X.env) :: starEach [.Name z pz] X.env := by rfl) (he2 : starEach [.Name z pz] X.env = (false, eval (.Name z pz) X.env) :: starEach [] X.env := by rfl)
    (hpl : (backTo pos (starEach [.Name z pz] X.env)).any (·.1) = false := by rfl) : PE X (.Call (.Name x p) [e, .Name z pz] [] pos) (tE G W (una (isD T) f)) :=
  (pe_callB call_isi hg hm hv (pa_cons ha (pa_cons (pe_bltn (v := .ty T) hgz hmz hvz rfl hn2 hdb2) pa_nil he2) he) hn hdb he hpl).imp fun σ H Q ⟨w, S, η, hR, hE, h⟩ => ⟨w, S, η, hR, hE, Post.thn h fun w1 S1 H1 y v n hR1 ry h2 => by
    unfold isD at h2
    split at h2
    · rename_i t q
      refine ⟨v, .ty T, .type t, .type T, _, rfl, .ty T, tyN_ok hK hR1 q ry, kit_ty (hT t (tyN_mem q)), ok1 h2 hR1 (.d (.bl _))⟩
    · exact h2.elim⟩
theorem ty_int : TyOkB "int" := by unfold TyOkB; decide +kernel
theorem ty_bool : TyOkB "bool" := by unfold TyOkB; decide +kernel
theorem ty_str : TyOkB "str" := by unfold TyOkB; decide +kernel
theorem ty_tuple : TyOkB "tuple" := by unfold TyOkB; decide +kernel
theorem ty_list : TyOkB "list" := by unfold TyOkB; decide +kernel
end
/-! ### lists in cells change -/
def isP (S : Store) : Vl → Bool
  | .p k => match S.L[k]? with
    | some (some _) => true
    | _ => false
  | _ => false
def mutV (g : List Vl → Store → List D → Option (D × List D)) (x : Vl) (ys : List Vl) (S : Store) : Res Vl := match x with
  | .p k => match S.L[k]? with
    | some (some ds) => match g ys S ds with
      | some (v, ds') => .ok (.d v) ⟨S.L.set k (some ds')⟩
      | none => .stuck
    | _ => .stuck
  | _ => .stuck
def mutE (g : List Vl → Store → List D → Option (D × List D)) (o : Ex) (a : As) : Ex := fun η S => (o η S).bind fun x S1 => if isP S1 x = true then (a η S1).bind fun ys S2 => mutV g x ys S2 else .stuck
def MutS (G : GI) (r : V → List V → Hp → VK → Prop) (g : List Vl → Store → List D → Option (D × List D)) : Prop := ∀ (w : Wd) (S : Store) (H : Hp) (k : Nat) (a : Addr) (ds : List D) (us : List V) (xs : List Vl) (vs : List V) (v : D) (ds' : List D) (Q : VK), Rel G w S H → S.L[k]? = some (some ds) → w.ρ[k]? = some a → H a = some (.lst us) → RDs G w.M ds us → RVs G w xs vs → g xs S ds = some (v, ds') →
  (∀ vs' u, RDs G w.M ds' vs' → RD G w.M v u → Q u (upd H a (.lst vs'))) → r (.ref a) vs H Q
section
variable {X : Cx} {G : GI} {W : WX} {pos apos cpos : Pos} {n0 : Nat}
theorem isP_ok {w : Wd} {S : Store} {H : Hp} (hR : Rel G w S H) {x : Vl} {v : V} {K : PySem.W.Frag} (e : isP S x = true) (r : RV G w x v) : ∃ k a, x = .p k ∧ v = .ref a ∧ w.ρ[k]? = some a ∧ tyV K "list" v H := by
  unfold isP at e
  split at e
  · split at e
    · rename_i ds q
      cases r with | p r =>
        obtain ⟨h1, vs, e3, rr⟩ := hR.cel _ _ _ q r
        exact ⟨_, _, rfl, rfl, r, .inl ⟨rfl, vs, SqL.of e3⟩⟩
    · cases e
  · cases e
theorem mutV_ok {r : V → List V → Hp → VK → Prop} {g} (hs : MutS G r g) {w : Wd} {S : Store} {H : Hp} (hR : Rel G w S H) {k : Nat} {a : Addr} (ea : w.ρ[k]? = some a) {xs : List Vl} {vs : List V} (rx : RVs G w xs vs) {Q : VK} {XX} (h : Post G w H (rV G) (mutV g (.p k) xs S) Q XX) : r (.ref a) vs H Q := by
  unfold mutV at h
  simp only at h
  split at h
  · rename_i ds q
    split at h
    · rename_i v ds' e
      obtain ⟨h1, us, e3, rr⟩ := hR.cel k _ _ q ea
      exact hs w S H k a ds us xs vs v ds' Q hR q ea e3 rr rx e fun vs' u r1 r2 => h w _ u (Go.wr ea) (hR.wr q ea r1) (.d r2)
    · exact h.elim
  · exact h.elim
theorem me_mut0 {o : Expr} {name : Str} {id : String} {r : V → List V → Hp → VK → Prop} {g} {f : Ex} (slot : Slot "list" name id) (hty : typeOf (.builtin id) = pure (.type "method_descriptor")) (hm : MtR X id r) (hs : MutS G r g) (ho : PE X o (tE G W f))
    (hbase : attributeBase o name X.env (eval o X.env) = eval o X.env := by rfl) (hline : (apos.endLine == cpos.line) = true := by rfl) : PE X (.Call (.Attribute o name apos) [] [] cpos) (tE G W (mutE g f nilA)) :=
  (pe_bm0 PySem.F.plainAttrs_list slot hty hm ho hbase hline).imp fun σ H Q ⟨w, S, η, hR, hE, h⟩ => ⟨w, S, η, hR, hE, Post.thn h fun w1 S1 H1 x v n hR1 rx h2 => by
    split at h2
    · rename_i hp
      obtain ⟨k, a, rfl, rfl, ea, ty⟩ := isP_ok (K := X.K) hR1 hp rx
      exact ⟨ty, mutV_ok hs hR1 ea .nil h2⟩
    · exact h2.elim⟩
theorem me_mut {o e : Expr} {es : List Expr} {name : Str} {id : String} {r : V → List V → Hp → VK → Prop} {g} {f : Ex} {fa : As} (slot : Slot "list" name id) (hty : typeOf (.builtin id) = pure (.type "method_descriptor")) (hm : MtR X id r) (hs : MutS G r g) (ho : PE X o (tE G W f)) (ha : PA X (e :: es) (tA G W fa))
    (hbase : attributeBase o name X.env (eval o X.env) = eval o X.env := by rfl)
    (hfew : ((backTo cpos (starEach (e :: es) X.env)).all (fun x => !x.1) && (backToKw cpos (keywordEach [] X.env)).all (fun x => x.1.isSome)
      && decide ((e :: es).length + ([] : List Keyword).length + (if ([] : List Keyword).isEmpty then 0 else 1) < 30)) = true := by rfl)
    (hline : (apos.endLine == cpos.line) = true := by rfl) (hst : starEach (e :: es) X.env = (false, eval e X.env) :: starEach es X.env := by rfl) (hplain : (backTo cpos (starEach es X.env)).any (·.1) = false := by rfl) : PE X (.Call (.Attribute o name apos) (e :: es) [] cpos) (tE G W (mutE g f fa)) :=
  (pe_bm PySem.F.plainAttrs_list slot hty hm ho ha hbase hfew hline hst hplain).imp fun σ H Q ⟨w, S, η, hR, hE, h⟩ => ⟨w, S, η, hR, hE, Post.thn h fun w1 S1 H1 x v n hR1 rx h2 => by
    split at h2
    · rename_i hp
      obtain ⟨k, a, rfl, rfl, ea, ty⟩ := isP_ok (K := X.K) hR1 hp rx
      exact ⟨ty, w1, S1, η, hR1, hE.mono n.n, Post.thn h2 fun w2 S2 H2 ys us n2 hR2 ry h3 => mutV_ok hs hR2 (by
        cases rx.mono n2.n with | p r => exact r) ry h3⟩
    · exact h2.elim⟩
def gAppend (ys : List Vl) (S : Store) (ds : List D) : Option (D × List D) := match ys with
  | [.d y] => if ds.length < 16777216 then some (.non, ds ++ [y]) else none
  | _ => none
def gExtend (ys : List Vl) (S : Store) (ds : List D) : Option (D × List D) := match ys with
  | [y] => match seqL S y with
    | some es => if ds.length + es.length ≤ 16777216 then some (.non, ds ++ es) else none
    | none => none
  | _ => none
def gPop (ys : List Vl) (S : Store) (ds : List D) : Option (D × List D) := match ys with
  | [] => match ds[ds.length - 1]? with
    | some y => some (y, ds.dropLast)
    | none => none
  | _ => none
def gClear (ys : List Vl) (S : Store) (ds : List D) : Option (D × List D) := match ys with
  | [] => some (.non, [])
  | _ => none
def gReverse (ys : List Vl) (S : Store) (ds : List D) : Option (D × List D) := match ys with
  | [] => some (.non, ds.reverse)
  | _ => none
def gInsert (ys : List Vl) (S : Store) (ds : List D) : Option (D × List D) := match ys with
  | [.d (.int i), .d y] => if ds.length < 16777216 ∧ 0 ≤ i ∧ i < 1073741824 then some (.non, ds.take i.toNat ++ [y] ++ ds.drop i.toNat) else none
  | _ => none
theorem RDs.rev {M : Hp} : ∀ {ds : List D} {vs : List V}, RDs G M ds vs → RDs G M ds.reverse vs.reverse
  | _, _, .nil => .nil
  | _, _, .cons h t => by rw [List.reverse_cons, List.reverse_cons]; exact (RDs.rev t).app (.cons h .nil)
theorem RDs.dropL {M : Hp} : ∀ {ds : List D} {vs : List V}, RDs G M ds vs → RDs G M ds.dropLast vs.dropLast
  | _, _, .nil => .nil
  | _, _, .cons h .nil => .nil
  | _, _, .cons h (.cons h2 t) => .cons h (RDs.dropL (.cons h2 t))
theorem RDs.tk {M : Hp} : ∀ {ds : List D} {vs : List V} (n : Nat), RDs G M ds vs → RDs G M (ds.take n) (vs.take n)
  | _, _, 0, _ => .nil
  | _, _, n + 1, .nil => .nil
  | _, _, n + 1, .cons h t => .cons h (RDs.tk n t)
theorem RDs.dp' {M : Hp} : ∀ {ds : List D} {vs : List V} (n : Nat), RDs G M ds vs → RDs G M (ds.drop n) (vs.drop n)
  | _, _, 0, h => h
  | _, _, n + 1, .nil => .nil
  | _, _, n + 1, .cons h t => RDs.dp' n t
theorem gAppend_s : MutS G rAppend gAppend := fun w S H k a ds us xs vs v ds' Q hR hk ea e3 rr rx e q => by
  unfold gAppend at e
  split at e
  · split at e
    · rename_i hz
      cases e
      obtain ⟨u, rfl, r⟩ := rx.one
      cases r with | d r => exact ⟨a, us, u, rfl, rfl, e3, by rw [szl, ← rr.length]; exact hz, q _ _ (rr.app (.cons r .nil)) .non⟩
    · cases e
  · cases e
theorem gExtend_s : MutS G rExtend gExtend := fun w S H k a ds us xs vs v ds' Q hR hk ea e3 rr rx e q => by
  unfold gExtend at e
  split at e
  · split at e
    · rename_i es q2
      split at e
      · rename_i hz
        cases e
        obtain ⟨u, rfl, r⟩ := rx.one
        obtain ⟨b, zs, rfl, s, r2⟩ := seqL_ok hR q2 r
        exact ⟨a, b, us, zs, rfl, rfl, e3, s, by rw [szl, ← rr.length, ← r2.length]; exact hz, q _ _ (rr.app r2) .non⟩
      · cases e
    · cases e
  · cases e
theorem gPop_s : MutS G rPop gPop := fun w S H k a ds us xs vs v ds' Q hR hk ea e3 rr rx e q => by
  unfold gPop at e
  split at e
  · split at e
    · rename_i y hy
      cases e
      cases rx
      obtain ⟨u, h1, h2⟩ := rr.get hy
      rw [rr.length] at h1
      exact ⟨a, us, u, rfl, rfl, e3, h1, q _ _ rr.dropL h2⟩
    · cases e
  · cases e
theorem gClear_s : MutS G rClear gClear := fun w S H k a ds us xs vs v ds' Q hR hk ea e3 rr rx e q => by
  unfold gClear at e
  split at e
  · cases e; cases rx; exact ⟨a, us, rfl, rfl, e3, q _ _ .nil .non⟩
  · cases e
theorem gReverse_s : MutS G rReverse gReverse := fun w S H k a ds us xs vs v ds' Q hR hk ea e3 rr rx e q => by
  unfold gReverse at e
  split at e
  · cases e; cases rx; exact ⟨a, us, rfl, rfl, e3, q _ _ rr.rev .non⟩
  · cases e
theorem gInsert_s : MutS G (fun x vs H Q => ∃ (l : Addr) (xs : List V) (i : Int) (y : V), x = .ref l ∧ vs = [.int i, y] ∧ H l = some (.lst xs) ∧ xs.length < sizeLine ∧ 0 ≤ i ∧ i < 2 ^ 63 ∧
    Q .non (upd H l (.lst (xs.take i.toNat ++ [y] ++ xs.drop i.toNat)))) gInsert := fun w S H k a ds us xs vs v ds' Q hR hk ea e3 rr rx e q => by
  unfold gInsert at e
  split at e
  · split at e
    · rename_i hz
      cases e
      obtain ⟨u, y, rfl, r, r2⟩ := rx.two
      cases int1 r
      cases r2 with | d r2 => exact ⟨a, us, _, y, rfl, rfl, e3, by rw [szl, ← rr.length]; exact hz.1, hz.2.1, by omega, q _ _ (((rr.tk _).app (.cons r2 .nil)).app (rr.dp' _)) .non⟩
    · cases e
  · cases e
/-! ### xs[i] = v -/
def setV (x y v : Vl) (S : Store) : Option Store := match x, y, v with
  | .p k, .d (.int j), .d d => match S.L[k]? with
    | some (some ds) => match ixN ds.length j with
      | some m => some ⟨S.L.set k (some (ds.set m d))⟩
      | none => none
    | _ => none
  | _, _, _ => none
def setI (e o i : Ex) : Stm := fun _ η S => (e η S).st η fun v S1 => (o η S1).st η fun x S2 => (i η S2).st η fun y S3 => match setV x y v S3 with
  | some S4 => .next η S4
  | none => .stuck
theorem RDs.set {M : Hp} : ∀ {ds : List D} {vs : List V} (n : Nat) {d : D} {v : V}, RDs G M ds vs → RD G M d v → RDs G M (ds.set n d) (vs.set n v)
  | _, _, _, _, _, .nil, _ => .nil
  | _, _, 0, _, _, .cons h t, r => .cons r t
  | _, _, n + 1, _, _, .cons h t, r => .cons h (RDs.set n t r)
theorem ms_setI {e o i : Expr} {fe fo fi : Ex} {p : Pos} (he : PE X e (tE G W fe)) (ho : PE X o (tE G W fo)) (hi : PE X i (tE G W fi)) (hs : swapsWithSole [.Subscript o i p] e pos.line X.env = pure false := by rfl) (hw : swappedStores [.Subscript o i p] e X.env = pure none := by rfl)
    (h1 : (assignEach [.Subscript o i p] X.env).map (·.2) = [assign (.Subscript o i p) X.env] := by rfl)
    (ha : ∀ v, assign (.Subscript o i p) X.env v = (do
      let ov ← holding [v] (eval o X.env)
      let iv ← holding [v, ov] (eval i X.env)
      standAt p
      holding [v, ov, iv] (setItem ov iv v)
      release [v, ov, iv] []) := by intro _; rfl) : PS X (.Assign [.Subscript o i p] e pos) (tS G W n0 (setI fe fo fi)) :=
  (ps_asg he (pg_sub ho hi set_list ha) hs hw h1).imp fun D σ H ⟨w, S, η, hR, hE, hn, h⟩ => ⟨w, S, η, hR, hE, PostS.ex hE hn h fun w1 S1 H1 x v n hR1 rx h2 => ⟨w1, S1, η, hR1, hE.mono n.n, PostS.ex (hE.mono n.n) (n.n.len hn) h2 fun w2 S2 H2 y u n2 hR2 ry h3 =>
    ⟨w2, S2, η, hR2, (hE.mono n.n).mono n2.n, PostS.ex ((hE.mono n.n).mono n2.n) (n2.n.len (n.n.len hn)) h3 fun w3 S3 H3 z t n3 hR3 rz h4 => by
      split at h4
      · rename_i S4 e4
        unfold setV at e4
        split at e4
        · rename_i k j d
          split at e4
          · rename_i ds q
            split at e4
            · rename_i m hm
              cases e4
              cases int1 rz
              cases ry.mono n3.n with | p ea =>
                cases (rx.mono n2.n).mono n3.n with | d rd =>
                  obtain ⟨h1, us, e3, rr⟩ := hR3.cel k _ _ q ea
                  refine ⟨_, us, j, m, rfl, rfl, e3, by rw [← rr.length]; exact hm, ?_⟩
                  exact h4 w3 _ σ ((Go.wr ea).s n0) (hR3.wr q ea (rr.set m rd)) (((hE.mono n.n).mono n2.n).mono n3.n)
            · cases e4
          · cases e4
        · cases e4
      · exact h4.elim⟩⟩⟩
end
end MP

/-! MP9: what the printed texts use -/
namespace MP
open PySem PySem.Spec PyProof.Rows L2
theorem oEq_nx {neg : Bool} (x y : Vl) (S : Store) : noX (oEq neg x y S) := by unfold oEq; (repeat' split) <;> first | trivial | (simp only [noX])
theorem cmpI_nx {f : Int → Int → Bool} (x y : Vl) (S : Store) : noX (cmpI f x y S) := by unfold cmpI; (repeat' split) <;> first | trivial | (simp only [noX])
theorem oLt_nx (x y : Vl) (S : Store) : noX (oLt x y S) := by unfold oLt; (repeat' split) <;> first | trivial | (simp only [noX])
theorem oIn_nx {neg : Bool} (x y : Vl) (S : Store) : noX (oIn neg x y S) := by unfold oIn; (repeat' split) <;> first | trivial | (simp only [noX])
theorem oIsN_nx {neg : Bool} (x y : Vl) (S : Store) : noX (oIsN neg x y S) := by unfold oIsN; (repeat' split) <;> first | trivial | (simp only [noX])
theorem oAdd_nx (x y : Vl) (S : Store) : noX (oAdd x y S) := by unfold oAdd; (repeat' split) <;> first | trivial | (simp only [noX])
theorem arI_nx {c : Int → Int → Bool} {f : Int → Int → Int} (x y : Vl) (S : Store) : noX (arI c f x y S) := by unfold arI; (repeat' split) <;> first | trivial | (simp only [noX])
theorem oMul_nx (x y : Vl) (S : Store) : noX (oMul x y S) := by unfold oMul; (repeat' split) <;> first | trivial | (simp only [noX])
theorem oNeg_nx (x : Vl) (S : Store) : noX (oNeg x S) := by unfold oNeg; (repeat' split) <;> first | trivial | (simp only [noX])
theorem oIx_nx (x y : Vl) (S : Store) : noX (oIx x y S) := by unfold oIx; (repeat' split) <;> first | trivial | (simp only [noX])
theorem bLen_nx (a : List Vl) (S : Store) : noX (bLen a S) := by unfold bLen; (repeat' split) <;> first | trivial | (simp only [noX])
theorem bAll_nx (a : List Vl) (S : Store) : noX (bAll a S) := by unfold bAll; (repeat' split) <;> first | trivial | (simp only [noX])
theorem bAny_nx (a : List Vl) (S : Store) : noX (bAny a S) := by unfold bAny; (repeat' split) <;> first | trivial | (simp only [noX])
theorem bSum_nx (a : List Vl) (S : Store) : noX (bSum a S) := by unfold bSum; (repeat' split) <;> first | trivial | (simp only [noX])
theorem bMin1_nx (a : List Vl) (S : Store) : noX (bMin1 a S) := by unfold bMin1; (repeat' split) <;> first | trivial | (simp only [noX])
theorem bMax1_nx (a : List Vl) (S : Store) : noX (bMax1 a S) := by unfold bMax1; (repeat' split) <;> first | trivial | (simp only [noX])
theorem bMin2_nx (a : List Vl) (S : Store) : noX (bMin2 a S) := by unfold bMin2; (repeat' split) <;> first | trivial | (simp only [noX])
theorem bMax2_nx (a : List Vl) (S : Store) : noX (bMax2 a S) := by unfold bMax2; (repeat' split) <;> first | trivial | (simp only [noX])
theorem bTuple_nx (a : List Vl) (S : Store) : noX (bTuple a S) := by unfold bTuple; (repeat' split) <;> first | trivial | (simp only [noX])
theorem bList_nx (a : List Vl) (S : Store) : noX (bList a S) := by unfold bList; (repeat' split) <;> first | trivial | (simp only [noX])
theorem bInt_nx (a : List Vl) (S : Store) : noX (bInt a S) := by unfold bInt; (repeat' split) <;> first | trivial | (simp only [noX])
theorem bStr_nx (a : List Vl) (S : Store) : noX (bStr a S) := by unfold bStr; (repeat' split) <;> first | trivial | (simp only [noX])
section
variable {X : Cx} {G : GI} {W : WX} {pos : Pos} {n0 : Nat}
theorem me_ix {a b : Expr} {fa fb : Ex} (hK : X.K = G.K) (ha : PE X a (tE G W fa)) (hb : PE X b (tE G W fb)) (hs : PlainIx b := by intro _ _; rfl) : PE X (.Subscript a b pos) (tE G W (bin oIx fa fb)) :=
  (pe_ix ix_seq ha hb hs).imp fun _ _ _ h => binI (oIx_s hK) oIx_nx h
/-- ghost: all cells made in this def so far are known for good -/
def fzS (is : List Nat) (s : Stm) : Stm := fun n η S => match s n η S with
  | .next η' S' => .next (wipeE is (frEn n S' η')) ⟨S'.L.take n⟩
  | .cont η' S' => .cont (wipeE is (frEn n S' η')) ⟨S'.L.take n⟩
  | r => r
theorem fz_imp {f : Stm} {is : List Nat} {D σ H} (h : tS G W n0 (fzS is f) D σ H) : tS G W n0 f D σ H := by
  obtain ⟨w, S, η, hR, hE, hn, h⟩ := h
  refine ⟨w, S, η, hR, hE, hn, ?_⟩
  have key : ∀ {w' : Wd} {S' : Store} {H' : Hp} {η' : En} {σ' : L2.St}, Gs n0 w H w' H' → Rel G w' S' H' → EnR G w' η' σ' → Gs n0 w H (w'.fr n0 H') H' ∧ Rel G (w'.fr n0 H') ⟨S'.L.take n0⟩ H' ∧ EnR G (w'.fr n0 H') (wipeE is (frEn n0 S' η')) σ' := fun {w' S' H' η' σ'} n hR' hE' =>
    ⟨n.tr hn ⟨(Nxt.fr hR' _).tk_le (Nat.le_refl _), Frm.fr _⟩, hR'.fr _, (hE'.fr hR' _).wipe is⟩
  revert h
  unfold fzS
  cases f n0 η S with
  | next η1 S1 => exact fun h w' H' σ' n hR' hE' => let ⟨a, b, c⟩ := key n hR' hE'; h _ H' σ' a b c
  | brk η S => exact fun h => h
  | cont η S1 => exact fun h w' H' σ' n hR' hE' => let ⟨a, b, c⟩ := key n hR' hE'; h _ H' σ' a b c
  | ret v S => exact fun h => h
  | exc c η S => exact fun h => h
  | stuck => exact fun h => h
theorem mg_fz1 {st : Stmt} {f : Stm} (is : List Nat) (h : PS X st (tS G W n0 f)) : PS X st (tS G W n0 (fzS is f)) := h.imp fun _ _ _ => fz_imp
theorem tkW0 : Takes X W0 := fun _ _ ⟨_, _, _, _, _, _, _, _, _, _, _, _, _, _, _, _, w⟩ => w.elim
end
/-- a def of the text, as it stands behind the top -/
structure Has (K : PySem.W.Frag) (mg : Str → Option Value) (x : Str) (st : Stmt) (ps : List Str) : Prop where
  ex : ∃ f fd, mg x = some (.ref f) ∧ L2.Fun K x x st f fd ∧ Binds K fd ps []
/-- a body, under what the rule for a def lays -/
def BodyOk (P : Program) (W0 : World) (K : PySem.W.Frag) (mg : Str → Option Value) (base : Heap) (G : GI) (x : Str) (N : List Str) (st : Stmt) (k : Nat) (b : Stm) : Prop :=
  ∀ (f : Addr) (cdv : Value) (A : Around) (outer : List Env) (s : Shared) (H : Hp) (E : XK) (n0 : Nat), Room k (A.deeper (envOfC x (defScope st) s.heap.objs.size f cdv)) →
      Takes (cxOf (L2.CX P W0) P W0 K mg base N x (defScope st) f cdv A outer s H E) (wOf E) → PassesOwn (model P W0) (A.deeper (envOfC x (defScope st) s.heap.objs.size f cdv)) (envOfC x (defScope st) s.heap.objs.size f cdv) (cxOf (L2.CX P W0) P W0 K mg base N x (defScope st) f cdv A outer s H E).xe →
      PSs (cxOf (L2.CX P W0) P W0 K mg base N x (defScope st) f cdv A outer s H E) (defBody st) (tS G (wOf E) n0 b)
section
variable {P : Program} {w : World} {K : PySem.W.Frag} {mg : Str → Option Value} {base : Heap} {G : GI}
theorem def_of {x : Str} {N ps : List Str} {st : Stmt} {k : Nat} {m : FM} {b : Stm} (hK : K = G.K) (h : Has K mg x st ps) (S : FnScope N ps (defScope st)) (hb : BodyOk P w K mg base G x N st k b) : Def P w K mg base G (k + 1) x (fnF ps.length N.length m b) := by
  obtain ⟨f, fd, h1, h2, h3⟩ := h.ex
  exact ⟨f, fd, ps, h1, h2.kp, h3, fn_ok m b h2 S hK (hb f)⟩
def stuckS : Stm := fun _ _ _ => .stuck
theorem def_stuck {x : Str} {N ps : List Str} {st : Stmt} {k : Nat} {m : FM} (hK : K = G.K) (h : Has K mg x st ps) (S : FnScope N ps (defScope st)) : Def P w K mg base G (k + 1) x (fnF ps.length N.length m stuckS) :=
  def_of hK h S fun f cdv A outer s H E n0 _ _ _ => ⟨fun pins s σ H D I ⟨w, S, η, _, _, _, h⟩ => h.elim⟩
theorem has_mk {h : Heap} {x : Str} {st : Stmt} {ps : List Str} {f : Addr} {od an : Option Addr} {sl : Array (Option Value)} {oc kV dc pm cd ct : Value} (X : K.In h) (Gh : h.Ns mainGlobals mg)
    (a : PySem.W.nsIn K mainGlobals x = some (some (.ref f))) (l : K.lookup f = some ⟨oc, od, .func (PySem.W.fnOf x x (defArgs st) (defBody st) (defScope st) .none kV dc pm an cd ct), sl⟩) (c : PySem.W.codeIn K cd x = true) (k : PySem.W.keepIn K (.ref f) = true)
    (hb : ∀ (kV doc pm : Value) (an : Option Addr) (cdv ct : Value) (us : List Value), us.length = ps.length → bindArgs (PySem.W.fnOf x x (defArgs st) (defBody st) (defScope st) .none kV doc pm an cdv ct) ⟨us, []⟩ = pure (ps.zip us)) : Has K mg x st ps :=
  have F := fun_mk (st := st) l c k
  ⟨f, _, PySem.W.mg_of X Gh a, F, F.binds (ps := ps) hb⟩
end
/-- the law's own promise from the def that law is -/
theorem law_sp {G : GI} {F : Fn} {H : Hp} {a : Addr} {ns : List Int} (hO : Only H) (hS : SqL G.K H a (ns.map V.int)) (h : F [.d (.scr ns)] ⟨[]⟩ = .ok (.d (.bl true)) ⟨[]⟩) :
    spF G F [.ref a] H (fun v _ => v = .bl true) fun _ _ _ => False :=
  ⟨⟨H, []⟩, ⟨[]⟩, [.d (.scr ns)], ⟨fun _ _ e => e, rfl, List.nodup_nil, fun _ h => (by cases h), fun n c a e _ => (by simp at e)⟩, .cons (.d (.scr hS)) .nil, by
    rw [h]; intro w' H' x _ _ r
    cases r with | d r => cases r; rfl⟩
end MP

/-! MPA: operations and built-ins, bundled -/
namespace MP
open PySem PySem.Spec PyProof.Rows L2
def Bn (X : Cx) (G : GI) (op : Operator) (g : Vl → Vl → Store → Res Vl) : Prop := ∃ r, OpR X (binaryOp op) r ∧ OpS G r g ∧ ∀ x y S, noX (g x y S)
def Cm (X : Cx) (G : GI) (op : CmpOp) (g : Vl → Vl → Store → Res Vl) : Prop := ∃ r, OpR X (compareOp op) r ∧ OpS G r g ∧ ∀ x y S, noX (g x y S)
def Bt (X : Cx) (G : GI) (x : Str) (g : List Vl → Store → Res Vl) : Prop := ∀ (W : WX) (e : Expr) (es : List Expr) (pos p : Pos) (f : As), Gl X x → X.mg x = none → PA X (e :: es) (tA G W f) →
  starEach (e :: es) X.env = (false, eval e X.env) :: starEach es X.env → (backTo pos (starEach es X.env)).any (·.1) = false → PE X (.Call (.Name x p) (e :: es) [] pos) (tE G W (cal g f))
def BtL (X : Cx) (G : GI) (x : Str) (g : List Vl → Store → Res (List D)) : Prop := ∀ (W : WX) (e : Expr) (es : List Expr) (pos p : Pos) (f : As), Gl X x → X.mg x = none → PA X (e :: es) (tA G W f) →
  starEach (e :: es) X.env = (false, eval e X.env) :: starEach es X.env → (backTo pos (starEach es X.env)).any (·.1) = false → PE X (.Call (.Name x p) (e :: es) [] pos) (tL G W (calL g f))
section
variable {X : Cx} {G : GI} {W : WX} {pos : Pos} {n0 k : Nat}
theorem me_bn {op : Operator} {g} {a b : Expr} {fa fb : Ex} (o : Bn X G op g) (ha : PE X a (tE G W fa)) (hb : PE X b (tE G W fb)) : PE X (.BinOp a op b pos) (tE G W (bin g fa fb)) := by
  obtain ⟨r, h1, h2, h3⟩ := o
  exact me_op h1 h2 h3 ha hb
theorem me_cm {op : CmpOp} {g} {a b : Expr} {fa fb : Ex} (o : Cm X G op g) (ha : PE X a (tE G W fa)) (hb : PE X b (tE G W fb)) (hm : behindInMarks op b = false := by first | exact nomark _ | with_unfolding_all rfl) : PE X (.Compare a [op] [b] pos) (tE G W (bin g fa fb)) := by
  obtain ⟨r, h1, h2, h3⟩ := o
  exact me_cmp h1 h2 h3 ha hb hm
theorem mt_cm {op : CmpOp} {g} {a b : Expr} {fa fb : Ex} (o : Cm X G op g) (ha : PE X a (tE G W fa)) (hb : PE X b (tE G W fb)) (hm : behindInMarks op b = false := by first | exact nomark _ | with_unfolding_all rfl) : PT X (.Compare a [op] [b] pos) (tT G W (asB (bin g fa fb))) := by
  obtain ⟨r, h1, h2, h3⟩ := o
  exact mt_cmp h1 h2 h3 ha hb hm
theorem me_bt {x : Str} {g} {e : Expr} {es : List Expr} {p : Pos} {f : As} (b : Bt X G x g) (hm : X.mg x = none) (ha : PA X (e :: es) (tA G W f)) (hg : Gl X x := by rfl)
    (he : starEach (e :: es) X.env = (false, eval e X.env) :: starEach es X.env := by rfl) (hpl : (backTo pos (starEach es X.env)).any (·.1) = false := by rfl) : PE X (.Call (.Name x p) (e :: es) [] pos) (tE G W (cal g f)) := b W e es pos p f hg hm ha he hpl
theorem ml_bt {x : Str} {g} {e : Expr} {es : List Expr} {p : Pos} {f : As} (b : BtL X G x g) (hm : X.mg x = none) (ha : PA X (e :: es) (tA G W f)) (hg : Gl X x := by rfl)
    (he : starEach (e :: es) X.env = (false, eval e X.env) :: starEach es X.env := by rfl) (hpl : (backTo pos (starEach es X.env)).any (·.1) = false := by rfl) : PE X (.Call (.Name x p) (e :: es) [] pos) (tL G W (calL g f)) := b W e es pos p f hg hm ha he hpl
theorem bn_add (hK : X.K = G.K) : Bn X G .Add oAdd := ⟨_, op_addA, oAdd_s hK, oAdd_nx⟩
theorem bn_sub : Bn X G .Sub oSub := ⟨_, op_sub', arI_s, arI_nx⟩
theorem bn_mod : Bn X G .Mod oMod := ⟨_, op_mod', arI_s, arI_nx⟩
theorem bn_div : Bn X G .FloorDiv oDiv := ⟨_, op_div', arI_s, arI_nx⟩
theorem bn_pow : Bn X G .Pow oPow := ⟨_, op_pow', arI_s, arI_nx⟩
theorem bn_mul : Bn X G .Mult oMul := ⟨_, op_mulA, oMul_s, oMul_nx⟩
theorem cm_eq (hK : X.K = G.K) (hr : Room k X.A) : Cm X G .Eq (oEq false) := ⟨_, op_eqD hr.units, oEq_s (neg := false) hK, oEq_nx⟩
theorem cm_ne (hK : X.K = G.K) (hr : Room k X.A) : Cm X G .NotEq (oEq true) := ⟨_, op_neD hr.units, oEq_s (neg := true) hK, oEq_nx⟩
theorem cm_lt (hK : X.K = G.K) (hr : Room k X.A) : Cm X G .Lt oLt := ⟨_, op_lt2 hr.units0, oLt_s hK, oLt_nx⟩
theorem cm_le : Cm X G .LtE oLe := ⟨_, op_le, cmpI_s, cmpI_nx⟩
theorem cm_gt : Cm X G .Gt oGt := ⟨_, op_gt, cmpI_s, cmpI_nx⟩
theorem cm_ge : Cm X G .GtE oGe := ⟨_, op_ge, cmpI_s, cmpI_nx⟩
theorem hu65 (hr : Room k X.A) : X.A.units + 65 < cLine := by have := hr.un; omega
theorem cm_in (hK : X.K = G.K) (hr : Room k X.A) : Cm X G .In (oIn false) := ⟨_, op_inA (hu65 hr), oIn_s (neg := false) hK, oIn_nx⟩
theorem cm_nin (hK : X.K = G.K) (hr : Room k X.A) : Cm X G .NotIn (oIn true) := ⟨_, op_notInA (hu65 hr), oIn_s (neg := true) hK, oIn_nx⟩
theorem cm_is : Cm X G .Is (oIsN false) := ⟨_, op_isN, oIsN_s (neg := false), oIsN_nx⟩
theorem cm_isnot : Cm X G .IsNot (oIsN true) := ⟨_, op_notN, oIsN_s (neg := true), oIsN_nx⟩
theorem bt_len (hK : X.K = G.K) : Bt X G "len" bLen := fun W e es pos p f hg hm ha he hpl => me_callB call_len (bLen_s hK) bLen_nx hm boot_len hg ha (by decide) (by decide) he hpl
theorem bt_tuple (hK : X.K = G.K) : Bt X G "tuple" bTuple := fun W e es pos p f hg hm ha he hpl => me_callTy call_tuple_ofF (bTuple_s hK) bTuple_nx hm (by decide +kernel) hg ha (by decide) (by decide) he hpl
theorem bt_int : Bt X G "int" bInt := fun W e es pos p f hg hm ha he hpl => me_callTy call_int1 bInt_s bInt_nx hm (by decide +kernel) hg ha (by decide) (by decide) he hpl
theorem bt_str : Bt X G "str" bStr := fun W e es pos p f hg hm ha he hpl => me_callTy call_str_int bStr_s bStr_nx hm (by decide +kernel) hg ha (by decide) (by decide) he hpl
theorem bt_max2 (hc : X.calm = true) : Bt X G "max" bMax2 := fun W e es pos p f hg hm ha he hpl => me_callB (call_max2 hc) bMax2_s bMax2_nx hm (by decide +kernel) hg ha (by decide) (by decide) he hpl
theorem bt_min2 (hc : X.calm = true) : Bt X G "min" bMin2 := fun W e es pos p f hg hm ha he hpl => me_callB (call_min2 hc) bMin2_s bMin2_nx hm (by decide +kernel) hg ha (by decide) (by decide) he hpl
theorem bt_sum (hK : X.K = G.K) (hc : X.calm = true) : Bt X G "sum" bSum := fun W e es pos p f hg hm ha he hpl => me_callB (cr_sum hc) (bSum_s hK) bSum_nx hm (by decide +kernel) hg ha (by decide) (by decide) he hpl
theorem bt_max1 (hK : X.K = G.K) (hc : X.calm = true) : Bt X G "max" bMax1 := fun W e es pos p f hg hm ha he hpl => me_callB (cr_max hc) (bMax1_s hK) bMax1_nx hm (by decide +kernel) hg ha (by decide) (by decide) he hpl
theorem bt_min1 (hK : X.K = G.K) (hc : X.calm = true) : Bt X G "min" bMin1 := fun W e es pos p f hg hm ha he hpl => me_callB (cr_min hc) (bMin1_s hK) bMin1_nx hm (by decide +kernel) hg ha (by decide) (by decide) he hpl
theorem bt_any (hK : X.K = G.K) (hc : X.calm = true) : Bt X G "any" bAny := fun W e es pos p f hg hm ha he hpl => me_callB (cr_any hc) (bAny_s hK) bAny_nx hm (by decide +kernel) hg ha (by decide) (by decide) he hpl
theorem bt_all (hK : X.K = G.K) (hc : X.calm = true) : Bt X G "all" bAll := fun W e es pos p f hg hm ha he hpl => me_callB (cr_all hc) (bAll_s hK) bAll_nx hm (by decide +kernel) hg ha (by decide) (by decide) he hpl
theorem bt_list (hK : X.K = G.K) : BtL X G "list" bList := fun W e es pos p f hg hm ha he hpl => ml_callTy call_list_of (bList_s hK) bList_nx hm (by decide +kernel) hg ha (by decide) (by decide) he hpl
end
/-- a comprehension's block, decided -/
def blkB (N : List Str) (sc scope : Scope) (own : List (Str × Nat)) : Bool :=
  decide (scope.kind = .function) && scope.names.all (fun y => decide (scope.names.lookup y.1 = some y.2)) && own.all (fun p => decide (N[p.2]? = some p.1)) &&
    scope.names.all (fun y => decide (y.2 = .free → sc.names.lookup y.1 = some .cell ∨ sc.names.lookup y.1 = some .free)) && scope.names.all (fun y => decide (y.2 = .local ∨ y.2 = .cell → y.1 ∈ own.map (·.1) ∨ y.1 ∉ N))
theorem blk_mk {N : List Str} {sc scope : Scope} {own : List (Str × Nat)} (h : blkB N sc scope own = true) : BlkOk N sc scope own := by
  unfold blkB at h
  simp only [Bool.and_eq_true, List.all_eq_true, decide_eq_true_eq] at h
  obtain ⟨⟨⟨⟨h1, h2⟩, h3⟩, h4⟩, h5⟩ := h
  exact ⟨h1, h2, h3, h4, h5⟩
theorem boot_isi : bootBuiltins "isinstance" = some (.builtin "isinstance") := by decide +kernel
theorem cx_false {P : Program} {w : World} {outer : List Env} {H : Hp} {s s' : Shared} {e : Value} (h : L2.CX P w outer H s (fun _ _ _ => False) e s') : False := by
  obtain ⟨_, _, _, _, _, _, _, _, _, _, _, _, h⟩ := h
  exact h
end MP

/-! MH: how the combinators compute; the draws -/
namespace MP
open PySem PySem.Spec PyProof.Rows L2
/-! ### computing -/
section
variable {S : Store} {η : En} {n : Nat}
theorem var_at {i : Nat} {v : Vl} (h : η[i]? = some (some v)) : var i η S = .ok v S := by unfold var; rw [h]
theorem oPow_106 : oPow (.d (.int 10)) (.d (.int 6)) S = .ok (.d (.int 1000000)) S := by unfold oPow arI; simp only; rw [if_pos (by decide +kernel)]; rfl
theorem oPow_1018 : oPow (.d (.int 10)) (.d (.int 18)) S = .ok (.d (.int 1000000000000000000)) S := by unfold oPow arI; simp only; rw [if_pos (by decide +kernel)]; rfl
/-- 10 ^ 9000 -/
def tenB : Int := 10 ^ 9000
theorem tenB_pos : 0 < tenB := by unfold tenB; exact Int.pow_pos (by decide)
theorem oPow_60 : oPow (.d (.int 10)) (.d (.int 60)) S = .ok (.d (.int (10 ^ 60))) S := by unfold oPow arI; simp only; rw [if_pos (by decide +kernel)]; rfl
theorem oPow_50 : oPow (.d (.int (10 ^ 60))) (.d (.int 50)) S = .ok (.d (.int (10 ^ 3000))) S := by
  unfold oPow arI; simp only; rw [if_pos (by decide +kernel)]
  rw [show (10 ^ 60 : Int) ^ (50 : Int).toNat = 10 ^ 3000 by rw [show (50 : Int).toNat = 50 from rfl, ← Int.pow_mul]]
theorem oPow_3 : oPow (.d (.int (10 ^ 3000))) (.d (.int 3)) S = .ok (.d (.int tenB)) S := by
  unfold oPow arI; simp only; rw [if_pos (by decide +kernel)]
  rw [show (10 ^ 3000 : Int) ^ (3 : Int).toNat = tenB by unfold tenB; rw [show (3 : Int).toNat = 3 from rfl, ← Int.pow_mul]]
end
def nextB : Stm :=
    (seqS (setI (bin oAdd (bin oIx (var 0) (cst (.int 1))) (cst (.int 1))) (var 0) (cst (.int 1)))
      (seqS (asg 1 (bin oIx (var 0) (cst (.int 1))))
      (seqS (wipS [2] (ifS (asB (bin oIx (var 0) (cst (.int 2))))
      (seqS (wipS [1] (asg 2 (bin oMod (bin oIx (var 0) (cst (.int 0))) (bin oPow (cst (.int 10)) (cst (.int 6))))))
      (seqS (wipS [0] (setI (bin oDiv (bin oIx (var 0) (cst (.int 0))) (bin oPow (cst (.int 10)) (cst (.int 6)))) (var 0) (cst (.int 0))))
      (ret (var 2)))) nextS))
      (seqS (wipS [0, 1] (asg 2 (bin oMod (bin oMul (bin oAdd (bin oAdd (bin oMod (bin oIx (var 0) (cst (.int 0))) (cst (.int 1000003))) (bin oMul (bin oMul (var 1) (var 1)) (cst (.int 7919)))) (var 1)) (cst (.int 48271))) (cst (.int 2147483629)))))
      (seqS (asg 2 (bin oMod (bin oMul (var 2) (var 2)) (cst (.int 2147483587))))
      (ret (bin oDiv (bin oMod (bin oMul (var 2) (bin oAdd (var 2) (cst (.int 2)))) (cst (.int 2147483579))) (cst (.int 7)))))))))
def nextF : Fn := fnF 1 3 .frz nextB
/-- the draws stand in the first cell; at most n were drawn -/
def Dr (n : Nat) (r : List (Option (List D))) (S : Store) : Prop := ∃ a k b, S = ⟨some [.int a, .int k, .bl b] :: r⟩ ∧ 0 ≤ k ∧ k ≤ n
theorem Dr.mono {n m : Nat} {r S} (h : Dr n r S) (hm : n ≤ m) : Dr m r S := by
  obtain ⟨a, k, b, e, h0, h1⟩ := h
  exact ⟨a, k, b, e, h0, by omega⟩
theorem ix3 {a b c : D} {r : List (Option (List D))} : oIx (.p 0) (.d (.int 0)) ⟨some [a, b, c] :: r⟩ = .ok (.d a) ⟨some [a, b, c] :: r⟩ ∧ oIx (.p 0) (.d (.int 1)) ⟨some [a, b, c] :: r⟩ = .ok (.d b) ⟨some [a, b, c] :: r⟩ ∧ oIx (.p 0) (.d (.int 2)) ⟨some [a, b, c] :: r⟩ = .ok (.d c) ⟨some [a, b, c] :: r⟩ := ⟨rfl, rfl, rfl⟩
theorem set3 {a b c d : D} {r : List (Option (List D))} : setV (.p 0) (.d (.int 0)) (.d d) ⟨some [a, b, c] :: r⟩ = some ⟨some [d, b, c] :: r⟩ ∧ setV (.p 0) (.d (.int 1)) (.d d) ⟨some [a, b, c] :: r⟩ = some ⟨some [a, d, c] :: r⟩ := ⟨rfl, rfl⟩
theorem oMul_i {a b : Int} {S : Store} (h : mulOk a b = true) : oMul (.d (.int a)) (.d (.int b)) S = .ok (.d (.int (a * b))) S := by unfold oMul; simp [h]
theorem oAdd_i {a b : Int} {S : Store} : oAdd (.d (.int a)) (.d (.int b)) S = .ok (.d (.int (a + b))) S := rfl
theorem oSub_i {a b : Int} {S : Store} : oSub (.d (.int a)) (.d (.int b)) S = .ok (.d (.int (a - b))) S := rfl
theorem oMod_i {a b : Int} {S : Store} (h : 0 < b) : oMod (.d (.int a)) (.d (.int b)) S = .ok (.d (.int (a % b))) S := by unfold oMod arI; simp [h]
theorem oDiv_i {a b : Int} {S : Store} (h : 0 < b) (h2 : b < 1073741824) : oDiv (.d (.int a)) (.d (.int b)) S = .ok (.d (.int (a / b))) S := by unfold oDiv arI; simp [h, h2]
theorem mulOk_r {a b : Int} (h : 0 ≤ b ∧ b < 18446744073709551616) : mulOk a b = true := by unfold mulOk; simp; omega
theorem mulOk_l {a b : Int} (h : 0 ≤ a ∧ a < 18446744073709551616) : mulOk a b = true := by unfold mulOk; simp; omega
theorem next_ok {n : Nat} {r : List (Option (List D))} {S : Store} (hn : n < 1000000000000000000) (h : Dr n r S) : ∃ (x : Int) (S' : Store), nextF [.p 0] S = .ok (.d (.int x)) S' ∧ 0 ≤ x ∧ Dr (n + 1) r S' := by
  obtain ⟨a, k, b, rfl, h0, h1⟩ := h
  have m1 : mulOk (k + 1) (k + 1) = true := mulOk_r (by omega)
  cases b with
  | true =>
    refine ⟨a % 1000000, ⟨some [.int (a / 1000000), .int (k + 1), .bl true] :: r⟩, ?_, by omega, ⟨_, _, _, rfl, by omega, by omega⟩⟩
    unfold nextF fnF nextB
    simp [seqS, setI, asg, wipS, ifS, ret, bin, var, cst, asB, ix3, set3, oAdd_i, oPow_106, oMod_i, oDiv_i, wipeE, fin, finV, frV, nextS]
  | false =>
    have m2 : ∀ z : Int, mulOk z 7919 = true := fun z => mulOk_r (by omega)
    have m3 : ∀ z : Int, mulOk z 48271 = true := fun z => mulOk_r (by omega)
    have m4 : ∀ z w : Int, mulOk (z % 2147483629) w = true := fun z w => mulOk_l (by omega)
    have m5 : ∀ z w : Int, mulOk (z % 2147483587) w = true := fun z w => mulOk_l (by omega)
    refine ⟨((a % 1000003 + (k + 1) * (k + 1) * 7919 + (k + 1)) * 48271 % 2147483629 * ((a % 1000003 + (k + 1) * (k + 1) * 7919 + (k + 1)) * 48271 % 2147483629) % 2147483587) * ((a % 1000003 + (k + 1) * (k + 1) * 7919 + (k + 1)) * 48271 % 2147483629 * ((a % 1000003 + (k + 1) * (k + 1) * 7919 + (k + 1)) * 48271 % 2147483629) % 2147483587 + 2) % 2147483579 / 7,
      ⟨some [.int a, .int (k + 1), .bl false] :: r⟩, ?_, ?_, ⟨_, _, _, rfl, by omega, by omega⟩⟩
    · unfold nextF fnF nextB
      simp [seqS, setI, asg, wipS, ifS, ret, bin, var, cst, asB, ix3, set3, oAdd_i, oPow_106, oMod_i, oDiv_i, wipeE, fin, finV, frV, nextS, oMul_i, m1, m2, m3, m4, m5]
    · exact Int.ediv_nonneg (Int.emod_nonneg _ (by decide)) (by decide)
def drawsB : Stm :=
    (seqS (ifS (asB (bin oLt (var 0) (bin oPow (cst (.int 10)) (cst (.int 18)))))
      (ret (new (lstE (consA (var 0) (consA (cst (.int 0)) (consA (cst (.bl false)) nilA)))))) nextS)
      (ret (new (lstE (consA (bin oMod (var 0) (bin oPow (bin oPow (bin oPow (cst (.int 10)) (cst (.int 60))) (cst (.int 50))) (cst (.int 3)))) (consA (cst (.int 0)) (consA (cst (.bl true)) nilA)))))))
theorem pow3E : bin oPow (bin oPow (bin oPow (cst (.int 10)) (cst (.int 60))) (cst (.int 50))) (cst (.int 3)) = cst (.int tenB) := by
  funext η S
  show (Res.bind (Res.bind (oPow (.d (.int 10)) (.d (.int 60)) S) fun x S1 => oPow x (.d (.int 50)) S1) fun x S1 => oPow x (.d (.int 3)) S1) = _
  rw [oPow_60]
  show (Res.bind (oPow (.d (.int (10 ^ 60))) (.d (.int 50)) S) fun x S1 => oPow x (.d (.int 3)) S1) = _
  rw [oPow_50]
  exact oPow_3
def drawsF : Fn := fnF 1 1 .mut drawsB
theorem draws_ok (z : Int) : ∃ S', drawsF [.d (.int z)] ⟨[]⟩ = .ok (.p 0) S' ∧ Dr 0 [] S' := by
  by_cases h : z < 1000000000000000000
  · refine ⟨⟨[some [.int z, .int 0, .bl false]]⟩, ?_, ⟨_, _, _, rfl, by omega, by omega⟩⟩
    unfold drawsF fnF drawsB
    simp [seqS, ifS, ret, bin, var, cst, asB, oPow_1018, oLt, h, new, lstE, consA, nilA, allD, fin, finV]
  · refine ⟨⟨[some [.int (z % tenB), .int 0, .bl true]]⟩, ?_, ⟨_, _, _, rfl, by omega, by omega⟩⟩
    unfold drawsF fnF drawsB
    rw [pow3E]
    simp [seqS, ifS, ret, bin, var, cst, asB, oPow_1018, oLt, h, new, lstE, consA, nilA, allD, fin, finV, oMod_i tenB_pos, nextS]
/-! ### runs -/
theorem fnF_d {np ns : Nat} {b : Stm} {args : List Vl} {S S1 : Store} {x : D} (h : args.length = np) (hb : b S.L.length (args.map some ++ List.replicate (ns - np) none) S = .ret (.d x) S1) (hl : S1.L.length ≤ S.L.length) : fnF np ns .frz b args S = .ok (.d x) S1 := by
  unfold fnF
  rw [if_pos h, hb]
  show Res.ok _ (⟨S1.L.take S.L.length⟩ : Store) = _
  rw [List.take_of_length_le hl]
/-- a body's end -/
def Sat (r : SR) (P : Vl → Store → Prop) : Prop := ∃ v S', r = .ret v S' ∧ P v S'
section
variable {n i : Nat} {η : En} {S S1 : Store} {e : Ex} {c : Te} {rest a b : Stm} {P : Vl → Store → Prop} {v : Vl} {is : List Nat} {k : Bool}
theorem run_asg (h : e η S = .ok v S1) (hk : Sat (rest n (η.set i (some v)) S1) P) : Sat (seqS (asg i e) rest n η S) P := by
  unfold seqS asg; rw [h]; exact hk
theorem run_wasg (h : e η S = .ok v S1) (hk : Sat (rest n (wipeE is (η.set i (some v))) S1) P) : Sat (seqS (wipS is (asg i e)) rest n η S) P := by
  unfold seqS wipS asg; rw [h]; exact hk
theorem run_no (h : c η S = .ok false S1) (hk : Sat (rest n η S1) P) : Sat (seqS (ifS c a nextS) rest n η S) P := by
  unfold seqS ifS; rw [h]; exact hk
theorem run_wno (h : c η S = .ok false S1) (hk : Sat (rest n (wipeE is η) S1) P) : Sat (seqS (wipS is (ifS c a nextS)) rest n η S) P := by
  unfold seqS wipS ifS; rw [h]; exact hk
theorem run_yes (h : c η S = .ok true S1) (hk : Sat (a n η S1) P) : Sat (seqS (ifS c a b) rest n η S) P := by
  obtain ⟨v, S', e, p⟩ := hk
  refine ⟨v, S', ?_, p⟩
  unfold seqS ifS; rw [h]
  show (a n η S1).seq _ = _
  rw [e] <;> rfl
theorem run_wyes (h : c η S = .ok true S1) (hk : Sat (a n η S1) P) : Sat (seqS (wipS is (ifS c a b)) rest n η S) P := by
  obtain ⟨v, S', e, p⟩ := hk
  refine ⟨v, S', ?_, p⟩
  unfold seqS wipS ifS; rw [h]
  show (match a n η S1 with | .next η' S' => SR.next (wipeE is η') S' | .cont η' S' => .cont (wipeE is η') S' | r => r).seq _ = _
  rw [e] <;> rfl
theorem run_stm {s : Stm} {η1 : En} (h : s n η S = .next η1 S1) (hk : Sat (rest n η1 S1) P) : Sat (seqS s rest n η S) P := by
  unfold seqS; rw [h]; exact hk
theorem run_wstm {s : Stm} {η1 : En} (h : s n η S = .next η1 S1) (hk : Sat (rest n (wipeE is η1) S1) P) : Sat (seqS (wipS is s) rest n η S) P := by
  unfold seqS wipS; rw [h]; exact hk
theorem run_ret (h : e η S = .ok v S1) (hp : P v S1) : Sat (ret e n η S) P := ⟨v, S1, by unfold ret; rw [h] <;> rfl, hp⟩
theorem fnF_sat {np ns : Nat} {args : List Vl} {Q : Store → Prop} {x : D} (h : args.length = np) (hb : Sat (b S.L.length (args.map some ++ List.replicate (ns - np) none) S) fun v S' => v = .d x ∧ S'.L.length ≤ S.L.length ∧ Q S') : ∃ S', fnF np ns .frz b args S = .ok (.d x) S' ∧ Q S' := by
  obtain ⟨v, S', e, rfl, hl, q⟩ := hb
  exact ⟨S', fnF_d h e hl, q⟩
theorem fnF_ex {np ns : Nat} {args : List Vl} {Q : D → Store → Prop} (h : args.length = np) (hb : Sat (b S.L.length (args.map some ++ List.replicate (ns - np) none) S) fun v S' => ∃ x, v = .d x ∧ S'.L.length ≤ S.L.length ∧ Q x S') : ∃ x S', fnF np ns .frz b args S = .ok (.d x) S' ∧ Q x S' := by
  obtain ⟨v, S', e, x, rfl, hl, q⟩ := hb
  exact ⟨x, S', fnF_d h e hl, q⟩
end
/-! ### loops -/
theorem loopL_fold {α : Type} {t : Tg} {b : Stm} {n : Nat} {S : Store} (η : α → En) (f : α → D → α) : ∀ (ds : List D) (a : α), (∀ d ∈ ds, ∀ a, ∃ η1, t (.d d) (η a) = some η1 ∧ b n η1 S = .next (η (f a d)) S) → loopL t b n ds (η a) S = .next (η (ds.foldl f a)) S
  | [], a, _ => rfl
  | d :: ds, a, h => by
    obtain ⟨η1, h1, h2⟩ := h d (List.mem_cons_self ..) a
    unfold loopL
    rw [h1]
    simp only [h2]
    exact loopL_fold η f ds (f a d) fun d hd a => h d (List.mem_cons_of_mem _ hd) a
theorem loopL_inv {t : Tg} {b : Stm} {n : Nat} {I : Nat → En → Store → Prop} : ∀ (ds : List D) (k : Nat) (η : En) (S : Store), I k η S → (∀ j d η S, ds[j]? = some d → I (k + j) η S → ∃ η1 η2 S2, t (.d d) η = some η1 ∧ b n η1 S = .next η2 S2 ∧ I (k + j + 1) η2 S2) → ∃ η' S', loopL t b n ds η S = .next η' S' ∧ I (k + ds.length) η' S'
  | [], k, η, S, h, _ => ⟨η, S, rfl, h⟩
  | d :: ds, k, η, S, h, hs => by
    obtain ⟨η1, η2, S2, h1, h2, h3⟩ := hs 0 d η S rfl h
    obtain ⟨η', S', e, hI⟩ := loopL_inv ds (k + 1) η2 S2 h3 fun j d η S hd hI => by
      have := hs (j + 1) d η S (by simpa using hd) (by rw [← Nat.add_assoc]; rw [show k + j + 1 = k + 1 + j by omega]; exact hI)
      rw [show k + 1 + j = k + (j + 1) by omega]; exact this
    refine ⟨η', S', ?_, by rw [List.length_cons, show k + (ds.length + 1) = k + 1 + ds.length by omega]; exact hI⟩
    unfold loopL
    rw [h1]
    simp only [h2]
    exact e
theorem loopC_all {t : Tg} {c : Te} {e : Ex} {η : En} {I : Nat → Store → Prop} {P : Nat → D → Prop} : ∀ (ds : List D) (k : Nat) (S : Store), I k S → (∀ j d S, ds[j]? = some d → I (k + j) S → ∃ η1 y S', t (.d d) η = some η1 ∧ c η1 S = .ok true S ∧ e η1 S = .ok (.d y) S' ∧ P (k + j) y ∧ I (k + j + 1) S') →
    ∃ ys S', loopC t c e η ds S = .ok ys S' ∧ ys.length = ds.length ∧ (∀ j y, ys[j]? = some y → P (k + j) y) ∧ I (k + ds.length) S'
  | [], k, S, h, _ => ⟨[], S, rfl, rfl, fun j y e => by simp at e, h⟩
  | d :: ds, k, S, h, hs => by
    obtain ⟨η1, y, S1, h1, h2, h3, h4, h5⟩ := hs 0 d S rfl h
    obtain ⟨ys, S', e1, hl, hp, hI⟩ := loopC_all (P := P) ds (k + 1) S1 h5 fun j d S hd hI => by
      have := hs (j + 1) d S (by simpa using hd) (by rw [show k + (j + 1) = k + 1 + j by omega]; exact hI)
      rw [show k + 1 + j = k + (j + 1) by omega]; exact this
    refine ⟨y :: ys, S', ?_, by rw [List.length_cons, List.length_cons, hl], fun j z ez => ?_, by rw [List.length_cons, show k + (ds.length + 1) = k + 1 + ds.length by omega]; exact hI⟩
    · unfold loopC
      rw [h1]
      simp only [h2, h3, e1]
    · cases j with
      | zero => simp at ez; subst ez; exact h4
      | succ j =>
        have := hp j z (by simpa using ez)
        rw [show k + (j + 1) = k + 1 + j by omega]; exact this
theorem loopC_map {t : Tg} {c : Te} {e : Ex} {η : En} {S : Store} (f : D → D) : ∀ (ds : List D), (∀ d ∈ ds, ∃ η1, t (.d d) η = some η1 ∧ c η1 S = .ok true S ∧ e η1 S = .ok (.d (f d)) S) → loopC t c e η ds S = .ok (ds.map f) S
  | [], _ => rfl
  | d :: ds, h => by
    obtain ⟨η1, h1, h2, h3⟩ := h d (List.mem_cons_self ..)
    unfold loopC
    rw [h1]
    simp only [h2, h3, loopC_map f ds fun d hd => h d (List.mem_cons_of_mem _ hd), List.map_cons]
theorem loopC_fil {t : Tg} {c : Te} {e : Ex} {η : En} {S : Store} (p : D → Bool) (f : D → D) : ∀ (ds : List D), (∀ d ∈ ds, ∃ η1, t (.d d) η = some η1 ∧ c η1 S = .ok (p d) S ∧ (p d = true → e η1 S = .ok (.d (f d)) S)) → loopC t c e η ds S = .ok ((ds.filter p).map f) S
  | [], _ => rfl
  | d :: ds, h => by
    obtain ⟨η1, h1, h2, h3⟩ := h d (List.mem_cons_self ..)
    have ih := loopC_fil p f ds fun d hd => h d (List.mem_cons_of_mem _ hd)
    unfold loopC
    rw [h1]
    cases q : p d with
    | true => simp only [h2, q, h3 q, ih, List.filter_cons, if_true, List.map_cons]
    | false => simp only [h2, q, ih, List.filter_cons, Bool.false_eq_true, if_false]
theorem lcL_map {t : Tg} {it : Li} {c : Te} {e : Ex} {vs : List Nat} {η : En} {S S1 : Store} {ds : List D} (f : D → D) (hi : it η S = .ok ds S1) (hz : ds.length ≤ 16777216) (h : ∀ d ∈ ds, ∃ η1, t (.d d) (wipeE vs η) = some η1 ∧ c η1 S1 = .ok true S1 ∧ e η1 S1 = .ok (.d (f d)) S1) : lcL t it c e vs η S = .ok (ds.map f) S1 := by
  unfold lcL; rw [hi]
  show (if _ then _ else _) = _
  rw [if_pos hz]; exact loopC_map f ds h
theorem lcL_fil {t : Tg} {it : Li} {c : Te} {e : Ex} {vs : List Nat} {η : En} {S S1 : Store} {ds : List D} (p : D → Bool) (f : D → D) (hi : it η S = .ok ds S1) (hz : ds.length ≤ 16777216) (h : ∀ d ∈ ds, ∃ η1, t (.d d) (wipeE vs η) = some η1 ∧ c η1 S1 = .ok (p d) S1 ∧ (p d = true → e η1 S1 = .ok (.d (f d)) S1)) : lcL t it c e vs η S = .ok ((ds.filter p).map f) S1 := by
  unfold lcL; rw [hi]
  show (if _ then _ else _) = _
  rw [if_pos hz]; exact loopC_fil p f ds h
theorem lcL_all {t : Tg} {it : Li} {c : Te} {e : Ex} {vs : List Nat} {η : En} {S S1 : Store} {ds : List D} {I : Nat → Store → Prop} {P : Nat → D → Prop} (hi : it η S = .ok ds S1) (hz : ds.length ≤ 16777216) (h0 : I 0 S1) (h : ∀ j d S, ds[j]? = some d → I j S → ∃ η1 y S', t (.d d) (wipeE vs η) = some η1 ∧ c η1 S = .ok true S ∧ e η1 S = .ok (.d y) S' ∧ P j y ∧ I (j + 1) S') :
    ∃ ys S', lcL t it c e vs η S = .ok ys S' ∧ ys.length = ds.length ∧ (∀ j y, ys[j]? = some y → P j y) ∧ I ds.length S' := by
  obtain ⟨ys, S', e1, e2, e3, e4⟩ := loopC_all (I := I) (P := P) ds 0 S1 h0 fun j d S hd hI => by
    rw [Nat.zero_add] at hI ⊢; exact h j d S hd hI
  refine ⟨ys, S', ?_, e2, fun j y q => by have := e3 j y q; rwa [Nat.zero_add] at this, by rwa [Nat.zero_add] at e4⟩
  unfold lcL; rw [hi]
  show (if _ then _ else _) = _
  rw [if_pos hz]; exact e1
/-! ### small things -/
def il (ns : List Int) : List D := ns.map .int
theorem bind_ok {α β : Type} (a : α) (S : Store) (k : α → Store → Res β) : Res.bind (.ok a S) k = k a S := rfl
theorem rng1_eq (j : Int) (S : Store) : rng1 [.d (.int j)] S = if -4611686018427387904 ≤ j ∧ j < 4611686018427387904 then .ok (rangeD 0 j.toNat) S else .stuck := rfl
theorem rng1_n (n : Nat) (S : Store) (hn : n ≤ 1000000) : rng1 [.d (.int n)] S = .ok (rangeD 0 n) S := by
  rw [rng1_eq]
  split
  · rfl
  · rename_i h
    have h1 : (n : Int) ≤ 1000000 := by omega
    have h2 : (0 : Int) ≤ n := by omega
    exact (h ⟨Int.le_trans (by decide) h2, Int.lt_of_le_of_lt h1 (by decide)⟩).elim
theorem rngI1_i {n : Nat} {e : Ex} {η : En} {S S1 : Store} (h : e η S = .ok (.d (.int n)) S1) (hn : n ≤ 1000000) : rngI1 (consA e nilA) η S = .ok (rangeD 0 n) S1 := by
  have e : consA e nilA η S = .ok [.d (.int n)] S1 := by unfold consA nilA; rw [h]; rfl
  unfold rngI1; rw [e, bind_ok]
  exact rng1_n n S1 hn
theorem rangeD_len {lo : Int} {n : Nat} : (rangeD lo n).length = n := by unfold rangeD; simp
theorem rangeD_mem {n : Nat} {d : D} (h : d ∈ rangeD 0 n) : ∃ i : Nat, i < n ∧ d = .int i := by
  unfold rangeD at h; simp at h
  obtain ⟨a, h1, h2⟩ := h
  exact ⟨a, h1, h2.symm⟩
theorem rangeD_get {n j : Nat} {d : D} (h : (rangeD 0 n)[j]? = some d) : j < n ∧ d = .int j := by
  have hl : j < n := by have := (List.getElem?_eq_some_iff.mp h).1; rwa [rangeD_len] at this
  refine ⟨hl, ?_⟩
  unfold rangeD at h
  rw [List.getElem?_map, List.getElem?_range hl] at h
  have := Option.some.inj h
  rw [← this]; show D.int (0 + (j : Int)) = _; rw [Int.zero_add]
theorem atI_nat' {α : Type} {xs : List α} {j : Nat} {x : α} (h : xs[j]? = some x) : atI xs (j : Int) = some x := atI_nat h
theorem drawMod {n : Nat} {r : List (Option (List D))} {η : En} {S : Store} {m : Int} (h0 : η[0]? = some (some (.p 0))) (hn : n < 1000000000000000000) (hm : 0 < m) (h : Dr n r S) : ∃ (x : Int) (S' : Store), bin oMod (callE nextF (consA (var 0) nilA)) (cst (.int m)) η S = .ok (.d (.int x)) S' ∧ (0 ≤ x ∧ x < m) ∧ Dr (n + 1) r S' := by
  obtain ⟨x, S', e, hx, hd⟩ := next_ok hn h
  refine ⟨x % m, S', ?_, ⟨Int.emod_nonneg _ (by omega), Int.emod_lt_of_pos _ hm⟩, hd⟩
  unfold bin callE consA nilA
  rw [var_at h0]
  simp only [Res.bind, e, cst]
  exact oMod_i hm
/-- drawn numbers, a list of them -/
theorem draws_list {n k : Nat} {i : Nat} {r : List (Option (List D))} {η : En} {S : Store} {m : Int} {it : Li} (hi : it η S = .ok (rangeD 0 k) S) (hk : k ≤ 1000000) (h0 : η[0]? = some (some (.p 0))) (hi0 : i ≠ 0) (hn : n + k < 1000000000000000000) (hm : 0 < m) (h : Dr n r S) :
    ∃ (ns : List Int) (S' : Store), lcL (tgN i) it yesT (bin oMod (callE nextF (consA (var 0) nilA)) (cst (.int m))) [i] η S = .ok (il ns) S' ∧ ns.length = k ∧ (∀ x ∈ ns, 0 ≤ x ∧ x < m) ∧ Dr (n + k) r S' := by
  obtain ⟨ys, S', e1, e2, e3, e4⟩ := lcL_all (I := fun j S => Dr (n + j) r S) (P := fun _ y => ∃ x : Int, y = .int x ∧ 0 ≤ x ∧ x < m) hi (by rw [rangeD_len]; omega) h (t := tgN i) (c := yesT) (e := bin oMod (callE nextF (consA (var 0) nilA)) (cst (.int m))) (vs := [i]) fun j d S hd hI => by
    obtain ⟨hj, rfl⟩ := rangeD_get hd
    have h0' : (((wipeE [i] η).set i (some (.d (.int j)))) : En)[0]? = some (some (.p 0)) := by
      show ((η.set i none).set i _)[0]? = _
      rw [List.getElem?_set_ne hi0, List.getElem?_set_ne hi0]; exact h0
    obtain ⟨x, S', e, hx, hd'⟩ := drawMod (m := m) h0' (by omega) hm hI
    exact ⟨_, _, S', rfl, rfl, e, ⟨x, rfl, hx⟩, hd'⟩
  rw [rangeD_len] at e2 e4
  have : ∃ ns : List Int, ys = il ns ∧ ∀ x ∈ ns, 0 ≤ x ∧ x < m := by
    clear e1 e2 e4
    induction ys with
    | nil => exact ⟨[], rfl, by simp⟩
    | cons y ys ih =>
      obtain ⟨x, rfl, hx⟩ := e3 0 y rfl
      obtain ⟨ns, rfl, hns⟩ := ih fun j z hz => e3 (j + 1) z (by simpa using hz)
      exact ⟨x :: ns, rfl, fun z hz => by rcases List.mem_cons.mp hz with rfl | hz; exact hx; exact hns z hz⟩
  obtain ⟨ns, rfl, hns⟩ := this
  exact ⟨ns, S', e1, by unfold il at e2; rw [List.length_map] at e2; exact e2, hns, e4⟩
/-! ### steps whose outcome is only said to exist -/
section
variable {n i : Nat} {η : En} {S : Store} {e : Ex} {c : Te} {rest a b : Stm} {P : Vl → Store → Prop} {is : List Nat} {Q : Vl → Store → Prop}
theorem run_asgX (h : ∃ v S1, e η S = .ok v S1 ∧ Q v S1) (hk : ∀ v S1, Q v S1 → Sat (rest n (η.set i (some v)) S1) P) : Sat (seqS (asg i e) rest n η S) P := by
  obtain ⟨v, S1, h1, h2⟩ := h
  exact run_asg h1 (hk v S1 h2)
theorem run_wasgX (h : ∃ v S1, e η S = .ok v S1 ∧ Q v S1) (hk : ∀ v S1, Q v S1 → Sat (rest n (wipeE is (η.set i (some v))) S1) P) : Sat (seqS (wipS is (asg i e)) rest n η S) P := by
  obtain ⟨v, S1, h1, h2⟩ := h
  exact run_wasg h1 (hk v S1 h2)
end
section
variable {η : En} {S : Store} {E : Ex} {L : Li}
theorem ex_add {Q : Int → Store → Prop} {c : Int} (h : ∃ (x : Int) (S1 : Store), E η S = .ok (.d (.int x)) S1 ∧ Q x S1) : ∃ v S1, bin oAdd (cst (.int c)) E η S = .ok v S1 ∧ ∃ x, v = .d (.int (c + x)) ∧ Q x S1 := by
  obtain ⟨x, S1, e, q⟩ := h
  exact ⟨_, S1, by unfold bin cst; simp only [Res.bind, e]; rfl, x, rfl, q⟩
theorem ex_int {Q : Int → Store → Prop} (h : ∃ (x : Int) (S1 : Store), E η S = .ok (.d (.int x)) S1 ∧ Q x S1) : ∃ v S1, E η S = .ok v S1 ∧ ∃ x, v = .d (.int x) ∧ Q x S1 := by
  obtain ⟨x, S1, e, q⟩ := h
  exact ⟨_, S1, e, x, rfl, q⟩
theorem ex_frz {Q : List D → Store → Prop} (h : ∃ (l : List D) (S1 : Store), L η S = .ok l S1 ∧ Q l S1) : ∃ v S1, frz L η S = .ok v S1 ∧ ∃ l, v = .d (.lst l) ∧ Q l S1 := by
  obtain ⟨l, S1, e, q⟩ := h
  exact ⟨_, S1, by unfold frz; rw [e]; rfl, l, rfl, q⟩
theorem tup_frz {l : List D} {S1 : Store} (h : L η S = .ok l S1) : cal bTuple (consA (frz L) nilA) η S = .ok (.d (.tup l)) S1 := by
  unfold cal consA nilA frz; rw [h]; rfl
theorem ex_tup {Q : List D → Store → Prop} (h : ∃ (l : List D) (S1 : Store), L η S = .ok l S1 ∧ Q l S1) : ∃ v S1, cal bTuple (consA (frz L) nilA) η S = .ok v S1 ∧ ∃ l, v = .d (.tup l) ∧ Q l S1 := by
  obtain ⟨l, S1, e, q⟩ := h
  exact ⟨_, S1, tup_frz e, l, rfl, q⟩
end
theorem coll {α : Type} {g : α → D} {Q : α → Prop} : ∀ {ys : List D}, (∀ (j : Nat) (y : D), ys[j]? = some y → ∃ a, y = g a ∧ Q a) → ∃ as : List α, ys = as.map g ∧ (∀ a ∈ as, Q a) ∧ as.length = ys.length
  | [], _ => ⟨[], rfl, by simp, rfl⟩
  | y :: ys, h => by
    obtain ⟨a, rfl, ha⟩ := h 0 y rfl
    obtain ⟨as, rfl, has, hl⟩ := coll (ys := ys) fun j z hz => h (j + 1) z (by simpa using hz)
    exact ⟨a :: as, rfl, fun z hz => by rcases List.mem_cons.mp hz with rfl | hz; exact ha; exact has z hz, by simp⟩
theorem DrL {n k : Nat} {i : Nat} {r : List (Option (List D))} {η : En} {S : Store} {m : Int} {it : Li} (hi : it η S = .ok (rangeD 0 k) S) (hk : k ≤ 1000000) (h0 : η[0]? = some (some (.p 0))) (hi0 : i ≠ 0) (hn : n + k < 1000000000000000000) (hm : 0 < m) (h : Dr n r S) :
    ∃ (l : List D) (S' : Store), lcL (tgN i) it yesT (bin oMod (callE nextF (consA (var 0) nilA)) (cst (.int m))) [i] η S = .ok l S' ∧ ∃ ns : List Int, l = il ns ∧ ns.length = k ∧ (∀ x ∈ ns, 0 ≤ x ∧ x < m) ∧ Dr (n + k) r S' := by
  obtain ⟨ns, S', e, q⟩ := draws_list hi hk h0 hi0 hn hm h
  exact ⟨_, S', e, ns, rfl, q⟩
/-! ### equal things -/
mutual
theorem eqvD_rfl : ∀ (n : Nat) (d : D), okD n d = true → eqvD d d = true
  | _, .non, _ => by unfold eqvD; rfl
  | _, .bl _, _ => by unfold eqvD; simp
  | _, .int _, _ => by unfold eqvD; simp
  | _, .str _, _ => by unfold eqvD; simp
  | 0, .tup _, h => by simp [okD] at h
  | 0, .lst _, h => by simp [okD] at h
  | n + 1, .tup xs, h => by unfold eqvD; exact eqvDs_rfl n xs fun x hx => by unfold okD at h; exact List.all_eq_true.mp h x hx
  | n + 1, .lst xs, h => by unfold eqvD; exact eqvDs_rfl n xs fun x hx => by unfold okD at h; exact List.all_eq_true.mp h x hx
  | 0, .obj _ _ _, h => by simp [okD] at h
  | 0, .err _, h => by simp [okD] at h
  | 0, .dct _ _, h => by simp [okD] at h
  | 0, .scr _, h => by simp [okD] at h
  | n + 1, .obj _ _ _, h => by simp [okD] at h
  | n + 1, .err _, h => by simp [okD] at h
  | n + 1, .dct _ _, h => by simp [okD] at h
  | n + 1, .scr _, h => by simp [okD] at h
theorem eqvDs_rfl : ∀ (n : Nat) (ds : List D), (∀ d ∈ ds, okD n d = true) → eqvDs ds ds = true
  | _, [], _ => by unfold eqvDs; rfl
  | n, d :: ds, h => by
    unfold eqvDs
    rw [eqvD_rfl n d (h d (List.mem_cons_self ..)), eqvDs_rfl n ds fun x hx => h x (List.mem_cons_of_mem _ hx)]
    rfl
end
theorem oEq_same {neg : Bool} {d : D} {S : Store} (h : okD 60 d = true) : oEq neg (.d d) (.d d) S = .ok (.d (.bl (!neg))) S := by
  unfold oEq rd
  simp only [h, eqvD_rfl 60 d h, Bool.and_self, if_true]
  cases neg <;> rfl
theorem ok_int (n : Nat) (i : Int) : okD n (.int i) = true := by cases n <;> rfl
theorem ok_il (n : Nat) (ns : List Int) : ∀ d ∈ il ns, okD n d = true := by
  intro d hd
  unfold il at hd
  obtain ⟨i, _, rfl⟩ := List.mem_map.mp hd
  exact ok_int n i
theorem okL {n : Nat} {ds : List D} (h : ∀ d ∈ ds, okD n d = true) : okD (n + 1) (.lst ds) = true := by unfold okD; exact List.all_eq_true.mpr h
theorem okT {n : Nat} {ds : List D} (h : ∀ d ∈ ds, okD n d = true) : okD (n + 1) (.tup ds) = true := by unfold okD; exact List.all_eq_true.mpr h
theorem asB_of {E : Ex} {η : En} {S S1 : Store} {b : Bool} (h : E η S = .ok (.d (.bl b)) S1) : asB E η S = .ok b S1 := by unfold asB; rw [h]; rfl
theorem bin_of {g : Vl → Vl → Store → Res Vl} {a b : Ex} {η : En} {S S1 S2 S3 : Store} {x y v : Vl} (h1 : a η S = .ok x S1) (h2 : b η S1 = .ok y S2) (h3 : g x y S2 = .ok v S3) : bin g a b η S = .ok v S3 := by
  unfold bin; rw [h1, bind_ok, h2, bind_ok, h3]
theorem frz_of {L : Li} {η : En} {S S1 : Store} {l : List D} (h : L η S = .ok l S1) : frz L η S = .ok (.d (.lst l)) S1 := by unfold frz; rw [h]; rfl
theorem call_of {F : Fn} {a : As} {η : En} {S S1 S2 : Store} {xs : List Vl} {v : Vl} (h1 : a η S = .ok xs S1) (h2 : F xs S1 = .ok v S2) : callE F a η S = .ok v S2 := by unfold callE; rw [h1]; exact h2
theorem cons_of {e : Ex} {r : As} {η : En} {S S1 S2 : Store} {x : Vl} {xs : List Vl} (h1 : e η S = .ok x S1) (h2 : r η S1 = .ok xs S2) : consA e r η S = .ok (x :: xs) S2 := by unfold consA; rw [h1, bind_ok, h2]; rfl
theorem nil_of {η : En} {S : Store} : nilA η S = .ok [] S := rfl
theorem and_of {a b : Ex} {η : En} {S S1 : Store} {r : Res Vl} (h1 : a η S = .ok (.d (.bl true)) S1) (h2 : b η S1 = r) : andE a b η S = r := by unfold andE; rw [h1]; exact h2
theorem add_lst {a b : List D} {S : Store} (h : a.length + b.length ≤ 16777216) : oAdd (.d (.lst a)) (.d (.lst b)) S = .ok (.d (.lst (a ++ b))) S := by
  show (if a.length + b.length ≤ 16777216 then _ else _) = _
  rw [if_pos h]
/-- the cells that a law looks at -/
theorem cells_of {η : En} {ns : List Int} {k : Nat} (h0 : η[0]? = some (some (.d (.scr ns)))) (hl : ns.length ≤ 63) : seqI (bin oAdd (slE (var 0) paN (paI (cst (.int k)))) (frz (lstE (consA (cst (.int 0)) nilA)))) η ⟨[]⟩ = .ok (il (ns.take k ++ [0])) ⟨[]⟩ := by
  have hc : cutD (ns.map D.int) none (some (k : Int)) = (ns.take k).map D.int := by
    unfold cutD
    rw [HT.sIx_none, List.drop_zero, Nat.sub_zero, HT.sIx_nat, List.length_map, List.map_take]
    by_cases h10 : k ≤ ns.length
    · rw [Nat.min_eq_left h10]
    · rw [Nat.min_eq_right (by omega), List.take_of_length_le (by rw [List.length_map]; exact Nat.le_refl _), List.take_of_length_le (by rw [List.length_map]; omega)]
  have e1 : slE (var 0) paN (paI (cst (.int k))) η ⟨[]⟩ = .ok (.d (.lst ((ns.take k).map D.int))) ⟨[]⟩ := by
    unfold slE
    rw [var_at h0]
    show slV (.d (.scr ns)) none (some (k : Int)) ⟨[]⟩ = _
    unfold slV
    simp only [hc]
  have e2 : frz (lstE (consA (cst (.int 0)) nilA)) η ⟨[]⟩ = .ok (.d (.lst [.int 0])) ⟨[]⟩ := by simp [frz, lstE, consA, nilA, cst, allD]
  have e3 := bin_of (g := oAdd) e1 e2 (add_lst (by rw [List.length_map, List.length_take, List.length_singleton]; omega))
  unfold seqI
  rw [e3, bind_ok]
  unfold il
  rw [List.map_append]
  rfl
theorem for_of {t : Tg} {it : Li} {b : Stm} {n : Nat} {η η2 : En} {S S1 S2 : Store} {ds : List D} (h : it η S = .ok ds S1) (h2 : loopL t b n ds η S1 = .next η2 S2) : forS t it b n η S = .next η2 S2 := by unfold forS; rw [h]; exact h2
theorem wip_of {s : Stm} {is : List Nat} {n : Nat} {η η1 : En} {S S1 : Store} (h : s n η S = .next η1 S1) : wipS is s n η S = .next (wipeE is η1) S1 := by unfold wipS; rw [h]
theorem seq_of {a b : Stm} {n : Nat} {η η1 : En} {S S1 : Store} {r : SR} (h : a n η S = .next η1 S1) (h2 : b n η1 S1 = r) : seqS a b n η S = r := by unfold seqS; rw [h]; exact h2
/-- the laws' own def: each cell alone -/
def lawB (R : Fn) (k : Int) : Stm :=
    (seqS (wipS [0] (forS (tgN 1) (seqI (bin oAdd (slE (var 0) paN (paI (cst (.int k)))) (frz (lstE (consA (cst (.int 0)) nilA)))))
      (regS [1] (wipS [1] (ifS (notT (asB (callE R (consA (callE drawsF (consA (var 1) nilA)) nilA))))
      (ret (cst (.bl false))) nextS)))))
      (ret (cst (.bl true))))
theorem law_of {R : Fn} {k : Nat} {ns : List Int} (hR : ∀ S, Dr 0 [] S → ∃ S', R [.p 0] S = .ok (.d (.bl true)) S') (hl : ns.length ≤ 63) : fnF 1 2 .frz (lawB R k) [.d (.scr ns)] ⟨[]⟩ = .ok (.d (.bl true)) ⟨[]⟩ := by
  refine fnF_d rfl ?_ (Nat.le_refl _)
  have key : ∀ (l : List Int), loopL (tgN 1) (regS [1] (wipS [1] (ifS (notT (asB (callE R (consA (callE drawsF (consA (var 1) nilA)) nilA)))) (ret (cst (.bl false))) nextS))) 0 (il l) [some (.d (.scr ns)), none] ⟨[]⟩ = .next [some (.d (.scr ns)), none] ⟨[]⟩ := by
    intro l
    induction l with
    | nil => rfl
    | cons z l ih =>
      obtain ⟨S1, e1, h1⟩ := draws_ok z
      obtain ⟨S2, e2⟩ := hR S1 h1
      unfold il
      rw [List.map_cons]
      unfold loopL
      simp [tgN, regS, wipS, ifS, notT, asB, callE, consA, nilA, var, e1, e2, nextS, wipeE, frEn, frV]
      exact ih
  exact seq_of (wip_of (for_of (cells_of (k := k) rfl hl) (key _))) rfl
end MP

/-! printed by gen.py: the defs of easykinds_k12_deeds_done_and_put -/
namespace K12
open PySem PySem.Spec PyProof.Rows L2 MP
def b_place_of : Stm :=
    (seqS (asg 1 (cst (.int 0)))
      (seqS (wipS [0] (forS (tgN 2) (seqI (var 0))
      (wipS [2] (wipS [2] (asg 1 (bin oAdd (bin oMul (cst (.int 2)) (var 1)) (var 2)))))))
      (ret (var 1))))
def F_place_of : Fn := fnF 1 3 .frz b_place_of
def b_done : Stm :=
    (ret (bin oIx (var 0) (callE F_place_of (consA (var 1) nilA))))
def F_done : Fn := fnF 2 2 .frz b_done
def b_done_rows : Stm :=
    (ret (cal bTuple (consA (frz (lcL (tgN 2) (rngI1 (consA (cal bLen (consA (bin oIx (var 1) (cst (.int 0))) nilA)) nilA)) yesT (callE F_done (consA (var 0) (consA (frz (lcL (tgN 3) (seqI (var 1)) yesT (bin oIx (var 3) (var 2)) [3])) nilA))) [2])) nilA)))
def F_done_rows : Fn := fnF 2 4 .frz b_done_rows
def b__law_next : Stm :=
    (seqS (setI (bin oAdd (bin oIx (var 0) (cst (.int 1))) (cst (.int 1))) (var 0) (cst (.int 1)))
      (seqS (asg 1 (bin oIx (var 0) (cst (.int 1))))
      (seqS (wipS [2] (ifS (asB (bin oIx (var 0) (cst (.int 2))))
      (seqS (wipS [1] (asg 2 (bin oMod (bin oIx (var 0) (cst (.int 0))) (bin oPow (cst (.int 10)) (cst (.int 6))))))
      (seqS (wipS [0] (setI (bin oDiv (bin oIx (var 0) (cst (.int 0))) (bin oPow (cst (.int 10)) (cst (.int 6)))) (var 0) (cst (.int 0))))
      (ret (var 2)))) nextS))
      (seqS (wipS [0, 1] (asg 2 (bin oMod (bin oMul (bin oAdd (bin oAdd (bin oMod (bin oIx (var 0) (cst (.int 0))) (cst (.int 1000003))) (bin oMul (bin oMul (var 1) (var 1)) (cst (.int 7919)))) (var 1)) (cst (.int 48271))) (cst (.int 2147483629)))))
      (seqS (asg 2 (bin oMod (bin oMul (var 2) (var 2)) (cst (.int 2147483587))))
      (ret (bin oDiv (bin oMod (bin oMul (var 2) (bin oAdd (var 2) (cst (.int 2)))) (cst (.int 2147483579))) (cst (.int 7)))))))))
def F__law_next : Fn := fnF 1 3 .frz b__law_next
def b__law_tree (rec : Fn) : Stm :=
    (seqS (asg 2 (callE F__law_next (consA (var 0) nilA)))
      (seqS (wipS [2] (ifS (orT (asB (bin (oEq false) (var 1) (cst (.int 0)))) (asB (bin (oEq false) (bin oMod (var 2) (cst (.int 4))) (cst (.int 0)))))
      (ret (bin oMod (bin oDiv (var 2) (cst (.int 4))) (cst (.int 3)))) nextS))
      (ret (tupE (consA (callE rec (consA (var 0) (consA (bin oSub (var 1) (cst (.int 1))) nilA))) (consA (callE rec (consA (var 0) (consA (bin oSub (var 1) (cst (.int 1))) nilA))) (consA (callE rec (consA (var 0) (consA (bin oSub (var 1) (cst (.int 1))) nilA))) nilA)))))))
def F__law_tree : Nat → Fn
  | 0 => fnF 2 3 .frz stuckS
  | n + 1 => fnF 2 3 .frz (b__law_tree (F__law_tree n))
def b_tells (rec : Fn) : Stm :=
    (seqS (ifS (asB (una (isD "int") (var 1)))
      (ret (bin oIx (var 2) (var 1))) nextS)
      (ret (callE F_done (consA (var 0) (consA (frz (lcL (tgN 3) (seqI (var 1)) yesT (callE rec (consA (var 0) (consA (var 3) (consA (var 2) nilA)))) [3])) nilA)))))
def F_tells : Nat → Fn
  | 0 => fnF 3 4 .frz stuckS
  | n + 1 => fnF 3 4 .frz (b_tells (F_tells n))
def b_put : Stm :=
    (ret (cal bTuple (consA (frz (lcL (tgN 2) (rngI1 (consA (cst (.int 8)) nilA)) yesT (callE (F_tells 12) (consA (var 0) (consA (var 1) (consA (tupE (consA (bin oDiv (var 2) (cst (.int 4))) (consA (bin oMod (bin oDiv (var 2) (cst (.int 2))) (cst (.int 2))) (consA (bin oMod (var 2) (cst (.int 2))) nilA)))) nilA)))) [2])) nilA)))
def F_put : Fn := fnF 2 3 .frz b_put
def b__law_long_tree : Stm :=
    (seqS (asg 1 (bin oMod (callE F__law_next (consA (var 0) nilA)) (cst (.int 3))))
      (seqS (wipS [0] (forS (tgN 2) (rngI1 (consA (cst (.int 8)) nilA))
      (regS [2, 3, 4] (seqS (wipS [2] (asg 3 (callE F__law_next (consA (var 0) nilA))))
      (seqS (asg 4 (new (lstE (consA (bin oMod (bin oDiv (var 3) (cst (.int 3))) (cst (.int 3))) (consA (bin oMod (bin oDiv (var 3) (cst (.int 9))) (cst (.int 3))) (consA (bin oMod (bin oDiv (var 3) (cst (.int 27))) (cst (.int 3))) nilA))))))
      (seqS (wipS [1, 3] (setI (var 1) (var 4) (bin oMod (var 3) (cst (.int 3)))))
      (wipS [4] (asg 1 (cal bTuple (consA (var 4) nilA))))))))))
      (ret (var 1))))
def F__law_long_tree : Fn := fnF 1 5 .frz b__law_long_tree
def b__law_tells : Stm :=
    (seqS (wipS [0] (asg 2 (frz (calL bList (consA (var 0) nilA)))))
      (seqS (wipS [1] (forS (tgN 3) (seqI (var 1))
      (wipS [3, 4] (seqS (asg 4 (bin oDiv (cal bLen (consA (var 2) nilA)) (cst (.int 2))))
      (wipS [3, 4] (asg 2 (bin oIx (frz (lstE (consA (slE (var 2) paN (paI (var 4))) (consA (slE (var 2) (paI (var 4)) paN) nilA)))) (var 3))))))))
      (ret (bin oIx (var 2) (cst (.int 0))))))
def F__law_tells : Fn := fnF 2 5 .frz b__law_tells
def b__law_put (rec : Fn) : Stm :=
    (seqS (ifS (asB (una (isD "int") (var 1)))
      (ret (bin oIx (var 2) (var 1))) nextS)
      (ret (callE F__law_tells (consA (var 0) (consA (frz (lcL (tgN 3) (seqI (var 1)) yesT (callE rec (consA (var 0) (consA (var 3) (consA (var 2) nilA)))) [3])) nilA)))))
def F__law_put : Nat → Fn
  | 0 => fnF 3 4 .frz stuckS
  | n + 1 => fnF 3 4 .frz (b__law_put (F__law_put n))
def b__law_right : Stm :=
    (seqS (asg 1 (bin oAdd (cst (.int 1)) (bin oMod (callE F__law_next (consA (var 0) nilA)) (cst (.int 4)))))
      (seqS (asg 2 (cal bTuple (consA (frz (lcL (tgN 14) (rngI1 (consA (bin oIx (frz (lstE (consA (cst (.int 2)) (consA (cst (.int 4)) (consA (cst (.int 8)) (consA (cst (.int 16)) nilA)))))) (bin oSub (var 1) (cst (.int 1)))) nilA)) yesT (bin oMod (callE F__law_next (consA (var 0) nilA)) (cst (.int 2))) [14])) nilA)))
      (seqS (asg 3 (frz (lcL (tgN 13) (rngI1 (consA (var 1) nilA)) yesT (bin oMod (callE F__law_next (consA (var 0) nilA)) (cst (.int 2))) [13])))
      (seqS (asg 4 (bin oAdd (cst (.int 1)) (bin oMod (callE F__law_next (consA (var 0) nilA)) (cst (.int 4)))))
      (seqS (wipS [1] (asg 5 (frz (lcL (tgN 13) (rngI1 (consA (var 1) nilA)) yesT (cal bTuple (consA (frz (lcL (tgN 14) (rngI1 (consA (var 4) nilA)) yesT (bin oMod (callE F__law_next (consA (var 0) nilA)) (cst (.int 2))) [14])) nilA)) [13]))))
      (seqS (asg 6 (frz (lstE (consA (frz (calL bList (consA (var 3) nilA))) (consA (frz (calL bList (consA (var 5) nilA))) nilA)))))
      (seqS (asg 7 (callE F_done (consA (var 2) (consA (bin oIx (var 6) (cst (.int 0))) nilA))))
      (seqS (wipS [7] (ifS (orT (asB (una (isD "bool") (var 7))) (orT (asB (bin (oEq true) (var 7) (callE F__law_tells (consA (var 2) (consA (var 3) nilA))))) (asB (bin (oEq true) (var 6) (frz (lstE (consA (var 3) (consA (var 5) nilA))))))))
      (ret (cst (.bl false))) nextS))
      (seqS (asg 8 (callE F_done_rows (consA (var 2) (consA (bin oIx (var 6) (cst (.int 1))) nilA))))
      (seqS (wipS [3, 6] (ifS (orT (notT (asB (una (isD "tuple") (var 8)))) (asB (bin (oEq true) (var 6) (frz (lstE (consA (var 3) (consA (var 5) nilA)))))))
      (ret (cst (.bl false))) nextS))
      (seqS (ifS (asB (bin (oEq true) (frz (lcL (tgN 15) (seqI (var 8)) (asB (una (isD "bool") (var 15))) (var 15) [15])) (frz (lstE nilA))))
      (ret (cst (.bl false))) nextS)
      (seqS (wipS [2, 4, 5, 8] (ifS (asB (bin (oEq true) (var 8) (cal bTuple (consA (frz (lcL (tgN 14) (rngI1 (consA (var 4) nilA)) yesT (callE F__law_tells (consA (var 2) (consA (frz (lcL (tgN 15) (seqI (var 5)) yesT (bin oIx (var 15) (var 14)) [15])) nilA))) [14])) nilA))))
      (ret (cst (.bl false))) nextS))
      (seqS (asg 9 (cal bTuple (consA (frz (lcL (tgN 14) (rngI1 (consA (cst (.int 8)) nilA)) yesT (bin oMod (callE F__law_next (consA (var 0) nilA)) (cst (.int 2))) [14])) nilA)))
      (seqS (asg 10 (callE (F__law_tree 12) (consA (var 0) (consA (cst (.int 5)) nilA))))
      (seqS (wipS [0] (ifS (asB (bin (oEq false) (bin oMod (callE F__law_next (consA (var 0) nilA)) (cst (.int 8))) (cst (.int 1))))
      (wipS [0] (asg 10 (callE F__law_long_tree (consA (var 0) nilA)))) nextS))
      (seqS (asg 11 (cal bTuple (consA (frz (lcL (tgN 16) (rngI1 (consA (cst (.int 8)) nilA)) yesT (callE (F__law_put 12) (consA (var 9) (consA (var 10) (consA (frz (lstE (consA (bin oDiv (var 16) (cst (.int 4))) (consA (bin oMod (bin oDiv (var 16) (cst (.int 2))) (cst (.int 2))) (consA (bin oMod (var 16) (cst (.int 2))) nilA))))) nilA)))) [16])) nilA)))
      (seqS (wipS [9, 10] (asg 12 (callE F_put (consA (var 9) (consA (var 10) nilA)))))
      (ret (andE (una (isD "tuple") (var 12)) (andE (bin (oEq false) (var 12) (var 11)) (bin (oEq false) (frz (lcL (tgN 15) (seqI (var 12)) (asB (una (isD "bool") (var 15))) (var 15) [15])) (frz (lstE nilA)))))))))))))))))))))))
def F__law_right : Fn := fnF 1 17 .frz b__law_right
def b__law_draws__m : Stm :=
    (seqS (ifS (asB (bin oLt (var 0) (bin oPow (cst (.int 10)) (cst (.int 18)))))
      (ret (new (lstE (consA (var 0) (consA (cst (.int 0)) (consA (cst (.bl false)) nilA)))))) nextS)
      (ret (new (lstE (consA (bin oMod (var 0) (bin oPow (bin oPow (bin oPow (cst (.int 10)) (cst (.int 60))) (cst (.int 50))) (cst (.int 3)))) (consA (cst (.int 0)) (consA (cst (.bl true)) nilA)))))))
def F__law_draws__m : Fn := fnF 1 1 .mut b__law_draws__m
def b_law : Stm :=
    (seqS (wipS [0] (forS (tgN 1) (seqI (bin oAdd (slE (var 0) paN (paI (cst (.int 10)))) (frz (lstE (consA (cst (.int 0)) nilA)))))
      (regS [1] (wipS [1] (ifS (notT (asB (callE F__law_right (consA (callE F__law_draws__m (consA (var 1) nilA)) nilA))))
      (ret (cst (.bl false))) nextS)))))
      (ret (cst (.bl true))))
def F_law : Fn := fnF 1 2 .frz b_law
def topS (i : Nat) : Stmt := PySem.Challenge.pw_easykinds_k12_deeds_done_and_put.main.body.getD i (.Pass ⟨0, 0, 0, 0⟩)
abbrev s_place_of : Stmt := topS 1
abbrev s_done : Stmt := topS 2
abbrev s_done_rows : Stmt := topS 3
abbrev s__law_next : Stmt := topS 8
abbrev s__law_tree : Stmt := topS 10
abbrev s_tells : Stmt := topS 4
abbrev s_put : Stmt := topS 5
abbrev s__law_long_tree : Stmt := topS 11
abbrev s__law_tells : Stmt := topS 9
abbrev s__law_put : Stmt := topS 12
abbrev s__law_right : Stmt := topS 13
abbrev s__law_draws : Stmt := topS 7
abbrev s_law : Stmt := topS 14
theorem sc_place_of : FnScope ["numbers", "place", "number"] ["numbers"] (defScope s_place_of) := ⟨rfl, rfl, rfl, by decide +kernel, rfl, by decide +kernel, by decide +kernel⟩
theorem sc_done : FnScope ["deed", "numbers"] ["deed", "numbers"] (defScope s_done) := ⟨rfl, rfl, rfl, by decide +kernel, rfl, by decide +kernel, by decide +kernel⟩
theorem sc_done_rows : FnScope ["deed", "rows", "place", "row"] ["deed", "rows"] (defScope s_done_rows) := ⟨rfl, rfl, rfl, by decide +kernel, rfl, by decide +kernel, by decide +kernel⟩
theorem sc__law_next : FnScope ["_law_draws_here", "_law_k", "_law_number"] ["_law_draws_here"] (defScope s__law_next) := ⟨rfl, rfl, rfl, by decide +kernel, rfl, by decide +kernel, by decide +kernel⟩
theorem sc__law_tree : FnScope ["_law_draws_here", "_law_deep", "_law_number"] ["_law_draws_here", "_law_deep"] (defScope s__law_tree) := ⟨rfl, rfl, rfl, by decide +kernel, rfl, by decide +kernel, by decide +kernel⟩
theorem sc_tells : FnScope ["deed", "tree", "numbers", "part"] ["deed", "tree", "numbers"] (defScope s_tells) := ⟨rfl, rfl, rfl, by decide +kernel, rfl, by decide +kernel, by decide +kernel⟩
theorem sc_put : FnScope ["deed", "tree", "at"] ["deed", "tree"] (defScope s_put) := ⟨rfl, rfl, rfl, by decide +kernel, rfl, by decide +kernel, by decide +kernel⟩
theorem sc__law_long_tree : FnScope ["_law_draws_here", "_law_tree_here", "_law_k", "_law_number", "_law_parts"] ["_law_draws_here"] (defScope s__law_long_tree) := ⟨rfl, rfl, rfl, by decide +kernel, rfl, by decide +kernel, by decide +kernel⟩
theorem sc__law_tells : FnScope ["_law_deed", "_law_numbers", "_law_lot", "_law_number", "_law_half"] ["_law_deed", "_law_numbers"] (defScope s__law_tells) := ⟨rfl, rfl, rfl, by decide +kernel, rfl, by decide +kernel, by decide +kernel⟩
theorem sc__law_put : FnScope ["_law_deed", "_law_tree_here", "_law_numbers", "_law_part"] ["_law_deed", "_law_tree_here", "_law_numbers"] (defScope s__law_put) := ⟨rfl, rfl, rfl, by decide +kernel, rfl, by decide +kernel, by decide +kernel⟩
theorem sc__law_right : FnScope ["_law_draws_here", "_law_many", "_law_deed", "_law_numbers", "_law_width", "_law_rows", "_law_handed", "_law_found", "_law_row", "_law_three", "_law_tree_here", "_law_due", "_law_told", "_law_arm", "_law_place", "_law_one", "_law_at"] ["_law_draws_here"] (defScope s__law_right) := ⟨rfl, rfl, rfl, by decide +kernel, rfl, by decide +kernel, by decide +kernel⟩
theorem sc__law_draws : FnScope ["_law_cell"] ["_law_cell"] (defScope s__law_draws) := ⟨rfl, rfl, rfl, by decide +kernel, rfl, by decide +kernel, by decide +kernel⟩
theorem sc_law : FnScope ["_law_script", "_law_cell"] ["_law_script"] (defScope s_law) := ⟨rfl, rfl, rfl, by decide +kernel, rfl, by decide +kernel, by decide +kernel⟩
structure Cf (K : PySem.W.Frag) (mg : Str → Option Value) (G : GI) : Prop where
  hK : K = G.K
  h_place_of : Has K mg "place_of" s_place_of ["numbers"]
  h_done : Has K mg "done" s_done ["deed", "numbers"]
  h_done_rows : Has K mg "done_rows" s_done_rows ["deed", "rows"]
  h__law_next : Has K mg "_law_next" s__law_next ["_law_draws_here"]
  h__law_tree : Has K mg "_law_tree" s__law_tree ["_law_draws_here", "_law_deep"]
  h_tells : Has K mg "tells" s_tells ["deed", "tree", "numbers"]
  h_put : Has K mg "put" s_put ["deed", "tree"]
  h__law_long_tree : Has K mg "_law_long_tree" s__law_long_tree ["_law_draws_here"]
  h__law_tells : Has K mg "_law_tells" s__law_tells ["_law_deed", "_law_numbers"]
  h__law_put : Has K mg "_law_put" s__law_put ["_law_deed", "_law_tree_here", "_law_numbers"]
  h__law_right : Has K mg "_law_right" s__law_right ["_law_draws_here"]
  h__law_draws : Has K mg "_law_draws" s__law_draws ["_law_cell"]
  h_law : Has K mg "law" s_law ["_law_script"]
  z_bool : mg "bool" = none
  z_int : mg "int" = none
  z_isinstance : mg "isinstance" = none
  z_len : mg "len" = none
  z_list : mg "list" = none
  z_range : mg "range" = none
  z_tuple : mg "tuple" = none
section
variable {P : Program} {w : World} {K : PySem.W.Frag} {mg : Str → Option Value} {base : Heap} {G : GI}
theorem p_place_of (c : Cf K mg G) : BodyOk P w K mg base G "place_of" ["numbers", "place", "number"] s_place_of 0 b_place_of := by
  intro f cdv A outer s H E n0 hr tk hp
  have hK := c.hK
  have nd := sc_place_of.nd
  exact (ms_seq (ms_asg (i := 1) nd me_int)
      (ms_seq (mg_wip1 [0] (mi_for hp rfl (mi_seq hK (me_var 0)) (pg_name (i := 2) nd rfl (by first | exact .inl rfl | exact .inr rfl)) (tg_name 2)
      (mg_wip [2] (ms_one (mg_wip1 [2] (ms_asg (i := 1) nd (me_bn (bn_add hK) (me_bn bn_mul me_int (me_var 1)) (me_var 2))))))))
      (ms_one (ms_ret (me_var 1)))))
theorem d_place_of (c : Cf K mg G) : Def P w K mg base G 1 "place_of" F_place_of := def_of c.hK c.h_place_of sc_place_of (p_place_of c)
theorem p_done (c : Cf K mg G) : BodyOk P w K mg base G "done" ["deed", "numbers"] s_done 1 b_done := by
  intro f cdv A outer s H E n0 hr tk hp
  have hK := c.hK
  have nd := sc_done.nd
  exact (ms_one (ms_ret (me_ix hK (me_var 0) (me_call ((d_place_of (w := w) (P := P) (base := base) c).mono (by decide)) hr tk rfl (ma_cons (me_var 1) ma_nil)))))
theorem d_done (c : Cf K mg G) : Def P w K mg base G 2 "done" F_done := def_of c.hK c.h_done sc_done (p_done c)
theorem p_done_rows (c : Cf K mg G) : BodyOk P w K mg base G "done_rows" ["deed", "rows", "place", "row"] s_done_rows 2 b_done_rows := by
  intro f cdv A outer s H E n0 hr tk hp
  have hK := c.hK
  have nd := sc_done_rows.nd
  exact (ms_one (ms_ret (me_bt (bt_tuple hK) c.z_tuple (ma_cons (me_frz (ml_lc (own := [("place", 2)]) rfl nd (mi_range1 c.z_range rfl (ma_cons (me_bt (bt_len hK) c.z_len (ma_cons (me_ix hK (me_var 1) me_int) ma_nil)) ma_nil)) (blk_mk (by kernel_rfl)) (tg_name 2) (by decide) (fun _ _ _ _ _ => (pg_name (i := 2) nd rfl (by first | exact .inl rfl | exact .inr rfl))) (fun _ _ _ _ _ => mt_yes) (fun _ _ _ _ _ => (me_call ((d_done (w := w) (P := P) (base := base) c).mono (by decide)) hr tkW0 rfl (ma_cons (me_var 0) (ma_cons (me_frz (ml_lc (own := [("row", 3)]) rfl nd (mi_seq hK (me_var 1)) (blk_mk (by kernel_rfl)) (tg_name 3) (by decide) (fun _ _ _ _ _ => (pg_name (i := 3) nd rfl (by first | exact .inl rfl | exact .inr rfl))) (fun _ _ _ _ _ => mt_yes) (fun _ _ _ _ _ => (me_ix hK (me_var 3) (me_var 2))))) ma_nil)))))) ma_nil))))
theorem d_done_rows (c : Cf K mg G) : Def P w K mg base G 3 "done_rows" F_done_rows := def_of c.hK c.h_done_rows sc_done_rows (p_done_rows c)
theorem p__law_next (c : Cf K mg G) : BodyOk P w K mg base G "_law_next" ["_law_draws_here", "_law_k", "_law_number"] s__law_next 0 b__law_next := by
  intro f cdv A outer s H E n0 hr tk hp
  have hK := c.hK
  have nd := sc__law_next.nd
  exact (ms_seq (ms_setI (me_bn (bn_add hK) (me_ix hK (me_var 0) me_int) me_int) (me_var 0) me_int)
      (ms_seq (ms_asg (i := 1) nd (me_ix hK (me_var 0) me_int))
      (ms_seq (mg_wip1 [2] (ms_if (mt_val (me_ix hK (me_var 0) me_int))
      (ms_seq (mg_wip1 [1] (ms_asg (i := 2) nd (me_bn bn_mod (me_ix hK (me_var 0) me_int) (me_bn bn_pow me_int me_int))))
      (ms_seq (mg_wip1 [0] (ms_setI (me_bn bn_div (me_ix hK (me_var 0) me_int) (me_bn bn_pow me_int me_int)) (me_var 0) me_int))
      (ms_one (ms_ret (me_var 2))))) ms_nil))
      (ms_seq (mg_wip1 [0, 1] (ms_asg (i := 2) nd (me_bn bn_mod (me_bn bn_mul (me_bn (bn_add hK) (me_bn (bn_add hK) (me_bn bn_mod (me_ix hK (me_var 0) me_int) me_int) (me_bn bn_mul (me_bn bn_mul (me_var 1) (me_var 1)) me_int)) (me_var 1)) me_int) me_int)))
      (ms_seq (ms_asg (i := 2) nd (me_bn bn_mod (me_bn bn_mul (me_var 2) (me_var 2)) me_int))
      (ms_one (ms_ret (me_bn bn_div (me_bn bn_mod (me_bn bn_mul (me_var 2) (me_bn (bn_add hK) (me_var 2) me_int)) me_int) me_int))))))))
theorem d__law_next (c : Cf K mg G) : Def P w K mg base G 1 "_law_next" F__law_next := def_of c.hK c.h__law_next sc__law_next (p__law_next c)
theorem p__law_tree (c : Cf K mg G) {n : Nat} {rec : Fn} (ih : Def P w K mg base G (1 + n + 1) "_law_tree" rec) : BodyOk P w K mg base G "_law_tree" ["_law_draws_here", "_law_deep", "_law_number"] s__law_tree (1 + n + 1) (b__law_tree rec) := by
  intro f cdv A outer s H E n0 hr tk hp
  have hK := c.hK
  have nd := sc__law_tree.nd
  exact (ms_seq (ms_asg (i := 2) nd (me_call ((d__law_next (w := w) (P := P) (base := base) c).mono (by omega)) hr tk rfl (ma_cons (me_var 0) ma_nil)))
      (ms_seq (mg_wip1 [2] (ms_if (L2.PW.pt (mw_or (mt_cm (cm_eq hK hr) (me_var 1) me_int) (mw_or1 (mt_cm (cm_eq hK hr) (me_bn bn_mod (me_var 2) me_int) me_int))))
      (ms_one (ms_ret (me_bn bn_mod (me_bn bn_div (me_var 2) me_int) me_int))) ms_nil))
      (ms_one (ms_ret (me_tup (ma_cons (me_call ih hr tk rfl (ma_cons (me_var 0) (ma_cons (me_bn bn_sub (me_var 1) me_int) ma_nil))) (ma_cons (me_call ih hr tk rfl (ma_cons (me_var 0) (ma_cons (me_bn bn_sub (me_var 1) me_int) ma_nil))) (ma_cons (me_call ih hr tk rfl (ma_cons (me_var 0) (ma_cons (me_bn bn_sub (me_var 1) me_int) ma_nil))) ma_nil))))))))
theorem d__law_tree (c : Cf K mg G) : ∀ n : Nat, Def P w K mg base G (1 + n + 1) "_law_tree" (F__law_tree n)
  | 0 => (def_stuck c.hK c.h__law_tree sc__law_tree (k := 1))
  | n + 1 => def_of c.hK c.h__law_tree sc__law_tree (p__law_tree c (d__law_tree c n))
theorem p_tells (c : Cf K mg G) {n : Nat} {rec : Fn} (ih : Def P w K mg base G (2 + n + 1) "tells" rec) : BodyOk P w K mg base G "tells" ["deed", "tree", "numbers", "part"] s_tells (2 + n + 1) (b_tells rec) := by
  intro f cdv A outer s H E n0 hr tk hp
  have hK := c.hK
  have nd := sc_tells.nd
  exact (ms_seq (ms_if (mt_val (me_isi hK ty_int rfl c.z_isinstance boot_isi rfl c.z_int boot_int (me_var 1)))
      (ms_one (ms_ret (me_ix hK (me_var 2) (me_var 1)))) ms_nil)
      (ms_one (ms_ret (me_call ((d_done (w := w) (P := P) (base := base) c).mono (by omega)) hr tk rfl (ma_cons (me_var 0) (ma_cons (me_frz (ml_lc (own := [("part", 3)]) rfl nd (mi_seq hK (me_var 1)) (blk_mk (by kernel_rfl)) (tg_name 3) (by decide) (fun _ _ _ _ _ => (pg_name (i := 3) nd rfl (by first | exact .inl rfl | exact .inr rfl))) (fun _ _ _ _ _ => mt_yes) (fun _ _ _ _ _ => (me_call ih hr tkW0 rfl (ma_cons (me_var 0) (ma_cons (me_var 3) (ma_cons (me_var 2) ma_nil))))))) ma_nil))))))
theorem d_tells (c : Cf K mg G) : ∀ n : Nat, Def P w K mg base G (2 + n + 1) "tells" (F_tells n)
  | 0 => (def_stuck c.hK c.h_tells sc_tells (k := 2))
  | n + 1 => def_of c.hK c.h_tells sc_tells (p_tells c (d_tells c n))
theorem p_put (c : Cf K mg G) : BodyOk P w K mg base G "put" ["deed", "tree", "at"] s_put 15 b_put := by
  intro f cdv A outer s H E n0 hr tk hp
  have hK := c.hK
  have nd := sc_put.nd
  exact (ms_one (ms_ret (me_bt (bt_tuple hK) c.z_tuple (ma_cons (me_frz (ml_lc (own := [("at", 2)]) rfl nd (mi_range1 c.z_range rfl (ma_cons me_int ma_nil)) (blk_mk (by kernel_rfl)) (tg_name 2) (by decide) (fun _ _ _ _ _ => (pg_name (i := 2) nd rfl (by first | exact .inl rfl | exact .inr rfl))) (fun _ _ _ _ _ => mt_yes) (fun _ _ _ _ _ => (me_call ((d_tells (w := w) (P := P) (base := base) c 12).mono (by decide)) hr tkW0 rfl (ma_cons (me_var 0) (ma_cons (me_var 1) (ma_cons (me_tup (ma_cons (me_bn bn_div (me_var 2) me_int) (ma_cons (me_bn bn_mod (me_bn bn_div (me_var 2) me_int) me_int) (ma_cons (me_bn bn_mod (me_var 2) me_int) ma_nil)))) ma_nil))))))) ma_nil))))
theorem d_put (c : Cf K mg G) : Def P w K mg base G 16 "put" F_put := def_of c.hK c.h_put sc_put (p_put c)
theorem p__law_long_tree (c : Cf K mg G) : BodyOk P w K mg base G "_law_long_tree" ["_law_draws_here", "_law_tree_here", "_law_k", "_law_number", "_law_parts"] s__law_long_tree 1 b__law_long_tree := by
  intro f cdv A outer s H E n0 hr tk hp
  have hK := c.hK
  have nd := sc__law_long_tree.nd
  exact (ms_seq (ms_asg (i := 1) nd (me_bn bn_mod (me_call ((d__law_next (w := w) (P := P) (base := base) c).mono (by decide)) hr tk rfl (ma_cons (me_var 0) ma_nil)) me_int))
      (ms_seq (mg_wip1 [0] (mi_for hp rfl (mi_range1 c.z_range rfl (ma_cons me_int ma_nil)) (pg_name (i := 2) nd rfl (by first | exact .inl rfl | exact .inr rfl)) (tg_name 2)
      (mg_reg [2, 3, 4] (ms_seq (mg_wip1 [2] (ms_asg (i := 3) nd (me_call ((d__law_next (w := w) (P := P) (base := base) c).mono (by decide)) hr tk rfl (ma_cons (me_var 0) ma_nil))))
      (ms_seq (ms_asg (i := 4) nd (me_new (ml_lst (ma_cons (me_bn bn_mod (me_bn bn_div (me_var 3) me_int) me_int) (ma_cons (me_bn bn_mod (me_bn bn_div (me_var 3) me_int) me_int) (ma_cons (me_bn bn_mod (me_bn bn_div (me_var 3) me_int) me_int) ma_nil))))))
      (ms_seq (mg_wip1 [1, 3] (ms_setI (me_var 1) (me_var 4) (me_bn bn_mod (me_var 3) me_int)))
      (ms_one (mg_wip1 [4] (ms_asg (i := 1) nd (me_bt (bt_tuple hK) c.z_tuple (ma_cons (me_var 4) ma_nil)))))))))))
      (ms_one (ms_ret (me_var 1)))))
theorem d__law_long_tree (c : Cf K mg G) : Def P w K mg base G 2 "_law_long_tree" F__law_long_tree := def_of c.hK c.h__law_long_tree sc__law_long_tree (p__law_long_tree c)
theorem p__law_tells (c : Cf K mg G) : BodyOk P w K mg base G "_law_tells" ["_law_deed", "_law_numbers", "_law_lot", "_law_number", "_law_half"] s__law_tells 0 b__law_tells := by
  intro f cdv A outer s H E n0 hr tk hp
  have hK := c.hK
  have nd := sc__law_tells.nd
  exact (ms_seq (mg_wip1 [0] (ms_asg (i := 2) nd (me_frz (ml_bt (bt_list hK) c.z_list (ma_cons (me_var 0) ma_nil)))))
      (ms_seq (mg_wip1 [1] (mi_for hp rfl (mi_seq hK (me_var 1)) (pg_name (i := 3) nd rfl (by first | exact .inl rfl | exact .inr rfl)) (tg_name 3)
      (mg_wip [3, 4] (ms_seq (ms_asg (i := 4) nd (me_bn bn_div (me_bt (bt_len hK) c.z_len (ma_cons (me_var 2) ma_nil)) me_int))
      (ms_one (mg_wip1 [3, 4] (ms_asg (i := 2) nd (me_ix hK (me_frz (ml_lst (ma_cons (me_sl hK (me_var 2) mp_none (mp_some (me_var 4))) (ma_cons (me_sl hK (me_var 2) (mp_some (me_var 4)) mp_none) ma_nil)))) (me_var 3)))))))))
      (ms_one (ms_ret (me_ix hK (me_var 2) me_int)))))
theorem d__law_tells (c : Cf K mg G) : Def P w K mg base G 1 "_law_tells" F__law_tells := def_of c.hK c.h__law_tells sc__law_tells (p__law_tells c)
theorem p__law_put (c : Cf K mg G) {n : Nat} {rec : Fn} (ih : Def P w K mg base G (1 + n + 1) "_law_put" rec) : BodyOk P w K mg base G "_law_put" ["_law_deed", "_law_tree_here", "_law_numbers", "_law_part"] s__law_put (1 + n + 1) (b__law_put rec) := by
  intro f cdv A outer s H E n0 hr tk hp
  have hK := c.hK
  have nd := sc__law_put.nd
  exact (ms_seq (ms_if (mt_val (me_isi hK ty_int rfl c.z_isinstance boot_isi rfl c.z_int boot_int (me_var 1)))
      (ms_one (ms_ret (me_ix hK (me_var 2) (me_var 1)))) ms_nil)
      (ms_one (ms_ret (me_call ((d__law_tells (w := w) (P := P) (base := base) c).mono (by omega)) hr tk rfl (ma_cons (me_var 0) (ma_cons (me_frz (ml_lc (own := [("_law_part", 3)]) rfl nd (mi_seq hK (me_var 1)) (blk_mk (by kernel_rfl)) (tg_name 3) (by decide) (fun _ _ _ _ _ => (pg_name (i := 3) nd rfl (by first | exact .inl rfl | exact .inr rfl))) (fun _ _ _ _ _ => mt_yes) (fun _ _ _ _ _ => (me_call ih hr tkW0 rfl (ma_cons (me_var 0) (ma_cons (me_var 3) (ma_cons (me_var 2) ma_nil))))))) ma_nil))))))
theorem d__law_put (c : Cf K mg G) : ∀ n : Nat, Def P w K mg base G (1 + n + 1) "_law_put" (F__law_put n)
  | 0 => (def_stuck c.hK c.h__law_put sc__law_put (k := 1))
  | n + 1 => def_of c.hK c.h__law_put sc__law_put (p__law_put c (d__law_put c n))
theorem p__law_right (c : Cf K mg G) : BodyOk P w K mg base G "_law_right" ["_law_draws_here", "_law_many", "_law_deed", "_law_numbers", "_law_width", "_law_rows", "_law_handed", "_law_found", "_law_row", "_law_three", "_law_tree_here", "_law_due", "_law_told", "_law_arm", "_law_place", "_law_one", "_law_at"] s__law_right 16 b__law_right := by
  intro f cdv A outer s H E n0 hr tk hp
  have hK := c.hK
  have nd := sc__law_right.nd
  exact (ms_seq (ms_asg (i := 1) nd (me_bn (bn_add hK) me_int (me_bn bn_mod (me_call ((d__law_next (w := w) (P := P) (base := base) c).mono (by decide)) hr tk rfl (ma_cons (me_var 0) ma_nil)) me_int)))
      (ms_seq (ms_asg (i := 2) nd (me_bt (bt_tuple hK) c.z_tuple (ma_cons (me_frz (ml_lc (own := [("_law_place", 14)]) rfl nd (mi_range1 c.z_range rfl (ma_cons (me_ix hK (me_frz (ml_lst (ma_cons me_int (ma_cons me_int (ma_cons me_int (ma_cons me_int ma_nil)))))) (me_bn bn_sub (me_var 1) me_int)) ma_nil)) (blk_mk (by kernel_rfl)) (tg_name 14) (by decide) (fun _ _ _ _ _ => (pg_name (i := 14) nd rfl (by first | exact .inl rfl | exact .inr rfl))) (fun _ _ _ _ _ => mt_yes) (fun _ _ _ _ _ => (me_bn bn_mod (me_call ((d__law_next (w := w) (P := P) (base := base) c).mono (by decide)) hr tkW0 rfl (ma_cons (me_var 0) ma_nil)) me_int)))) ma_nil)))
      (ms_seq (ms_lc0 (fL := frz) (fun _ => frz_imp) (own := [("_law_arm", 13)]) rfl nd (mi_range1 c.z_range rfl (ma_cons (me_var 1) ma_nil)) (blk_mk (by kernel_rfl)) (tg_name 13) (by decide) (fun _ _ _ _ _ => (pg_name (i := 13) nd rfl (by first | exact .inl rfl | exact .inr rfl))) (fun _ _ _ _ _ => mt_yes) (fun _ _ _ _ _ => (me_bn bn_mod (me_call ((d__law_next (w := w) (P := P) (base := base) c).mono (by decide)) hr tkW0 rfl (ma_cons (me_var 0) ma_nil)) me_int)))
      (ms_seq (ms_asg (i := 4) nd (me_bn (bn_add hK) me_int (me_bn bn_mod (me_call ((d__law_next (w := w) (P := P) (base := base) c).mono (by decide)) hr tk rfl (ma_cons (me_var 0) ma_nil)) me_int)))
      (ms_seq (mg_wip1 [1] (ms_asg (i := 5) nd (me_frz (ml_lc (own := [("_law_arm", 13)]) rfl nd (mi_range1 c.z_range rfl (ma_cons (me_var 1) ma_nil)) (blk_mk (by kernel_rfl)) (tg_name 13) (by decide) (fun _ _ _ _ _ => (pg_name (i := 13) nd rfl (by first | exact .inl rfl | exact .inr rfl))) (fun _ _ _ _ _ => mt_yes) (fun _ _ _ _ _ => (me_bt (bt_tuple hK) c.z_tuple (ma_cons (me_frz (ml_lc (own := [("_law_place", 14)]) rfl nd (mi_range1 c.z_range rfl (ma_cons (me_var 4) ma_nil)) (blk_mk (by kernel_rfl)) (tg_name 14) (by decide) (fun _ _ _ _ _ => (pg_name (i := 14) nd rfl (by first | exact .inl rfl | exact .inr rfl))) (fun _ _ _ _ _ => mt_yes) (fun _ _ _ _ _ => (me_bn bn_mod (me_call ((d__law_next (w := w) (P := P) (base := base) c).mono (by decide)) hr tkW0 rfl (ma_cons (me_var 0) ma_nil)) me_int)))) ma_nil)))))))
      (ms_seq (ms_asg (i := 6) nd (me_frz (ml_lst (ma_cons (me_frz (ml_bt (bt_list hK) c.z_list (ma_cons (me_var 3) ma_nil))) (ma_cons (me_frz (ml_bt (bt_list hK) c.z_list (ma_cons (me_var 5) ma_nil))) ma_nil)))))
      (ms_seq (ms_asg (i := 7) nd (me_call ((d_done (w := w) (P := P) (base := base) c).mono (by decide)) hr tk rfl (ma_cons (me_var 2) (ma_cons (me_ix hK (me_var 6) me_int) ma_nil))))
      (ms_seq (mg_wip1 [7] (ms_if (L2.PW.pt (mw_or (mt_val (me_isi hK ty_bool rfl c.z_isinstance boot_isi rfl c.z_bool boot_bool (me_var 7))) (mw_or (mt_cm (cm_ne hK hr) (me_var 7) (me_call ((d__law_tells (w := w) (P := P) (base := base) c).mono (by decide)) hr tk rfl (ma_cons (me_var 2) (ma_cons (me_var 3) ma_nil)))) (mw_or1 (mt_cm (cm_ne hK hr) (me_var 6) (me_frz (ml_lst (ma_cons (me_var 3) (ma_cons (me_var 5) ma_nil)))))))))
      (ms_one (ms_ret me_bl)) ms_nil))
      (ms_seq (ms_asg (i := 8) nd (me_call ((d_done_rows (w := w) (P := P) (base := base) c).mono (by decide)) hr tk rfl (ma_cons (me_var 2) (ma_cons (me_ix hK (me_var 6) me_int) ma_nil))))
      (ms_seq (mg_wip1 [3, 6] (ms_if (L2.PW.pt (mw_or (mt_not (mt_val (me_isi hK ty_tuple rfl c.z_isinstance boot_isi rfl c.z_tuple boot_tuple (me_var 8)))) (mw_or1 (mt_cm (cm_ne hK hr) (me_var 6) (me_frz (ml_lst (ma_cons (me_var 3) (ma_cons (me_var 5) ma_nil))))))))
      (ms_one (ms_ret me_bl)) ms_nil))
      (ms_seq (ms_if (mt_cm (cm_ne hK hr) (me_frz (ml_lc (own := [("_law_one", 15)]) rfl nd (mi_seq hK (me_var 8)) (blk_mk (by kernel_rfl)) (tg_name 15) (by decide) (fun _ _ _ _ _ => (pg_name (i := 15) nd rfl (by first | exact .inl rfl | exact .inr rfl))) (fun _ _ _ _ _ => (mt_one (mt_val (me_isi hK ty_bool rfl c.z_isinstance boot_isi rfl c.z_bool boot_bool (me_var 15))))) (fun _ _ _ _ _ => (me_var 15)))) (me_frz (ml_lst ma_nil)))
      (ms_one (ms_ret me_bl)) ms_nil)
      (ms_seq (mg_wip1 [2, 4, 5, 8] (ms_if (mt_cm (cm_ne hK hr) (me_var 8) (me_bt (bt_tuple hK) c.z_tuple (ma_cons (me_frz (ml_lc (own := [("_law_place", 14)]) rfl nd (mi_range1 c.z_range rfl (ma_cons (me_var 4) ma_nil)) (blk_mk (by kernel_rfl)) (tg_name 14) (by decide) (fun _ _ _ _ _ => (pg_name (i := 14) nd rfl (by first | exact .inl rfl | exact .inr rfl))) (fun _ _ _ _ _ => mt_yes) (fun _ _ _ _ _ => (me_call ((d__law_tells (w := w) (P := P) (base := base) c).mono (by decide)) hr tkW0 rfl (ma_cons (me_var 2) (ma_cons (me_frz (ml_lc (own := [("_law_one", 15)]) rfl nd (mi_seq hK (me_var 5)) (blk_mk (by kernel_rfl)) (tg_name 15) (by decide) (fun _ _ _ _ _ => (pg_name (i := 15) nd rfl (by first | exact .inl rfl | exact .inr rfl))) (fun _ _ _ _ _ => mt_yes) (fun _ _ _ _ _ => (me_ix hK (me_var 15) (me_var 14))))) ma_nil)))))) ma_nil)))
      (ms_one (ms_ret me_bl)) ms_nil))
      (ms_seq (ms_asg (i := 9) nd (me_bt (bt_tuple hK) c.z_tuple (ma_cons (me_frz (ml_lc (own := [("_law_place", 14)]) rfl nd (mi_range1 c.z_range rfl (ma_cons me_int ma_nil)) (blk_mk (by kernel_rfl)) (tg_name 14) (by decide) (fun _ _ _ _ _ => (pg_name (i := 14) nd rfl (by first | exact .inl rfl | exact .inr rfl))) (fun _ _ _ _ _ => mt_yes) (fun _ _ _ _ _ => (me_bn bn_mod (me_call ((d__law_next (w := w) (P := P) (base := base) c).mono (by decide)) hr tkW0 rfl (ma_cons (me_var 0) ma_nil)) me_int)))) ma_nil)))
      (ms_seq (ms_asg (i := 10) nd (me_call ((d__law_tree (w := w) (P := P) (base := base) c 12).mono (by decide)) hr tk rfl (ma_cons (me_var 0) (ma_cons me_int ma_nil))))
      (ms_seq (mg_wip1 [0] (ms_if (mt_cm (cm_eq hK hr) (me_bn bn_mod (me_call ((d__law_next (w := w) (P := P) (base := base) c).mono (by decide)) hr tk rfl (ma_cons (me_var 0) ma_nil)) me_int) me_int)
      (ms_one (mg_wip1 [0] (ms_asg (i := 10) nd (me_call ((d__law_long_tree (w := w) (P := P) (base := base) c).mono (by decide)) hr tk rfl (ma_cons (me_var 0) ma_nil))))) ms_nil))
      (ms_seq (ms_asg (i := 11) nd (me_bt (bt_tuple hK) c.z_tuple (ma_cons (me_frz (ml_lc (own := [("_law_at", 16)]) rfl nd (mi_range1 c.z_range rfl (ma_cons me_int ma_nil)) (blk_mk (by kernel_rfl)) (tg_name 16) (by decide) (fun _ _ _ _ _ => (pg_name (i := 16) nd rfl (by first | exact .inl rfl | exact .inr rfl))) (fun _ _ _ _ _ => mt_yes) (fun _ _ _ _ _ => (me_call ((d__law_put (w := w) (P := P) (base := base) c 12).mono (by decide)) hr tkW0 rfl (ma_cons (me_var 9) (ma_cons (me_var 10) (ma_cons (me_frz (ml_lst (ma_cons (me_bn bn_div (me_var 16) me_int) (ma_cons (me_bn bn_mod (me_bn bn_div (me_var 16) me_int) me_int) (ma_cons (me_bn bn_mod (me_var 16) me_int) ma_nil))))) ma_nil))))))) ma_nil)))
      (ms_seq (mg_wip1 [9, 10] (ms_asg (i := 12) nd (me_call ((d_put (w := w) (P := P) (base := base) c).mono (by decide)) hr tk rfl (ma_cons (me_var 9) (ma_cons (me_var 10) ma_nil)))))
      (ms_one (ms_ret (me_and (me_isi hK ty_tuple rfl c.z_isinstance boot_isi rfl c.z_tuple boot_tuple (me_var 12)) (me_and (me_cm (cm_eq hK hr) (me_var 12) (me_var 11)) (me_one (me_cm (cm_eq hK hr) (me_frz (ml_lc (own := [("_law_one", 15)]) rfl nd (mi_seq hK (me_var 12)) (blk_mk (by kernel_rfl)) (tg_name 15) (by decide) (fun _ _ _ _ _ => (pg_name (i := 15) nd rfl (by first | exact .inl rfl | exact .inr rfl))) (fun _ _ _ _ _ => (mt_one (mt_val (me_isi hK ty_bool rfl c.z_isinstance boot_isi rfl c.z_bool boot_bool (me_var 15))))) (fun _ _ _ _ _ => (me_var 15)))) (me_frz (ml_lst ma_nil)))))))))))))))))))))))))
theorem d__law_right (c : Cf K mg G) : Def P w K mg base G 17 "_law_right" F__law_right := def_of c.hK c.h__law_right sc__law_right (p__law_right c)
theorem p__law_draws__m (c : Cf K mg G) : BodyOk P w K mg base G "_law_draws" ["_law_cell"] s__law_draws 0 b__law_draws__m := by
  intro f cdv A outer s H E n0 hr tk hp
  have hK := c.hK
  have nd := sc__law_draws.nd
  exact (ms_seq (ms_if (mt_cm (cm_lt hK hr) (me_var 0) (me_bn bn_pow me_int me_int))
      (ms_one (ms_ret (me_new (ml_lst (ma_cons (me_var 0) (ma_cons me_int (ma_cons me_bl ma_nil))))))) ms_nil)
      (ms_one (ms_ret (me_new (ml_lst (ma_cons (me_bn bn_mod (me_var 0) (me_bn bn_pow (me_bn bn_pow (me_bn bn_pow me_int me_int) me_int) me_int)) (ma_cons me_int (ma_cons me_bl ma_nil))))))))
theorem d__law_draws__m (c : Cf K mg G) : Def P w K mg base G 1 "_law_draws" F__law_draws__m := def_of c.hK c.h__law_draws sc__law_draws (p__law_draws__m c)
theorem p_law (c : Cf K mg G) : BodyOk P w K mg base G "law" ["_law_script", "_law_cell"] s_law 17 b_law := by
  intro f cdv A outer s H E n0 hr tk hp
  have hK := c.hK
  have nd := sc_law.nd
  exact (ms_seq (mg_wip1 [0] (mi_for hp rfl (mi_seq hK (me_bn (bn_add hK) (me_sl hK (me_var 0) mp_none (mp_some me_int)) (me_frz (ml_lst (ma_cons me_int ma_nil))))) (pg_name (i := 1) nd rfl (by first | exact .inl rfl | exact .inr rfl)) (tg_name 1)
      (mg_reg [1] (ms_one (mg_wip1 [1] (ms_if (mt_not (mt_val (me_call ((d__law_right (w := w) (P := P) (base := base) c).mono (by decide)) hr tk rfl (ma_cons (me_call ((d__law_draws__m (w := w) (P := P) (base := base) c).mono (by decide)) hr tk rfl (ma_cons (me_var 1) ma_nil)) ma_nil))))
      (ms_one (ms_ret me_bl)) ms_nil))))))
      (ms_one (ms_ret me_bl)))
theorem d_law (c : Cf K mg G) : Def P w K mg base G 18 "law" F_law := def_of c.hK c.h_law sc_law (p_law c)
end
/-- the law holds, if its own function answers True -/
theorem cf_mk {K : PySem.W.Frag} {h : Heap} {mg : Str → Option Value} (X : K.In h) (Gh : h.Ns mainGlobals mg)
    {f0 : Addr} {od0 an0 : Option Addr} {sl0 : Array (Option Value)} {oc0 kV0 dc0 pm0 cd0 ct0 : Value}
    (a0 : PySem.W.nsIn K mainGlobals "place_of" = some (some (.ref f0))) (l0 : K.lookup f0 = some ⟨oc0, od0, .func (PySem.W.fnOf "place_of" "place_of" (defArgs s_place_of) (defBody s_place_of) (defScope s_place_of) .none kV0 dc0 pm0 an0 cd0 ct0), sl0⟩) (c0 : PySem.W.codeIn K cd0 "place_of" = true) (k0 : PySem.W.keepIn K (.ref f0) = true)
    {f1 : Addr} {od1 an1 : Option Addr} {sl1 : Array (Option Value)} {oc1 kV1 dc1 pm1 cd1 ct1 : Value}
    (a1 : PySem.W.nsIn K mainGlobals "done" = some (some (.ref f1))) (l1 : K.lookup f1 = some ⟨oc1, od1, .func (PySem.W.fnOf "done" "done" (defArgs s_done) (defBody s_done) (defScope s_done) .none kV1 dc1 pm1 an1 cd1 ct1), sl1⟩) (c1 : PySem.W.codeIn K cd1 "done" = true) (k1 : PySem.W.keepIn K (.ref f1) = true)
    {f2 : Addr} {od2 an2 : Option Addr} {sl2 : Array (Option Value)} {oc2 kV2 dc2 pm2 cd2 ct2 : Value}
    (a2 : PySem.W.nsIn K mainGlobals "done_rows" = some (some (.ref f2))) (l2 : K.lookup f2 = some ⟨oc2, od2, .func (PySem.W.fnOf "done_rows" "done_rows" (defArgs s_done_rows) (defBody s_done_rows) (defScope s_done_rows) .none kV2 dc2 pm2 an2 cd2 ct2), sl2⟩) (c2 : PySem.W.codeIn K cd2 "done_rows" = true) (k2 : PySem.W.keepIn K (.ref f2) = true)
    {f3 : Addr} {od3 an3 : Option Addr} {sl3 : Array (Option Value)} {oc3 kV3 dc3 pm3 cd3 ct3 : Value}
    (a3 : PySem.W.nsIn K mainGlobals "_law_next" = some (some (.ref f3))) (l3 : K.lookup f3 = some ⟨oc3, od3, .func (PySem.W.fnOf "_law_next" "_law_next" (defArgs s__law_next) (defBody s__law_next) (defScope s__law_next) .none kV3 dc3 pm3 an3 cd3 ct3), sl3⟩) (c3 : PySem.W.codeIn K cd3 "_law_next" = true) (k3 : PySem.W.keepIn K (.ref f3) = true)
    {f4 : Addr} {od4 an4 : Option Addr} {sl4 : Array (Option Value)} {oc4 kV4 dc4 pm4 cd4 ct4 : Value}
    (a4 : PySem.W.nsIn K mainGlobals "_law_tree" = some (some (.ref f4))) (l4 : K.lookup f4 = some ⟨oc4, od4, .func (PySem.W.fnOf "_law_tree" "_law_tree" (defArgs s__law_tree) (defBody s__law_tree) (defScope s__law_tree) .none kV4 dc4 pm4 an4 cd4 ct4), sl4⟩) (c4 : PySem.W.codeIn K cd4 "_law_tree" = true) (k4 : PySem.W.keepIn K (.ref f4) = true)
    {f5 : Addr} {od5 an5 : Option Addr} {sl5 : Array (Option Value)} {oc5 kV5 dc5 pm5 cd5 ct5 : Value}
    (a5 : PySem.W.nsIn K mainGlobals "tells" = some (some (.ref f5))) (l5 : K.lookup f5 = some ⟨oc5, od5, .func (PySem.W.fnOf "tells" "tells" (defArgs s_tells) (defBody s_tells) (defScope s_tells) .none kV5 dc5 pm5 an5 cd5 ct5), sl5⟩) (c5 : PySem.W.codeIn K cd5 "tells" = true) (k5 : PySem.W.keepIn K (.ref f5) = true)
    {f6 : Addr} {od6 an6 : Option Addr} {sl6 : Array (Option Value)} {oc6 kV6 dc6 pm6 cd6 ct6 : Value}
    (a6 : PySem.W.nsIn K mainGlobals "put" = some (some (.ref f6))) (l6 : K.lookup f6 = some ⟨oc6, od6, .func (PySem.W.fnOf "put" "put" (defArgs s_put) (defBody s_put) (defScope s_put) .none kV6 dc6 pm6 an6 cd6 ct6), sl6⟩) (c6 : PySem.W.codeIn K cd6 "put" = true) (k6 : PySem.W.keepIn K (.ref f6) = true)
    {f7 : Addr} {od7 an7 : Option Addr} {sl7 : Array (Option Value)} {oc7 kV7 dc7 pm7 cd7 ct7 : Value}
    (a7 : PySem.W.nsIn K mainGlobals "_law_long_tree" = some (some (.ref f7))) (l7 : K.lookup f7 = some ⟨oc7, od7, .func (PySem.W.fnOf "_law_long_tree" "_law_long_tree" (defArgs s__law_long_tree) (defBody s__law_long_tree) (defScope s__law_long_tree) .none kV7 dc7 pm7 an7 cd7 ct7), sl7⟩) (c7 : PySem.W.codeIn K cd7 "_law_long_tree" = true) (k7 : PySem.W.keepIn K (.ref f7) = true)
    {f8 : Addr} {od8 an8 : Option Addr} {sl8 : Array (Option Value)} {oc8 kV8 dc8 pm8 cd8 ct8 : Value}
    (a8 : PySem.W.nsIn K mainGlobals "_law_tells" = some (some (.ref f8))) (l8 : K.lookup f8 = some ⟨oc8, od8, .func (PySem.W.fnOf "_law_tells" "_law_tells" (defArgs s__law_tells) (defBody s__law_tells) (defScope s__law_tells) .none kV8 dc8 pm8 an8 cd8 ct8), sl8⟩) (c8 : PySem.W.codeIn K cd8 "_law_tells" = true) (k8 : PySem.W.keepIn K (.ref f8) = true)
    {f9 : Addr} {od9 an9 : Option Addr} {sl9 : Array (Option Value)} {oc9 kV9 dc9 pm9 cd9 ct9 : Value}
    (a9 : PySem.W.nsIn K mainGlobals "_law_put" = some (some (.ref f9))) (l9 : K.lookup f9 = some ⟨oc9, od9, .func (PySem.W.fnOf "_law_put" "_law_put" (defArgs s__law_put) (defBody s__law_put) (defScope s__law_put) .none kV9 dc9 pm9 an9 cd9 ct9), sl9⟩) (c9 : PySem.W.codeIn K cd9 "_law_put" = true) (k9 : PySem.W.keepIn K (.ref f9) = true)
    {f10 : Addr} {od10 an10 : Option Addr} {sl10 : Array (Option Value)} {oc10 kV10 dc10 pm10 cd10 ct10 : Value}
    (a10 : PySem.W.nsIn K mainGlobals "_law_right" = some (some (.ref f10))) (l10 : K.lookup f10 = some ⟨oc10, od10, .func (PySem.W.fnOf "_law_right" "_law_right" (defArgs s__law_right) (defBody s__law_right) (defScope s__law_right) .none kV10 dc10 pm10 an10 cd10 ct10), sl10⟩) (c10 : PySem.W.codeIn K cd10 "_law_right" = true) (k10 : PySem.W.keepIn K (.ref f10) = true)
    {f11 : Addr} {od11 an11 : Option Addr} {sl11 : Array (Option Value)} {oc11 kV11 dc11 pm11 cd11 ct11 : Value}
    (a11 : PySem.W.nsIn K mainGlobals "_law_draws" = some (some (.ref f11))) (l11 : K.lookup f11 = some ⟨oc11, od11, .func (PySem.W.fnOf "_law_draws" "_law_draws" (defArgs s__law_draws) (defBody s__law_draws) (defScope s__law_draws) .none kV11 dc11 pm11 an11 cd11 ct11), sl11⟩) (c11 : PySem.W.codeIn K cd11 "_law_draws" = true) (k11 : PySem.W.keepIn K (.ref f11) = true)
    {f12 : Addr} {od12 an12 : Option Addr} {sl12 : Array (Option Value)} {oc12 kV12 dc12 pm12 cd12 ct12 : Value}
    (a12 : PySem.W.nsIn K mainGlobals "law" = some (some (.ref f12))) (l12 : K.lookup f12 = some ⟨oc12, od12, .func (PySem.W.fnOf "law" "law" (defArgs s_law) (defBody s_law) (defScope s_law) .none kV12 dc12 pm12 an12 cd12 ct12), sl12⟩) (c12 : PySem.W.codeIn K cd12 "law" = true) (k12 : PySem.W.keepIn K (.ref f12) = true)
    (z0 : PySem.W.nsIn K mainGlobals "bool" = some none)
    (z1 : PySem.W.nsIn K mainGlobals "int" = some none)
    (z2 : PySem.W.nsIn K mainGlobals "isinstance" = some none)
    (z3 : PySem.W.nsIn K mainGlobals "len" = some none)
    (z4 : PySem.W.nsIn K mainGlobals "list" = some none)
    (z5 : PySem.W.nsIn K mainGlobals "range" = some none)
    (z6 : PySem.W.nsIn K mainGlobals "tuple" = some none) :
    Cf K mg ⟨K, fun _ => 0⟩ where
    hK := rfl
    h_place_of := has_mk X Gh a0 l0 c0 k0 fun _ _ _ _ _ _ us hl => match us, hl with | [_], _ => rfl
    h_done := has_mk X Gh a1 l1 c1 k1 fun _ _ _ _ _ _ us hl => match us, hl with | [_, _], _ => rfl
    h_done_rows := has_mk X Gh a2 l2 c2 k2 fun _ _ _ _ _ _ us hl => match us, hl with | [_, _], _ => rfl
    h__law_next := has_mk X Gh a3 l3 c3 k3 fun _ _ _ _ _ _ us hl => match us, hl with | [_], _ => rfl
    h__law_tree := has_mk X Gh a4 l4 c4 k4 fun _ _ _ _ _ _ us hl => match us, hl with | [_, _], _ => rfl
    h_tells := has_mk X Gh a5 l5 c5 k5 fun _ _ _ _ _ _ us hl => match us, hl with | [_, _, _], _ => rfl
    h_put := has_mk X Gh a6 l6 c6 k6 fun _ _ _ _ _ _ us hl => match us, hl with | [_, _], _ => rfl
    h__law_long_tree := has_mk X Gh a7 l7 c7 k7 fun _ _ _ _ _ _ us hl => match us, hl with | [_], _ => rfl
    h__law_tells := has_mk X Gh a8 l8 c8 k8 fun _ _ _ _ _ _ us hl => match us, hl with | [_, _], _ => rfl
    h__law_put := has_mk X Gh a9 l9 c9 k9 fun _ _ _ _ _ _ us hl => match us, hl with | [_, _, _], _ => rfl
    h__law_right := has_mk X Gh a10 l10 c10 k10 fun _ _ _ _ _ _ us hl => match us, hl with | [_], _ => rfl
    h__law_draws := has_mk X Gh a11 l11 c11 k11 fun _ _ _ _ _ _ us hl => match us, hl with | [_], _ => rfl
    h_law := has_mk X Gh a12 l12 c12 k12 fun _ _ _ _ _ _ us hl => match us, hl with | [_], _ => rfl
    z_bool := PySem.W.mg_none_of X Gh z0
    z_int := PySem.W.mg_none_of X Gh z1
    z_isinstance := PySem.W.mg_none_of X Gh z2
    z_len := PySem.W.mg_none_of X Gh z3
    z_list := PySem.W.mg_none_of X Gh z4
    z_range := PySem.W.mg_none_of X Gh z5
    z_tuple := PySem.W.mg_none_of X Gh z6
end K12

namespace K12
open MP
open L2 (atI ixN atI_nat)
/-! ### the law's own reckoning -/
def placeF (p x : Int) : Int := 2 * p + x
def placeN (ns : List Int) : Int := ns.foldl placeF 0
def Bits (ns : List Int) : Prop := ∀ x ∈ ns, x = 0 ∨ x = 1
theorem place_ok {v : Vl} {ns : List Int} {S : Store} (h : itemsD v = some (il ns)) : F_place_of [v] S = .ok (.d (.int (placeN ns))) S := by
  have key : ∀ (l : List Int) (p : Int), loopL (tgN 2) (wipS [2] (wipS [2] (asg 1 (bin oAdd (bin oMul (cst (.int 2)) (var 1)) (var 2))))) S.L.length (il l) [some v, some (.d (.int p)), none] S = .next [some v, some (.d (.int (l.foldl placeF p))), none] S := by
    intro l
    induction l with
    | nil => intro p; rfl
    | cons x l ih =>
      intro p
      unfold il
      rw [List.map_cons]
      unfold loopL
      have m : mulOk 2 p = true := mulOk_l (by omega)
      simp [tgN, wipS, asg, bin, cst, var, oMul_i m, oAdd_i, wipeE]
      exact ih (2 * p + x)
  unfold F_place_of
  refine fnF_d rfl ?_ (Nat.le_refl _)
  unfold b_place_of
  simp [seqS, asg, cst, wipS, forS, seqI, var, h, Res.bind]
  rw [key]
  simp [SR.seq, wipeE, ret, var]
  rfl
theorem done_ok {bs ns : List Int} {v : Vl} {S : Store} {x : Int} (h : itemsD v = some (il ns)) (hx : atI (il bs) (placeN ns) = some (.int x)) : F_done [.d (.tup (il bs)), v] S = .ok (.d (.int x)) S := by
  unfold F_done
  refine fnF_d rfl ?_ (Nat.le_refl _)
  unfold b_done
  simp [ret, bin, var, callE, consA, nilA, place_ok h, oIx, seqV, hx]
/-- halving -/
def half : List Int → List Int → List Int
  | lot, [] => lot
  | lot, b :: ns => half (if b = 0 then lot.take (lot.length / 2) else lot.drop (lot.length / 2)) ns
theorem place_acc (ns : List Int) : ∀ p : Int, ns.foldl placeF p = p * 2 ^ ns.length + placeN ns := by
  unfold placeN
  induction ns with
  | nil => intro p; simp
  | cons x ns ih =>
    intro p
    rw [List.foldl_cons, List.foldl_cons, ih (placeF p x), ih (placeF 0 x), List.length_cons, Int.pow_succ]
    unfold placeF
    rw [Int.add_mul, Int.add_mul]
    have : 2 * p * 2 ^ ns.length = p * (2 ^ ns.length * 2) := by rw [Int.mul_comm 2 p, Int.mul_assoc, Int.mul_comm 2]
    omega
theorem place_cons (x : Int) (ns : List Int) : placeN (x :: ns) = x * 2 ^ ns.length + placeN ns := by
  have := place_acc ns (placeF 0 x)
  unfold placeN at this ⊢
  rw [List.foldl_cons, this]
  unfold placeF
  rw [show (2 : Int) * 0 + x = x by omega]
theorem place_rng {ns : List Int} (h : Bits ns) : 0 ≤ placeN ns ∧ placeN ns < 2 ^ ns.length := by
  induction ns with
  | nil => exact ⟨by decide, by decide⟩
  | cons x ns ih =>
    obtain ⟨h1, h2⟩ := ih fun y hy => h y (List.mem_cons_of_mem _ hy)
    rw [place_cons, List.length_cons, Int.pow_succ]
    rcases h x (List.mem_cons_self ..) with rfl | rfl
    · omega
    · omega
theorem half_ok : ∀ (ns lot : List Int), Bits ns → lot.length = 2 ^ ns.length → ∃ x, half lot ns = [x] ∧ lot[(placeN ns).toNat]? = some x
  | [], lot, _, hl => by
    match lot, hl with
    | [x], _ => exact ⟨x, rfl, rfl⟩
  | b :: ns, lot, hb, hl => by
    have hb' : Bits ns := fun y hy => hb y (List.mem_cons_of_mem _ hy)
    obtain ⟨p1, p2⟩ := place_rng hb'
    rw [List.length_cons, Nat.pow_succ] at hl
    have hh : lot.length / 2 = 2 ^ ns.length := by omega
    have e2 : ((2 : Int) ^ ns.length) = ((2 ^ ns.length : Nat) : Int) := by simp
    rcases hb b (List.mem_cons_self ..) with rfl | rfl
    · obtain ⟨x, h1, h2⟩ := half_ok ns (lot.take (lot.length / 2)) hb' (by rw [List.length_take]; omega)
      refine ⟨x, by unfold half; simpa using h1, ?_⟩
      rw [place_cons, Int.zero_mul, Int.zero_add]
      rw [List.getElem?_take_of_lt (by omega)] at h2
      exact h2
    · obtain ⟨x, h1, h2⟩ := half_ok ns (lot.drop (lot.length / 2)) hb' (by rw [List.length_drop]; omega)
      refine ⟨x, by unfold half; simpa using h1, ?_⟩
      rw [List.getElem?_drop] at h2
      rw [place_cons, Int.one_mul, ← h2]
      congr 1
      omega
theorem atI_il {bs : List Int} {p x : Int} (h0 : 0 ≤ p) (h : bs[p.toNat]? = some x) : atI (il bs) p = some (.int x) := by
  have : atI (il bs) ((p.toNat : Nat) : Int) = some (.int x) := atI_nat (by unfold il; rw [List.getElem?_map, h]; rfl)
  rwa [Int.toNat_of_nonneg h0] at this
theorem cut_lo {α : Type} (xs : List α) (k : Nat) (h : k ≤ xs.length) : cutD xs none (some (k : Int)) = xs.take k := by
  unfold cutD
  rw [HT.sIx_nat, HT.sIx_none, List.drop_zero, Nat.sub_zero, Nat.min_eq_left h]
theorem cut_hi {α : Type} (xs : List α) (k : Nat) (h : k ≤ xs.length) : cutD xs (some (k : Int)) none = xs.drop k := by
  unfold cutD
  rw [HT.sIx_nat, HT.sIx_none, Nat.min_eq_left h, List.take_of_length_le (by rw [List.length_drop]; omega)]
theorem ltells_ok {bs ns : List Int} {v : Vl} {S : Store} (h : itemsD v = some (il ns)) (hb : Bits ns) (hl : bs.length = 2 ^ ns.length) : ∃ x, F__law_tells [.d (.tup (il bs)), v] S = .ok (.d (.int x)) S ∧ atI (il bs) (placeN ns) = some (.int x) ∧ x ∈ bs := by
  have key : ∀ (l lot : List Int), Bits l → loopL (tgN 3) (wipS [3, 4] (seqS (asg 4 (bin oDiv (cal bLen (consA (var 2) nilA)) (cst (.int 2))))
      (wipS [3, 4] (asg 2 (bin oIx (frz (lstE (consA (slE (var 2) paN (paI (var 4))) (consA (slE (var 2) (paI (var 4)) paN) nilA)))) (var 3)))))) S.L.length (il l) [none, some v, some (.d (.lst (il lot))), none, none] S = .next [none, some v, some (.d (.lst (il (half lot l)))), none, none] S := by
    intro l
    induction l with
    | nil => intro lot _; rfl
    | cons b l ih =>
      intro lot hb
      unfold il
      rw [List.map_cons]
      unfold loopL
      have e2 : ((lot.length : Int) / 2) = ((lot.length / 2 : Nat) : Int) := by omega
      have hd : ∀ S, oDiv (.d (.int (lot.map D.int).length)) (.d (.int 2)) S = .ok (.d (.int ((lot.length : Int) / 2))) S := fun S => by rw [oDiv_i (by decide) (by decide), List.length_map]
      have c1 : cutD (lot.map D.int) none (some ((lot.length : Int) / 2)) = (lot.take (lot.length / 2)).map D.int := by rw [e2, cut_lo _ _ (by rw [List.length_map]; omega), List.map_take]
      have c2 : cutD (lot.map D.int) (some ((lot.length : Int) / 2)) none = (lot.drop (lot.length / 2)).map D.int := by rw [e2, cut_hi _ _ (by rw [List.length_map]; omega), List.map_drop]
      have a0 : ∀ x y : D, atI [x, y] 0 = some x := fun _ _ => rfl
      have a1 : ∀ x y : D, atI [x, y] 1 = some y := fun _ _ => rfl
      have i1 := ih (if b = 0 then lot.take (lot.length / 2) else lot.drop (lot.length / 2)) (fun y hy => hb y (List.mem_cons_of_mem _ hy))
      have st : (wipS [3, 4] (seqS (asg 4 (bin oDiv (cal bLen (consA (var 2) nilA)) (cst (.int 2))))
      (wipS [3, 4] (asg 2 (bin oIx (frz (lstE (consA (slE (var 2) paN (paI (var 4))) (consA (slE (var 2) (paI (var 4)) paN) nilA)))) (var 3)))))) S.L.length [none, some v, some (.d (.lst (lot.map D.int))), some (.d (.int b)), none] S = .next [none, some v, some (.d (.lst (il (if b = 0 then lot.take (lot.length / 2) else lot.drop (lot.length / 2))))), none, none] S := by
        have bl : bLen [.d (.lst (lot.map D.int))] S = .ok (.d (.int (lot.map D.int).length)) S := rfl
        rcases hb b (List.mem_cons_self ..) with rfl | rfl
        · simp [wipS, seqS, asg, bin, cal, consA, nilA, var, cst, bl, hd, slE, paN, paI, slV, seqL, c1, c2, frz, lstE, allD, wipeE, oIx, seqV, a0, a1, il, -List.length_map]
        · simp [wipS, seqS, asg, bin, cal, consA, nilA, var, cst, bl, hd, slE, paN, paI, slV, seqL, c1, c2, frz, lstE, allD, wipeE, oIx, seqV, a0, a1, il, -List.length_map]
      show (match (wipS [3, 4] _) S.L.length [none, some v, some (.d (.lst (lot.map D.int))), some (.d (.int b)), none] S with | .next η2 S2 => _ | .cont η2 S2 => _ | .brk η2 S2 => _ | r => r) = _
      rw [st]
      exact i1
  obtain ⟨x, h1, h2⟩ := half_ok ns bs hb hl
  refine ⟨x, ?_, atI_il (place_rng hb).1 h2, List.mem_of_getElem? h2⟩
  unfold F__law_tells
  refine fnF_d rfl ?_ (Nat.le_refl _)
  unfold b__law_tells
  simp [seqS, asg, wipS, frz, calL, consA, nilA, var, bList, seqV, wipeE, forS, seqI, h]
  rw [key _ _ hb, h1]
  simp [wipeE, ret, bin, var, cst, oIx, seqV, seqL, il]
  rfl
/-! ### trees -/
def TreeOk : Nat → D → Prop
  | 0, _ => False
  | n + 1, d => (∃ i : Nat, i < 3 ∧ d = .int i) ∨ ∃ a b c, d = .tup [a, b, c] ∧ TreeOk n a ∧ TreeOk n b ∧ TreeOk n c
theorem TreeOk.up : ∀ {n : Nat} {d : D}, TreeOk n d → TreeOk (n + 1) d
  | 0, _, h => h.elim
  | n + 1, _, .inl h => .inl h
  | n + 1, _, .inr ⟨a, b, c, e, h1, h2, h3⟩ => .inr ⟨a, b, c, e, h1.up, h2.up, h3.up⟩
theorem TreeOk.mono {n m : Nat} {d : D} (h : TreeOk n d) (hm : n ≤ m) : TreeOk m d := by
  induction hm with
  | refl => exact h
  | step _ ih => exact ih.up
theorem tells_ok {bs ns : List Int} (hbs : Bits bs) (hns : Bits ns) (hl : bs.length = 8) (hn : ns.length = 3) : ∀ (n : Nat) (d : D), TreeOk n d → ∃ x, (x = 0 ∨ x = 1) ∧ ∀ S : Store,
    F_tells n [.d (.tup (il bs)), .d d, .d (.tup (il ns))] S = .ok (.d (.int x)) S ∧ F__law_put n [.d (.tup (il bs)), .d d, .d (.lst (il ns))] S = .ok (.d (.int x)) S
  | 0, _, h => h.elim
  | n + 1, _, .inl ⟨i, hi, e⟩ => by
    subst e
    have hg : ns[i]? = some ns[i] := List.getElem?_eq_getElem (by omega)
    have ha : atI (il ns) (i : Int) = some (.int ns[i]) := atI_nat (by unfold il; rw [List.getElem?_map, hg]; rfl)
    refine ⟨ns[i], hns _ (List.getElem_mem _), fun S => ⟨?_, ?_⟩⟩
    · refine fnF_d rfl ?_ (Nat.le_refl _)
      unfold b_tells
      simp [seqS, ifS, asB, una, var, isD, tyN, ret, bin, oIx, seqV, ha]
    · refine fnF_d rfl ?_ (Nat.le_refl _)
      unfold b__law_put
      simp [seqS, ifS, asB, una, var, isD, tyN, ret, bin, oIx, seqV, seqL, ha]
  | n + 1, _, .inr ⟨a, b, c, e, h1, h2, h3⟩ => by
    subst e
    obtain ⟨x, hx, ex⟩ := tells_ok hbs hns hl hn n a h1
    obtain ⟨y, hy, ey⟩ := tells_ok hbs hns hl hn n b h2
    obtain ⟨z, hz, ez⟩ := tells_ok hbs hns hl hn n c h3
    have hb : Bits [x, y, z] := by
      intro w hw
      simp at hw
      rcases hw with rfl | rfl | rfl
      · exact hx
      · exact hy
      · exact hz
    obtain ⟨v, _, hv, hm⟩ := ltells_ok (v := .d (.lst (il [x, y, z]))) (S := ⟨[]⟩) (bs := bs) rfl hb (by rw [hl]; rfl)
    refine ⟨v, hbs v hm, fun S => ⟨?_, ?_⟩⟩
    · refine fnF_d rfl ?_ (Nat.le_refl _)
      unfold b_tells
      have hc : lcL (tgN 3) (seqI (var 1)) yesT (callE (F_tells n) (consA (var 0) (consA (var 3) (consA (var 2) nilA)))) [3] [some (.d (.tup (il bs))), some (.d (.tup [a, b, c])), some (.d (.tup (il ns))), none] S = .ok (il [x, y, z]) S := by
        unfold lcL seqI var itemsD
        simp [loopC, tgN, yesT, wipeE, callE, consA, nilA, var, (ex S).1, (ey S).1, (ez S).1]
        rfl
      have hd := done_ok (v := .d (.lst (il [x, y, z]))) (S := S) rfl hv
      simp [seqS, ifS, asB, una, var, isD, tyN, ret, callE, consA, nilA, nextS, frz, hd]
      rw [hc]
      simp [hd]
    · obtain ⟨v', e1, hv', _⟩ := ltells_ok (v := .d (.lst (il [x, y, z]))) (S := S) (bs := bs) rfl hb (by rw [hl]; rfl)
      rw [hv] at hv'
      cases hv'
      refine fnF_d rfl ?_ (Nat.le_refl _)
      unfold b__law_put
      have hc : lcL (tgN 3) (seqI (var 1)) yesT (callE (F__law_put n) (consA (var 0) (consA (var 3) (consA (var 2) nilA)))) [3] [some (.d (.tup (il bs))), some (.d (.tup [a, b, c])), some (.d (.lst (il ns))), none] S = .ok (il [x, y, z]) S := by
        unfold lcL seqI var itemsD
        simp [loopC, tgN, yesT, wipeE, callE, consA, nilA, var, (ex S).2, (ey S).2, (ez S).2]
        rfl
      simp [seqS, ifS, asB, una, var, isD, tyN, ret, callE, consA, nilA, nextS, frz]
      rw [hc]
      simp [e1]
theorem nextE : F__law_next = nextF := rfl
theorem drawsE : F__law_draws__m = drawsF := rfl
theorem tree_ok {r : List (Option (List D))} : ∀ (n k m : Nat) (S : Store), k < n → m + 4 ^ (k + 1) < 1000000000000000000 → Dr m r S → ∃ d S', F__law_tree n [.p 0, .d (.int k)] S = .ok (.d d) S' ∧ TreeOk (k + 1) d ∧ Dr (m + 4 ^ (k + 1)) r S'
  | 0, k, m, S, hk, _, _ => by omega
  | n + 1, k, m, S, hk, hm, h => by
    have hp : 1 ≤ 4 ^ k := Nat.one_le_pow _ _ (by decide)
    rw [Nat.pow_succ] at hm
    have lenS : ∀ {j : Nat} {S' : Store}, Dr j r S' → S'.L.length ≤ S.L.length := fun {j S'} h' => by
      obtain ⟨_, _, _, rfl, _⟩ := h
      obtain ⟨_, _, _, rfl, _⟩ := h'
      exact Nat.le_refl _
    obtain ⟨x, S1, e1, hx, h1⟩ := next_ok (by omega) h
    show ∃ d S', fnF 2 3 .frz (b__law_tree (F__law_tree n)) _ S = _ ∧ _
    refine fnF_ex (Q := fun d S' => TreeOk (k + 1) d ∧ Dr (m + 4 ^ (k + 1)) r S') rfl ?_
    unfold b__law_tree
    refine run_asg (v := .d (.int x)) (S1 := S1) (by simp [callE, consA, nilA, var, nextE, e1]) ?_
    have c4 : ∀ (a b : Int) (S : Store), oEq false (.d (.int a)) (.d (.int b)) S = .ok (.d (.bl (a == b))) S := fun a b S => by simp [oEq, rd, okD, eqvD]
    have t1 : orT (asB (bin (oEq false) (var 1) (cst (.int 0)))) (asB (bin (oEq false) (bin oMod (var 2) (cst (.int 4))) (cst (.int 0)))) [some (.p 0), some (.d (.int k)), some (.d (.int x))] S1 = .ok (((k : Int) == 0) || (x % 4 == 0)) S1 := by
      cases q : ((k : Int) == 0) <;> simp [orT, asB, bin, var, cst, c4, oMod_i, q]
    by_cases hq : (((k : Int) == 0) || (x % 4 == 0)) = true
    · rw [hq] at t1
      refine run_wyes t1 (run_ret (v := .d (.int (x / 4 % 3))) (S1 := S1) (by simp [bin, var, cst, oDiv_i, oMod_i]) ⟨_, rfl, lenS h1, .inl ⟨(x / 4 % 3).toNat, by omega, by congr 1; omega⟩, h1.mono (by rw [Nat.pow_succ]; omega)⟩)
    · have hq' : (((k : Int) == 0) || (x % 4 == 0)) = false := by cases z : (((k : Int) == 0) || (x % 4 == 0)) <;> simp_all
      rw [hq'] at t1
      refine run_wno t1 ?_
      obtain ⟨k', rfl⟩ : ∃ k', k = k' + 1 := ⟨k - 1, by
        have : ((k : Int) == 0) = false := by cases z : ((k : Int) == 0) <;> simp_all
        have : ¬ (k : Int) = 0 := by simpa using this
        omega⟩
      rw [Nat.pow_succ] at hm hp
      have hs : ((k' + 1 : Nat) : Int) - 1 = (k' : Int) := by omega
      obtain ⟨a, S2, e2, ha, h2⟩ := tree_ok n k' (m + 1) S1 (by omega) (by rw [Nat.pow_succ]; omega) h1
      obtain ⟨b, S3, e3, hb, h3⟩ := tree_ok n k' _ S2 (by omega) (by rw [Nat.pow_succ]; omega) h2
      obtain ⟨c, S4, e4, hc, h4⟩ := tree_ok n k' _ S3 (by omega) (by rw [Nat.pow_succ]; omega) h3
      refine run_ret (v := .d (.tup [a, b, c])) (S1 := S4) ?_ ⟨_, rfl, lenS h4, .inr ⟨a, b, c, rfl, ha, hb, hc⟩, h4.mono (by rw [Nat.pow_succ, Nat.pow_succ]; omega)⟩
      simp [wipeE, tupE, consA, nilA, callE, var, bin, cst, oSub_i, e2, e3, e4, allD]
theorem long_ok {m : Nat} {S : Store} (hm : m + 100 < 1000000000000000000) (h : Dr m [] S) : ∃ d S', F__law_long_tree [.p 0] S = .ok (.d d) S' ∧ TreeOk 9 d ∧ Dr (m + 9) [] S' := by
  have lenS : ∀ {j j' : Nat} {S S' : Store}, Dr j [] S → Dr j' [] S' → S'.L.length ≤ S.L.length := fun {j j' S S'} h h' => by
    obtain ⟨_, _, _, rfl, _⟩ := h
    obtain ⟨_, _, _, rfl, _⟩ := h'
    exact Nat.le_refl _
  show ∃ d S', fnF 1 5 .frz b__law_long_tree _ S = _ ∧ _
  refine fnF_ex (Q := fun d S' => TreeOk 9 d ∧ Dr (m + 9) [] S') rfl ?_
  unfold b__law_long_tree
  obtain ⟨x, S1, e1, hx, h1⟩ := drawMod (m := 3) (η := [some (.p 0), none, none, none, none]) rfl (by omega) (by decide) h
  refine run_asg (v := .d (.int x)) (S1 := S1) e1 ?_
  obtain ⟨η', S2, e2, d, rfl, hd, h2⟩ := loopL_inv (t := tgN 2) (n := S.L.length) (b := (regS [2, 3, 4] (seqS (wipS [2] (asg 3 (callE F__law_next (consA (var 0) nilA))))
      (seqS (asg 4 (new (lstE (consA (bin oMod (bin oDiv (var 3) (cst (.int 3))) (cst (.int 3))) (consA (bin oMod (bin oDiv (var 3) (cst (.int 9))) (cst (.int 3))) (consA (bin oMod (bin oDiv (var 3) (cst (.int 27))) (cst (.int 3))) nilA))))))
      (seqS (wipS [1, 3] (setI (var 1) (var 4) (bin oMod (var 3) (cst (.int 3)))))
      (wipS [4] (asg 1 (cal bTuple (consA (var 4) nilA)))))))))
    (I := fun j η S => ∃ d, η = [some (.p 0), some (.d d), none, none, none] ∧ TreeOk (j + 1) d ∧ Dr (m + 1 + j) [] S) (rangeD 0 8) 0 [some (.p 0), some (.d (.int x)), none, none, none] S1
    ⟨_, rfl, .inl ⟨x.toNat, by omega, by congr 1; omega⟩, h1⟩ fun j d' η S hj ⟨d, eη, hd, hS⟩ => by
      subst eη
      obtain ⟨hj8, rfl⟩ := rangeD_get hj
      rw [Nat.zero_add] at hd hS
      obtain ⟨y, S1, e1, hy, h1⟩ := next_ok (by omega) hS
      have e1' : F__law_next [.p 0] S = .ok (.d (.int y)) S1 := e1
      have hS0 := hS
      obtain ⟨_, _, _, rfl, _⟩ := hS0
      obtain ⟨a, k, b, rfl, hk⟩ := id h1
      have hi : ∀ (c : Int), ∃ i : Nat, i < 3 ∧ D.int (c % 3) = .int i := fun c => ⟨(c % 3).toNat, by omega, by congr 1; omega⟩
      have ht : ∀ (c : Int), TreeOk (j + 1) (.int (c % 3)) := fun c => .inl (hi c)
      have h3 : y % 3 = 0 ∨ y % 3 = 1 ∨ y % 3 = 2 := by omega
      refine ⟨[some (.p 0), some (.d d), some (.d (.int j)), none, none], [some (.p 0), some (.d (.tup ([D.int (y / 3 % 3), .int (y / 9 % 3), .int (y / 27 % 3)].set (y % 3).toNat d))), none, none, none], _, rfl, ?_, ⟨_, rfl, ?_, h1.mono (show _ ≤ _ by omega)⟩⟩
      · rcases h3 with h3 | h3 | h3
        · have i3 : ixN 3 0 = some 0 := rfl
          simp [regS, seqS, wipS, asg, callE, consA, nilA, var, e1', new, lstE, bin, cst, oDiv_i, oMod_i, allD, setI, setV, h3, i3, wipeE, cal, bTuple, seqL, frEn, frV]
        · have i3 : ixN 3 1 = some 1 := rfl
          simp [regS, seqS, wipS, asg, callE, consA, nilA, var, e1', new, lstE, bin, cst, oDiv_i, oMod_i, allD, setI, setV, h3, i3, wipeE, cal, bTuple, seqL, frEn, frV]
        · have i3 : ixN 3 2 = some 2 := rfl
          simp [regS, seqS, wipS, asg, callE, consA, nilA, var, e1', new, lstE, bin, cst, oDiv_i, oMod_i, allD, setI, setV, h3, i3, wipeE, cal, bTuple, seqL, frEn, frV]
      · rw [Nat.zero_add]
        rcases h3 with h3 | h3 | h3 <;> rw [h3]
        · exact .inr ⟨_, _, _, rfl, hd, ht _, ht _⟩
        · exact .inr ⟨_, _, _, rfl, ht _, hd, ht _⟩
        · exact .inr ⟨_, _, _, rfl, ht _, ht _, hd⟩
  rw [rangeD_len, Nat.zero_add] at hd h2
  have ef : forS (tgN 2) (rngI1 (consA (cst (.int 8)) nilA)) (regS [2, 3, 4] (seqS (wipS [2] (asg 3 (callE F__law_next (consA (var 0) nilA))))
      (seqS (asg 4 (new (lstE (consA (bin oMod (bin oDiv (var 3) (cst (.int 3))) (cst (.int 3))) (consA (bin oMod (bin oDiv (var 3) (cst (.int 9))) (cst (.int 3))) (consA (bin oMod (bin oDiv (var 3) (cst (.int 27))) (cst (.int 3))) nilA))))))
      (seqS (wipS [1, 3] (setI (var 1) (var 4) (bin oMod (var 3) (cst (.int 3)))))
      (wipS [4] (asg 1 (cal bTuple (consA (var 4) nilA)))))))) S.L.length [some (.p 0), some (.d (.int x)), none, none, none] S1 = .next [some (.p 0), some (.d d), none, none, none] S2 := by
    unfold forS
    rw [rngI1_i (n := 8) (S1 := S1) rfl (by decide)]
    exact e2
  refine run_wstm ef ?_
  exact run_ret (v := .d d) (S1 := S2) rfl ⟨_, rfl, lenS h h2, hd, h2.mono (by omega)⟩
/-- eight numbers of three bits -/
def at3 (i : Nat) : List Int := [((i / 4 : Nat) : Int), ((i / 2 % 2 : Nat) : Int), ((i % 2 : Nat) : Int)]
theorem at3_bits {i : Nat} (h : i < 8) : Bits (at3 i) := by
  intro x hx
  unfold at3 at hx
  simp at hx
  omega
theorem put_ok {bs : List Int} {d : D} (hbs : Bits bs) (hl : bs.length = 8) (ht : TreeOk 12 d) : ∃ f : Nat → Int, ∀ S : Store, F_put [.d (.tup (il bs)), .d d] S = .ok (.d (.tup (il ((List.range 8).map f)))) S ∧
    ∀ i : Nat, i < 8 → F__law_put 12 [.d (.tup (il bs)), .d d, .d (.lst (il (at3 i)))] S = .ok (.d (.int (f i))) S := by
  have h : ∀ i : Nat, ∃ x : Int, i < 8 → ∀ S : Store, F_tells 12 [.d (.tup (il bs)), .d d, .d (.tup (il (at3 i)))] S = .ok (.d (.int x)) S ∧ F__law_put 12 [.d (.tup (il bs)), .d d, .d (.lst (il (at3 i)))] S = .ok (.d (.int x)) S := fun i => by
    by_cases hi : i < 8
    · obtain ⟨x, _, hx⟩ := tells_ok hbs (at3_bits hi) hl rfl 12 d ht
      exact ⟨x, fun _ => hx⟩
    · exact ⟨0, fun z => (hi z).elim⟩
  obtain ⟨f, hf⟩ := Classical.axiomOfChoice h
  refine ⟨f, fun S => ⟨?_, fun i hi => (hf i hi S).2⟩⟩
  unfold F_put
  refine fnF_d rfl ?_ (Nat.le_refl _)
  unfold b_put
  have hc : lcL (tgN 2) (rngI1 (consA (cst (.int 8)) nilA)) yesT (callE (F_tells 12) (consA (var 0) (consA (var 1) (consA (tupE (consA (bin oDiv (var 2) (cst (.int 4))) (consA (bin oMod (bin oDiv (var 2) (cst (.int 2))) (cst (.int 2))) (consA (bin oMod (var 2) (cst (.int 2))) nilA)))) nilA)))) [2] [some (.d (.tup (il bs))), some (.d d), none] S
      = .ok ((rangeD 0 8).map fun z => match z with | .int i => .int (f i.toNat) | z => z) S := by
    refine lcL_map _ (rngI1_i (n := 8) rfl (by decide)) (by rw [rangeD_len]; decide) fun z hz => ?_
    obtain ⟨i, hi, rfl⟩ := rangeD_mem hz
    have e := (hf i hi S).1
    have e3 : il (at3 i) = [.int ((i : Int) / 4), .int ((i : Int) / 2 % 2), .int ((i : Int) % 2)] := by unfold at3 il; simp
    rw [e3] at e
    refine ⟨_, rfl, rfl, ?_⟩
    simp [callE, consA, nilA, var, tupE, bin, cst, oDiv_i, oMod_i, allD, wipeE, e]
  simp [ret, cal, consA, nilA, frz]
  rw [hc]
  simp [bTuple, seqL]
  unfold il rangeD
  simp
/-! ### columns -/
def col (rows : List (List Int)) (j : Nat) : List Int := rows.map fun r => (r[j]?).getD 0
def rowsD (rows : List (List Int)) : List D := rows.map fun r => .tup (il r)
theorem col_ok {rows : List (List Int)} {w j i a k : Nat} {η : En} {S : Store} (hr : ∀ r ∈ rows, r.length = w) (hj : j < w) (ha : η[a]? = some (some (.d (.lst (rowsD rows))))) (hk : η[k]? = some (some (.d (.int j)))) (hi : i < η.length) (n1 : i ≠ a) (n2 : i ≠ k) (hz : rows.length ≤ 1000) :
    lcL (tgN i) (seqI (var a)) yesT (bin oIx (var i) (var k)) [i] η S = .ok (il (col rows j)) S := by
  have e := lcL_map (t := tgN i) (it := seqI (var a)) (c := yesT) (e := bin oIx (var i) (var k)) (vs := [i]) (η := η) (S := S) (S1 := S) (ds := rowsD rows) (fun z => match z with | .tup l => (l[j]?).getD .non | z => z) (by unfold seqI; rw [var_at ha]; rfl) (by unfold rowsD; rw [List.length_map]; omega) fun z hz => by
    unfold rowsD at hz
    obtain ⟨r, hm, rfl⟩ := List.mem_map.mp hz
    have hl := hr r hm
    have hg : r[j]? = some r[j] := List.getElem?_eq_getElem (by omega)
    have hx : atI (il r) (j : Int) = some (.int r[j]) := atI_nat (by unfold il; rw [List.getElem?_map, hg]; rfl)
    refine ⟨_, rfl, rfl, ?_⟩
    have v1 : var i ((wipeE [i] η).set i (some (.d (.tup (il r))))) S = .ok (.d (.tup (il r))) S := var_at (by
      show ((η.set i none).set i _)[i]? = _
      rw [List.getElem?_set_self (by rw [List.length_set]; exact hi)])
    have v2 : var k ((wipeE [i] η).set i (some (.d (.tup (il r))))) S = .ok (.d (.int j)) S := var_at (by
      show ((η.set i none).set i _)[k]? = _
      rw [List.getElem?_set_ne n2, List.getElem?_set_ne n2]; exact hk)
    unfold bin
    rw [v1]
    simp only [Res.bind, v2, oIx, seqV, hx]
    unfold il
    rw [List.getElem?_map, hg]
    rfl
  rw [e]
  congr 1
  unfold rowsD col il
  rw [List.map_map, List.map_map]
  refine List.map_congr_left fun r hm => ?_
  have hl := hr r hm
  have hg : r[j]? = some r[j] := List.getElem?_eq_getElem (by omega)
  simp [hg]
theorem col_bits {rows : List (List Int)} {j : Nat} (h : ∀ r ∈ rows, Bits r) : Bits (col rows j) := by
  intro x hx
  unfold col at hx
  obtain ⟨r, hr, rfl⟩ := List.mem_map.mp hx
  cases q : r[j]? with
  | none => left; rfl
  | some y => exact h r hr y (List.mem_of_getElem? q)
theorem rows_ok {bs : List Int} {rows : List (List Int)} {w : Nat} (hb : ∀ r ∈ rows, Bits r) (hr : ∀ r ∈ rows, r.length = w) (hne : rows ≠ []) (hl : bs.length = 2 ^ rows.length) (hz : rows.length ≤ 1000) (hw : w ≤ 1000) :
    ∃ f : Nat → Int, ∀ S : Store, F_done_rows [.d (.tup (il bs)), .d (.lst (rowsD rows))] S = .ok (.d (.tup (il ((List.range w).map f)))) S ∧ ∀ j, j < w → F__law_tells [.d (.tup (il bs)), .d (.lst (il (col rows j)))] S = .ok (.d (.int (f j))) S := by
  have h : ∀ j : Nat, ∃ x : Int, ∀ S : Store, F_done [.d (.tup (il bs)), .d (.lst (il (col rows j)))] S = .ok (.d (.int x)) S ∧ F__law_tells [.d (.tup (il bs)), .d (.lst (il (col rows j)))] S = .ok (.d (.int x)) S := fun j => by
    have hb' : Bits (col rows j) := col_bits hb
    have hl' : bs.length = 2 ^ (col rows j).length := by unfold col; rw [List.length_map]; exact hl
    obtain ⟨x, _, hv, _⟩ := ltells_ok (v := .d (.lst (il (col rows j)))) (S := ⟨[]⟩) rfl hb' hl'
    refine ⟨x, fun S => ⟨done_ok rfl hv, ?_⟩⟩
    obtain ⟨y, e, hv', _⟩ := ltells_ok (v := .d (.lst (il (col rows j)))) (S := S) rfl hb' hl'
    rw [hv] at hv'; cases hv'; exact e
  obtain ⟨f, hf⟩ := Classical.axiomOfChoice h
  refine ⟨f, fun S => ⟨?_, fun j _ => (hf j S).2⟩⟩
  have hz0 := hz
  unfold F_done_rows
  refine fnF_d rfl ?_ (Nat.le_refl _)
  unfold b_done_rows
  obtain ⟨r0, rows', rfl⟩ : ∃ r0 rows', rows = r0 :: rows' := by
    cases rows with
    | nil => exact absurd rfl hne
    | cons a b => exact ⟨a, b, rfl⟩
  have hr0 := hr r0 (List.mem_cons_self ..)
  have hc := lcL_map (t := tgN 2) (it := rngI1 (consA (cal bLen (consA (bin oIx (var 1) (cst (.int 0))) nilA)) nilA)) (c := yesT) (e := callE F_done (consA (var 0) (consA (frz (lcL (tgN 3) (seqI (var 1)) yesT (bin oIx (var 3) (var 2)) [3])) nilA))) (vs := [2]) (η := [some (.d (.tup (il bs))), some (.d (.lst (rowsD (r0 :: rows')))), none, none]) (S := S) (S1 := S) (ds := rangeD 0 w)
    (fun z => match z with | .int i => .int (f i.toNat) | z => z) (by
      refine rngI1_i ?_ (by omega)
      have : bLen [.d (.tup (il r0))] S = .ok (.d (.int w)) S := by
        unfold bLen lenV seqV; simp only [Option.map]; unfold il; rw [List.length_map, hr0]
      have a0 : atI (D.tup (il r0) :: rowsD rows') 0 = some (.tup (il r0)) := atI_nat (j := 0) rfl
      simp [cal, consA, nilA, bin, var, cst, oIx, seqV, seqL, rowsD] at this a0 ⊢
      rw [a0]
      simpa using this) (by rw [rangeD_len]; omega) fun z hz => by
    obtain ⟨i, hi, rfl⟩ := rangeD_mem hz
    refine ⟨_, rfl, rfl, ?_⟩
    have e1 := col_ok (i := 3) (a := 1) (k := 2) (η := [some (.d (.tup (il bs))), some (.d (.lst (rowsD (r0 :: rows')))), some (.d (.int i)), none]) (S := S) hr hi rfl rfl (Nat.lt_succ_self 3) (by decide) (by decide) hz0
    have e2 := (hf i S).1
    show Res.bind (consA (var 0) (consA (frz (lcL (tgN 3) (seqI (var 1)) yesT (bin oIx (var 3) (var 2)) [3])) nilA) [some (.d (.tup (il bs))), some (.d (.lst (rowsD (r0 :: rows')))), some (.d (.int i)), none] S) F_done = _
    simp [consA, nilA, var, frz, e1, e2]
  refine (congrArg (fun r => Res.st r _ _) (tup_frz hc)).trans ?_
  simp [rangeD, il]
/-! ### the law -/
theorem bits2 {ns : List Int} (h : ∀ x ∈ ns, 0 ≤ x ∧ x < 2) : Bits ns := fun x hx => by have := h x hx; omega
theorem no_bool {η : En} {S : Store} {a i : Nat} {xs : List Int} (ha : η[a]? = some (some (.d (.tup (il xs))))) (hi : i < η.length) (hz : xs.length ≤ 1000) : bin (oEq true) (frz (lcL (tgN i) (seqI (var a)) (asB (una (isD "bool") (var i))) (var i) [i])) (frz (lstE nilA)) η S = .ok (.d (.bl false)) S
    ∧ bin (oEq false) (frz (lcL (tgN i) (seqI (var a)) (asB (una (isD "bool") (var i))) (var i) [i])) (frz (lstE nilA)) η S = .ok (.d (.bl true)) S := by
  have e := lcL_fil (t := tgN i) (it := seqI (var a)) (c := asB (una (isD "bool") (var i))) (e := var i) (vs := [i]) (η := η) (S := S) (S1 := S) (ds := il xs) (fun _ => false) id (by unfold seqI; rw [var_at ha]; rfl) (by unfold il; rw [List.length_map]; omega) fun z hz => by
    unfold il at hz
    obtain ⟨x, _, rfl⟩ := List.mem_map.mp hz
    refine ⟨_, rfl, ?_, fun z => by cases z⟩
    have v1 : var i ((wipeE [i] η).set i (some (.d (.int x)))) S = .ok (.d (.int x)) S := var_at (by
      show ((η.set i none).set i _)[i]? = _
      rw [List.getElem?_set_self (by rw [List.length_set]; exact hi)])
    unfold asB una
    rw [v1]
    simp [isD, tyN]
  have en : List.filter (fun _ => false) (il xs) = [] := List.filter_eq_nil_iff.mpr (by simp)
  rw [en, List.map_nil] at e
  constructor <;> (unfold bin frz; rw [e]; rfl)
set_option maxHeartbeats 4000000 in
theorem right_ok {S : Store} (h : Dr 0 [] S) : ∃ S', F__law_right [.p 0] S = .ok (.d (.bl true)) S' := by
  have h1S : S.L.length = 1 := by obtain ⟨_, _, _, rfl, _⟩ := h; rfl
  have lenD : ∀ {j : Nat} {S' : Store}, Dr j [] S' → S'.L.length ≤ S.L.length := fun {j S'} h' => by
    obtain ⟨_, _, _, rfl, _⟩ := h'
    rw [h1S]; exact Nat.le_refl _
  suffices hs : ∃ S', fnF 1 17 .frz b__law_right [.p 0] S = .ok (.d (.bl true)) S' ∧ True by
    obtain ⟨S', e, _⟩ := hs; exact ⟨S', e⟩
  refine fnF_sat rfl ?_
  unfold b__law_right
  -- many
  refine run_asgX (ex_add (drawMod rfl (by decide) (by decide) h)) ?_
  rintro _ S1 ⟨many, rfl, hm, h1⟩
  obtain ⟨M, rfl⟩ : ∃ M : Nat, many = (M : Int) := ⟨many.toNat, by omega⟩
  have hM : M < 4 := by omega
  -- deed
  have p2 : ∃ k : Nat, k = 2 ^ (M + 1) ∧ k ≤ 16 ∧ atI [D.int 2, .int 4, .int 8, .int 16] ((M : Int)) = some (.int (k : Int)) := by
    match M, hM with
    | 0, _ => exact ⟨2, rfl, by decide, rfl⟩
    | 1, _ => exact ⟨4, rfl, by decide, rfl⟩
    | 2, _ => exact ⟨8, rfl, by decide, rfl⟩
    | 3, _ => exact ⟨16, rfl, by decide, rfl⟩
  obtain ⟨k, hk, hk16, hat⟩ := p2
  have sub1 : (1 : Int) + (M : Int) - 1 = M := by omega
  refine run_asgX (ex_tup (DrL (k := k) (rngI1_i (by simp [bin, frz, lstE, consA, nilA, cst, allD, var, oSub_i, sub1, oIx, seqV, seqL, hat]) (by omega)) (by omega) rfl (by decide) (by omega) (by decide) h1)) ?_
  rintro _ S2 ⟨_, rfl, bs, rfl, hbl, hbs, h2⟩
  have hbs := bits2 hbs
  rw [hk] at hbl
  -- numbers
  have e1M : (1 : Int) + (M : Int) = ((M + 1 : Nat) : Int) := by omega
  rw [e1M]
  refine run_asgX (ex_frz (DrL (k := M + 1) (rngI1_i (var_at rfl) (by omega)) (by omega) rfl (by decide) (by omega) (by decide) h2)) ?_
  rintro _ S3 ⟨_, rfl, ns, rfl, hnl, hns, h3⟩
  have hns := bits2 hns
  -- width
  refine run_asgX (ex_add (drawMod rfl (by omega) (by decide) h3)) ?_
  rintro _ S4 ⟨w0, rfl, hw, h4⟩
  obtain ⟨w, ew⟩ : ∃ w : Nat, 1 + w0 = (w : Int) := ⟨(1 + w0).toNat, by omega⟩
  rw [ew]
  have hw1 : 1 ≤ w ∧ w ≤ 4 := by omega
  -- rows
  refine run_wasgX (ex_frz (Q := fun l S' => ∃ rows : List (List Int), l = rowsD rows ∧ rows.length = M + 1 ∧ (∀ r ∈ rows, r.length = w ∧ Bits r) ∧ Dr 200 [] S') ?_) ?_
  · obtain ⟨ys, S5, e1, e2, e3, e4⟩ := lcL_all (t := tgN 13) (it := rngI1 (consA (var 1) nilA)) (c := yesT) (e := cal bTuple (consA (frz (lcL (tgN 14) (rngI1 (consA (var 4) nilA)) yesT (bin oMod (callE F__law_next (consA (var 0) nilA)) (cst (.int 2))) [14])) nilA)) (vs := [13])
        (η := [some (.p 0), some (.d (.int ((M + 1 : Nat) : Int))), some (.d (.tup (il bs))), some (.d (.lst (il ns))), some (.d (.int w)), none, none, none, none, none, none, none, none, none, none, none, none]) (S := S4) (S1 := S4) (ds := rangeD 0 (M + 1))
        (I := fun j S => Dr (100 + j * w) [] S) (P := fun _ y => ∃ r : List Int, y = .tup (il r) ∧ r.length = w ∧ Bits r) (rngI1_i (var_at rfl) (by omega)) (by rw [rangeD_len]; omega) (h4.mono (by omega)) fun j d S hd hI => by
      obtain ⟨hj, rfl⟩ := rangeD_get hd
      have hjw : j * w ≤ 4 * 4 := Nat.mul_le_mul (by omega) hw1.2
      refine ⟨[some (.p 0), some (.d (.int ((M + 1 : Nat) : Int))), some (.d (.tup (il bs))), some (.d (.lst (il ns))), some (.d (.int w)), none, none, none, none, none, none, none, none, some (.d (.int j)), none, none, none], ?_⟩
      obtain ⟨l, S', e, r, rfl, hl, hr, hd⟩ := DrL (k := w) (i := 14) (m := 2) (it := rngI1 (consA (var 4) nilA)) (η := [some (.p 0), some (.d (.int ((M + 1 : Nat) : Int))), some (.d (.tup (il bs))), some (.d (.lst (il ns))), some (.d (.int w)), none, none, none, none, none, none, none, none, some (.d (.int j)), none, none, none]) (rngI1_i (var_at rfl) (by omega)) (by omega) rfl (by decide) (by omega) (by decide) hI
      exact ⟨_, S', rfl, rfl, tup_frz e, ⟨r, rfl, hl, bits2 hr⟩, by rw [Nat.add_mul, Nat.one_mul, ← Nat.add_assoc]; exact hd⟩
    obtain ⟨rows, rfl, hrows, hlen⟩ := coll (g := fun r : List Int => D.tup (il r)) (Q := fun r => r.length = w ∧ Bits r) fun j y hy => e3 j y hy
    rw [rangeD_len] at e2 e4
    have hjw : (M + 1) * w ≤ 4 * 4 := Nat.mul_le_mul (by omega) hw1.2
    exact ⟨_, S5, e1, rows, rfl, by omega, hrows, e4.mono (by omega)⟩
  rintro _ S5 ⟨_, rfl, rows, rfl, hrl, hrows, h5⟩
  have hz1 : rows.length ≤ 1000 := by omega
  -- handed
  refine run_asg (v := .d (.lst [.lst (il ns), .lst (rowsD rows)])) (S1 := S5) (by simp [frz, lstE, consA, nilA, calL, var, wipeE, bList, seqV, seqL, allD]) ?_
  -- done
  obtain ⟨x, t1, t2, t3⟩ := ltells_ok (v := .d (.lst (il ns))) (S := S5) (bs := bs) rfl hns (by rw [hbl, hnl])
  have d1 := done_ok (v := .d (.lst (il ns))) (S := S5) rfl t2
  have at0 : ∀ a b : D, atI [a, b] 0 = some a := fun _ _ => rfl
  have at1 : ∀ a b : D, atI [a, b] 1 = some b := fun _ _ => rfl
  have okH : okD 60 (.lst [.lst (il ns), .lst (rowsD rows)]) = true := by
    refine okL fun d hd => ?_
    rcases List.mem_cons.mp hd with rfl | hd
    · exact okL (ok_il _ _)
    · rcases List.mem_cons.mp hd with rfl | hd
      · refine okL fun d hd => ?_
        unfold rowsD at hd
        obtain ⟨r, _, rfl⟩ := List.mem_map.mp hd
        exact okT (ok_il _ _)
      · cases hd
  have eqH := oEq_same (neg := true) (S := S5) okH
  refine run_asg (v := .d (.int x)) (S1 := S5) (by simp [callE, consA, nilA, var, wipeE, bin, cst, oIx, seqV, seqL, at0, d1]) ?_
  have eqx := oEq_same (neg := true) (S := S5) (ok_int 60 x)
  refine run_wno (S1 := S5) (by simp [orT, asB, una, var, isD, tyN, wipeE, bin, callE, consA, nilA, t1, eqx, frz, lstE, allD, eqH]) ?_
  -- done_rows
  obtain ⟨f, hf⟩ := rows_ok (bs := bs) (rows := rows) (w := w) (fun r hr => (hrows r hr).2) (fun r hr => (hrows r hr).1) (by intro z; subst z; simp at hrl) (by rw [hbl, hrl]) hz1 (by omega)
  obtain ⟨f1, f2⟩ := hf S5
  refine run_asg (v := .d (.tup (il ((List.range w).map f)))) (S1 := S5) (by simp [callE, consA, nilA, var, wipeE, bin, cst, oIx, seqV, seqL, at1, f1]) ?_
  refine run_wno (S1 := S5) (by simp [orT, notT, asB, una, var, isD, tyN, wipeE, bin, consA, nilA, frz, lstE, allD, eqH]) ?_
  refine run_no (S1 := S5) (asB_of (no_bool (xs := (List.range w).map f) (i := 15) (a := 8) rfl (by simp [wipeE]) (by simp; omega)).1) ?_
  have cr := lcL_map (t := tgN 14) (it := rngI1 (consA (var 4) nilA)) (c := yesT) (e := callE F__law_tells (consA (var 2) (consA (frz (lcL (tgN 15) (seqI (var 5)) yesT (bin oIx (var 15) (var 14)) [15])) nilA))) (vs := [14])
    (η := [some (.p 0), none, some (.d (.tup (il bs))), none, some (.d (.int w)), some (.d (.lst (rowsD rows))), none, none, some (.d (.tup (il ((List.range w).map f)))), none, none, none, none, none, none, none, none]) (S := S5) (S1 := S5) (ds := rangeD 0 w) (fun z => match z with | .int i => .int (f i.toNat) | z => z) (rngI1_i (var_at rfl) (by omega)) (by rw [rangeD_len]; omega) fun z hz => by
    obtain ⟨j, hj, rfl⟩ := rangeD_mem hz
    refine ⟨[some (.p 0), none, some (.d (.tup (il bs))), none, some (.d (.int w)), some (.d (.lst (rowsD rows))), none, none, some (.d (.tup (il ((List.range w).map f)))), none, none, none, none, none, some (.d (.int j)), none, none], rfl, rfl, ?_⟩
    have ec := col_ok (i := 15) (a := 5) (k := 14) (η := [some (.p 0), none, some (.d (.tup (il bs))), none, some (.d (.int w)), some (.d (.lst (rowsD rows))), none, none, some (.d (.tup (il ((List.range w).map f)))), none, none, none, none, none, some (.d (.int j)), none, none]) (S := S5) (fun r hr => (hrows r hr).1) hj rfl rfl (by simp) (by decide) (by decide) hz1
    simp [callE, consA, nilA, var, frz, ec, f2 j hj]
  have er : (rangeD 0 w).map (fun z => match z with | .int i => D.int (f i.toNat) | z => z) = il ((List.range w).map f) := by simp [rangeD, il]
  rw [er] at cr
  have eqR := oEq_same (neg := true) (S := S5) (okT (n := 59) (ok_il 59 ((List.range w).map f)))
  refine run_wno (S1 := S5) (asB_of (bin_of (var_at rfl) (tup_frz cr) eqR)) ?_
  -- three
  refine run_asgX (ex_tup (DrL (k := 8) (rngI1_i rfl (by decide)) (by decide) rfl (by decide) (by decide) (by decide) h5)) ?_
  rintro _ S6 ⟨_, rfl, bs3, rfl, hb3l, hb3, h6⟩
  have hb3 := bits2 hb3
  -- tree
  obtain ⟨d0, S7, e7, ht0, h7⟩ := tree_ok 12 5 _ S6 (by decide) (by decide) h6
  refine run_asg (v := .d d0) (S1 := S7) (call_of (cons_of (var_at rfl) (cons_of rfl nil_of)) e7) ?_
  obtain ⟨q, S8, e8, hq, h8⟩ := drawMod (m := 8) (η := [some (.p 0), none, none, none, none, none, none, none, none, some (.d (.tup (il bs3))), some (.d d0), none, none, none, none, none, none]) rfl (by decide) (by decide) h7
  have c1 : oEq false (.d (.int q)) (.d (.int 1)) S8 = .ok (.d (.bl (q == 1))) S8 := by simp [oEq, rd, okD, eqvD]
  have br : ∃ d S9, (ifS (asB (bin (oEq false) (bin oMod (callE F__law_next (consA (var 0) nilA)) (cst (.int 8))) (cst (.int 1)))) (wipS [0] (asg 10 (callE F__law_long_tree (consA (var 0) nilA)))) nextS) S.L.length
      [some (.p 0), none, none, none, none, none, none, none, none, some (.d (.tup (il bs3))), some (.d d0), none, none, none, none, none, none] S7 = .next (if q = 1 then [none, none, none, none, none, none, none, none, none, some (.d (.tup (il bs3))), some (.d d), none, none, none, none, none, none] else [some (.p 0), none, none, none, none, none, none, none, none, some (.d (.tup (il bs3))), some (.d d), none, none, none, none, none, none]) S9 ∧ TreeOk 12 d ∧ Dr 100000 [] S9 := by
    have tst : asB (bin (oEq false) (bin oMod (callE F__law_next (consA (var 0) nilA)) (cst (.int 8))) (cst (.int 1))) [some (.p 0), none, none, none, none, none, none, none, none, some (.d (.tup (il bs3))), some (.d d0), none, none, none, none, none, none] S7 = .ok (q == 1) S8 := asB_of (bin_of e8 rfl c1)
    by_cases hq1 : q = 1
    · obtain ⟨d, S9, e9, ht, h9⟩ := long_ok (by decide) h8
      refine ⟨d, S9, ?_, ht.mono (by decide), h9.mono (by decide)⟩
      unfold ifS
      rw [tst]
      subst hq1
      have : callE F__law_long_tree (consA (var 0) nilA) [some (.p 0), none, none, none, none, none, none, none, none, some (.d (.tup (il bs3))), some (.d d0), none, none, none, none, none, none] S8 = .ok (.d d) S9 := call_of (cons_of (var_at rfl) nil_of) e9
      simp [wipS, asg, this, wipeE]
    · refine ⟨d0, S8, ?_, ht0.mono (by decide), h8.mono (by decide)⟩
      unfold ifS
      rw [tst]
      have : (q == 1) = false := by simp [hq1]
      simp [this, nextS, hq1]
  obtain ⟨d, S9, e9, htd, h9⟩ := br
  have ew : wipeE [0] (if q = 1 then [none, none, none, none, none, none, none, none, none, some (.d (.tup (il bs3))), some (.d d), none, none, none, none, none, none] else [some (.p 0), none, none, none, none, none, none, none, none, some (.d (.tup (il bs3))), some (.d d), none, none, none, none, none, none])
      = [none, none, none, none, none, none, none, none, none, some (.d (.tup (il bs3))), some (.d d), none, none, none, none, none, none] := by
    split <;> rfl
  refine run_wstm e9 ?_
  rw [ew]
  obtain ⟨g, hg⟩ := put_ok hb3 hb3l htd
  obtain ⟨g1, g2⟩ := hg S9
  have cp := lcL_map (t := tgN 16) (it := rngI1 (consA (cst (.int 8)) nilA)) (c := yesT) (e := callE (F__law_put 12) (consA (var 9) (consA (var 10) (consA (frz (lstE (consA (bin oDiv (var 16) (cst (.int 4))) (consA (bin oMod (bin oDiv (var 16) (cst (.int 2))) (cst (.int 2))) (consA (bin oMod (var 16) (cst (.int 2))) nilA))))) nilA)))) (vs := [16])
    (η := [none, none, none, none, none, none, none, none, none, some (.d (.tup (il bs3))), some (.d d), none, none, none, none, none, none]) (S := S9) (S1 := S9) (ds := rangeD 0 8) (fun z => match z with | .int i => .int (g i.toNat) | z => z) (rngI1_i (n := 8) rfl (by decide)) (by rw [rangeD_len]; decide) fun z hz => by
    obtain ⟨i, hi, rfl⟩ := rangeD_mem hz
    have e := g2 i hi
    have e3 : il (at3 i) = [.int ((i : Int) / 4), .int ((i : Int) / 2 % 2), .int ((i : Int) % 2)] := by unfold at3 il; simp
    rw [e3] at e
    refine ⟨_, rfl, rfl, ?_⟩
    simp [callE, consA, nilA, var, frz, lstE, bin, cst, oDiv_i, oMod_i, allD, wipeE, e]
  have er : (rangeD 0 8).map (fun z => match z with | .int i => D.int (g i.toNat) | z => z) = il ((List.range 8).map g) := by simp [rangeD, il]
  rw [er] at cp
  refine run_asg (v := .d (.tup (il ((List.range 8).map g)))) (S1 := S9) (tup_frz cp) ?_
  refine run_wasg (v := .d (.tup (il ((List.range 8).map g)))) (S1 := S9) (call_of (cons_of (var_at rfl) (cons_of (var_at rfl) nil_of)) g1) ?_
  have eqP := oEq_same (neg := false) (S := S9) (okT (n := 59) (ok_il 59 ((List.range 8).map g)))
  refine run_ret (v := .d (.bl true)) (S1 := S9) (and_of (S1 := S9) rfl (and_of (S1 := S9) (bin_of (var_at rfl) (var_at rfl) eqP) (no_bool (xs := (List.range 8).map g) (i := 15) (a := 12) rfl (by simp [wipeE]) (by simp)).2)) ⟨rfl, lenD h9, trivial⟩
theorem law_true (ns : List Int) (hl : ns.length ≤ 63) (hb : ∀ z ∈ ns, PySem.Builtin.Int.intBits z ≤ 1048576) : F_law [.d (.scr ns)] ⟨[]⟩ = .ok (.d (.bl true)) ⟨[]⟩ :=
  law_of (R := F__law_right) (k := 10) (fun S h => right_ok h) hl
end K12

namespace K12
open PySem PySem.Spec PyProof.Rows L2 MP
theorem all_mk {l : PySem.W.OpenLaw} {w : World} {K : PySem.W.Frag} {h : Heap} {mg : Str → Option Value} {fa : Addr} (X : K.In h) (Gh : h.Ns mainGlobals mg) (hfa : mg "law" = some (.ref fa))
    {f0 : Addr} {od0 an0 : Option Addr} {sl0 : Array (Option Value)} {oc0 kV0 dc0 pm0 cd0 ct0 : Value}
    (a0 : PySem.W.nsIn K mainGlobals "place_of" = some (some (.ref f0))) (l0 : K.lookup f0 = some ⟨oc0, od0, .func (PySem.W.fnOf "place_of" "place_of" (defArgs s_place_of) (defBody s_place_of) (defScope s_place_of) .none kV0 dc0 pm0 an0 cd0 ct0), sl0⟩) (c0 : PySem.W.codeIn K cd0 "place_of" = true) (k0 : PySem.W.keepIn K (.ref f0) = true)
    {f1 : Addr} {od1 an1 : Option Addr} {sl1 : Array (Option Value)} {oc1 kV1 dc1 pm1 cd1 ct1 : Value}
    (a1 : PySem.W.nsIn K mainGlobals "done" = some (some (.ref f1))) (l1 : K.lookup f1 = some ⟨oc1, od1, .func (PySem.W.fnOf "done" "done" (defArgs s_done) (defBody s_done) (defScope s_done) .none kV1 dc1 pm1 an1 cd1 ct1), sl1⟩) (c1 : PySem.W.codeIn K cd1 "done" = true) (k1 : PySem.W.keepIn K (.ref f1) = true)
    {f2 : Addr} {od2 an2 : Option Addr} {sl2 : Array (Option Value)} {oc2 kV2 dc2 pm2 cd2 ct2 : Value}
    (a2 : PySem.W.nsIn K mainGlobals "done_rows" = some (some (.ref f2))) (l2 : K.lookup f2 = some ⟨oc2, od2, .func (PySem.W.fnOf "done_rows" "done_rows" (defArgs s_done_rows) (defBody s_done_rows) (defScope s_done_rows) .none kV2 dc2 pm2 an2 cd2 ct2), sl2⟩) (c2 : PySem.W.codeIn K cd2 "done_rows" = true) (k2 : PySem.W.keepIn K (.ref f2) = true)
    {f3 : Addr} {od3 an3 : Option Addr} {sl3 : Array (Option Value)} {oc3 kV3 dc3 pm3 cd3 ct3 : Value}
    (a3 : PySem.W.nsIn K mainGlobals "_law_next" = some (some (.ref f3))) (l3 : K.lookup f3 = some ⟨oc3, od3, .func (PySem.W.fnOf "_law_next" "_law_next" (defArgs s__law_next) (defBody s__law_next) (defScope s__law_next) .none kV3 dc3 pm3 an3 cd3 ct3), sl3⟩) (c3 : PySem.W.codeIn K cd3 "_law_next" = true) (k3 : PySem.W.keepIn K (.ref f3) = true)
    {f4 : Addr} {od4 an4 : Option Addr} {sl4 : Array (Option Value)} {oc4 kV4 dc4 pm4 cd4 ct4 : Value}
    (a4 : PySem.W.nsIn K mainGlobals "_law_tree" = some (some (.ref f4))) (l4 : K.lookup f4 = some ⟨oc4, od4, .func (PySem.W.fnOf "_law_tree" "_law_tree" (defArgs s__law_tree) (defBody s__law_tree) (defScope s__law_tree) .none kV4 dc4 pm4 an4 cd4 ct4), sl4⟩) (c4 : PySem.W.codeIn K cd4 "_law_tree" = true) (k4 : PySem.W.keepIn K (.ref f4) = true)
    {f5 : Addr} {od5 an5 : Option Addr} {sl5 : Array (Option Value)} {oc5 kV5 dc5 pm5 cd5 ct5 : Value}
    (a5 : PySem.W.nsIn K mainGlobals "tells" = some (some (.ref f5))) (l5 : K.lookup f5 = some ⟨oc5, od5, .func (PySem.W.fnOf "tells" "tells" (defArgs s_tells) (defBody s_tells) (defScope s_tells) .none kV5 dc5 pm5 an5 cd5 ct5), sl5⟩) (c5 : PySem.W.codeIn K cd5 "tells" = true) (k5 : PySem.W.keepIn K (.ref f5) = true)
    {f6 : Addr} {od6 an6 : Option Addr} {sl6 : Array (Option Value)} {oc6 kV6 dc6 pm6 cd6 ct6 : Value}
    (a6 : PySem.W.nsIn K mainGlobals "put" = some (some (.ref f6))) (l6 : K.lookup f6 = some ⟨oc6, od6, .func (PySem.W.fnOf "put" "put" (defArgs s_put) (defBody s_put) (defScope s_put) .none kV6 dc6 pm6 an6 cd6 ct6), sl6⟩) (c6 : PySem.W.codeIn K cd6 "put" = true) (k6 : PySem.W.keepIn K (.ref f6) = true)
    {f7 : Addr} {od7 an7 : Option Addr} {sl7 : Array (Option Value)} {oc7 kV7 dc7 pm7 cd7 ct7 : Value}
    (a7 : PySem.W.nsIn K mainGlobals "_law_long_tree" = some (some (.ref f7))) (l7 : K.lookup f7 = some ⟨oc7, od7, .func (PySem.W.fnOf "_law_long_tree" "_law_long_tree" (defArgs s__law_long_tree) (defBody s__law_long_tree) (defScope s__law_long_tree) .none kV7 dc7 pm7 an7 cd7 ct7), sl7⟩) (c7 : PySem.W.codeIn K cd7 "_law_long_tree" = true) (k7 : PySem.W.keepIn K (.ref f7) = true)
    {f8 : Addr} {od8 an8 : Option Addr} {sl8 : Array (Option Value)} {oc8 kV8 dc8 pm8 cd8 ct8 : Value}
    (a8 : PySem.W.nsIn K mainGlobals "_law_tells" = some (some (.ref f8))) (l8 : K.lookup f8 = some ⟨oc8, od8, .func (PySem.W.fnOf "_law_tells" "_law_tells" (defArgs s__law_tells) (defBody s__law_tells) (defScope s__law_tells) .none kV8 dc8 pm8 an8 cd8 ct8), sl8⟩) (c8 : PySem.W.codeIn K cd8 "_law_tells" = true) (k8 : PySem.W.keepIn K (.ref f8) = true)
    {f9 : Addr} {od9 an9 : Option Addr} {sl9 : Array (Option Value)} {oc9 kV9 dc9 pm9 cd9 ct9 : Value}
    (a9 : PySem.W.nsIn K mainGlobals "_law_put" = some (some (.ref f9))) (l9 : K.lookup f9 = some ⟨oc9, od9, .func (PySem.W.fnOf "_law_put" "_law_put" (defArgs s__law_put) (defBody s__law_put) (defScope s__law_put) .none kV9 dc9 pm9 an9 cd9 ct9), sl9⟩) (c9 : PySem.W.codeIn K cd9 "_law_put" = true) (k9 : PySem.W.keepIn K (.ref f9) = true)
    {f10 : Addr} {od10 an10 : Option Addr} {sl10 : Array (Option Value)} {oc10 kV10 dc10 pm10 cd10 ct10 : Value}
    (a10 : PySem.W.nsIn K mainGlobals "_law_right" = some (some (.ref f10))) (l10 : K.lookup f10 = some ⟨oc10, od10, .func (PySem.W.fnOf "_law_right" "_law_right" (defArgs s__law_right) (defBody s__law_right) (defScope s__law_right) .none kV10 dc10 pm10 an10 cd10 ct10), sl10⟩) (c10 : PySem.W.codeIn K cd10 "_law_right" = true) (k10 : PySem.W.keepIn K (.ref f10) = true)
    {f11 : Addr} {od11 an11 : Option Addr} {sl11 : Array (Option Value)} {oc11 kV11 dc11 pm11 cd11 ct11 : Value}
    (a11 : PySem.W.nsIn K mainGlobals "_law_draws" = some (some (.ref f11))) (l11 : K.lookup f11 = some ⟨oc11, od11, .func (PySem.W.fnOf "_law_draws" "_law_draws" (defArgs s__law_draws) (defBody s__law_draws) (defScope s__law_draws) .none kV11 dc11 pm11 an11 cd11 ct11), sl11⟩) (c11 : PySem.W.codeIn K cd11 "_law_draws" = true) (k11 : PySem.W.keepIn K (.ref f11) = true)
    {f12 : Addr} {od12 an12 : Option Addr} {sl12 : Array (Option Value)} {oc12 kV12 dc12 pm12 cd12 ct12 : Value}
    (a12 : PySem.W.nsIn K mainGlobals "law" = some (some (.ref f12))) (l12 : K.lookup f12 = some ⟨oc12, od12, .func (PySem.W.fnOf "law" "law" (defArgs s_law) (defBody s_law) (defScope s_law) .none kV12 dc12 pm12 an12 cd12 ct12), sl12⟩) (c12 : PySem.W.codeIn K cd12 "law" = true) (k12 : PySem.W.keepIn K (.ref f12) = true)
    (z0 : PySem.W.nsIn K mainGlobals "bool" = some none)
    (z1 : PySem.W.nsIn K mainGlobals "int" = some none)
    (z2 : PySem.W.nsIn K mainGlobals "isinstance" = some none)
    (z3 : PySem.W.nsIn K mainGlobals "len" = some none)
    (z4 : PySem.W.nsIn K mainGlobals "list" = some none)
    (z5 : PySem.W.nsIn K mainGlobals "range" = some none)
    (z6 : PySem.W.nsIn K mainGlobals "tuple" = some none) :
    ∃ fd : FuncData, (∀ (s : Shared) (v : Value), BindsTo s fd ⟨[v], []⟩ [("_law_script", v)]) ∧ ∀ base : Heap, K.In base → base.Ns mainGlobals mg → FnOk l.prog w K mg base (L2.CX l.prog w) 18 fa fd ["_law_script"] (spF ⟨K, fun _ => 0⟩ F_law) := by
  have C : Cf K mg ⟨K, fun _ => 0⟩ := cf_mk X Gh a0 l0 c0 k0 a1 l1 c1 k1 a2 l2 c2 k2 a3 l3 c3 k3 a4 l4 c4 k4 a5 l5 c5 k5 a6 l6 c6 k6 a7 l7 c7 k7 a8 l8 c8 k8 a9 l9 c9 k9 a10 l10 c10 k10 a11 l11 c11 k11 a12 l12 c12 k12 z0 z1 z2 z3 z4 z5 z6
  have e := hfa.symm.trans (PySem.W.mg_of X Gh a12)
  cases e
  have F1 := fun_mk (st := s_law) l12 c12 k12
  exact ⟨PySem.W.fnOf "law" "law" (defArgs s_law) (defBody s_law) (defScope s_law) .none kV12 dc12 pm12 an12 cd12 ct12, fun s v => .of_eq rfl, fun base _ _ => fn_ok (N := ["_law_script", "_law_cell"]) .frz b_law F1 sc_law rfl (p_law C _)⟩
end K12
open PySem PySem.W PyProof.Rows
set_option maxHeartbeats 0 in
theorem PySem.Challenge.cw_easykinds_k12_deeds_done_and_put_holds : PySem.Challenge.rw_easykinds_k12_deeds_done_and_put.Holds := by
  w_on; o_law; k_head; (case hw => w_witness2)
  k_fill
  refine L2.walk_ofB (l := PySem.Challenge.rw_easykinds_k12_deeds_done_and_put) (n := 63) (k := 18) (x := "_law_script") (CX := fun w => L2.CX (PySem.Challenge.rw_easykinds_k12_deeds_done_and_put).prog w) (sp := fun w => MP.spF ⟨_, fun _ => 0⟩ K12.F_law) rfl (by decide) rfl ⟨rfl, by decide, by decide⟩ (fun w h Y => PySem.W.kIn_of Y) ?F (fun w H a ns hl hb hO hS => MP.law_sp hO hS (K12.law_true ns hl hb)) ?X
  case F =>
    intro w mg fa h KX G hmg
    refine' K12.all_mk KX G hmg ?a0 ?l0 ?c0 ?k0 ?a1 ?l1 ?c1 ?k1 ?a2 ?l2 ?c2 ?k2 ?a3 ?l3 ?c3 ?k3 ?a4 ?l4 ?c4 ?k4 ?a5 ?l5 ?c5 ?k5 ?a6 ?l6 ?c6 ?k6 ?a7 ?l7 ?c7 ?k7 ?a8 ?l8 ?c8 ?k8 ?a9 ?l9 ?c9 ?k9 ?a10 ?l10 ?c10 ?k10 ?a11 ?l11 ?c11 ?k11 ?a12 ?l12 ?c12 ?k12 ?z0 ?z1 ?z2 ?z3 ?z4 ?z5 ?z6
    (case a0 => k_is); (case l0 => k_is); (case c0 => k_is); (case k0 => k_is); (case a1 => k_is); (case l1 => k_is); (case c1 => k_is); (case k1 => k_is); (case a2 => k_is); (case l2 => k_is); (case c2 => k_is); (case k2 => k_is); (case a3 => k_is); (case l3 => k_is); (case c3 => k_is); (case k3 => k_is); (case a4 => k_is); (case l4 => k_is); (case c4 => k_is); (case k4 => k_is); (case a5 => k_is); (case l5 => k_is); (case c5 => k_is); (case k5 => k_is); (case a6 => k_is); (case l6 => k_is); (case c6 => k_is); (case k6 => k_is); (case a7 => k_is); (case l7 => k_is); (case c7 => k_is); (case k7 => k_is); (case a8 => k_is); (case l8 => k_is); (case c8 => k_is); (case k8 => k_is); (case a9 => k_is); (case l9 => k_is); (case c9 => k_is); (case k9 => k_is); (case a10 => k_is); (case l10 => k_is); (case c10 => k_is); (case k10 => k_is); (case a11 => k_is); (case l11 => k_is); (case c11 => k_is); (case k11 => k_is); (case a12 => k_is); (case l12 => k_is); (case c12 => k_is); (case k12 => k_is); (case z0 => k_is); (case z1 => k_is); (case z2 => k_is); (case z3 => k_is); (case z4 => k_is); (case z5 => k_is); (case z6 => k_is)
  case X =>
    intro w H s e s' h
    exact MP.cx_false h

