import PyProof.Rows.All
import Wide.All
import OpenK.AllK
import Wide.FinOn
import HandS.ForMost
import HandS.ForExc
import HandS.TupAny
import HandS.Deep
import HandS.Zip
import HandS.IsInst
import HandS.CallSlots
import HandS.Defaults
import HandS.Wide
import HandS.Style
import HandS.StrMore
import HandS.TupMul
import HandS.Flow
import HandS.EndBits
import KE.SortData
import PyProof.ReprRoads
import HandS.Conv
import PyProof.StrLawsRepr
import HandS.ReCall
import HandS.Strs
import HandS.Replace
import HandS.ExcOwn
import HandS.ExcIs
import HandS.ExcValue
import KE.DataMinMax
import HandS.TupSets
import PySem.Challenge.RW_thirtycubes_k43_cubes_listed
set_option Elab.async false
set_option linter.all false
set_option maxRecDepth 100000
/-! Z0: tuples of which it is kept that they have no dict of their own. -/
namespace Z
open PySem PySem.Spec PyProof.Rows L2
/-- a tuple, held with its record; or one of the written part -/
def SqP (K : PySem.W.Frag) (H : Hp) (a : Addr) (xs : List V) : Prop :=
  (∃ ob : Obj, H a = some (.frz ob (.tup xs)) ∧ ob.dict = none) ∨
    ∃ (ob : Obj) (us : Array Value) (n : Nat), K.lookup a = some ob ∧ ob.cls = .type "tuple" ∧ ob.dict = none ∧ ob.data = .seq us n ∧ us.size ≤ sizeLine ∧ Vals xs us.toList
theorem SqP.t {K : PySem.W.Frag} {H : Hp} {a : Addr} {xs : List V} (h : SqP K H a xs) : SqT K H a xs := by
  rcases h with ⟨ob, e, _⟩ | ⟨ob, us, n, h1, h2, _, h4, h5, h6⟩
  · exact .inl (.inr ⟨ob, e⟩)
  · exact .inr ⟨ob, us, n, h1, h2, h4, h5, h6⟩
/-- a new tuple's record -/
abbrev tObj (us : List Value) : Obj := { cls := .type "tuple", data := .seq us.toArray }
section
variable {X : Cx} {pins : List (Addr × Obj)} {σ : L2.St} {H : Hp} {s : Shared}
/-- the value is a tuple without a dict -/
theorem tup_plain {a : Addr} {xs : List V} (I : L2.Inv X pins σ H s) (h : SqP X.K H a xs) : ∃ (its : List Value) (ob : Obj), s.heap.get? a = some ob ∧ ob.cls = .type "tuple" ∧ ob.dict = none ∧ Vals xs its ∧ (∃ n, ob.data = .seq its.toArray n) ∧ xs.length ≤ sizeLine := by
  rcases h with ⟨ob, e, hd⟩ | ⟨ob, us, n, h1, h2, h3, h4, h5, h6⟩
  · obtain ⟨g1, g2, its, g3, o2, g4, g5, n, g6⟩ := I.hok a _ e
    rw [g1] at g4
    cases g4
    exact ⟨its, ob, g1, g5, hd, g3, ⟨n, g6⟩, g2⟩
  · have g := I.kIn _ _ h1
    exact ⟨us.toList, ob, g, h2, h3, h6, ⟨n, by rw [h4, Array.toArray_toList]⟩, by have := h6.length; rw [this, Array.length_toList]; exact h5⟩
theorem laidT {us : List Value} {xs : List V} (I : L2.Inv X pins σ H s) (r : Vals xs us) (hz : xs.length ≤ sizeLine) :
    L2.Inv X pins σ (upd H s.heap.objs.size (.frz (tObj us) (.tup xs))) { s with heap := s.heap.push (tObj us) } :=
  I.laid (t' := s.toks) (fun _ _ e => Heap.get?_push_of_some _ e) (Nat.le_refl _) ⟨Heap.get?_push_size _ rfl, hz, us, r, IsTup.new _ _⟩
/-- what a rule that makes a tuple asks: the answer at each new place, whatever the record -/
def NewT (H : Hp) (Q : VK) (xs : List V) : Prop := ∀ (p : Addr) (ob : Obj), H p = none → ob.dict = none → Q (.ref p) (upd H p (.frz ob (.tup xs)))
variable {es : List Expr} {t : TA} {pos : Pos}
theorem pe_tupP {x1} (h : PA X es t) : PE X (.Tuple es x1 pos) (fun σ H Q => t σ H fun xs H1 => xs.length ≤ sizeLine ∧ NewT H1 Q xs) :=
  ⟨fun pins s σ H Q I hq => wpAny_Tuple_spliced (thn (h.run pos pins s σ H _ I hq) fun us s1 ⟨xs, H1, I1, r, z, q⟩ =>
    ⟨by rw [← r.length]; exact z, ⟨.ref _, _, laidT I1 r z, rfl, q _ _ (I1.hok.fresh (Nat.le_refl _)) rfl⟩⟩)⟩
theorem call_tupleP : CallR X (.type "tuple") (fun xs H Q => ∃ p ys, xs = [.ref p] ∧ ((SqL X.K H p ys ∧ NewT H Q ys) ∨ (SqT X.K H p ys ∧ Q (.ref p) H))) := by
  intro pins s σ H xs us Q I r h
  obtain ⟨p, ys, rfl, h⟩ := h
  rw [Vals.ref1 r]
  rcases h with ⟨hq, q⟩ | ⟨hq, q⟩
  · obtain ⟨its, rr, pl, hz⟩ := I.list hq
    have hn := rr.length
    refine call_tuple_list pl.isList (fun hp kp => ?_) (by rw [List.size_toArray]; omega)
    have I1 := I.kept (h' := hp) (t' := s.toks) kp
    exact ⟨.ref _, _, laidT I1 rr hz, rfl, q _ _ (I1.hok.fresh (Nat.le_refl _)) rfl⟩
  · obtain ⟨its, rr, pl, hz⟩ := I.tuple hq
    exact call_tuple_same pl ⟨.ref p, H, I, rfl, q⟩
theorem op_catP : OpR X (binaryOp .Add) (fun x y H Q => ∃ a b xs ys, x = .ref a ∧ y = .ref b ∧ SqT X.K H a xs ∧ SqT X.K H b ys ∧ xs.length + ys.length ≤ sizeLine ∧
    (xs = [] → Q (.ref b) H) ∧ (xs ≠ [] → ys = [] → Q (.ref a) H) ∧ (xs ≠ [] → ys ≠ [] → NewT H Q (xs ++ ys))) := by
  intro pins s σ H x y v u Q I rx ry h
  obtain ⟨a, b, xs, ys, rfl, rfl, ha, hb, hz, q0, q1, q2⟩ := h
  by_cases hx : xs = []
  · exact op_catA pins s σ H _ _ v u Q I rx ry ⟨a, b, xs, ys, rfl, rfl, ha, hb, hz, q0, fun w => absurd hx w, fun w => absurd hx w⟩
  · cases rx
    cases ry
    obtain ⟨us, r1, p1, _⟩ := I.tuple ha
    obtain ⟨ws, r2, p2, _⟩ := I.tuple hb
    refine HT.cat_tup p1 p2 (fun z => hx (r1.nil_iff.mp z)) (fun z => ⟨.ref a, H, I, rfl, q1 hx (r2.nil_iff.mp z)⟩) (fun z => ?_) (by rw [← r1.length, ← r2.length]; exact hz)
    exact ⟨.ref _, _, laidT I (r1.append r2) (by rw [List.length_append]; exact hz), rfl, q2 hx (fun w => z (r2.nil_iff.mpr w)) _ _ (I.hok.fresh (Nat.le_refl _)) rfl⟩
theorem sl_tupP : SlR X (fun x lo hi H Q => ∃ a xs, x = .ref a ∧ SqT X.K H a xs ∧
    (HT.sIx xs.length 0 lo = 0 ∧ HT.sIx xs.length xs.length hi = xs.length → Q (.ref a) H) ∧ (¬ (HT.sIx xs.length 0 lo = 0 ∧ HT.sIx xs.length xs.length hi = xs.length) → NewT H Q (cutV xs lo hi))) := by
  intro pins s σ H x v vl vu lo hi sl Q I rx hs pl pu h
  obtain ⟨a, xs, rfl, hx, q1, q2⟩ := h
  by_cases hw : HT.sIx xs.length 0 lo = 0 ∧ HT.sIx xs.length xs.length hi = xs.length
  · exact sl_tupA pins s σ H _ v vl vu lo hi sl Q I rx hs pl pu ⟨a, xs, rfl, hx, q1, fun w => absurd hw w⟩
  · cases rx
    obtain ⟨us, r, ht, hz⟩ := I.tuple hx
    have hn : us.toArray.size = xs.length := by rw [List.size_toArray]; exact r.length.symm
    refine ⟨"tuple", _, PyProof.Rows.slot_tuple_getitem.lookup, ht.typeIs, HT.getItem_tuple_cut ht hs pl pu (by rw [hn]; exact hw) ?_ (by rw [hn]; exact hz)⟩
    rw [hn]
    exact ⟨.ref _, _, laidT I ((r.drop _).take _) (Nat.le_trans (cutV_length xs lo hi) hz), rfl, q2 hw _ _ (I.hok.fresh (Nat.le_refl _)) rfl⟩
end
end Z

/-! Z1: data as trees, what represents them, readings of data. -/
namespace Z
open PySem L2

/-- an exception's object, held as a value -/
def ExK (cls : Value) (d : Option Addr) (a : Addr) : HO := .ext fun h => ∃ (oe : Obj) (vs : Array Value), h.get? a = some oe ∧ Zc cls d oe ∧ oe.data = .fields vs
inductive D where
  | non
  | bl (b : Bool)
  | int (i : Int)
  | str (s : Str)
  | tup (l : List D)
  | lst (l : List D)
  | glb (n : Nat)
  | obj (c : Nat) (l : List D)
  | dic (ks vs : List D)
  | fn (n : Nat)
  | xcp (c : Nat) (l : List D)
  | scr (l : List Int)
  | wtp (l : List D)

/-- objects that change: of the frame, of the whole -/
inductive LO where
  | lst (l : List D)
  | dic (ks vs : List D)
  | dead
inductive GO where
  | lst (l : List D)
  | ins (c : Nat) (l : List D)
  | dead

structure S where
  l : List LO
  g : List GO
structure Xc where
  c : Nat
  l : List D
inductive R (α : Type) where
  | ok (a : α) (s : S)
  | exc (x : Xc) (s : S)
  | bad
inductive Sl where
  | un
  | v (d : D)
  | l (n : Nat)
abbrev Rho := List Sl
abbrev Ex := Rho → S → R D
inductive RS where
  | nx (ρ : Rho) (s : S)
  | ret (d : D) (s : S)
  | brk (ρ : Rho) (s : S)
  | cnt (ρ : Rho) (s : S)
  | exc (x : Xc) (ρ : Rho) (s : S)
  | excF (x : Xc) (s : S)
  | bad
abbrev Stm := Rho → S → RS

def R.bind {α β : Type} (r : R α) (k : α → S → R β) : R β := match r with
  | .ok a s => k a s
  | .exc x s => .exc x s
  | .bad => .bad

/-! ### what represents what -/
/-- the stable part of the abstract heap, the frame's own objects, the objects of the whole -/
structure Wd where
  hs : Hp
  ll : List Addr
  lg : List Addr
/-- the law's constants: the written part, its own classes (address, attributes in order), its exception classes, its defs as values -/
structure Cn where
  K : PySem.W.Frag
  ce : Nat → Option (Addr × List Str)
  cx : Nat → Option (Addr × List Str)
  cf : Nat → Option Addr

def keyD : D → Option Key
  | .int i => some (.inl i)
  | .str s => some (.inr s)
  | _ => none

mutual
def Rep (C : Cn) (W : Wd) : D → V → Prop
  | .non, v => v = .non
  | .bl b, v => v = .bl b
  | .int i, v => v = .int i
  | .str s, v => v = .str s
  | .tup l, v => ∃ a vs, v = .ref a ∧ SqP C.K W.hs a vs ∧ RepL C W l vs
  | .lst l, v => ∃ a vs, v = .ref a ∧ W.hs a = some (.lst vs) ∧ RepL C W l vs
  | .glb n, v => ∃ a, v = .ref a ∧ W.lg[n]? = some a
  | .obj c l, v => ∃ (a dx A : Addr) (nm : List Str) (vs : List V), v = .ref a ∧ C.ce c = some (A, nm) ∧ W.hs a = some (.ins A dx (nm.zip vs)) ∧ RepL C W l vs
  | .dic ks xs, v => ∃ (a : Addr) (kk : List Key) (vs : List V), v = .ref a ∧ W.hs a = some (.dK (kk.zip vs)) ∧ ks.map keyD = kk.map some ∧ kk.length = vs.length ∧ RepL C W xs vs
  | .fn n, v => ∃ a, v = .ref a ∧ C.cf n = some a
  | .xcp c l, v => l = [] ∧ ∃ (a A : Addr) (nm : List Str), v = .ref a ∧ C.cx c = some (A, nm) ∧ W.hs a = some (ExK (.ref A) none a)
  | .scr l, v => ∃ a, v = .ref a ∧ SqL C.K W.hs a (l.map V.int)
  | .wtp l, v => ∃ a vs, v = .ref a ∧ SqT C.K W.hs a vs ∧ RepL C W l vs
def RepL (C : Cn) (W : Wd) : List D → List V → Prop
  | [], vs => vs = []
  | d :: l, vs => ∃ v r, vs = v :: r ∧ Rep C W d v ∧ RepL C W l r
end

def Wd.noll (W : Wd) : Wd := ⟨W.hs, [], W.lg⟩
def RepLO (C : Cn) (W : Wd) : LO → HO → Prop
  | .lst l, o => ∃ vs, o = .lst vs ∧ RepL C W l vs
  | .dic ks xs, o => ∃ (kk : List Key) (vs : List V), o = .dK (kk.zip vs) ∧ ks.map keyD = kk.map some ∧ kk.length = vs.length ∧ RepL C W xs vs
  | .dead, _ => True
def RepGO (C : Cn) (W : Wd) : GO → HO → Prop
  | .lst l, o => ∃ vs, o = .lst vs ∧ RepL C W l vs
  | .ins c l, o => ∃ (A : Addr) (nm : List Str) (dx : Addr) (vs : List V), C.ce c = some (A, nm) ∧ o = .ins A dx (nm.zip vs) ∧ RepL C W l vs
  | .dead, _ => True

/-- the state is held by the heap -/
structure Sim (C : Cn) (W : Wd) (s : S) (H : Hp) : Prop where
  sub : ∀ a o, W.hs a = some o → H a = some o
  ll : W.ll.length = s.l.length
  lv : ∀ (n : Nat) a o, W.ll[n]? = some a → s.l[n]? = some o → ∃ u, H a = some u ∧ RepLO C W o u
  lf : ∀ (n : Nat) a o, W.ll[n]? = some a → s.l[n]? = some o → o ≠ .dead → W.hs a = none
  gl : W.lg.length = s.g.length
  gv : ∀ (n : Nat) a o, W.lg[n]? = some a → s.g[n]? = some o → ∃ u, H a = some u ∧ RepGO C W o u
  gf : ∀ a, a ∈ W.lg → W.hs a = none
  nd : (W.ll ++ W.lg).Nodup

/-- what comes behind -/
structure Ext (W : Wd) (H : Hp) (W' : Wd) (H' : Hp) : Prop where
  hs : ∀ a o, W.hs a = some o → W'.hs a = some o
  new : ∀ a o, W'.hs a = some o → W.hs a = some o ∨ H a = none ∨ a ∈ W.ll
  ll : ∃ m, W'.ll = W.ll ++ m ∧ ∀ a, a ∈ m → H a = none
  lg : ∃ m, W'.lg = W.lg ++ m ∧ ∀ a, a ∈ m → H a = none
  fr : ∀ a o, H a = some o → a ∉ W.ll → a ∉ W.lg → H' a = some o
  dom : ∀ a, H' a = none → H a = none

theorem Ext.refl (W : Wd) (H : Hp) : Ext W H W H :=
  ⟨fun _ _ h => h, fun _ _ h => .inl h, ⟨[], by simp, fun _ h => by cases h⟩, ⟨[], by simp, fun _ h => by cases h⟩, fun _ _ h _ _ => h, fun _ h => h⟩
theorem Ext.trans {W W1 W2 : Wd} {H H1 H2 : Hp} (a : Ext W H W1 H1) (b : Ext W1 H1 W2 H2) : Ext W H W2 H2 where
  hs := fun x o h => b.hs x o (a.hs x o h)
  new := fun x o h => by
    rcases b.new x o h with h | h | h
    · exact a.new x o h
    · exact .inr (.inl (a.dom x h))
    · obtain ⟨m, e, f⟩ := a.ll
      rw [e] at h
      rcases List.mem_append.mp h with h | h
      · exact .inr (.inr h)
      · exact .inr (.inl (f x h))
  ll := by
    obtain ⟨m, e, f⟩ := a.ll
    obtain ⟨m', e', f'⟩ := b.ll
    refine ⟨m ++ m', by rw [e', e, List.append_assoc], fun x hx => ?_⟩
    rcases List.mem_append.mp hx with hx | hx
    · exact f x hx
    · exact a.dom x (f' x hx)
  lg := by
    obtain ⟨m, e, f⟩ := a.lg
    obtain ⟨m', e', f'⟩ := b.lg
    refine ⟨m ++ m', by rw [e', e, List.append_assoc], fun x hx => ?_⟩
    rcases List.mem_append.mp hx with hx | hx
    · exact f x hx
    · exact a.dom x (f' x hx)
  fr := fun x o h h1 h2 => by
    obtain ⟨m, e, f⟩ := a.ll
    obtain ⟨m', e', f'⟩ := a.lg
    refine b.fr x o (a.fr x o h h1 h2) ?_ ?_
    · rw [e]
      intro hm
      rcases List.mem_append.mp hm with hm | hm
      · exact h1 hm
      · have := f x hm
        rw [h] at this
        cases this
    · rw [e']
      intro hm
      rcases List.mem_append.mp hm with hm | hm
      · exact h2 hm
      · have := f' x hm
        rw [h] at this
        cases this
  dom := fun x h => a.dom x (b.dom x h)

theorem rd_mono {H H' : Hp} {a : Addr} {u : HO} (k : ∀ a o, H a = some o → H' a = some o) (h : Rd H a u) : Rd H' a u := by
  rcases h with h | ⟨o, h⟩
  · exact .inl (k _ _ h)
  · exact .inr ⟨o, k _ _ h⟩
theorem sql_mono {K : PySem.W.Frag} {H H' : Hp} {a : Addr} {xs : List V} (k : ∀ a o, H a = some o → H' a = some o) (h : SqL K H a xs) : SqL K H' a xs := by
  rcases h with h | h
  · exact .inl (rd_mono k h)
  · exact .inr h
theorem sqt_mono0 {K : PySem.W.Frag} {H H' : Hp} {a : Addr} {xs : List V} (k : ∀ a o, H a = some o → H' a = some o) (h : SqT K H a xs) : SqT K H' a xs := by
  rcases h with h | h
  · exact .inl (rd_mono k h)
  · exact .inr h
theorem sqp_mono {K : PySem.W.Frag} {H H' : Hp} {a : Addr} {xs : List V} (k : ∀ a o, H a = some o → H' a = some o) (h : SqP K H a xs) : SqP K H' a xs := by
  rcases h with ⟨ob, e, d⟩ | h
  · exact .inl ⟨ob, k _ _ e, d⟩
  · exact .inr h
theorem sqt_mono {K : PySem.W.Frag} {H H' : Hp} {a : Addr} {xs : List V} (k : ∀ a o, H a = some o → H' a = some o) (h : SqP K H a xs) : SqT K H' a xs := (sqp_mono k h).t

/-- a larger world -/
structure Le (W W' : Wd) : Prop where
  hs : ∀ a o, W.hs a = some o → W'.hs a = some o
  lg : ∀ (n : Nat) a, W.lg[n]? = some a → W'.lg[n]? = some a
theorem Le.refl (W : Wd) : Le W W := ⟨fun _ _ h => h, fun _ _ h => h⟩
theorem Le.trans {W W1 W2 : Wd} (a : Le W W1) (b : Le W1 W2) : Le W W2 := ⟨fun x o h => b.hs x o (a.hs x o h), fun n x h => b.lg n x (a.lg n x h)⟩
theorem Ext.le {W W' : Wd} {H H' : Hp} (e : Ext W H W' H') : Le W W' := by
  refine ⟨e.hs, fun n a h => ?_⟩
  obtain ⟨m, em, _⟩ := e.lg
  rw [em, List.getElem?_append_left (List.getElem?_eq_some_iff.mp h).1]
  exact h

mutual
theorem Rep.mono {C : Cn} {W W' : Wd} (k : Le W W') : ∀ (d : D) (v : V), Rep C W d v → Rep C W' d v
  | .non, _, h => by simpa [Rep] using h
  | .bl _, _, h => by simpa [Rep] using h
  | .int _, _, h => by simpa [Rep] using h
  | .str _, _, h => by simpa [Rep] using h
  | .tup l, v, h => by
    rw [Rep] at h ⊢
    obtain ⟨a, vs, e, q, r⟩ := h
    exact ⟨a, vs, e, sqp_mono k.hs q, RepL.mono k l vs r⟩
  | .lst l, v, h => by
    rw [Rep] at h ⊢
    obtain ⟨a, vs, e, q, r⟩ := h
    exact ⟨a, vs, e, k.hs _ _ q, RepL.mono k l vs r⟩
  | .glb n, v, h => by
    rw [Rep] at h ⊢
    obtain ⟨a, e, q⟩ := h
    exact ⟨a, e, k.lg n a q⟩
  | .obj c l, v, h => by
    rw [Rep] at h ⊢
    obtain ⟨a, dx, A, nm, vs, e, q, r, t⟩ := h
    exact ⟨a, dx, A, nm, vs, e, q, k.hs _ _ r, RepL.mono k l vs t⟩
  | .dic ks xs, v, h => by
    rw [Rep] at h ⊢
    obtain ⟨a, kk, vs, e, q, r, t, u⟩ := h
    exact ⟨a, kk, vs, e, k.hs _ _ q, r, t, RepL.mono k xs vs u⟩
  | .fn n, v, h => by simpa [Rep] using h
  | .xcp c l, v, h => by
    rw [Rep] at h ⊢
    obtain ⟨e, a, A, nm, q, r, z⟩ := h
    exact ⟨e, a, A, nm, q, r, k.hs _ _ z⟩
  | .scr l, v, h => by
    rw [Rep] at h ⊢
    obtain ⟨a, e, q⟩ := h
    exact ⟨a, e, sql_mono k.hs q⟩
  | .wtp l, v, h => by
    rw [Rep] at h ⊢
    obtain ⟨a, vs, e, q, r⟩ := h
    exact ⟨a, vs, e, sqt_mono0 k.hs q, RepL.mono k l vs r⟩
theorem RepL.mono {C : Cn} {W W' : Wd} (k : Le W W') : ∀ (l : List D) (vs : List V), RepL C W l vs → RepL C W' l vs
  | [], _, h => by simpa [RepL] using h
  | d :: l, vs, h => by
    rw [RepL] at h ⊢
    obtain ⟨v, r, e, q, t⟩ := h
    exact ⟨v, r, e, Rep.mono k d v q, RepL.mono k l r t⟩
end
section
variable {C : Cn} {W W' : Wd}
theorem RepL.nil : RepL C W [] [] := by rw [RepL]
theorem RepL.cons {d : D} {l : List D} {v : V} {vs : List V} (h : Rep C W d v) (t : RepL C W l vs) : RepL C W (d :: l) (v :: vs) := by
  rw [RepL]
  exact ⟨v, vs, rfl, h, t⟩
theorem RepL.length : ∀ {l : List D} {vs : List V}, RepL C W l vs → l.length = vs.length
  | [], _, h => by
    rw [RepL] at h
    subst h
    rfl
  | d :: l, _, h => by
    rw [RepL] at h
    obtain ⟨v, r, rfl, _, t⟩ := h
    simp [RepL.length t]
theorem RepL.get : ∀ {l : List D} {vs : List V} {i : Nat} {d : D}, RepL C W l vs → l[i]? = some d → ∃ v, vs[i]? = some v ∧ Rep C W d v
  | [], _, _, _, _, e => by simp at e
  | x :: l, _, 0, d, h, e => by
    rw [RepL] at h
    obtain ⟨v, r, rfl, q, t⟩ := h
    simp at e
    subst e
    exact ⟨v, rfl, q⟩
  | x :: l, _, i + 1, d, h, e => by
    rw [RepL] at h
    obtain ⟨v, r, rfl, q, t⟩ := h
    obtain ⟨w, e1, e2⟩ := RepL.get (i := i) t (by simpa using e)
    exact ⟨w, by simpa using e1, e2⟩
theorem RepL.getV : ∀ {l : List D} {vs : List V} {i : Nat} {v : V}, RepL C W l vs → vs[i]? = some v → ∃ d, l[i]? = some d ∧ Rep C W d v
  | [], _, _, _, h, e => by
    rw [RepL] at h
    subst h
    simp at e
  | x :: l, _, 0, v, h, e => by
    rw [RepL] at h
    obtain ⟨v, r, rfl, q, t⟩ := h
    simp at e
    subst e
    exact ⟨x, rfl, q⟩
  | x :: l, _, i + 1, v, h, e => by
    rw [RepL] at h
    obtain ⟨v, r, rfl, q, t⟩ := h
    obtain ⟨w, e1, e2⟩ := RepL.getV (i := i) t (by simpa using e)
    exact ⟨w, by simpa using e1, e2⟩
theorem RepL.append : ∀ {l m : List D} {vs ws : List V}, RepL C W l vs → RepL C W m ws → RepL C W (l ++ m) (vs ++ ws)
  | [], _, _, _, h, h' => by
    rw [RepL] at h
    subst h
    exact h'
  | d :: l, _, _, _, h, h' => by
    rw [RepL] at h
    obtain ⟨v, r, rfl, q, t⟩ := h
    exact RepL.cons q (RepL.append t h')
theorem RepL.take : ∀ {l : List D} {vs : List V} (n : Nat), RepL C W l vs → RepL C W (l.take n) (vs.take n)
  | [], _, n, h => by
    rw [RepL] at h
    subst h
    simp
    exact RepL.nil
  | d :: l, _, 0, h => by
    simp
    exact RepL.nil
  | d :: l, _, n + 1, h => by
    rw [RepL] at h
    obtain ⟨v, r, rfl, q, t⟩ := h
    simp only [List.take_succ_cons]
    exact RepL.cons q (RepL.take n t)
theorem RepL.drop : ∀ {l : List D} {vs : List V} (n : Nat), RepL C W l vs → RepL C W (l.drop n) (vs.drop n)
  | [], _, n, h => by
    rw [RepL] at h
    subst h
    simp
    exact RepL.nil
  | d :: l, _, 0, h => by simpa using h
  | d :: l, _, n + 1, h => by
    rw [RepL] at h
    obtain ⟨v, r, rfl, q, t⟩ := h
    simp only [List.drop_succ_cons]
    exact RepL.drop n t
theorem RepL.set : ∀ {l : List D} {vs : List V} (n : Nat) {d : D} {v : V}, RepL C W l vs → Rep C W d v → RepL C W (l.set n d) (vs.set n v)
  | [], _, n, _, _, h, q => by
    rw [RepL] at h
    subst h
    simp
    exact RepL.nil
  | d :: l, _, 0, _, _, h, q' => by
    rw [RepL] at h
    obtain ⟨v, r, rfl, q, t⟩ := h
    simp
    exact RepL.cons q' t
  | d :: l, _, n + 1, _, _, h, q' => by
    rw [RepL] at h
    obtain ⟨v, r, rfl, q, t⟩ := h
    simp only [List.set_cons_succ]
    exact RepL.cons q (RepL.set n t q')
theorem RepL.ints : ∀ (l : List Int), RepL C W (l.map D.int) (l.map V.int)
  | [] => RepL.nil
  | i :: l => RepL.cons (by rw [Rep]) (RepL.ints l)
theorem RepL.strs : ∀ (l : List Str), RepL C W (l.map D.str) (l.map V.str)
  | [] => RepL.nil
  | i :: l => RepL.cons (by rw [Rep]) (RepL.strs l)
theorem RepL.bools : ∀ (l : List Bool), RepL C W (l.map D.bl) (l.map V.bl)
  | [] => RepL.nil
  | i :: l => RepL.cons (by rw [Rep]) (RepL.bools l)
theorem RepL.ofInts : ∀ {l : List Int} {vs : List V}, RepL C W (l.map D.int) vs → vs = l.map V.int
  | [], _, h => by
    rw [List.map_nil, RepL] at h
    exact h
  | i :: l, _, h => by
    rw [List.map_cons, RepL] at h
    obtain ⟨v, r, rfl, q, t⟩ := h
    rw [Rep] at q
    rw [q, RepL.ofInts t, List.map_cons]
theorem RepL.ofStrs : ∀ {l : List Str} {vs : List V}, RepL C W (l.map D.str) vs → vs = l.map V.str
  | [], _, h => by
    rw [List.map_nil, RepL] at h
    exact h
  | i :: l, _, h => by
    rw [List.map_cons, RepL] at h
    obtain ⟨v, r, rfl, q, t⟩ := h
    rw [Rep] at q
    rw [q, RepL.ofStrs t, List.map_cons]
theorem RepL.ofBools : ∀ {l : List Bool} {vs : List V}, RepL C W (l.map D.bl) vs → vs = l.map V.bl
  | [], _, h => by
    rw [List.map_nil, RepL] at h
    exact h
  | i :: l, _, h => by
    rw [List.map_cons, RepL] at h
    obtain ⟨v, r, rfl, q, t⟩ := h
    rw [Rep] at q
    rw [q, RepL.ofBools t, List.map_cons]
theorem RepLO.mono (k : Le W W') : ∀ (o : LO) (u : HO), RepLO C W o u → RepLO C W' o u
  | .lst l, u, h => by
    obtain ⟨vs, e, q⟩ := h
    exact ⟨vs, e, q.mono k⟩
  | .dic ks xs, u, h => by
    obtain ⟨kk, vs, e, q, r, t⟩ := h
    exact ⟨kk, vs, e, q, r, t.mono k⟩
  | .dead, _, _ => trivial
theorem RepGO.mono (k : Le W W') : ∀ (o : GO) (u : HO), RepGO C W o u → RepGO C W' o u
  | .lst l, u, h => by
    obtain ⟨vs, e, q⟩ := h
    exact ⟨vs, e, q.mono k⟩
  | .ins c l, u, h => by
    obtain ⟨A, nm, dx, vs, e, q, r⟩ := h
    exact ⟨A, nm, dx, vs, e, q, r.mono k⟩
  | .dead, _, _ => trivial
end

/-- the frame's slots -/
def RepS (C : Cn) (W : Wd) : Sl → Option V → Prop
  | .un, _ => True
  | .v d, o => ∃ v, o = some v ∧ Rep C W d v
  | .l n, o => ∃ a, o = some (.ref a) ∧ W.ll[n]? = some a
structure EnvR (C : Cn) (W : Wd) (ρ : Rho) (σ : St) : Prop where
  len : ρ.length = σ.length
  at_ : ∀ (i : Nat) x, ρ[i]? = some x → ∃ o, σ[i]? = some o ∧ RepS C W x o
theorem EnvR.mono {C : Cn} {W W' : Wd} {ρ : Rho} {σ : St} {H H' : Hp} (h : EnvR C W ρ σ) (e : Ext W H W' H') : EnvR C W' ρ σ := by
  refine ⟨h.len, fun i x hx => ?_⟩
  obtain ⟨o, q, r⟩ := h.at_ i x hx
  refine ⟨o, q, ?_⟩
  cases x with
  | un => trivial
  | v d =>
    obtain ⟨v, e1, e2⟩ := r
    exact ⟨v, e1, e2.mono e.le⟩
  | l n =>
    obtain ⟨a, e1, e2⟩ := r
    obtain ⟨m, em, _⟩ := e.ll
    refine ⟨a, e1, ?_⟩
    rw [em, List.getElem?_append_left (List.getElem?_eq_some_iff.mp e2).1]
    exact e2
theorem EnvR.set {C : Cn} {W : Wd} {ρ : Rho} {σ : St} {i : Nat} {x : Sl} {v : V} (h : EnvR C W ρ σ) (r : RepS C W x (some v)) : EnvR C W (ρ.set i x) (σ.set i (some v)) := by
  refine ⟨by simp [h.len], fun j y hy => ?_⟩
  by_cases e : i = j
  · subst e
    by_cases hi : i < ρ.length
    · rw [List.getElem?_set_self hi] at hy
      cases hy
      exact ⟨some v, List.getElem?_set_self (by rw [← h.len]; exact hi), r⟩
    · rw [List.getElem?_eq_none (by simpa using hi)] at hy
      cases hy
  · rw [List.getElem?_set_ne e] at hy
    rw [List.getElem?_set_ne e]
    exact h.at_ j y hy
theorem EnvR.start {C : Cn} {W : Wd} {ds : List D} {vs : List V} {N : List Str} (h : RepL C W ds vs) : EnvR C W (ds.map Sl.v ++ List.replicate (N.length - ds.length) Sl.un) (L2.start N vs) := by
  have hl := h.length
  refine ⟨by simp [L2.start, hl], fun i x hx => ?_⟩
  unfold L2.start
  by_cases hi : i < ds.length
  · rw [List.getElem?_append_left (by simpa using hi), List.getElem?_map] at hx
    cases e : ds[i]? with
    | none => rw [e] at hx; cases hx
    | some d =>
      rw [e] at hx
      cases hx
      obtain ⟨v, e1, e2⟩ := h.get e
      refine ⟨some v, ?_, v, rfl, e2⟩
      rw [List.getElem?_append_left (by simp; omega), List.getElem?_map, e1]
      rfl
  · rw [List.getElem?_append_right (by simpa using hi), List.getElem?_replicate] at hx
    split at hx
    · cases hx
      rename_i hlt
      refine ⟨none, ?_, trivial⟩
      rw [List.getElem?_append_right (by simp; omega), List.getElem?_replicate, if_pos (by simp at hlt ⊢; omega)]
    · cases hx

/-! ### outcomes -/
/-- how an exception is represented -/
def RepX (C : Cn) (W : Wd) (x : Xc) (cls : Value) (d : Option Addr) (H : Hp) : Prop :=
  x.l = [] ∧ d = none ∧ ∃ (A : Addr) (nm : List Str), C.cx x.c = some (A, nm) ∧ cls = .ref A
def Out {α β : Type} (P : Wd → α → β → Prop) (C : Cn) (Wx : WX) (σ : St) (W : Wd) (H : Hp) (Q : β → Hp → Prop) : R α → Prop
  | .ok d s => ∀ W' v H', Ext W H W' H' → Sim C W' s H' → P W' d v → Q v H'
  | .exc x s => ∀ W' H' cls dx, Ext W H W' H' → Sim C W' s H' → RepX C W' x cls dx H' → Wx cls dx σ H'
  | .bad => False
def PB : Wd → Bool → Bool → Prop := fun _ a b => a = b
section
variable {C : Cn} {W W1 : Wd} {s : S} {H H1 : Hp}
theorem Sim.lat (h : Sim C W s H) {a : Addr} (ha : a ∈ W.ll) : ∃ u, H a = some u := by
  obtain ⟨n, hn⟩ := List.mem_iff_getElem?.mp ha
  have hl := h.ll
  have hlt : n < s.l.length := by
    have := (List.getElem?_eq_some_iff.mp hn).1
    omega
  obtain ⟨u, e, _⟩ := h.lv n a _ hn (List.getElem?_eq_getElem hlt)
  exact ⟨u, e⟩
theorem Sim.gat (h : Sim C W s H) {a : Addr} (ha : a ∈ W.lg) : ∃ u, H a = some u := by
  obtain ⟨n, hn⟩ := List.mem_iff_getElem?.mp ha
  have hl := h.gl
  have hlt : n < s.g.length := by
    have := (List.getElem?_eq_some_iff.mp hn).1
    omega
  obtain ⟨u, e, _⟩ := h.gv n a _ hn (List.getElem?_eq_getElem hlt)
  exact ⟨u, e⟩
/-- a new stable object -/
theorem Ext.alloc {p : Addr} (hp : H p = none) (o : HO) (h : Sim C W s H) : Ext W H ⟨upd W.hs p o, W.ll, W.lg⟩ (upd H p o) := by
  have hwp : W.hs p = none := by
    cases e : W.hs p with
    | none => rfl
    | some u => rw [h.sub p u e] at hp; cases hp
  refine ⟨fun a u e => by show upd W.hs p o a = some u; rw [upd_ne (ne_of_none e hwp)]; exact e, fun a u e => ?_, ⟨[], by simp, fun _ h => by cases h⟩, ⟨[], by simp, fun _ h => by cases h⟩, fun a u e _ _ => by rw [upd_ne (ne_of_none e hp)]; exact e, fun a e => ?_⟩
  · by_cases ha : a = p
    · subst ha
      exact .inr (.inl hp)
    · exact .inl (by have e : upd W.hs p o a = some u := e; rw [upd_ne ha] at e; exact e)
  · by_cases ha : a = p
    · subst ha
      rw [upd_same] at e
      cases e
    · rw [upd_ne ha] at e
      exact e
theorem Sim.alloc {p : Addr} (hp : H p = none) (o : HO) (h : Sim C W s H) : Sim C ⟨upd W.hs p o, W.ll, W.lg⟩ s (upd H p o) := by
  have hle := (Ext.alloc hp o h).le
  refine ⟨fun a u e => ?_, h.ll, fun n a x e1 e2 => ?_, fun n a x e1 e2 hd => ?_, h.gl, fun n a x e1 e2 => ?_, fun a ha => ?_, h.nd⟩
  · by_cases ha : a = p
    · subst ha
      have e : upd W.hs a o a = some u := e
      rw [upd_same] at e ⊢
      exact e
    · have e : upd W.hs p o a = some u := e
      rw [upd_ne ha] at e ⊢
      exact h.sub a u e
  · obtain ⟨u, e, r⟩ := h.lv n a x e1 e2
    exact ⟨u, by rw [upd_ne (ne_of_none e hp)]; exact e, r.mono hle _ _⟩
  · obtain ⟨u, e⟩ := h.lat (List.mem_of_getElem? e1)
    show upd W.hs p o a = none
    rw [upd_ne (ne_of_none e hp)]
    exact h.lf n a x e1 e2 hd
  · obtain ⟨u, e, r⟩ := h.gv n a x e1 e2
    exact ⟨u, by rw [upd_ne (ne_of_none e hp)]; exact e, r.mono hle _ _⟩
  · obtain ⟨u, e⟩ := h.gat ha
    show upd W.hs p o a = none
    rw [upd_ne (ne_of_none e hp)]
    exact h.gf a ha
section
variable {α β γ δ : Type} {P : Wd → α → β → Prop} {P' : Wd → γ → δ → Prop} {Wx : WX} {σ : St} {Q : β → Hp → Prop} {r : R α}
theorem Out.ext (e : Ext W H W1 H1) (h : Out P C Wx σ W H Q r) : Out P C Wx σ W1 H1 Q r := by
  cases r with
  | ok d s => exact fun W' v H' e' => h W' v H' (e.trans e')
  | exc x s => exact fun W' H' c d e' => h W' H' c d (e.trans e')
  | bad => exact h
theorem Out.bind {Q : δ → Hp → Prop} {k : α → S → R γ} (h : Out P' C Wx σ W H Q (r.bind k)) :
    Out P C Wx σ W H (fun v H1 => ∃ W1 s1 d, Ext W H W1 H1 ∧ Sim C W1 s1 H1 ∧ P W1 d v ∧ Out P' C Wx σ W1 H1 Q (k d s1)) r := by
  cases r with
  | ok d s => exact fun W' v H' e' sm p => ⟨W', s, d, e', sm, p, h.ext e'⟩
  | exc x s => exact h
  | bad => exact h
theorem Out.mono {Q' : β → Hp → Prop} (h : Out P C Wx σ W H Q r) (k : ∀ v H, Q v H → Q' v H) : Out P C Wx σ W H Q' r := by
  cases r with
  | ok d s => exact fun W' v H' e' sm p => k _ _ (h W' v H' e' sm p)
  | exc x s => exact h
  | bad => exact h
end
/-- an outcome at hand -/
theorem Out.now {d : D} {Wx : WX} {σ : St} {Q : VK} {v : V} (h : Out (Rep C) C Wx σ W H Q (.ok d s)) (sm : Sim C W s H) (r : Rep C W d v) : Q v H := h W v H (Ext.refl W H) sm r
theorem Out.nowB {b : Bool} {Wx : WX} {σ : St} {Q : Bool → Hp → Prop} (h : Out PB C Wx σ W H Q (.ok b s)) (sm : Sim C W s H) : Q b H := h W b H (Ext.refl W H) sm rfl
/-- a new list, tuple -/
theorem Out.newL {l : List D} {Wx : WX} {σ : St} {Q : VK} {vs : List V} {p : Addr} (h : Out (Rep C) C Wx σ W H Q (.ok (.lst l) s)) (sm : Sim C W s H) (r : RepL C W l vs) (hp : H p = none) : Q (.ref p) (upd H p (.lst vs)) :=
  h _ _ _ (Ext.alloc hp _ sm) (sm.alloc hp _) (by rw [Rep]; exact ⟨p, vs, rfl, upd_same, r.mono (Ext.alloc hp _ sm).le⟩)
theorem Out.newT {l : List D} {Wx : WX} {σ : St} {Q : VK} {vs : List V} (h : Out (Rep C) C Wx σ W H Q (.ok (.tup l) s)) (sm : Sim C W s H) (r : RepL C W l vs) : NewT H Q vs := fun p ob hp hob =>
  h _ _ _ (Ext.alloc hp _ sm) (sm.alloc hp _) (by rw [Rep]; exact ⟨p, vs, rfl, .inl ⟨ob, upd_same, hob⟩, r.mono (Ext.alloc hp _ sm).le⟩)
end
theorem pe_imp {X : Cx} {e : Expr} {t t' : TE} (h : PE X e t) (k : ∀ σ H Q, t' σ H Q → t σ H Q) : PE X e t' := ⟨fun pins s σ H Q I q => h.run pins s σ H Q I (k _ _ _ q)⟩
theorem pt_imp {X : Cx} {e : Expr} {t t' : TT} (h : PT X e t) (k : ∀ σ H Q, t' σ H Q → t σ H Q) : PT X e t' := ⟨fun pins s σ H Q I q => h.run pins s σ H Q I (k _ _ _ q)⟩
theorem pw_imp {X : Cx} {e : Expr} {t t' : TT} (h : PW X e t) (k : ∀ σ H Q, t' σ H Q → t σ H Q) : PW X e t' := ⟨fun wh pins s σ H Q I q => h.run wh pins s σ H Q I (k _ _ _ q)⟩
theorem pa_imp {X : Cx} {es : List Expr} {t t' : TA} (h : PA X es t) (k : ∀ σ H Q, t' σ H Q → t σ H Q) : PA X es t' := ⟨fun p pins s σ H Q I q => h.run p pins s σ H Q I (k _ _ _ q)⟩
theorem ps_imp {X : Cx} {st : Stmt} {t t' : TS} (h : PS X st t) (k : ∀ D σ H, t' D σ H → t D σ H) : PS X st t' := ⟨fun pins s σ H D I q => h.run pins s σ H D I (k _ _ _ q)⟩
theorem pss_imp {X : Cx} {st : List Stmt} {t t' : TS} (h : PSs X st t) (k : ∀ D σ H, t' D σ H → t D σ H) : PSs X st t' := ⟨fun pins s σ H D I q => h.run pins s σ H D I (k _ _ _ q)⟩

/-! ### readings by data -/
def tE (C : Cn) (Wx : WX) (f : Ex) : TE := fun σ H Q => ∃ ρ W s, EnvR C W ρ σ ∧ Sim C W s H ∧ Out (Rep C) C Wx σ W H Q (f ρ s)
def tB (C : Cn) (Wx : WX) (f : Rho → S → R Bool) : TT := fun σ H Q => ∃ ρ W s, EnvR C W ρ σ ∧ Sim C W s H ∧ Out PB C Wx σ W H Q (f ρ s)
def tA (C : Cn) (Wx : WX) (f : Rho → S → R (List D)) : TA := fun σ H Q => ∃ ρ W s, EnvR C W ρ σ ∧ Sim C W s H ∧ Out (RepL C) C Wx σ W H Q (f ρ s)
end Z

/-! Z2: operators on data, expressions. -/
namespace Z
open PySem L2

def gd {α : Type} (c : Bool) (r : R α) : R α := match c with
  | true => r
  | false => .bad
theorem gd_ok {α β : Type} {P : Wd → α → β → Prop} {C : Cn} {Wx : WX} {σ : St} {W : Wd} {H : Hp} {Q : β → Hp → Prop} {c : Bool} {r : R α} (h : Out P C Wx σ W H Q (gd c r)) : c = true ∧ Out P C Wx σ W H Q r := by
  cases c with
  | true => exact ⟨rfl, h⟩
  | false => exact h.elim
/-! ### data as the library's data -/
mutual
def toP : D → PyData
  | .non => .none
  | .bl b => .bool b
  | .int i => .int i
  | .str s => .str s
  | .tup l => .tuple (toPs l)
  | .lst l => .list (toPs l)
  | .glb _ => .dict []
  | .obj _ _ => .dict []
  | .dic _ _ => .dict []
  | .fn _ => .dict []
  | .xcp _ _ => .dict []
  | .scr _ => .dict []
  | .wtp _ => .dict []
def toPs : List D → List PyData
  | [] => []
  | d :: l => toP d :: toPs l
end
theorem toPs_map : ∀ l : List D, toPs l = l.map toP
  | [] => rfl
  | d :: l => by rw [toPs, toPs_map l, List.map_cons]
theorem toPs_ints : ∀ l : List Int, toPs (l.map D.int) = l.map PyData.int
  | [] => rfl
  | d :: l => by rw [List.map_cons, toPs, toPs_ints l, List.map_cons, toP]
mutual
theorem Rep.dp {C : Cn} {W : Wd} {H : Hp} (k : ∀ a o, W.hs a = some o → H a = some o) : ∀ (d : D) (v : V), Rep C W d v → (toP d).canLay0 = true → Dp C.K H v (toP d)
  | .non, v, h, _ => by
    rw [Rep] at h
    subst h
    exact .non
  | .bl b, v, h, _ => by
    rw [Rep] at h
    subst h
    exact .bl b
  | .int b, v, h, _ => by
    rw [Rep] at h
    subst h
    exact .int b
  | .str b, v, h, _ => by
    rw [Rep] at h
    subst h
    exact .str b
  | .tup l, v, h, c => by
    rw [Rep] at h
    obtain ⟨a, vs, rfl, q, r⟩ := h
    rw [toP, PyData.canLay0] at c
    rw [toP]
    exact .tup (sqt_mono k q) (RepL.dp k l vs r c)
  | .lst l, v, h, c => by
    rw [Rep] at h
    obtain ⟨a, vs, rfl, q, r⟩ := h
    rw [toP, PyData.canLay0] at c
    rw [toP]
    exact .lst (.inl (.inl (k _ _ q))) (RepL.dp k l vs r c)
  | .glb _, v, h, c => by simp [toP, PyData.canLay0] at c
  | .obj _ _, v, h, c => by simp [toP, PyData.canLay0] at c
  | .dic _ _, v, h, c => by simp [toP, PyData.canLay0] at c
  | .fn _, v, h, c => by simp [toP, PyData.canLay0] at c
  | .xcp _ _, v, h, c => by simp [toP, PyData.canLay0] at c
  | .scr _, v, h, c => by simp [toP, PyData.canLay0] at c
  | .wtp _, v, h, c => by simp [toP, PyData.canLay0] at c
theorem RepL.dp {C : Cn} {W : Wd} {H : Hp} (k : ∀ a o, W.hs a = some o → H a = some o) : ∀ (l : List D) (vs : List V), RepL C W l vs → PyData.canLayAll0 (toPs l) = true → DpAll C.K H vs (toPs l)
  | [], vs, h, _ => by
    rw [RepL] at h
    subst h
    exact .nil
  | d :: l, vs, h, c => by
    rw [RepL] at h
    obtain ⟨v, r, rfl, q, t⟩ := h
    rw [toPs, PyData.canLayAll0, Bool.and_eq_true] at c
    rw [toPs]
    exact .cons (Rep.dp k d v q c.1) (RepL.dp k l r t c.2)
end
def shp (d : D) : Bool := SeqAt.shaped (toP d)
theorem shp_lay {d : D} (h : shp d = true) : (toP d).canLay0 = true := SeqAt.canLay_of_shaped h

/-! ### an operator by data -/
abbrev F2 := D → D → S → R D
abbrev F1 := D → S → R D
def rD (C : Cn) (F : F2) : R2 := fun x y H Q => ∃ Wx σ W s d e, Sim C W s H ∧ Rep C W d x ∧ Rep C W e y ∧ Out (Rep C) C Wx σ W H Q (F d e s)
def rU1 (C : Cn) (F : F1) : V → Hp → VK → Prop := fun x H Q => ∃ Wx σ W s d, Sim C W s H ∧ Rep C W d x ∧ Out (Rep C) C Wx σ W H Q (F d s)
def eBin (F : F2) (f g : Ex) : Ex := fun ρ s => (f ρ s).bind fun d s => (g ρ s).bind fun e s => F d e s
def eUn (F : F1) (f : Ex) : Ex := fun ρ s => (f ρ s).bind F
section
variable {X : Cx} {C : Cn} {Wx : WX} {a b e : Expr} {f g : Ex} {pos : Pos} {F : F2} {G : F1} {k : Nat}
theorem tOp_of {r : R2} (hr : ∀ Wx σ W s H x y d e Q, Sim C W s H → Rep C W d x → Rep C W e y → Out (Rep C) C Wx σ W H Q (F d e s) → r x y H Q) {σ : St} {H : Hp} {Q : VK} (h : tE C Wx (eBin F f g) σ H Q) :
    tOp r (tE C Wx f) (tE C Wx g) σ H Q := by
  obtain ⟨ρ, W, s, er, sm, o⟩ := h
  refine ⟨ρ, W, s, er, sm, Out.mono (Out.bind (P := Rep C) o) ?_⟩
  rintro x H1 ⟨W1, s1, d, e1, sm1, r1, o1⟩
  refine ⟨ρ, W1, s1, er.mono e1, sm1, Out.mono (Out.bind (P := Rep C) o1) ?_⟩
  rintro y H2 ⟨W2, s2, d2, e2, sm2, r2, o2⟩
  exact hr _ _ _ _ _ _ _ _ _ _ sm2 (r1.mono e2.le) r2 o2
theorem tUn_of {r : V → Hp → VK → Prop} (hr : ∀ Wx σ W s H x d Q, Sim C W s H → Rep C W d x → Out (Rep C) C Wx σ W H Q (G d s) → r x H Q) {σ : St} {H : Hp} {Q : VK} (h : tE C Wx (eUn G f) σ H Q) :
    tUn r (tE C Wx f) σ H Q := by
  obtain ⟨ρ, W, s, er, sm, o⟩ := h
  refine ⟨ρ, W, s, er, sm, Out.mono (Out.bind (P := Rep C) o) ?_⟩
  rintro x H1 ⟨W1, s1, d, e1, sm1, r1, o1⟩
  exact hr _ _ _ _ _ _ _ _ sm1 r1 o1
theorem ze_op {op : Operator} (ho : OpR X (binaryOp op) (rD C F)) (ha : PE X a (tE C Wx f)) (hb : PE X b (tE C Wx g)) : PE X (.BinOp a op b pos) (tE C Wx (eBin F f g)) :=
  pe_imp (pe_op ho ha hb) fun _ _ _ h => tOp_of (fun Wx σ W s H x y d e Q s1 r1 r2 o => ⟨Wx, σ, W, s, d, e, s1, r1, r2, o⟩) h
theorem ze_un {op : UnaryOp} (ho : UnR X (unaryOp op) (rU1 C G)) (ha : PE X a (tE C Wx f)) : PE X (.UnaryOp op a pos) (tE C Wx (eUn G f)) :=
  pe_imp (pe_un ho ha) fun _ _ _ h => tUn_of (fun Wx σ W s H x d Q s1 r1 o => ⟨Wx, σ, W, s, d, s1, r1, o⟩) h
theorem ze_cmp {op : CmpOp} (ho : OpR X (compareOp op) (rD C F)) (ha : PE X a (tE C Wx f)) (hb : PE X b (tE C Wx g)) (hm : behindInMarks op b = false) : PE X (.Compare a [op] [b] pos) (tE C Wx (eBin F f g)) :=
  pe_imp (pe_cmpR ho ha hb hm) fun _ _ _ h => tOp_of (fun Wx σ W s H x y d e Q s1 r1 r2 o => ⟨Wx, σ, W, s, d, e, s1, r1, r2, o⟩) h
/-- a comparison by data -/
def CmpZ (X : Cx) (C : Cn) (Wx : WX) (a : Expr) (op : CmpOp) (b : Expr) (f : Ex) : Prop :=
  ∃ (r : R2) (ta tb : TE), OpR X (compareOp op) r ∧ PE X a ta ∧ PE X b tb ∧ behindInMarks op b = false ∧ ∀ σ H Q, tE C Wx f σ H Q → tOp r ta tb σ H Q
theorem zc_cmp {op : CmpOp} (ho : OpR X (compareOp op) (rD C F)) (ha : PE X a (tE C Wx f)) (hb : PE X b (tE C Wx g)) (hm : behindInMarks op b = false) : CmpZ X C Wx a op b (eBin F f g) :=
  ⟨_, _, _, ho, ha, hb, hm, fun _ _ _ h => tOp_of (fun Wx σ W s H x y d e Q s1 r1 r2 o => ⟨Wx, σ, W, s, d, e, s1, r1, r2, o⟩) h⟩
theorem ze_c {op : CmpOp} (h : CmpZ X C Wx a op b f) : PE X (.Compare a [op] [b] pos) (tE C Wx f) := by
  obtain ⟨r, ta, tb, ho, ha, hb, hm, k⟩ := h
  exact pe_imp (pe_cmpR ho ha hb hm) k
/-- a truth value as a test -/
def bC (f : Ex) : Rho → S → R Bool := fun ρ s => (f ρ s).bind fun d s => match d with
  | .bl b => .ok b s
  | _ => .bad
theorem zt_c {op : CmpOp} (h : CmpZ X C Wx a op b f) : PT X (.Compare a [op] [b] pos) (Z.tB C Wx (bC f)) := by
  obtain ⟨r, ta, tb, ho, ha, hb, hm, k⟩ := h
  refine pt_imp (pt_cmpR ho ha hb hm) fun σ H Q ⟨ρ, W, s, er, sm, o⟩ => k _ _ _ ⟨ρ, W, s, er, sm, Out.mono (Out.bind (P := Rep C) o) ?_⟩
  rintro v H1 ⟨W1, s1, d, e1, sm1, r1, o1⟩
  split at o1
  · rw [Rep] at r1
    subst r1
    exact ⟨_, rfl, o1.nowB sm1⟩
  · exact o1.elim
def IxD (X : Cx) (C : Cn) (F : F2) : Prop := IxR X (rD C F)
theorem ze_ix (ho : IxR X (rD C F)) (ha : PE X a (tE C Wx f)) (hb : PE X b (tE C Wx g)) (hs : PlainIx b) : PE X (.Subscript a b pos) (tE C Wx (eBin F f g)) :=
  pe_imp (pe_ix ho ha hb hs) fun _ _ _ h => tOp_of (fun Wx σ W s H x y d e Q s1 r1 r2 o => ⟨Wx, σ, W, s, d, e, s1, r1, r2, o⟩) h
end

/-! ### names, constants -/
def slot : Rho → Nat → Sl
  | [], _ => .un
  | x :: _, 0 => x
  | _ :: r, n + 1 => slot r n
theorem slot_get : ∀ (ρ : Rho) (n : Nat) (x : Sl), slot ρ n = x → x ≠ .un → ρ[n]? = some x
  | [], _, x, h, hn => absurd h.symm hn
  | y :: _, 0, x, h, _ => by simp [slot] at h; simp [h]
  | _ :: r, n + 1, x, h, hn => by simpa using slot_get r n x h hn
def eVar (i : Nat) : Ex := fun ρ s => match slot ρ i with
  | .v d => .ok d s
  | _ => .bad
def eC (d : D) : Ex := fun _ s => .ok d s
section
variable {X : Cx} {C : Cn} {Wx : WX}
theorem ze_var {i : Nat} {x : Str} {pos : Pos} (h : PE X (.Name x pos) (tVar i)) : PE X (.Name x pos) (tE C Wx (eVar i)) :=
  pe_imp h fun σ H Q ⟨ρ, W, s, er, sm, o⟩ => by
    unfold eVar at o
    split at o
    · rename_i d hd
      obtain ⟨v, q, w, e1, e2⟩ := er.at_ i _ (slot_get ρ i _ hd (by intro z; cases z))
      exact ⟨w, by rw [q, e1], o.now sm e2⟩
    · exact o.elim
theorem tc_imp {d : D} {v : V} (hr : ∀ W, Rep C W d v) {σ : St} {H : Hp} {Q : VK} (h : tE C Wx (eC d) σ H Q) : tC v σ H Q := by
  obtain ⟨ρ, W, s, er, sm, o⟩ := h
  exact o.now sm (hr W)
theorem ze_int {i : Int} {j pos} : PE X (.Constant (.int i) j pos) (tE C Wx (eC (.int i))) := pe_imp pe_int fun _ _ _ h => tc_imp (fun W => by rw [Rep]) h
theorem ze_bl {i : Bool} {j pos} : PE X (.Constant (.bool i) j pos) (tE C Wx (eC (.bl i))) := pe_imp pe_bl fun _ _ _ h => tc_imp (fun W => by rw [Rep]) h
theorem ze_str {i : Str} {j pos} : PE X (.Constant (.str i) j pos) (tE C Wx (eC (.str i))) := pe_imp pe_str fun _ _ _ h => tc_imp (fun W => by rw [Rep]) h
theorem ze_non {j pos} : PE X (.Constant .none j pos) (tE C Wx (eC .non)) := pe_imp pe_non fun _ _ _ h => tc_imp (fun W => by rw [Rep]) h
/-- a constant of the module -/
theorem ze_glob {x : Str} {d : D} {v : V} {u : Value} {pos : Pos} (hg : Gl X x) (hm : X.mg x = some u) (r : RelV v u) (hr : ∀ W, Rep C W d v) (hd : (x == ("__debug__" : Str)) = false := by decide) : PE X (.Name x pos) (tE C Wx (eC d)) :=
  pe_imp (pe_glob hg hm r hd) fun _ _ _ h => tc_imp hr h
end

/-! ### the operators -/
def sz2 (m n : Nat) : Bool := decide (m + n ≤ 16777216)
theorem sz2_le {m n : Nat} (h : sz2 m n = true) : m + n ≤ sizeLine := by
  rw [sizeLine_eq]
  exact of_decide_eq_true h
def dAdd : F2 := fun d e s => match d, e with
  | .int i, .int j => .ok (.int (i + j)) s
  | .str a, .str b => gd (sz2 a.length b.length) (.ok (.str (a ++ b)) s)
  | .tup a, .tup b => gd (sz2 a.length b.length) (.ok (.tup (a ++ b)) s)
  | .lst a, .lst b => gd (sz2 a.length b.length) (.ok (.lst (a ++ b)) s)
  | _, _ => .bad
theorem RepL.vnil {C : Cn} {W : Wd} {l : List D} (h : RepL C W l []) : l = [] := by
  cases l with
  | nil => rfl
  | cons d l =>
    rw [RepL] at h
    obtain ⟨v, r, e, _⟩ := h
    cases e
section
variable {X : Cx} {C : Cn} {k : Nat}
theorem opd_add (hK : X.K = C.K) : OpR X (binaryOp .Add) (rD C dAdd) := by
  intro pins st σ H x y v u Q I rx ry h
  obtain ⟨Wx, σ', W, s, d, e, sm, r1, r2, o⟩ := h
  unfold dAdd at o
  split at o
  · rw [Rep] at r1
    rw [Rep] at r2
    subst r1 r2
    exact op_add pins st σ H _ _ v u Q I rx ry ⟨_, _, rfl, rfl, o.now sm (by rw [Rep])⟩
  · rw [Rep] at r1
    rw [Rep] at r2
    subst r1 r2
    obtain ⟨c, o⟩ := gd_ok o
    exact op_add_str pins st σ H _ _ v u Q I rx ry ⟨_, _, rfl, rfl, sz2_le c, o.now sm (by rw [Rep])⟩
  · rw [Rep] at r1
    rw [Rep] at r2
    obtain ⟨a1, vs1, rfl, q1, t1⟩ := r1
    obtain ⟨a2, vs2, rfl, q2, t2⟩ := r2
    obtain ⟨c, o⟩ := gd_ok o
    have c := sz2_le c
    rw [t1.length, t2.length] at c
    refine op_catP pins st σ H _ _ v u Q I rx ry ⟨a1, a2, vs1, vs2, rfl, rfl, by rw [hK]; exact sqt_mono sm.sub q1, by rw [hK]; exact sqt_mono sm.sub q2, c, fun e => ?_, fun _ e => ?_, fun _ _ => o.newT sm (t1.append t2)⟩
    · subst e
      have := RepL.vnil t1
      subst this
      exact o.now sm (by rw [Rep]; exact ⟨a2, vs2, rfl, q2, t2⟩)
    · subst e
      have := RepL.vnil t2
      subst this
      rw [List.append_nil] at o
      exact o.now sm (by rw [Rep]; exact ⟨a1, vs1, rfl, q1, t1⟩)
  · rw [Rep] at r1
    rw [Rep] at r2
    obtain ⟨a1, vs1, rfl, q1, t1⟩ := r1
    obtain ⟨a2, vs2, rfl, q2, t2⟩ := r2
    obtain ⟨c, o⟩ := gd_ok o
    have c := sz2_le c
    rw [t1.length, t2.length] at c
    exact op_cat pins st σ H _ _ v u Q I rx ry ⟨a1, a2, vs1, vs2, rfl, rfl, sm.sub _ _ q1, sm.sub _ _ q2, c, fun p hp => o.newL sm (t1.append t2) hp⟩
  · exact o.elim
def dSub : F2 := fun d e s => match d, e with
  | .int i, .int j => .ok (.int (i - j)) s
  | _, _ => .bad
theorem opd_sub : OpR X (binaryOp .Sub) (rD C dSub) := by
  intro pins st σ H x y v u Q I rx ry h
  obtain ⟨Wx, σ', W, s, d, e, sm, r1, r2, o⟩ := h
  unfold dSub at o
  split at o
  · rw [Rep] at r1
    rw [Rep] at r2
    subst r1 r2
    exact op_sub pins st σ H _ _ v u Q I rx ry ⟨_, _, rfl, rfl, o.now sm (by rw [Rep])⟩
  · exact o.elim
/-- a product's factors: one below 2^64, or not too many bits together -/
def mulOk (i j : Int) : Bool := decide (i.natAbs < 18446744073709551616) || (decide (j.natAbs < 18446744073709551616) || decide (i.natAbs.log2 + j.natAbs.log2 < 1000000))
def repOk (n : Nat) (k : Int) : Bool := decide (k ≤ 1000000) && (decide (-1000000 ≤ k) && decide (n * k.toNat ≤ 1000000))
def repStr (a : Str) (k : Int) : Str := ⟨(List.replicate k.toNat a.cps.toList).flatten.toArray⟩
def dMul : F2 := fun d e s => match d, e with
  | .int i, .int j => gd (mulOk i j) (.ok (.int (i * j)) s)
  | .lst a, .int k => gd (repOk a.length k) (.ok (.lst (List.replicate k.toNat a).flatten) s)
  | .tup a, .int k => gd (decide (2 ≤ k) && (decide (k ≤ 1000) && (!a.isEmpty && decide (a.length ≤ 1000)))) (.ok (.wtp (List.replicate k.toNat a).flatten) s)
  | .str a, .int k => gd (repOk a.length k) (.ok (.str (repStr a k)) s)
  | _, _ => .bad
theorem op_mulI : OpR X (binaryOp .Mult) (rI (fun i j => mulOk i j = true) fun i j => .int (i * j)) := by
  intro pins st σ H x y v u Q I rx ry h
  obtain ⟨i, j, rfl, rfl, hc, q⟩ := h
  unfold mulOk at hc
  simp only [Bool.or_eq_true, decide_eq_true_eq] at hc
  rcases hc with hc | hc | hc
  · exact op_mul pins st σ H _ _ v u Q I rx ry ⟨i, j, rfl, rfl, .inl (by omega), q⟩
  · exact op_mul pins st σ H _ _ v u Q I rx ry ⟨i, j, rfl, rfl, .inr (by omega), q⟩
  · exact op_mulW pins st σ H _ _ v u Q I rx ry ⟨i, j, rfl, rfl, hc, q⟩
theorem RepL.rep {C : Cn} {W : Wd} {l : List D} {vs : List V} (h : RepL C W l vs) : ∀ n : Nat, RepL C W (List.replicate n l).flatten (List.replicate n vs).flatten
  | 0 => RepL.nil
  | n + 1 => by
    rw [List.replicate_succ, List.flatten_cons, List.replicate_succ, List.flatten_cons]
    exact h.append (RepL.rep h n)
theorem op_mulS : OpR X (binaryOp .Mult) (fun x y H Q => ∃ a k, x = .str a ∧ y = .int k ∧ repOk a.length k = true ∧ Q (.str (repStr a k)) H) := by
  intro pins st σ H x y v u Q I rx ry h
  obtain ⟨a, k, rfl, rfl, hc, q⟩ := h
  obtain ⟨t, rfl⟩ := rx
  obtain ⟨t', rfl⟩ := ry
  unfold repOk at hc
  simp only [Bool.and_eq_true, decide_eq_true_eq] at hc
  obtain ⟨h1, h2, h3⟩ := hc
  have hf : ∀ (n : Nat) (acc : Array Nat), (List.replicate n a.cps).foldl (· ++ ·) acc = (acc.toList ++ (List.replicate n a.cps.toList).flatten).toArray := by
    intro n
    induction n with
    | zero => intro acc; simp
    | succ n ih =>
      intro acc
      rw [List.replicate_succ, List.foldl_cons, ih, List.replicate_succ, List.flatten_cons]
      simp [List.append_assoc]
  refine PySem.P.mul_str (by rw [decide_eq_false (by omega), decide_eq_false (by omega)]; rfl) (fun z1 z2 => ?_) (fun z1 z2 => ?_) ?_
  · simp only [Bool.or_eq_false_iff, beq_eq_false_iff_ne] at z2
    have hp : 0 < k := by omega
    have : (a.length : Int) * k ≤ 1000000 := by
      have e : ((k.toNat : Nat) : Int) = k := by omega
      rw [← e, ← Int.natCast_mul]
      omega
    have z : (a.length : Int) ≤ (2 ^ 63 - 1) / k := by
      rw [Int.le_ediv_iff_mul_le hp]
      omega
    omega
  · unfold Builtin.Str.tooLong
    exact decide_eq_false (by rw [sizeLine_eq]; omega)
  · split
    · rename_i hn
      have e : repStr a k = Str.empty := by
        unfold repStr
        have : k.toNat = 0 := by omega
        rw [this]
        rfl
      exact ⟨by decide, ⟨.str _, H, I.tok _, ⟨_, rfl⟩, by rw [e] at q; exact q⟩⟩
    · split
      · rename_i hn ho
        have e : repStr a k = a := by
          unfold repStr
          simp only [Bool.or_eq_true, beq_iff_eq] at ho
          rcases ho with ho | ho
          · subst ho
            simp
          · have : a.cps = #[] := Array.eq_empty_of_size_eq_zero ho
            cases a with
            | mk cps =>
              simp only at this
              subst this
              simp
        exact ⟨.str _, H, I, ⟨_, rfl⟩, by rw [e] at q; exact q⟩
      · rename_i hn ho
        have e : repStr a k = ⟨(List.replicate k.toNat a.cps).foldl (· ++ ·) #[]⟩ := by
          rw [hf]
          rfl
        refine ⟨?_, ⟨.str _, H, I.tok _, ⟨_, rfl⟩, by rw [← e]; exact q⟩⟩
        rw [← e]
        unfold repStr
        show (List.replicate k.toNat a.cps.toList).flatten.toArray.size ≤ _
        rw [List.size_toArray, List.length_flatten, List.map_replicate, List.sum_replicate_nat, sizeLine_eq]
        have : a.cps.toList.length = a.length := rfl
        rw [this, Nat.mul_comm]
        omega
end
end Z

namespace Z
open PySem L2
section
variable {X : Cx} {C : Cn} {k : Nat}
theorem opd_mul (hK : X.K = C.K) : OpR X (binaryOp .Mult) (rD C dMul) := by
  intro pins st σ H x y v u Q I rx ry h
  obtain ⟨Wx, σ', W, s, d, e, sm, r1, r2, o⟩ := h
  unfold dMul at o
  split at o
  · rw [Rep] at r1
    rw [Rep] at r2
    subst r1 r2
    obtain ⟨c, o⟩ := gd_ok o
    exact op_mulI pins st σ H _ _ v u Q I rx ry ⟨_, _, rfl, rfl, c, o.now sm (by rw [Rep])⟩
  · rw [Rep] at r1
    rw [Rep] at r2
    obtain ⟨a1, vs1, rfl, q1, t1⟩ := r1
    subst r2
    obtain ⟨c, o⟩ := gd_ok o
    unfold repOk at c
    simp only [Bool.and_eq_true, decide_eq_true_eq] at c
    obtain ⟨c1, c2, c3⟩ := c
    rw [t1.length] at c3
    exact op_rep pins st σ H _ _ v u Q I rx ry ⟨a1, _, vs1, rfl, rfl, sm.sub _ _ q1, by omega, by omega, by rw [sizeLine_eq]; omega, fun p hp => o.newL sm (t1.rep _) hp⟩
  · rw [Rep] at r1
    rw [Rep] at r2
    obtain ⟨a1, vs1, rfl, q1, t1⟩ := r1
    subst r2
    obtain ⟨c, o⟩ := gd_ok o
    simp only [Bool.and_eq_true, decide_eq_true_eq, Bool.not_eq_true'] at c
    obtain ⟨c1, c2, c3, c4⟩ := c
    rw [t1.length] at c4
    refine op_repT pins st σ H _ _ v u Q I rx ry ⟨a1, _, vs1, rfl, rfl, by rw [hK]; exact sqt_mono sm.sub q1, fun e => ?_, c1, c2, c4, fun p hp => o _ _ _ (Ext.alloc hp _ sm) (sm.alloc hp _) (by rw [Rep]; exact ⟨p, _, rfl, .inl (.inl upd_same), (t1.rep _).mono (Ext.alloc hp _ sm).le⟩)⟩
    subst e
    have := RepL.vnil t1
    subst this
    cases c3
  · rw [Rep] at r1
    rw [Rep] at r2
    subst r1 r2
    obtain ⟨c, o⟩ := gd_ok o
    exact op_mulS pins st σ H _ _ v u Q I rx ry ⟨_, _, rfl, rfl, c, o.now sm (by rw [Rep])⟩
  · exact o.elim
/-- // by a positive number, of not too many bits -/
def dDiv : F2 := fun d e s => match d, e with
  | .int i, .int j => gd (decide (0 < j) && decide (j.natAbs.log2 < 9000)) (.ok (.int (i / j)) s)
  | _, _ => .bad
theorem opd_div : OpR X (binaryOp .FloorDiv) (rD C dDiv) := by
  intro pins st σ H x y v u Q I rx ry h
  obtain ⟨Wx, σ', W, s, d, e, sm, r1, r2, o⟩ := h
  unfold dDiv at o
  split at o
  · rw [Rep] at r1
    rw [Rep] at r2
    subst r1 r2
    obtain ⟨c, o⟩ := gd_ok o
    simp only [Bool.and_eq_true, decide_eq_true_eq] at c
    exact op_fdivW pins st σ H _ _ v u Q I rx ry ⟨_, _, rfl, rfl, c, o.now sm (by rw [Rep])⟩
  · exact o.elim
def dMod : F2 := fun d e s => match d, e with
  | .int i, .int j => gd (decide (0 < j)) (.ok (.int (i % j)) s)
  | _, _ => .bad
theorem opd_mod : OpR X (binaryOp .Mod) (rD C dMod) := by
  intro pins st σ H x y v u Q I rx ry h
  obtain ⟨Wx, σ', W, s, d, e, sm, r1, r2, o⟩ := h
  unfold dMod at o
  split at o
  · rw [Rep] at r1
    rw [Rep] at r2
    subst r1 r2
    obtain ⟨c, o⟩ := gd_ok o
    exact op_mod pins st σ H _ _ v u Q I rx ry ⟨_, _, rfl, rfl, of_decide_eq_true c, o.now sm (by rw [Rep])⟩
  · exact o.elim
def dPow : F2 := fun d e s => match d, e with
  | .int i, .int j => gd (decide (0 ≤ j) && decide ((i.natAbs.log2 + 1 : Int) * j ≤ 100000000)) (.ok (.int (i ^ j.toNat)) s)
  | _, _ => .bad
theorem opd_pow : OpR X (binaryOp .Pow) (rD C dPow) := by
  intro pins st σ H x y v u Q I rx ry h
  obtain ⟨Wx, σ', W, s, d, e, sm, r1, r2, o⟩ := h
  unfold dPow at o
  split at o
  · rename_i i j
    rw [Rep] at r1
    rw [Rep] at r2
    subst r1 r2
    obtain ⟨c, o⟩ := gd_ok o
    simp only [Bool.and_eq_true, decide_eq_true_eq] at c
    obtain ⟨t, rfl⟩ := rx
    obtain ⟨t', rfl⟩ := ry
    refine PyProof.Rows.pow_int c.1 ?_ ⟨.int _, H, I.tok _, ⟨_, rfl⟩, o.now sm (by rw [Rep])⟩
    have b : Builtin.Int.intBits i ≤ i.natAbs.log2 + 1 := by
      unfold Builtin.Int.intBits
      split <;> omega
    have : (Builtin.Int.intBits i : Int) * j ≤ (i.natAbs.log2 + 1 : Int) * j := Int.mul_le_mul_of_nonneg_right (by omega) c.1
    omega
  · exact o.elim
def dAnd : F2 := fun d e s => match d, e with
  | .int i, .int j => .ok (.int (Builtin.bitAnd i j)) s
  | _, _ => .bad
theorem opd_and : OpR X (binaryOp .BitAnd) (rD C dAnd) := by
  intro pins st σ H x y v u Q I rx ry h
  obtain ⟨Wx, σ', W, s, d, e, sm, r1, r2, o⟩ := h
  unfold dAnd at o
  split at o
  · rw [Rep] at r1
    rw [Rep] at r2
    subst r1 r2
    exact op_and pins st σ H _ _ v u Q I rx ry ⟨_, _, rfl, rfl, o.now sm (by rw [Rep])⟩
  · exact o.elim
def dNeg : F1 := fun d s => match d with
  | .int i => .ok (.int (-i)) s
  | _ => .bad
theorem und_neg : UnR X (unaryOp .USub) (rU1 C dNeg) := by
  intro pins st σ H x v Q I rx h
  obtain ⟨Wx, σ', W, s, d, sm, r1, o⟩ := h
  unfold dNeg at o
  split at o
  · rw [Rep] at r1
    subst r1
    exact un_neg pins st σ H _ v Q I rx ⟨_, rfl, o.now sm (by rw [Rep])⟩
  · exact o.elim

/-! ### comparisons -/
/-- an object of the whole, seen as it is now -/
def see (s : S) (d : D) : D := match d with
  | .glb n => match s.g[n]? with
    | some (.lst l) => .lst l
    | _ => .glb n
  | d => d
theorem see_dp {C : Cn} {W : Wd} {s : S} {H : Hp} {d : D} {v : V} (sm : Sim C W s H) (r : Rep C W d v) (h : shp (see s d) = true) : Dp C.K H v (toP (see s d)) := by
  have key : (∀ n, d ≠ .glb n) → Dp C.K H v (toP (see s d)) := fun hn => by
    have : see s d = d := by
      cases d <;> first | rfl | exact absurd rfl (hn _)
    rw [this] at h ⊢
    exact Rep.dp sm.sub _ _ r (shp_lay h)
  cases d with
  | glb n =>
    have bad : shp (.glb n) = true → False := fun h => by
      have := shp_lay h
      simp [toP, PyData.canLay0] at this
    have e0 : see s (.glb n) = (match s.g[n]? with
      | some (.lst l) => .lst l
      | _ => .glb n) := rfl
    cases z : s.g[n]? with
    | none =>
      rw [z] at e0
      rw [e0] at h
      exact (bad h).elim
    | some o => cases o with
      | lst l =>
        rw [z] at e0
        have e0 : see s (.glb n) = .lst l := e0
        rw [e0] at h ⊢
        rw [Rep] at r
        obtain ⟨a, rfl, q⟩ := r
        obtain ⟨u, hu, vs, rfl, t⟩ := sm.gv n a _ q z
        have c := shp_lay h
        rw [toP, PyData.canLay0] at c
        rw [toP]
        exact .lst (.inl (.inl hu)) (RepL.dp sm.sub l vs t c)
      | ins c l =>
        rw [z] at e0
        rw [e0] at h
        exact (bad h).elim
      | dead =>
        rw [z] at e0
        rw [e0] at h
        exact (bad h).elim
  | _ => exact key (by intro n z; cases z)
def eqD (d e : D) : Bool := PyData.eqv (toP d) (toP e)
def dEq : F2 := fun d e s => match d, e with
  | .int i, .int j => .ok (.bl (decide (i = j))) s
  | .str a, .str b => .ok (.bl (decide (a = b))) s
  | .bl a, .bl b => .ok (.bl (decide (a = b))) s
  | d, e => gd (shp (see s d) && shp (see s e)) (.ok (.bl (eqD (see s d) (see s e))) s)
def dNe : F2 := fun d e s => match d, e with
  | .int i, .int j => .ok (.bl (!decide (i = j))) s
  | .str a, .str b => .ok (.bl (!decide (a = b))) s
  | .bl a, .bl b => .ok (.bl (!decide (a = b))) s
  | d, e => gd (shp (see s d) && shp (see s e)) (.ok (.bl (!eqD (see s d) (see s e))) s)
theorem opd_eq (hK : X.K = C.K) (hr : Room k X.A) : OpR X (compareOp .Eq) (rD C dEq) := by
  intro pins st σ H x y v u Q I rx ry h
  obtain ⟨Wx, σ', W, s, d, e, sm, r1, r2, o⟩ := h
  unfold dEq at o
  split at o
  · rw [Rep] at r1
    rw [Rep] at r2
    subst r1 r2
    exact op_eq pins st σ H _ _ v u Q I rx ry ⟨rfl, o.now sm (by rw [Rep]; simp)⟩
  · rw [Rep] at r1
    rw [Rep] at r2
    subst r1 r2
    exact op_eq pins st σ H _ _ v u Q I rx ry ⟨rfl, o.now sm (by rw [Rep]; simp)⟩
  · rw [Rep] at r1
    rw [Rep] at r2
    subst r1 r2
    exact op_eq pins st σ H _ _ v u Q I rx ry ⟨rfl, o.now sm (by rw [Rep]; simp)⟩
  · obtain ⟨c, o⟩ := gd_ok o
    simp only [Bool.and_eq_true] at c
    exact op_eqD hr.units pins st σ H _ _ v u Q I rx ry ⟨toP (see s d), toP (see s e), by rw [hK]; exact see_dp sm r1 c.1, by rw [hK]; exact see_dp sm r2 c.2, c.1, c.2, o.now sm (by rw [Rep]; rfl)⟩
theorem opd_ne (hK : X.K = C.K) (hr : Room k X.A) : OpR X (compareOp .NotEq) (rD C dNe) := by
  intro pins st σ H x y v u Q I rx ry h
  obtain ⟨Wx, σ', W, s, d, e, sm, r1, r2, o⟩ := h
  unfold dNe at o
  split at o
  · rw [Rep] at r1
    rw [Rep] at r2
    subst r1 r2
    exact op_ne pins st σ H _ _ v u Q I rx ry ⟨rfl, o.now sm (by rw [Rep]; simp)⟩
  · rw [Rep] at r1
    rw [Rep] at r2
    subst r1 r2
    exact op_ne pins st σ H _ _ v u Q I rx ry ⟨rfl, o.now sm (by rw [Rep]; simp)⟩
  · rw [Rep] at r1
    rw [Rep] at r2
    subst r1 r2
    exact op_ne pins st σ H _ _ v u Q I rx ry ⟨rfl, o.now sm (by rw [Rep]; simp)⟩
  · obtain ⟨c, o⟩ := gd_ok o
    simp only [Bool.and_eq_true] at c
    exact op_neD hr.units pins st σ H _ _ v u Q I rx ry ⟨toP (see s d), toP (see s e), by rw [hK]; exact see_dp sm r1 c.1, by rw [hK]; exact see_dp sm r2 c.2, c.1, c.2, o.now sm (by rw [Rep]; rfl)⟩
def intsOf : List D → Option (List Int)
  | [] => some []
  | .int i :: l => match intsOf l with
    | some r => some (i :: r)
    | none => none
  | _ :: _ => none
theorem intsOf_eq : ∀ {l : List D} {ns : List Int}, intsOf l = some ns → l = ns.map D.int
  | [], ns, h => by
    simp [intsOf] at h
    subst h
    rfl
  | d :: l, ns, h => by
    unfold intsOf at h
    split at h
    · cases h
      rename_i z
      cases z
    · rename_i i l' z
      cases z
      split at h
      · rename_i r hr
        cases h
        rw [List.map_cons, intsOf_eq hr]
      · cases h
    · cases h
def boolsOf : List D → Option (List Bool)
  | [] => some []
  | .bl i :: l => match boolsOf l with
    | some r => some (i :: r)
    | none => none
  | _ :: _ => none
theorem boolsOf_eq : ∀ {l : List D} {ns : List Bool}, boolsOf l = some ns → l = ns.map D.bl
  | [], ns, h => by
    simp [boolsOf] at h
    subst h
    rfl
  | d :: l, ns, h => by
    unfold boolsOf at h
    split at h
    · cases h
      rename_i z
      cases z
    · rename_i i l' z
      cases z
      split at h
      · rename_i r hr
        cases h
        rw [List.map_cons, boolsOf_eq hr]
      · cases h
    · cases h
def strsOf : List D → Option (List Str)
  | [] => some []
  | .str i :: l => match strsOf l with
    | some r => some (i :: r)
    | none => none
  | _ :: _ => none
theorem strsOf_eq : ∀ {l : List D} {ns : List Str}, strsOf l = some ns → l = ns.map D.str
  | [], ns, h => by
    simp [strsOf] at h
    subst h
    rfl
  | d :: l, ns, h => by
    unfold strsOf at h
    split at h
    · cases h
      rename_i z
      cases z
    · rename_i i l' z
      cases z
      split at h
      · rename_i r hr
        cases h
        rw [List.map_cons, strsOf_eq hr]
      · cases h
    · cases h
def dLt : F2 := fun d e s => match d, e with
  | .int i, .int j => .ok (.bl (decide (i < j))) s
  | .tup a, .tup b => match intsOf a, intsOf b with
    | some ns, some ms => .ok (.bl (HT.lexLt ns ms)) s
    | _, _ => .bad
  | _, _ => .bad
theorem opd_lt (hK : X.K = C.K) (hr : Room k X.A) : OpR X (compareOp .Lt) (rD C dLt) := by
  intro pins st σ H x y v u Q I rx ry h
  obtain ⟨Wx, σ', W, s, d, e, sm, r1, r2, o⟩ := h
  unfold dLt at o
  split at o
  · rw [Rep] at r1
    rw [Rep] at r2
    subst r1 r2
    exact op_lt pins st σ H _ _ v u Q I rx ry ⟨_, _, rfl, rfl, o.now sm (by rw [Rep])⟩
  · split at o
    · rename_i ns ms h1 h2
      have h1 := intsOf_eq h1
      have h2 := intsOf_eq h2
      subst h1 h2
      rw [Rep] at r1
      rw [Rep] at r2
      obtain ⟨a1, vs1, rfl, q1, t1⟩ := r1
      obtain ⟨a2, vs2, rfl, q2, t2⟩ := r2
      have t1 := t1.ofInts
      have t2 := t2.ofInts
      subst t1 t2
      exact op_ltT hr.units0 pins st σ H _ _ v u Q I rx ry ⟨a1, a2, ns, ms, rfl, rfl, by rw [hK]; exact sqt_mono sm.sub q1, by rw [hK]; exact sqt_mono sm.sub q2, o.now sm (by rw [Rep])⟩
    · exact o.elim
  · exact o.elim
def dIC (p : Int → Int → Bool) : F2 := fun d e s => match d, e with
  | .int i, .int j => .ok (.bl (p i j)) s
  | _, _ => .bad
theorem opd_ic {op : CmpOp} {p : Int → Int → Bool} (ho : OpR X (compareOp op) (rI0 fun i j => .bl (p i j))) : OpR X (compareOp op) (rD C (dIC p)) := by
  intro pins st σ H x y v u Q I rx ry h
  obtain ⟨Wx, σ', W, s, d, e, sm, r1, r2, o⟩ := h
  unfold dIC at o
  split at o
  · rw [Rep] at r1
    rw [Rep] at r2
    subst r1 r2
    exact ho pins st σ H _ _ v u Q I rx ry ⟨_, _, rfl, rfl, o.now sm (by rw [Rep])⟩
  · exact o.elim
def dLe : F2 := dIC fun i j => decide (i ≤ j)
def dGt : F2 := dIC fun i j => decide (j < i)
def dGe : F2 := dIC fun i j => decide (j ≤ i)
theorem opd_le : OpR X (compareOp .LtE) (rD C dLe) := opd_ic op_le
theorem opd_gt : OpR X (compareOp .Gt) (rD C dGt) := opd_ic op_gt
theorem opd_ge : OpR X (compareOp .GtE) (rD C dGe) := opd_ic op_ge
/-- is it in -/
def inD (d : D) (l : List D) : Bool := l.any fun z => eqD z d
def inS (a b : Str) : Bool := !(Builtin.Str.occurrences b a 0 b.length 1).isEmpty
def dInB (neg : Bool) : F2 := fun d e s => match d, e with
  | d, .lst l => gd (shp d && shp (.lst l)) (.ok (.bl (xor neg (inD d l))) s)
  | d, .tup l => gd (shp d && shp (.tup l)) (.ok (.bl (xor neg (inD d l))) s)
  | .str ⟨⟨[c]⟩⟩, .str z => .ok (.bl (xor neg (decide (c ∈ z.cps.toList)))) s
  | .str a, .str z => .ok (.bl (xor neg (inS a z))) s
  | _, _ => .bad
theorem any_toP (d : D) (l : List D) : (toPs l).any (fun z => PyData.eqv z (toP d)) = inD d l := by
  rw [toPs_map, List.any_map]
  rfl
theorem opd_in (hK : X.K = C.K) (hr : Room k X.A) : OpR X (compareOp .In) (rD C (dInB false)) := by
  have hu : X.A.units + 65 < cLine := by have := hr.un; omega
  intro pins st σ H x y v u Q I rx ry h
  obtain ⟨Wx, σ', W, s, d, e, sm, r1, r2, o⟩ := h
  unfold dInB at o
  split at o
  · obtain ⟨c, o⟩ := gd_ok o
    simp only [Bool.and_eq_true] at c
    have g2 := Rep.dp sm.sub _ _ r2 (shp_lay c.2)
    rw [toP] at g2
    refine op_inD hu pins st σ H _ _ v u Q I rx ry ⟨toP d, _, by rw [hK]; exact Rep.dp sm.sub _ _ r1 (shp_lay c.1), by rw [hK]; exact g2, c.1, by have := c.2; unfold shp at this; rw [toP] at this; exact this, o.now sm ?_⟩
    rw [any_toP, Rep, Bool.false_xor]
  · rename_i l
    obtain ⟨c, o⟩ := gd_ok o
    simp only [Bool.and_eq_true] at c
    have g1 := Rep.dp sm.sub _ _ r1 (shp_lay c.1)
    have g2 := Rep.dp sm.sub _ _ r2 (shp_lay c.2)
    rw [← hK] at g1 g2
    obtain ⟨as, w1⟩ := Dp.reads I _ _ _ g1 rx
    obtain ⟨bs, w2⟩ := Dp.reads I _ _ _ g2 ry
    rw [toP] at w2
    have c2 := c.2
    unfold shp at c2
    rw [toP] at c2
    refine SeqAt.in_tuple_reads w2 w1 (SeqAt.canLay_of_shaped c2) (SeqAt.canLay_of_shaped c.1) (PyProof.Rows.room_in_shaped c.1 hu) ⟨.bl _, H, I, rfl, o.now sm ?_⟩
    rw [any_toP, Rep, Bool.false_xor]
  · rw [Rep] at r1
    rw [Rep] at r2
    subst r1 r2
    exact op_in_sign pins st σ H _ _ v u Q I rx ry ⟨_, _, rfl, rfl, o.now sm (by rw [Rep, Bool.false_xor])⟩
  · rw [Rep] at r1
    rw [Rep] at r2
    subst r1 r2
    exact op_in_str pins st σ H _ _ v u Q I rx ry ⟨_, _, rfl, rfl, o.now sm (by rw [Rep, Bool.false_xor]; rfl)⟩
  · exact o.elim
theorem opd_notIn (hK : X.K = C.K) (hr : Room k X.A) : OpR X (compareOp .NotIn) (rD C (dInB true)) := by
  have hu : X.A.units + 65 < cLine := by have := hr.un; omega
  intro pins st σ H x y v u Q I rx ry h
  obtain ⟨Wx, σ', W, s, d, e, sm, r1, r2, o⟩ := h
  unfold dInB at o
  split at o
  · obtain ⟨c, o⟩ := gd_ok o
    simp only [Bool.and_eq_true] at c
    have g2 := Rep.dp sm.sub _ _ r2 (shp_lay c.2)
    rw [toP] at g2
    refine op_notInD hu pins st σ H _ _ v u Q I rx ry ⟨toP d, _, by rw [hK]; exact Rep.dp sm.sub _ _ r1 (shp_lay c.1), by rw [hK]; exact g2, c.1, by have := c.2; unfold shp at this; rw [toP] at this; exact this, o.now sm ?_⟩
    rw [any_toP, Rep, Bool.true_xor]
  · rename_i l
    obtain ⟨c, o⟩ := gd_ok o
    simp only [Bool.and_eq_true] at c
    have g1 := Rep.dp sm.sub _ _ r1 (shp_lay c.1)
    have g2 := Rep.dp sm.sub _ _ r2 (shp_lay c.2)
    rw [← hK] at g1 g2
    obtain ⟨as, w1⟩ := Dp.reads I _ _ _ g1 rx
    obtain ⟨bs, w2⟩ := Dp.reads I _ _ _ g2 ry
    rw [toP] at w2
    have c2 := c.2
    unfold shp at c2
    rw [toP] at c2
    refine SeqAt.notIn_tuple_reads w2 w1 (SeqAt.canLay_of_shaped c2) (SeqAt.canLay_of_shaped c.1) (PyProof.Rows.room_in_shaped c.1 hu) ⟨.bl _, H, I, rfl, o.now sm ?_⟩
    rw [any_toP, Rep, Bool.true_xor]
  · rw [Rep] at r1
    rw [Rep] at r2
    subst r1 r2
    exact op_notIn_sign pins st σ H _ _ v u Q I rx ry ⟨_, _, rfl, rfl, o.now sm (by rw [Rep, Bool.true_xor])⟩
  · rw [Rep] at r1
    rw [Rep] at r2
    subst r1 r2
    exact op_notIn_str pins st σ H _ _ v u Q I rx ry ⟨_, _, rfl, rfl, o.now sm (by rw [Rep, Bool.true_xor]; rfl)⟩
  · exact o.elim
def isNon : D → Bool
  | .non => true
  | _ => false
theorem isNon_rep {W : Wd} : ∀ {d : D} {v : V}, Rep C W d v → decide (v = V.non) = isNon d
  | .non, _, h => by rw [Rep] at h; subst h; rfl
  | .bl _, _, h => by rw [Rep] at h; subst h; rfl
  | .int _, _, h => by rw [Rep] at h; subst h; rfl
  | .str _, _, h => by rw [Rep] at h; subst h; rfl
  | .tup _, _, h => by rw [Rep] at h; obtain ⟨a, vs, rfl, _⟩ := h; rfl
  | .lst _, _, h => by rw [Rep] at h; obtain ⟨a, vs, rfl, _⟩ := h; rfl
  | .glb _, _, h => by rw [Rep] at h; obtain ⟨a, rfl, _⟩ := h; rfl
  | .obj _ _, _, h => by rw [Rep] at h; obtain ⟨a, _, _, _, _, rfl, _⟩ := h; rfl
  | .dic _ _, _, h => by rw [Rep] at h; obtain ⟨a, _, _, rfl, _⟩ := h; rfl
  | .fn _, _, h => by rw [Rep] at h; obtain ⟨a, rfl, _⟩ := h; rfl
  | .xcp _ _, _, h => by rw [Rep] at h; obtain ⟨_, a, _, _, rfl, _⟩ := h; rfl
  | .scr _, _, h => by rw [Rep] at h; obtain ⟨a, rfl, _⟩ := h; rfl
  | .wtp _, _, h => by rw [Rep] at h; obtain ⟨a, vs, rfl, _⟩ := h; rfl
/-- is None, is not None; of two truths -/
def dIs : F2 := fun d e s => match d, e with
  | .bl a, .bl b => .ok (.bl (decide (a = b))) s
  | d, .non => .ok (.bl (isNon d)) s
  | _, _ => .bad
def dIsNot : F2 := fun d e s => match d, e with
  | .bl a, .bl b => .ok (.bl (!decide (a = b))) s
  | d, .non => .ok (.bl (!isNon d)) s
  | _, _ => .bad
theorem opd_is : OpR X (compareOp .Is) (rD C dIs) := by
  intro pins st σ H x y v u Q I rx ry h
  obtain ⟨Wx, σ', W, s, d, e, sm, r1, r2, o⟩ := h
  unfold dIs at o
  split at o
  · rw [Rep] at r1
    rw [Rep] at r2
    subst r1 r2
    exact op_isBl pins st σ H _ _ v u Q I rx ry ⟨_, _, rfl, rfl, o.now sm (by rw [Rep])⟩
  · rw [Rep] at r2
    subst r2
    exact op_isN pins st σ H _ _ v u Q I rx ry ⟨rfl, o.now sm (by rw [Rep, isNon_rep r1])⟩
  · exact o.elim
theorem opd_isNot : OpR X (compareOp .IsNot) (rD C dIsNot) := by
  intro pins st σ H x y v u Q I rx ry h
  obtain ⟨Wx, σ', W, s, d, e, sm, r1, r2, o⟩ := h
  unfold dIsNot at o
  split at o
  · rw [Rep] at r1
    rw [Rep] at r2
    subst r1 r2
    exact op_notBl pins st σ H _ _ v u Q I rx ry ⟨_, _, rfl, rfl, o.now sm (by rw [Rep])⟩
  · rw [Rep] at r2
    subst r2
    exact op_notN pins st σ H _ _ v u Q I rx ry ⟨rfl, o.now sm (by rw [Rep, isNon_rep r1])⟩
  · exact o.elim
/-- an item -/
def dIx : F2 := fun d e s => match d, e with
  | .lst l, .int i => match atI l i with
    | some x => .ok x s
    | none => .bad
  | .tup l, .int i => match atI l i with
    | some x => .ok x s
    | none => .bad
  | .str z, .int i => gd (sz2 z.length 0) (match atI z.cps.toList i with
    | some c => .ok (.str ⟨#[c]⟩) s
    | none => .bad)
  | .glb n, .int i => match s.g[n]? with
    | some (.lst l) => match atI l i with
      | some x => .ok x s
      | none => .bad
    | _ => .bad
  | _, _ => .bad
theorem RepL.atI {W : Wd} {l : List D} {vs : List V} {i : Int} {d : D} (h : RepL C W l vs) (e : L2.atI l i = some d) : ∃ v, L2.atI vs i = some v ∧ Rep C W d v := by
  unfold L2.atI at e ⊢
  rw [← h.length]
  cases q : ixN l.length i with
  | none => rw [q] at e; cases e
  | some j =>
    rw [q] at e
    exact h.get e
theorem ixd (hK : X.K = C.K) : IxR X (rD C dIx) := by
  intro value slice pins st σ H x y v u Q I rx ry h hs
  obtain ⟨Wx, σ', W, s, d, e, sm, r1, r2, o⟩ := h
  unfold dIx at o
  split at o
  · split at o
    · rename_i hx
      rw [Rep] at r1
      rw [Rep] at r2
      obtain ⟨a1, vs1, rfl, q1, t1⟩ := r1
      subst r2
      obtain ⟨w, e1, e2⟩ := t1.atI hx
      exact ix_list value slice pins st σ H _ _ v u Q I rx ry ⟨a1, vs1, _, w, rfl, rfl, SqL.of (sm.sub _ _ q1), e1, o.now sm e2⟩ hs
    · exact o.elim
  · split at o
    · rename_i hx
      rw [Rep] at r1
      rw [Rep] at r2
      obtain ⟨a1, vs1, rfl, q1, t1⟩ := r1
      subst r2
      obtain ⟨w, e1, e2⟩ := t1.atI hx
      exact ix_tup value slice pins st σ H _ _ v u Q I rx ry ⟨a1, vs1, _, w, rfl, rfl, by rw [hK]; exact sqt_mono sm.sub q1, e1, o.now sm e2⟩ hs
    · exact o.elim
  · obtain ⟨c, o⟩ := gd_ok o
    split at o
    · rename_i hx
      rw [Rep] at r1
      rw [Rep] at r2
      subst r1 r2
      exact ix_str value slice pins st σ H _ _ v u Q I rx ry ⟨_, _, _, rfl, rfl, by have := sz2_le c; omega, hx, o.now sm (by rw [Rep])⟩ hs
    · exact o.elim
  · split at o
    · rename_i hg
      split at o
      · rename_i hx
        rw [Rep] at r1
        rw [Rep] at r2
        obtain ⟨a1, rfl, q1⟩ := r1
        subst r2
        obtain ⟨w, hw, vs1, rfl, t1⟩ := sm.gv _ a1 _ q1 hg
        obtain ⟨w, e1, e2⟩ := t1.atI hx
        exact ix_list value slice pins st σ H _ _ v u Q I rx ry ⟨a1, vs1, _, w, rfl, rfl, SqL.of hw, e1, o.now sm e2⟩ hs
      · exact o.elim
    · exact o.elim
  · exact o.elim
end
end Z

/-! Z3: tests, and or not, displays, arguments, slices, built-in calls. -/
namespace Z
open PySem L2
abbrev Bx := Rho → S → R Bool
abbrev Ax := Rho → S → R (List D)
/-- a value's truth -/
def tru : D → S → R Bool := fun d s => match d with
  | .non => .ok false s
  | .bl b => .ok b s
  | .int i => .ok (i != 0) s
  | .str y => gd (sz2 y.length 0) (.ok (((y.length : Nat) : Int) != 0) s)
  | .lst l => .ok (!l.isEmpty) s
  | .tup l => .ok (!l.isEmpty) s
  | _ => .bad
def bT (f : Ex) : Bx := fun ρ s => (f ρ s).bind tru
def bNot (f : Bx) : Bx := fun ρ s => (f ρ s).bind fun b s => .ok (!b) s
def bAnd (f g : Bx) : Bx := fun ρ s => (f ρ s).bind fun b s => match b with
  | true => g ρ s
  | false => .ok false s
def bOr (f g : Bx) : Bx := fun ρ s => (f ρ s).bind fun b s => match b with
  | true => .ok true s
  | false => g ρ s
def isBl : D → S → R Bool := fun d s => match d with
  | .bl b => .ok b s
  | _ => .bad
def eAnd (f g : Ex) : Ex := fun ρ s => (f ρ s).bind fun d s => (isBl d s).bind fun b s => match b with
  | true => g ρ s
  | false => .ok (.bl false) s
def eOr (f g : Ex) : Ex := fun ρ s => (f ρ s).bind fun d s => (isBl d s).bind fun b s => match b with
  | true => .ok (.bl true) s
  | false => g ρ s
def eNot (f : Ex) : Ex := fun ρ s => (f ρ s).bind fun d s => (isBl d s).bind fun b s => .ok (.bl (!b)) s
def eIf (c : Bx) (f g : Ex) : Ex := fun ρ s => (c ρ s).bind fun b s => match b with
  | true => f ρ s
  | false => g ρ s
def aNil : Ax := fun _ s => .ok [] s
def aCons (f : Ex) (g : Ax) : Ax := fun ρ s => (f ρ s).bind fun d s => (g ρ s).bind fun l s => .ok (d :: l) s
def sz1 (n : Nat) : Bool := decide (n ≤ 16777216)
theorem sz1_le {n : Nat} (h : sz1 n = true) : n ≤ sizeLine := by
  rw [sizeLine_eq]
  exact of_decide_eq_true h
def eTup (f : Ax) : Ex := fun ρ s => (f ρ s).bind fun l s => gd (sz1 l.length) (.ok (.tup l) s)
def eLst (f : Ax) : Ex := fun ρ s => (f ρ s).bind fun l s => gd (sz1 l.length) (.ok (.lst l) s)
section
variable {X : Cx} {C : Cn} {Wx : WX} {a b e c : Expr} {es rest : List Expr} {f g : Ex} {p q : Bx} {pos : Pos} {k : Nat}
theorem RepL.isE {W : Wd} {l : List D} {vs : List V} (h : RepL C W l vs) : vs.isEmpty = l.isEmpty := by
  have := h.length
  cases l <;> cases vs <;> simp_all
theorem zt (hK : X.K = C.K) (ha : PE X a (tE C Wx f)) (he : ∀ whole, isTrue a X.env whole = (do let v ← whole; standAt a.pos; holding [v] (truthy v))) : PT X a (tB C Wx (bT f)) := by
  refine pt_imp (pt_truth ha he) fun σ H Q ⟨ρ, W, s, er, sm, o⟩ => ?_
  refine ⟨ρ, W, s, er, sm, Out.mono (Out.bind (P := Rep C) o) ?_⟩
  rintro v H1 ⟨W1, s1, d, e1, sm1, r1, o1⟩
  unfold tru at o1
  split at o1
  · rw [Rep] at r1
    subst r1
    exact ⟨_, rfl, o1.nowB sm1⟩
  · rw [Rep] at r1
    subst r1
    exact ⟨_, rfl, o1.nowB sm1⟩
  · rw [Rep] at r1
    subst r1
    exact ⟨_, rfl, o1.nowB sm1⟩
  · rw [Rep] at r1
    subst r1
    obtain ⟨c, o1⟩ := gd_ok o1
    exact ⟨_, ⟨by have := sz2_le c; omega, rfl⟩, o1.nowB sm1⟩
  · rw [Rep] at r1
    obtain ⟨x, vs, rfl, q1, t1⟩ := r1
    refine ⟨_, .inl ⟨vs, SqL.of (sm1.sub _ _ q1), rfl⟩, ?_⟩
    rw [t1.isE]
    exact o1.nowB sm1
  · rw [Rep] at r1
    obtain ⟨x, vs, rfl, q1, t1⟩ := r1
    refine ⟨_, .inr (.inl ⟨vs, by rw [hK]; exact sqt_mono sm1.sub q1, rfl⟩), ?_⟩
    rw [t1.isE]
    exact o1.nowB sm1
  · exact o1.elim
theorem zt_not (ha : PT X a (tB C Wx p)) : PT X (.UnaryOp .Not a pos) (tB C Wx (bNot p)) :=
  pt_imp (pt_not ha) fun σ H Q ⟨ρ, W, s, er, sm, o⟩ => ⟨ρ, W, s, er, sm, Out.mono (Out.bind (P := PB) o) (by
    rintro v H1 ⟨W1, s1, d, e1, sm1, r1, o1⟩
    cases r1
    exact o1.nowB sm1)⟩
theorem zw_and1 (ha : PT X a (tB C Wx p)) : PW X (.BoolOp .And [a] pos) (tB C Wx p) := pw_and1 ha
theorem zw_or1 (ha : PT X a (tB C Wx p)) : PW X (.BoolOp .Or [a] pos) (tB C Wx p) := pw_or1 ha
theorem zw_and (ha : PT X a (tB C Wx p)) (hb : PW X (.BoolOp .And (b :: rest) pos) (tB C Wx q)) : PW X (.BoolOp .And (a :: b :: rest) pos) (tB C Wx (bAnd p q)) :=
  pw_imp (pw_and ha hb) fun σ H Q ⟨ρ, W, s, er, sm, o⟩ => ⟨ρ, W, s, er, sm, Out.mono (Out.bind (P := PB) o) (by
    rintro v H1 ⟨W1, s1, d, e1, sm1, r1, o1⟩
    cases r1
    cases v with
    | true => exact ⟨ρ, W1, s1, er.mono e1, sm1, o1⟩
    | false => exact o1.nowB sm1)⟩
theorem zw_or (ha : PT X a (tB C Wx p)) (hb : PW X (.BoolOp .Or (b :: rest) pos) (tB C Wx q)) : PW X (.BoolOp .Or (a :: b :: rest) pos) (tB C Wx (bOr p q)) :=
  pw_imp (pw_or ha hb) fun σ H Q ⟨ρ, W, s, er, sm, o⟩ => ⟨ρ, W, s, er, sm, Out.mono (Out.bind (P := PB) o) (by
    rintro v H1 ⟨W1, s1, d, e1, sm1, r1, o1⟩
    cases r1
    cases v with
    | true => exact o1.nowB sm1
    | false => exact ⟨ρ, W1, s1, er.mono e1, sm1, o1⟩)⟩
theorem isBl_of {W : Wd} {σ : L2.St} {H : Hp} {α β : Type} {P : Wd → α → β → Prop} {Q : β → Hp → Prop} {d : D} {s : S} {kk : Bool → S → R α} (o : Out P C Wx σ W H Q ((isBl d s).bind kk)) : ∃ x, d = .bl x ∧ Out P C Wx σ W H Q (kk x s) := by
  unfold isBl at o
  split at o
  · exact ⟨_, rfl, o⟩
  · exact o.elim
theorem ze_one {op} (h : PE X a (tE C Wx f)) : PE X (.BoolOp op [a] pos) (tE C Wx f) := pe_one h
theorem ze_and (ha : PE X a (tE C Wx f)) (hb : PE X (.BoolOp .And (b :: rest) pos) (tE C Wx g)) : PE X (.BoolOp .And (a :: b :: rest) pos) (tE C Wx (eAnd f g)) :=
  pe_imp (pe_and ha hb) fun σ H Q ⟨ρ, W, s, er, sm, o⟩ => ⟨ρ, W, s, er, sm, Out.mono (Out.bind (P := Rep C) o) (by
    rintro v H1 ⟨W1, s1, d, e1, sm1, r1, o1⟩
    obtain ⟨x, rfl, o1⟩ := isBl_of o1
    rw [Rep] at r1
    subst r1
    refine ⟨x, rfl, ?_⟩
    cases x with
    | true => exact ⟨ρ, W1, s1, er.mono e1, sm1, o1⟩
    | false => exact o1.now sm1 (by rw [Rep]))⟩
theorem ze_or (ha : PE X a (tE C Wx f)) (hb : PE X (.BoolOp .Or (b :: rest) pos) (tE C Wx g)) : PE X (.BoolOp .Or (a :: b :: rest) pos) (tE C Wx (eOr f g)) :=
  pe_imp (pe_or ha hb) fun σ H Q ⟨ρ, W, s, er, sm, o⟩ => ⟨ρ, W, s, er, sm, Out.mono (Out.bind (P := Rep C) o) (by
    rintro v H1 ⟨W1, s1, d, e1, sm1, r1, o1⟩
    obtain ⟨x, rfl, o1⟩ := isBl_of o1
    rw [Rep] at r1
    subst r1
    refine ⟨x, rfl, ?_⟩
    cases x with
    | true => exact o1.now sm1 (by rw [Rep])
    | false => exact ⟨ρ, W1, s1, er.mono e1, sm1, o1⟩)⟩
theorem ze_not (ha : PE X a (tE C Wx f)) : PE X (.UnaryOp .Not a pos) (tE C Wx (eNot f)) :=
  pe_imp (pe_not ha) fun σ H Q ⟨ρ, W, s, er, sm, o⟩ => ⟨ρ, W, s, er, sm, Out.mono (Out.bind (P := Rep C) o) (by
    rintro v H1 ⟨W1, s1, d, e1, sm1, r1, o1⟩
    obtain ⟨x, rfl, o1⟩ := isBl_of o1
    rw [Rep] at r1
    subst r1
    exact ⟨x, rfl, o1.now sm1 (by rw [Rep])⟩)⟩
theorem ze_if (hc : PT X c (tB C Wx p)) (ha : PE X a (tE C Wx f)) (hb : PE X b (tE C Wx g)) : PE X (.IfExp c a b pos) (tE C Wx (eIf p f g)) :=
  pe_imp (pe_ifExp hc ha hb) fun σ H Q ⟨ρ, W, s, er, sm, o⟩ => ⟨ρ, W, s, er, sm, Out.mono (Out.bind (P := PB) o) (by
    rintro v H1 ⟨W1, s1, d, e1, sm1, r1, o1⟩
    cases r1
    cases v with
    | true => exact ⟨ρ, W1, s1, er.mono e1, sm1, o1⟩
    | false => exact ⟨ρ, W1, s1, er.mono e1, sm1, o1⟩)⟩
theorem za_nil : PA X [] (tA C Wx aNil) := pa_imp pa_nil fun σ H Q ⟨ρ, W, s, er, sm, o⟩ => o W _ H (Ext.refl W H) sm RepL.nil
theorem za_cons {t : Ax} (ha : PE X e (tE C Wx f)) (hr : PA X es (tA C Wx t)) (hs : starEach (e :: es) X.env = (false, eval e X.env) :: starEach es X.env := by rfl) : PA X (e :: es) (tA C Wx (aCons f t)) :=
  pa_imp (pa_cons ha hr hs) fun σ H Q ⟨ρ, W, s, er, sm, o⟩ => ⟨ρ, W, s, er, sm, Out.mono (Out.bind (P := Rep C) o) (by
    rintro v H1 ⟨W1, s1, d, e1, sm1, r1, o1⟩
    refine ⟨ρ, W1, s1, er.mono e1, sm1, Out.mono (Out.bind (P := RepL C) o1) ?_⟩
    rintro vs H2 ⟨W2, s2, l, e2, sm2, r2, o2⟩
    exact o2 W2 _ H2 (Ext.refl _ _) sm2 (RepL.cons (r1.mono e2.le) r2))⟩
theorem ze_tup {x1} {t : Ax} (h : PA X es (tA C Wx t)) : PE X (.Tuple es x1 pos) (tE C Wx (eTup t)) :=
  pe_imp (pe_tupP h) fun σ H Q ⟨ρ, W, s, er, sm, o⟩ => ⟨ρ, W, s, er, sm, Out.mono (Out.bind (P := RepL C) o) (by
    rintro vs H1 ⟨W1, s1, d, e1, sm1, r1, o1⟩
    obtain ⟨c, o1⟩ := gd_ok o1
    exact ⟨by rw [← r1.length]; exact sz1_le c, o1.newT sm1 r1⟩)⟩
theorem ze_lst {t : Ax} (h : PA X es (tA C Wx t)) : PE X (.List es pos) (tE C Wx (eLst t)) :=
  pe_imp (pe_lst h) fun σ H Q ⟨ρ, W, s, er, sm, o⟩ => ⟨ρ, W, s, er, sm, Out.mono (Out.bind (P := RepL C) o) (by
    rintro vs H1 ⟨W1, s1, d, e1, sm1, r1, o1⟩
    obtain ⟨c, o1⟩ := gd_ok o1
    exact ⟨by rw [← r1.length]; exact sz1_le c, fun p hp => o1.newL sm1 r1 hp⟩)⟩

/-! ### slices -/
abbrev Ox := Rho → S → R (Option Int)
def oNo : Ox := fun _ s => .ok none s
def oPart (f : Ex) : Ox := fun ρ s => (f ρ s).bind fun d s => match d with
  | .int i => .ok (some i) s
  | _ => .bad
def PO' : Wd → Option Int → Option Int → Prop := fun _ a b => a = b
def tOO (C : Cn) (Wx : WX) (f : Ox) : TO := fun σ H Q => ∃ ρ W s, EnvR C W ρ σ ∧ Sim C W s H ∧ Out PO' C Wx σ W H Q (f ρ s)
theorem po_imp {e : Option Expr} {t t' : TO} (h : PO X e t) (k : ∀ σ H Q, t' σ H Q → t σ H Q) : PO X e t' := ⟨fun pins s σ H Q I q => h.run pins s σ H Q I (k _ _ _ q)⟩
theorem zo_none : PO X none (tOO C Wx oNo) := po_imp po_none fun σ H Q ⟨ρ, W, s, er, sm, o⟩ => o W none H (Ext.refl W H) sm rfl
theorem zo_some (h : PE X e (tE C Wx f)) : PO X (some e) (tOO C Wx (oPart f)) := po_imp (po_some h) fun σ H Q ⟨ρ, W, s, er, sm, o⟩ => ⟨ρ, W, s, er, sm, Out.mono (Out.bind (P := Rep C) o) (by
    rintro v H1 ⟨W1, s1, d, e1, sm1, r1, o1⟩
    split at o1
    · rw [Rep] at r1
      subst r1
      exact ⟨_, rfl, o1 W1 _ H1 (Ext.refl _ _) sm1 rfl⟩
    · exact o1.elim)⟩
def cutD (xs : List D) (lo hi : Option Int) : List D := (xs.drop (HT.sIx xs.length 0 lo)).take (HT.sIx xs.length xs.length hi - HT.sIx xs.length 0 lo)
theorem cutD_rep {W : Wd} {l : List D} {vs : List V} (h : RepL C W l vs) (lo hi : Option Int) : RepL C W (cutD l lo hi) (cutV vs lo hi) := by
  unfold cutD cutV
  rw [← h.length]
  exact (h.drop _).take _
def dSl (d : D) (lo hi : Option Int) (s : S) : R D := match d with
  | .lst l => .ok (.lst (cutD l lo hi)) s
  | .tup l => .ok (.tup (cutD l lo hi)) s
  | .str z => gd (sz2 z.length 0) (.ok (.str (cutS z lo hi)) s)
  | .scr l => .ok (.lst ((cutV (l.map V.int) lo hi).map fun v => match v with | .int i => .int i | _ => .non)) s
  | _ => .bad
def eSl (f : Ex) (lo hi : Ox) : Ex := fun ρ s => (f ρ s).bind fun d s => (lo ρ s).bind fun l s => (hi ρ s).bind fun h s => dSl d l h s
theorem cut_ints (l : List Int) (lo hi : Option Int) : ∃ m : List Int, cutV (l.map V.int) lo hi = m.map V.int := by
  unfold cutV
  exact ⟨(l.drop (HT.sIx (l.map V.int).length 0 lo)).take (HT.sIx (l.map V.int).length (l.map V.int).length hi - HT.sIx (l.map V.int).length 0 lo), by rw [List.map_take, List.map_drop]⟩
theorem ze_slice (hK : X.K = C.K) {lo hi : Option Expr} {lf hf : Ox} {p2 : Pos} (he : PE X e (tE C Wx f)) (hl : PO X lo (tOO C Wx lf)) (hu : PO X hi (tOO C Wx hf)) :
    PE X (.Subscript e (.Slice lo hi none p2) pos) (tE C Wx (eSl f lf hf)) :=
  pe_imp (pe_slice ((sl_list (X := X)).or ((sl_tupP (X := X)).or (sl_str (X := X)))) he hl hu) fun σ H Q ⟨ρ, W, s, er, sm, o⟩ => ⟨ρ, W, s, er, sm, Out.mono (Out.bind (P := Rep C) o) (by
    rintro v H1 ⟨W1, s1, d, e1, sm1, r1, o1⟩
    refine ⟨ρ, W1, s1, er.mono e1, sm1, Out.mono (Out.bind (P := PO') o1) ?_⟩
    rintro x2 H2 ⟨W2, s2, d2, e2, sm2, r2, o2⟩
    refine ⟨ρ, W2, s2, (er.mono e1).mono e2, sm2, Out.mono (Out.bind (P := PO') o2) ?_⟩
    rintro x3 H3 ⟨W3, s3, d3, e3, sm3, r3, o3⟩
    cases r2
    cases r3
    replace r1 := r1.mono (e2.le.trans e3.le)
    unfold dSl at o3
    split at o3
    · rw [Rep] at r1
      obtain ⟨x, vs, rfl, q1, t1⟩ := r1
      exact .inl ⟨x, vs, rfl, SqL.of (sm3.sub _ _ q1), fun p hp => o3.newL sm3 (cutD_rep t1 _ _) hp⟩
    · rename_i l
      rw [Rep] at r1
      obtain ⟨x, vs, rfl, q1, t1⟩ := r1
      refine .inr (.inl ⟨x, vs, rfl, by rw [hK]; exact sqt_mono sm3.sub q1, fun hw => ?_, fun _ => o3.newT sm3 (cutD_rep t1 _ _)⟩)
      have e0 : cutD l x2 x3 = l := by
        rw [← t1.length] at hw
        unfold cutD
        rw [hw.1, hw.2]
        simp
      rw [e0] at o3
      exact o3.now sm3 (by rw [Rep]; exact ⟨x, vs, rfl, q1, t1⟩)
    · rw [Rep] at r1
      subst r1
      obtain ⟨c, o3⟩ := gd_ok o3
      exact .inr (.inr ⟨_, rfl, by have := sz2_le c; omega, o3.now sm3 (by rw [Rep])⟩)
    · rename_i l
      rw [Rep] at r1
      obtain ⟨x, rfl, q1⟩ := r1
      refine .inl ⟨x, _, rfl, by rw [hK]; exact sql_mono sm3.sub q1, fun p hp => ?_⟩
      obtain ⟨m, hm⟩ := cut_ints l x2 x3
      rw [hm] at o3 ⊢
      have em : (m.map V.int).map (fun v => match v with | .int i => D.int i | _ => D.non) = m.map D.int := by
        rw [List.map_map]
        rfl
      rw [em] at o3
      exact o3.newL sm3 (RepL.ints m) hp
    · exact o3.elim)⟩
end
end Z

/-! Z4: statements, a frame's own lists, defs and their calls. -/
namespace Z
open PySem L2

/-! ### a frame that ends -/
structure ExtF (W : Wd) (H : Hp) (W' : Wd) (H' : Hp) : Prop where
  hs : ∀ a o, W.hs a = some o → W'.hs a = some o
  new : ∀ a o, W'.hs a = some o → W.hs a = some o ∨ H a = none ∨ a ∈ W.ll
  lg : ∃ m, W'.lg = W.lg ++ m ∧ ∀ a, a ∈ m → H a = none
  fr : ∀ a o, H a = some o → a ∉ W.ll → a ∉ W.lg → H' a = some o
  dom : ∀ a, H' a = none → H a = none
theorem Ext.fin {W W1 W2 : Wd} {H H1 H2 : Hp} (a : Ext W H W1 H1) (b : ExtF W1 H1 W2 H2) : ExtF W H W2 H2 where
  hs := fun x o h => b.hs x o (a.hs x o h)
  new := fun x o h => by
    rcases b.new x o h with h | h | h
    · exact a.new x o h
    · exact .inr (.inl (a.dom x h))
    · obtain ⟨m, e, f⟩ := a.ll
      rw [e] at h
      rcases List.mem_append.mp h with h | h
      · exact .inr (.inr h)
      · exact .inr (.inl (f x h))
  lg := by
    obtain ⟨m, e, f⟩ := a.lg
    obtain ⟨m', e', f'⟩ := b.lg
    refine ⟨m ++ m', by rw [e', e, List.append_assoc], fun x hx => ?_⟩
    rcases List.mem_append.mp hx with hx | hx
    · exact f x hx
    · exact a.dom x (f' x hx)
  fr := fun x o h h1 h2 => by
    obtain ⟨m, e, f⟩ := a.ll
    obtain ⟨m', e', f'⟩ := a.lg
    refine b.fr x o (a.fr x o h h1 h2) ?_ ?_
    · rw [e]
      intro hm
      rcases List.mem_append.mp hm with hm | hm
      · exact h1 hm
      · have := f x hm
        rw [h] at this
        cases this
    · rw [e']
      intro hm
      rcases List.mem_append.mp hm with hm | hm
      · exact h2 hm
      · have := f' x hm
        rw [h] at this
        cases this
  dom := fun x h => a.dom x (b.dom x h)
theorem ExtF.then {W W1 W2 : Wd} {H H1 H2 : Hp} (a : ExtF W H W1 H1) (b : Ext W1 H1 W2 H2) (hl : W1.ll = []) : ExtF W H W2 H2 where
  hs := fun x o h => b.hs x o (a.hs x o h)
  new := fun x o h => by
    rcases b.new x o h with h | h | h
    · exact a.new x o h
    · exact .inr (.inl (a.dom x h))
    · rw [hl] at h
      cases h
  lg := by
    obtain ⟨m, e, f⟩ := a.lg
    obtain ⟨m', e', f'⟩ := b.lg
    refine ⟨m ++ m', by rw [e', e, List.append_assoc], fun x hx => ?_⟩
    rcases List.mem_append.mp hx with hx | hx
    · exact f x hx
    · exact a.dom x (f' x hx)
  fr := fun x o h h1 h2 => by
    obtain ⟨m', e', f'⟩ := a.lg
    refine b.fr x o (a.fr x o h h1 h2) (by rw [hl]; simp) ?_
    rw [e']
    intro hm
    rcases List.mem_append.mp hm with hm | hm
    · exact h2 hm
    · have := f' x hm
      rw [h] at this
      cases this
  dom := fun x h => a.dom x (b.dom x h)
theorem ExtF.ext {W W' : Wd} {H H' : Hp} (a : ExtF W H W' H') (h0 : W.ll = []) (h1 : W'.ll = []) : Ext W H W' H' where
  hs := a.hs
  new := fun x o h => by
    exact a.new x o h
  ll := ⟨[], by rw [h0, h1]; rfl, fun _ h => by cases h⟩
  lg := a.lg
  fr := a.fr
  dom := a.dom

def OutS (C : Cn) (Wx : WX) (W : Wd) (H : Hp) (E : Ends) : RS → Prop
  | .nx ρ s => ∀ W' σ' H', Ext W H W' H' → Sim C W' s H' → EnvR C W' ρ σ' → E.nx σ' H'
  | .ret d s => ∀ W' v H', ExtF W H W' H' → W'.ll = [] → Sim C W' s H' → Rep C W' d v → E.rt v H'
  | .brk ρ s => ∀ W' σ' H', Ext W H W' H' → Sim C W' s H' → EnvR C W' ρ σ' → E.bk σ' H'
  | .cnt ρ s => ∀ W' σ' H', Ext W H W' H' → Sim C W' s H' → EnvR C W' ρ σ' → E.ct σ' H'
  | .exc x ρ s => ∀ W' σ' H' cls dx, Ext W H W' H' → Sim C W' s H' → EnvR C W' ρ σ' → RepX C W' x cls dx H' → Wx cls dx σ' H'
  | .excF x s => ∀ W' σ' H' cls dx, ExtF W H W' H' → Sim C W' s H' → RepX C W' x cls dx H' → Wx cls dx σ' H'
  | .bad => False
def tS (C : Cn) (Wx : WX) (f : Stm) : TS := fun E σ H => ∃ ρ W s, EnvR C W ρ σ ∧ Sim C W s H ∧ OutS C Wx W H E (f ρ s)
theorem OutS.ext {C : Cn} {Wx : WX} {W W1 : Wd} {H H1 : Hp} {E : Ends} {r : RS} (e : Ext W H W1 H1) (h : OutS C Wx W H E r) : OutS C Wx W1 H1 E r := by
  cases r with
  | nx ρ s => exact fun W' σ' H' e' => h W' σ' H' (e.trans e')
  | ret d s => exact fun W' v H' e' => h W' v H' (e.fin e')
  | brk ρ s => exact fun W' σ' H' e' => h W' σ' H' (e.trans e')
  | cnt ρ s => exact fun W' σ' H' e' => h W' σ' H' (e.trans e')
  | exc x ρ s => exact fun W' σ' H' c d e' => h W' σ' H' c d (e.trans e')
  | excF x s => exact fun W' σ' H' c d e' => h W' σ' H' c d (e.fin e')
  | bad => exact h

/-- an expression's value, then a statement's outcome -/
def R.toS {α : Type} (r : R α) (ρ : Rho) (k : α → S → RS) : RS := match r with
  | .ok a s => k a s
  | .exc x s => .exc x ρ s
  | .bad => .bad
section
variable {C : Cn} {Wx : WX} {W : Wd} {σ : L2.St} {H : Hp} {E : Ends} {ρ : Rho} {α β : Type} {P : Wd → α → β → Prop}
theorem OutS.split {r : R α} {k : α → S → RS} (er : EnvR C W ρ σ) (h : OutS C Wx W H E (r.toS ρ k)) :
    Out P C Wx σ W H (fun v H1 => ∃ W1 s1 d, Ext W H W1 H1 ∧ Sim C W1 s1 H1 ∧ P W1 d v ∧ OutS C Wx W1 H1 E (k d s1)) r := by
  cases r with
  | ok d s => exact fun W' v H' e' sm p => ⟨W', s, d, e', sm, p, OutS.ext e' h⟩
  | exc x s => exact fun W' H' c d e' sm rx => h W' σ H' c d e' sm (er.mono e') rx
  | bad => exact h
end
def RS.bind (r : RS) (k : Rho → S → RS) : RS := match r with
  | .nx ρ s => k ρ s
  | r => r

/-! ### statements -/
def sNil : Stm := fun ρ s => .nx ρ s
def sSeq (f g : Stm) : Stm := fun ρ s => (f ρ s).bind g
def sPass : Stm := fun ρ s => .nx ρ s
def sBrk : Stm := fun ρ s => .brk ρ s
def sCnt : Stm := fun ρ s => .cnt ρ s
def sEx (f : Ex) : Stm := fun ρ s => (f ρ s).toS ρ fun _ s => .nx ρ s
def sIf (c : Bx) (f g : Stm) : Stm := fun ρ s => (c ρ s).toS ρ fun b s => match b with
  | true => f ρ s
  | false => g ρ s
def sSet (i : Nat) (f : Ex) : Stm := fun ρ s => (f ρ s).toS ρ fun d s => .nx (ρ.set i (.v d)) s
section
variable {X : Cx} {C : Cn} {Wx : WX} {st : Stmt} {rest : List Stmt} {f g : Stm} {e : Expr} {h : Ex} {c : Expr} {p : Bx} {pos : Pos} {a b : List Stmt}
theorem zss_nil : PSs X [] (tS C Wx sNil) := pss_imp pss_nil fun D σ H ⟨ρ, W, s, er, sm, o⟩ => o W σ H (Ext.refl W H) sm er
theorem zss_cons (h1 : PS X st (tS C Wx f)) (h2 : PSs X rest (tS C Wx g)) : PSs X (st :: rest) (tS C Wx (sSeq f g)) :=
  pss_imp (pss_cons h1 h2) fun D σ H ⟨ρ, W, s, er, sm, o⟩ => ⟨ρ, W, s, er, sm, by
    unfold sSeq RS.bind at o
    cases q : f ρ s with
    | nx ρ1 s1 =>
      rw [q] at o
      exact fun W' σ' H' e' sm' er' => ⟨ρ1, W', s1, er', sm', OutS.ext e' o⟩
    | ret d s1 => rw [q] at o; exact o
    | brk ρ1 s1 => rw [q] at o; exact o
    | cnt ρ1 s1 => rw [q] at o; exact o
    | exc x ρ1 s1 => rw [q] at o; exact o
    | excF x s1 => rw [q] at o; exact o
    | bad => rw [q] at o; exact o⟩
theorem zss_one (h1 : PS X st (tS C Wx f)) : PSs X [st] (tS C Wx f) := pss_one h1
theorem zs_pass : PS X (.Pass pos) (tS C Wx sPass) := ps_imp ps_pass fun D σ H ⟨ρ, W, s, er, sm, o⟩ => o W σ H (Ext.refl W H) sm er
theorem zs_doc {x j pos pos'} : PS X (.Expr (.Constant (.str x) j pos) pos') (tS C Wx sPass) := ps_imp ps_doc fun D σ H ⟨ρ, W, s, er, sm, o⟩ => o W σ H (Ext.refl W H) sm er
theorem zs_brk : PS X (.Break pos) (tS C Wx sBrk) := ps_imp ps_break fun D σ H ⟨ρ, W, s, er, sm, o⟩ => o W σ H (Ext.refl W H) sm er
theorem zs_cnt : PS X (.Continue pos) (tS C Wx sCnt) := ps_imp ps_continue fun D σ H ⟨ρ, W, s, er, sm, o⟩ => o W σ H (Ext.refl W H) sm er
theorem zs_expr (he : PE X e (tE C Wx h)) (hs : swapsWith e none pos.line X.env = pure false := by rfl) : PS X (.Expr e pos) (tS C Wx (sEx h)) :=
  ps_imp (ps_expr he hs) fun D σ H ⟨ρ, W, s, er, sm, o⟩ => ⟨ρ, W, s, er, sm, Out.mono (OutS.split (P := Rep C) er o) (by
    rintro v H1 ⟨W1, s1, d, e1, sm1, r1, o1⟩
    exact o1 W1 σ H1 (Ext.refl _ _) sm1 (er.mono e1))⟩
theorem zs_if (hc : PT X c (tB C Wx p)) (ha : PSs X a (tS C Wx f)) (hb : PSs X b (tS C Wx g)) : PS X (.If c a b pos) (tS C Wx (sIf p f g)) :=
  ps_imp (ps_if hc ha hb) fun D σ H ⟨ρ, W, s, er, sm, o⟩ => ⟨ρ, W, s, er, sm, Out.mono (OutS.split (P := PB) er o) (by
    rintro v H1 ⟨W1, s1, d, e1, sm1, r1, o1⟩
    cases r1
    cases v with
    | true => exact ⟨ρ, W1, s1, er.mono e1, sm1, o1⟩
    | false => exact ⟨ρ, W1, s1, er.mono e1, sm1, o1⟩)⟩
theorem zs_set {i : Nat} {x : Str} {pos' : Pos} (h0 : PS X (.Assign [.Name x pos'] e pos) (tAsg (tE C Wx h) (gName i))) : PS X (.Assign [.Name x pos'] e pos) (tS C Wx (sSet i h)) :=
  ps_imp h0 fun D σ H ⟨ρ, W, s, er, sm, o⟩ => ⟨ρ, W, s, er, sm, Out.mono (OutS.split (P := Rep C) er o) (by
    rintro v H1 ⟨W1, s1, d, e1, sm1, r1, o1⟩
    exact o1 W1 _ H1 (Ext.refl _ _) sm1 ((er.mono e1).set ⟨v, rfl, r1⟩))⟩
end

/-! ### the frame's own lists seen as data -/
def viewS (l : List LO) : Sl → Sl
  | .un => .un
  | .v d => .v d
  | .l n => match l[n]? with
    | some (.lst x) => .v (.lst x)
    | some (.dic k v) => .v (.dic k v)
    | some .dead => .un
    | none => .un
def view (l : List LO) (ρ : Rho) : Rho := ρ.map (viewS l)
open Classical in
/-- the world where the frame's own objects are stable -/
noncomputable def Wd.frz (W : Wd) (H : Hp) : Wd := ⟨fun a => match W.hs a with
  | some o => some o
  | none => if a ∈ W.ll then H a else none, [], W.lg⟩
section
variable {C : Cn} {W : Wd} {s : S} {H : Hp} {ρ : Rho} {σ : L2.St}
theorem frz_old {a : Addr} {o : HO} (h : W.hs a = some o) : (W.frz H).hs a = some o := by
  unfold Wd.frz
  simp only [h]
theorem frz_loc {a : Addr} (h : W.hs a = none) (hm : a ∈ W.ll) : (W.frz H).hs a = H a := by
  unfold Wd.frz
  simp only [h]
  rw [if_pos hm]
theorem frz_inv {a : Addr} {o : HO} (h : (W.frz H).hs a = some o) : W.hs a = some o ∨ (W.hs a = none ∧ a ∈ W.ll ∧ H a = some o) := by
  unfold Wd.frz at h
  cases q : W.hs a with
  | some u =>
    simp only [q] at h
    exact .inl h
  | none =>
    simp only [q] at h
    split at h
    · rename_i hm
      exact .inr ⟨rfl, hm, h⟩
    · cases h
theorem frz_le : Le W (W.frz H) := ⟨fun a o h => frz_old h, fun n a h => h⟩
theorem Sim.frz (sm : Sim C W s H) : Sim C (W.frz H) ⟨[], s.g⟩ H := by
  refine ⟨fun a o h => ?_, rfl, fun n a o h => ?_, fun n a o h => (by have h : ([] : List Addr)[n]? = some a := h; simp at h), sm.gl, fun n a o h1 h2 => ?_, fun a h => ?_, ?_⟩
  · rcases frz_inv h with h | ⟨_, _, h⟩
    · exact sm.sub a o h
    · exact h
  · have h : ([] : List Addr)[n]? = some a := h
    simp at h
  · obtain ⟨u, e, r⟩ := sm.gv n a o h1 h2
    exact ⟨u, e, r.mono frz_le _ _⟩
  · cases q : (W.frz H).hs a with
    | none => rfl
    | some o =>
      rcases frz_inv q with z | ⟨_, z, _⟩
      · rw [sm.gf a h] at z
        cases z
      · exact absurd rfl ((List.nodup_append.mp sm.nd).2.2 a z a h)
  · exact (List.nodup_append.mp sm.nd).2.1
theorem EnvR.frz (er : EnvR C W ρ σ) (sm : Sim C W s H) : EnvR C (W.frz H) (view s.l ρ) σ := by
  refine ⟨by unfold view; rw [List.length_map]; exact er.len, fun i x hx => ?_⟩
  unfold view at hx
  rw [List.getElem?_map] at hx
  cases q : ρ[i]? with
  | none => rw [q] at hx; cases hx
  | some y =>
    rw [q] at hx
    simp only [Option.map_some, Option.some.injEq] at hx
    obtain ⟨o, e1, e2⟩ := er.at_ i y q
    refine ⟨o, e1, ?_⟩
    subst hx
    cases y with
    | un => trivial
    | v d =>
      obtain ⟨w, e3, e4⟩ := e2
      exact ⟨w, e3, e4.mono frz_le⟩
    | l n =>
      obtain ⟨a, e3, e4⟩ := e2
      have ha : a ∈ W.ll := List.mem_of_getElem? e4
      cases z : s.l[n]? with
      | none =>
        simp only [viewS, z]
        trivial
      | some lo =>
        obtain ⟨u, h1, h2⟩ := sm.lv n a lo e4 z
        have hf : lo ≠ .dead → (W.frz H).hs a = some u := fun hd => by rw [frz_loc (sm.lf n a lo e4 z hd) ha]; exact h1
        cases lo with
        | dead =>
          simp only [viewS, z]
          trivial
        | lst l =>
          obtain ⟨vs, rfl, r⟩ := h2
          simp only [viewS, z]
          exact ⟨_, e3, by rw [Rep]; exact ⟨a, vs, rfl, hf (by intro h; cases h), r.mono frz_le⟩⟩
        | dic ks xs =>
          obtain ⟨kk, vs, rfl, r1, r2, r3⟩ := h2
          simp only [viewS, z]
          exact ⟨_, e3, by rw [Rep]; exact ⟨a, kk, vs, rfl, hf (by intro h; cases h), r1, r2, r3.mono frz_le⟩⟩
theorem ExtF.frz (sm : Sim C W s H) : ExtF W H (W.frz H) H := by
  refine ⟨fun a o h => frz_old h, fun a o h => ?_, ⟨[], by show W.lg = _; simp, fun _ h => by cases h⟩, fun a o h _ _ => h, fun a h => h⟩
  rcases frz_inv h with h | ⟨_, h, _⟩
  · exact .inl h
  · exact .inr (.inr h)
end
/-- return e: the frame's own lists are from now on as they are -/
def sRet (f : Ex) : Stm := fun ρ s => match f (view s.l ρ) ⟨[], s.g⟩ with
  | .ok d s' => .ret d ⟨[], s'.g⟩
  | .exc x s' => .excF x s'
  | .bad => .bad
def sRetN : Stm := fun _ s => .ret .non ⟨[], s.g⟩
theorem Sim.noll {C : Cn} {W : Wd} {s : S} {H : Hp} (sm : Sim C W s H) : Sim C W.noll ⟨[], s.g⟩ H :=
  ⟨sm.sub, rfl, fun n a o h => (by simp [Wd.noll] at h), fun n a o h => (by have h : ([] : List Addr)[n]? = some a := h; simp at h), sm.gl, fun n a o h1 h2 => (let ⟨u, e, r⟩ := sm.gv n a o h1 h2; ⟨u, e, RepGO.mono (W := W) (W' := W.noll) ⟨fun _ _ h => h, fun _ _ h => h⟩ _ _ r⟩), sm.gf, (List.nodup_append.mp sm.nd).2.1⟩
theorem le_noll {W : Wd} : Le W W.noll := ⟨fun _ _ h => h, fun _ _ h => h⟩
theorem ExtF.noll {W W' : Wd} {H H' : Hp} (e : ExtF W H W' H') : ExtF W H W'.noll H' := ⟨e.hs, e.new, e.lg, e.fr, e.dom⟩
theorem Ext.toF {W W' : Wd} {H H' : Hp} (e : Ext W H W' H') : ExtF W H W' H' :=
  ⟨e.hs, e.new, e.lg, e.fr, e.dom⟩
theorem RepX.mono {C : Cn} {W W' : Wd} {x : Xc} {cls : Value} {d : Option Addr} {H : Hp} (k : Le W W') (h : RepX C W x cls d H) : RepX C W' x cls d H := h
section
variable {X : Cx} {C : Cn} {Wx : WX} {e : Expr} {f : Ex} {pos : Pos}
theorem zs_ret (he : PE X e (tE C Wx f)) : PS X (.Return (some e) pos) (tS C Wx (sRet f)) :=
  ps_imp (ps_ret he) fun D σ H ⟨ρ, W, s, er, sm, o⟩ => by
    refine ⟨_, W.frz H, _, er.frz sm, sm.frz, ?_⟩
    unfold sRet at o
    have hf := ExtF.frz sm
    cases q : f (view s.l ρ) ⟨[], s.g⟩ with
    | ok d s' =>
      rw [q] at o
      exact fun W' v H' e' sm' r => o W'.noll v H' (hf.then e' rfl).noll rfl sm'.noll (r.mono le_noll)
    | exc x s' =>
      rw [q] at o
      exact fun W' H' c dx e' sm' r => o W' σ H' c dx (hf.then e' rfl) sm' r
    | bad => rw [q] at o; exact o
theorem zs_retN : PS X (.Return none pos) (tS C Wx sRetN) :=
  ps_imp ps_retN fun D σ H ⟨ρ, W, s, er, sm, o⟩ => o _ _ H (ExtF.frz sm) rfl sm.frz (by rw [Rep])
end

/-! ### defs -/
open PyProof.Rows (envOfC)
abbrev FnZ := List D → List GO → R D
/-- what a def does, by its body: n slots -/
def fnz (n : Nat) (body : Stm) : FnZ := fun ds g => match body (ds.map Sl.v ++ List.replicate (n - ds.length) Sl.un) ⟨[], g⟩ with
  | .nx _ s => .ok .non ⟨[], s.g⟩
  | .ret d s => .ok d s
  | .exc x _ s => .exc x ⟨[], s.g⟩
  | .excF x s => .exc x ⟨[], s.g⟩
  | _ => .bad
/-- the promise of a def, by data -/
def spZ (C : Cn) (F : FnZ) (n : Nat) : Sp := fun vs H Q E => ∃ W g ds, W.ll = [] ∧ ds.length = n ∧ RepL C W ds vs ∧ Sim C W ⟨[], g⟩ H ∧ Out (Rep C) C (fun c d _ h => E c d h) [] W H Q (F ds g)
/-- a def keeps its promise, called where nothing is being shown -/
structure FnG (P : Program) (w : World) (K : PySem.W.Frag) (mg : Str → Option Value) (base : Heap) (k : Nat) (f : Addr) (fd : FuncData) (ps : List Str) (sp : Sp) : Prop where
  len : ∀ vs H Q E, sp vs H Q E → vs.length = ps.length
  run : ∀ (A : Around) (outer : List Env) (s : Shared) (H : Hp) (args : Args) (us : List Value) (vs : List V) (Q : VK) (E : XK), Room k A → A.guards = some [] → Env0 P w K mg base A outer s H → BindsTo s fd args (ps.zip us) → Vals vs us → sp vs H Q E →
    codeAny (model P w) A (.call (.ref f) args) (CR (L2.CX P w) outer P w H s Q E) s
theorem FnG.mono {P : Program} {w : World} {K : PySem.W.Frag} {mg : Str → Option Value} {base : Heap} {j k : Nat} {f : Addr} {fd : FuncData} {ps : List Str} {sp : Sp} (F : FnG P w K mg base j f fd ps sp) (h : j ≤ k) : FnG P w K mg base k f fd ps sp :=
  ⟨F.len, fun A outer s H args us vs Q E hr => F.run A outer s H args us vs Q E (hr.mono h)⟩
theorem fnG_of {P : Program} {w : World} {K : PySem.W.Frag} {mg : Str → Option Value} {base : Heap} {k : Nat} {f : Addr} {x qual : Str} {st : Stmt} {fd : FuncData} {N ps : List Str} {sp : Sp} (F : Fun K x qual st f fd) (S : FnScope N ps (defScope st))
    (len : ∀ vs H Q E, sp vs H Q E → vs.length = ps.length)
    (hbody : ∀ (cdv : Value) (A : Around) (outer : List Env) (s : Shared) (H : Hp) (vs : List V) (Q : VK) (E : XK), Room k (A.deeper (envOfC qual (defScope st) s.heap.objs.size f cdv)) → (A.deeper (envOfC qual (defScope st) s.heap.objs.size f cdv)).guards = some [] → sp vs H Q E →
      ∃ t, PSs (cxOf (L2.CX P w) P w K mg base N qual (defScope st) f cdv A outer s H E) (defBody st) t ∧ t { nx := fun _ H' => Q .non H', rt := Q } (start N vs) H) : FnG P w K mg base (k + 1) f fd ps sp := by
  obtain ⟨oc, od, kV, doc, pm, an, cdv, ct, osl, rfl, lk, hcd⟩ := F.ex
  refine ⟨len, fun A outer s H args us vs Q E hr hgu e0 hb rv hsp => ?_⟩
  have hl := len _ _ _ _ hsp
  have kin : K.In s.heap := e0.mod.kin.keeps fun b o z => (e0.bs b o z).1
  have lim : s.heap.NoLimit := e0.mod.nolimit.keeps fun b o z => (e0.bs b o z).1
  refine Att.call_fn kin lim lk hcd hr.depth hb ?_ (fun s1 y => ?_) S.co S.gen S.kind
  · refine List.all_eq_true.mpr fun y hy => ?_
    have := S.par y.1 (List.of_mem_zip hy).1
    simpa using this
  · obtain ⟨t, ht, hq⟩ := hbody cdv A outer s H vs Q E (hr.deeper _) hgu hsp
    have I := inv_start (CX := L2.CX P w) (E := E) S hr.hd e0 hl rv y
    have back : ∀ {σ' : L2.St} {H' : Hp} {v : V} {u : Value} {s' : Shared}, L2.Inv (cxOf (L2.CX P w) P w K mg base N qual (defScope st) f cdv A outer s H E) [] σ' H' s' → RelV v u → Q v H' → CE outer P w H s Q u s' :=
      fun {σ' H' v u s'} J r q => ⟨v, H', J.os, J.bare, J.base, J.hok, r, q⟩
    refine wpAny_mono (ht.run [] s1 (start N vs) H _ I hq) (fun fl s' h => ?_) fun e s' h => h
    cases fl with
    | next => obtain ⟨σ', H', J, q⟩ := h; exact back (v := V.non) (u := Value.none) J rfl q
    | ret u => obtain ⟨v, σ', H', J, r, q⟩ := h; exact back J r q
    | brk => obtain ⟨_, _, _, q⟩ := h; exact q.elim
    | cont => obtain ⟨_, _, _, q⟩ := h; exact q.elim
/-- a def by its body's data -/
theorem fnG_z {P : Program} {w : World} {K : PySem.W.Frag} {mg : Str → Option Value} {base : Heap} {k : Nat} {f : Addr} {x qual : Str} {st : Stmt} {fd : FuncData} {N ps : List Str} {C : Cn} {body : Stm} (F : Fun K x qual st f fd) (S : FnScope N ps (defScope st))
    (hbody : ∀ (cdv : Value) (A : Around) (outer : List Env) (s : Shared) (H : Hp) (E : XK), Room k (A.deeper (envOfC qual (defScope st) s.heap.objs.size f cdv)) → (A.deeper (envOfC qual (defScope st) s.heap.objs.size f cdv)).guards = some [] →
      Takes (cxOf (L2.CX P w) P w K mg base N qual (defScope st) f cdv A outer s H E) (fun c d _ h => E c d h) →
      PSs (cxOf (L2.CX P w) P w K mg base N qual (defScope st) f cdv A outer s H E) (defBody st) (tS C (fun c d _ h => E c d h) body)) : FnG P w K mg base (k + 1) f fd ps (spZ C (fnz N.length body) ps.length) := by
  refine fnG_of F S (fun vs H Q E h => ?_) fun cdv A outer s H vs Q E hr hg h => ?_
  · obtain ⟨W, g, ds, _, h1, h2, _⟩ := h
    rw [← h2.length, h1]
  · refine ⟨_, hbody cdv A outer s H E hr hg (takes_of rfl rfl rfl rfl), ?_⟩
    obtain ⟨W, g, ds, h0, h1, h2, sm, o⟩ := h
    refine ⟨_, W, ⟨[], g⟩, EnvR.start h2, sm, ?_⟩
    unfold fnz at o
    cases q : body (ds.map Sl.v ++ List.replicate (N.length - ds.length) Sl.un) ⟨[], g⟩ with
    | nx ρ s1 =>
      rw [q] at o
      exact fun W' σ' H' e' sm' er => o W'.noll _ H' (e'.toF.noll.ext h0 rfl) sm'.noll (by rw [Rep])
    | ret d s1 =>
      rw [q] at o
      exact fun W' v H' e' hl sm' r => o W' v H' (e'.ext h0 hl) sm' r
    | exc x ρ s1 =>
      rw [q] at o
      exact fun W' σ' H' c dx e' sm' er r => o W'.noll H' c dx (e'.toF.noll.ext h0 rfl) sm'.noll (r.mono le_noll)
    | excF x s1 =>
      rw [q] at o
      exact fun W' σ' H' c dx e' sm' r => o W'.noll H' c dx (e'.noll.ext h0 rfl) sm'.noll (r.mono le_noll)
    | brk ρ s1 => rw [q] at o; exact o.elim
    | cnt ρ s1 => rw [q] at o; exact o.elim
    | bad => rw [q] at o; exact o.elim
end Z

/-! Z5: calls of defs. -/
namespace Z
open PySem L2
/-- a call, by data: the frame's own objects are hidden from the callee -/
def callF (F : FnZ) (ds : List D) (s : S) : R D := match F ds s.g with
  | .ok d s' => .ok d ⟨s.l, s'.g⟩
  | .exc x s' => .exc x ⟨s.l, s'.g⟩
  | .bad => .bad
def eCall (n : Nat) (F : FnZ) (a : Ax) : Ex := fun ρ s => (a ρ s).bind fun ds s => gd (Nat.beq ds.length n) (callF F ds s)
/-- from a list, by places -/
def pick {α : Type} : List Nat → List α → List α
  | [], _ => []
  | i :: r, l => match l[i]? with
    | some x => x :: pick r l
    | none => pick r l
def eCallK (n m : Nat) (F : FnZ) (sel : List Nat) (dd : List D) (a b : Ax) : Ex := fun ρ s => (a ρ s).bind fun us s => (b ρ s).bind fun ws s =>
  gd (Nat.beq us.length n && Nat.beq ws.length m) (gd (Nat.beq (pick sel (us ++ (ws ++ dd))).length sel.length) (callF F (pick sel (us ++ (ws ++ dd))) s))

section
variable {C : Cn} {W W' : Wd} {s s' : S} {H H' : Hp} {σ : L2.St} {Q : VK} {Wx : WX} {F : FnZ} {n : Nat} {ds : List D} {vs : List V}
/-- back from a callee's world -/
theorem back_ext (sm : Sim C W s H) (e : Ext W.noll H W' H') : Ext W H ⟨W'.hs, W.ll, W'.lg⟩ H' := by
  refine ⟨e.hs, fun a o h => (e.new a o h).imp_right fun z => z.imp_right fun z => (by cases z), ⟨[], by simp, fun _ h => by cases h⟩, e.lg, fun a o h h1 h2 => e.fr a o h (by show a ∉ []; simp) h2, e.dom⟩
theorem back_sim (sm : Sim C W s H) (e : Ext W.noll H W' H') (sm' : Sim C W' s' H') : Sim C ⟨W'.hs, W.ll, W'.lg⟩ ⟨s.l, s'.g⟩ H' := by
  have hl := (back_ext sm e).le
  have hl' : ∀ a, a ∈ W.ll → H' a = H a := fun a ha => by
    obtain ⟨u, hu⟩ := sm.lat ha
    rw [hu]
    exact e.fr a u hu (by show a ∉ []; simp) fun z => absurd rfl ((List.nodup_append.mp sm.nd).2.2 a ha a z)
  refine ⟨sm'.sub, sm.ll, fun n a o h1 h2 => ?_, fun n a x h1 h2 hd => ?_, sm'.gl, fun n a o h1 h2 => ?_, sm'.gf, ?_⟩
  · obtain ⟨u, q, r⟩ := sm.lv n a o h1 h2
    exact ⟨u, by rw [hl' a (List.mem_of_getElem? h1)]; exact q, r.mono hl _ _⟩
  · cases q : W'.hs a with
    | none => rfl
    | some o =>
      rcases e.new a o q with z | z | z
      · have z : W.hs a = some o := z
        rw [sm.lf n a x h1 h2 hd] at z
        cases z
      · obtain ⟨u, hu⟩ := sm.lat (List.mem_of_getElem? h1)
        rw [z] at hu
        cases hu
      · cases z
  · obtain ⟨u, q, r⟩ := sm'.gv n a o h1 h2
    exact ⟨u, q, RepGO.mono (W := W') (W' := ⟨W'.hs, W.ll, W'.lg⟩) ⟨fun _ _ h => h, fun _ _ h => h⟩ _ _ r⟩
  · refine List.nodup_append.mpr ⟨(List.nodup_append.mp sm.nd).1, (List.nodup_append.mp sm'.nd).2.1, fun a ha b hb e2 => ?_⟩
    subst e2
    obtain ⟨m, em, fm⟩ := e.lg
    have hb : a ∈ W'.lg := hb
    rw [em] at hb
    rcases List.mem_append.mp hb with hb | hb
    · exact (List.nodup_append.mp sm.nd).2.2 a ha a hb rfl
    · obtain ⟨u, hu⟩ := sm.lat ha
      rw [fm a hb] at hu
      cases hu
theorem le_back : Le W' ⟨W'.hs, W.ll, W'.lg⟩ := ⟨fun _ _ h => h, fun _ _ h => h⟩
theorem callF_sp (sm : Sim C W s H) (hn : ds.length = n) (r : RepL C W ds vs) (o : Out (Rep C) C Wx σ W H Q (callF F ds s)) : spZ C F n vs H Q (fun c d h => Wx c d σ h) := by
  refine ⟨W.noll, s.g, ds, rfl, hn, r.mono le_noll, sm.noll, ?_⟩
  unfold callF at o
  cases q : F ds s.g with
  | ok d s' =>
    rw [q] at o
    exact fun W' v H' e sm' r' => o _ v H' (back_ext sm e) (back_sim sm e sm') (r'.mono le_back)
  | exc x s' =>
    rw [q] at o
    exact fun W' H' c dx e sm' r' => o _ H' c dx (back_ext sm e) (back_sim sm e sm') (r'.mono le_back)
  | bad => rw [q] at o; exact o
end
theorem pick_vals {sel : List Nat} {vs : List V} {us : List Value} (h : Vals vs us) : Vals (pick sel vs) (pick sel us) := by
  induction sel with
  | nil => exact .nil
  | cons i r ih =>
    unfold pick
    cases q : vs[i]? with
    | some x =>
      obtain ⟨u, e1, e2⟩ := h.get q
      rw [e1]
      exact .cons e2 ih
    | none =>
      rw [h.none_of q]
      exact ih
theorem pick_rep {C : Cn} {W : Wd} {sel : List Nat} {ds : List D} {vs : List V} (h : RepL C W ds vs) : RepL C W (pick sel ds) (pick sel vs) := by
  induction sel with
  | nil => exact RepL.nil
  | cons i r ih =>
    unfold pick
    cases q : ds[i]? with
    | some x =>
      obtain ⟨u, e1, e2⟩ := h.get q
      rw [e1]
      exact RepL.cons e2 ih
    | none =>
      have : vs[i]? = none := by
        rw [List.getElem?_eq_none_iff] at q ⊢
        rw [← h.length]
        exact q
      rw [this]
      exact ih
/-- positional arguments alone, every parameter -/
def BindP (fd : FuncData) (ps : List Str) : Prop := ∀ (s : Shared) (us : List Value), us.length = ps.length → BindsTo s fd ⟨us, []⟩ (ps.zip us)
/-- n positional arguments, keywords ks, defaults ds; sel tells where each parameter's value stands -/
def BindZ (K : PySem.W.Frag) (fd : FuncData) (ps : List Str) (n : Nat) (ks : List Str) (sel : List Nat) (ds : List Value) : Prop :=
  ∀ (s : Shared) (us ws : List Value), K.In s.heap → us.length = n → ws.length = ks.length → BindsTo s fd ⟨us, ks.zip ws⟩ (ps.zip (pick sel (us ++ (ws ++ ds))))
section
variable {X : Cx} {C : Cn} {Wx : WX} {k : Nat} {f : Addr} {fd : FuncData} {ps ks : List Str} {Fn : FnZ} {x : Str} {p pos : Pos} {e : Expr} {es : List Expr} {a b : Ax} {kws : List Keyword} {n m : Nat}
/-- the callee runs -/
theorem run_z {pins : List (Addr × Obj)} {σ : L2.St} {H : Hp} {s : Shared} {Q : VK} {us : List Value} {kw : List (Str × Value)} {vs : List V} {ys : List Value} (F : FnG X.prog X.w X.K X.mg X.base k f fd ps (spZ C Fn m)) (hr : Room k X.A) (hg : X.A.guards = some [])
    (tk : Takes X Wx) (I : L2.Inv X pins σ H s) (hb : BindsTo s fd ⟨us, kw⟩ (ps.zip ys)) (r : Vals vs ys) (h : spZ C Fn m vs H Q (fun c d h => Wx c d σ h)) : wpAny (model X.prog X.w) X.A (call (.ref f) us kw) (EP X pins σ Q) X.xe s := by
  refine wpAny_call (codeAny_mono (F.run X.A X.stack s H ⟨us, kw⟩ ys vs Q _ hr hg I.env0 hb r h) fun res s' hq => ?_)
  cases res with
  | error e => exact tk _ _ (XE.of_call (W := Wx) I (fun _ _ _ z => z) hq)
  | ok fl =>
    cases fl with
    | ret u => exact I.after hq
    | next => exact hq.elim
    | brk => exact hq.elim
    | cont => exact hq.elim
theorem ze_call (F : FnG X.prog X.w X.K X.mg X.base k f fd ps (spZ C Fn n)) (hr : Room k X.A) (hgu : X.A.guards = some []) (tk : Takes X Wx) (hg : Gl X x) (hm : X.mg x = some (.ref f)) (hk : PySem.W.keepIn X.K (.ref f) = true) (hb : BindP fd ps) (hnp : ps.length = n)
    (ha : PA X (e :: es) (tA C Wx a)) (hdb : (x == ("__debug__" : Str)) = false := by decide) (he : starEach (e :: es) X.env = (false, eval e X.env) :: starEach es X.env := by rfl) (hpl : (backTo pos (starEach es X.env)).any (·.1) = false := by rfl) :
    PE X (.Call (.Name x p) (e :: es) [] pos) (tE C Wx (eCall n Fn a)) := by
  subst hnp
  refine ⟨fun pins st σ H Q I ⟨ρ, W, s, er, sm, o⟩ => ?_⟩
  refine wpAny_Call_Name_kw (ld_glob I hg hm ?_ hdb)
  refine PySem.W.callWith_K (h₀ := X.base) I.ok.mod.kin hk (thn (ha.run pos pins st σ H _ I ⟨ρ, W, s, er, sm, Out.mono (Out.bind (P := RepL C) o) fun _ _ z => z⟩) fun us s1 ⟨vs, H1, I1, r, W1, s2, ds, e1, sm1, r1, o1⟩ => ⟨I1.kIn, ?_⟩) he hpl
  obtain ⟨hn, o1⟩ := gd_ok o1
  have hn := Nat.eq_of_beq_eq_true hn
  exact run_z F hr hgu tk I1 (hb s1 us (by rw [← r.length, ← r1.length]; exact hn)) r (callF_sp sm1 hn r1 o1)
theorem ze_call0 (F : FnG X.prog X.w X.K X.mg X.base k f fd ps (spZ C Fn n)) (hr : Room k X.A) (hgu : X.A.guards = some []) (tk : Takes X Wx) (hg : Gl X x) (hm : X.mg x = some (.ref f)) (hk : PySem.W.keepIn X.K (.ref f) = true) (hb : BindP fd ps) (hnp : ps.length = n)
    (hdb : (x == ("__debug__" : Str)) = false := by decide) : PE X (.Call (.Name x p) [] [] pos) (tE C Wx (eCall n Fn aNil)) := by
  subst hnp
  refine ⟨fun pins st σ H Q I ⟨ρ, W, s, er, sm, o⟩ => ?_⟩
  refine wpAny_Call_Name_kw (ld_glob I hg hm ?_ hdb)
  obtain ⟨hn, o1⟩ := gd_ok (show Out (Rep C) C Wx σ W H Q (gd (Nat.beq ([] : List D).length ps.length) (callF Fn [] s)) from o)
  have hn := Nat.eq_of_beq_eq_true hn
  exact PySem.W.callWith_K0 I.kIn hk (run_z (us := []) F hr hgu tk I (hb st [] hn) .nil (callF_sp sm hn RepL.nil o1))

/-! ### keywords -/
theorem pk_imp {t t' : TA} (h : PK X kws t) (q : ∀ σ H Q, t' σ H Q → t σ H Q) : PK X kws t' := ⟨fun p pins s σ H Q I z => h.run p pins s σ H Q I (q _ _ _ z)⟩
theorem zk_nil : PK X [] (tA C Wx aNil) := pk_imp pk_nil fun σ H Q ⟨ρ, W, s, er, sm, o⟩ => o W _ H (Ext.refl W H) sm RepL.nil
theorem zk_cons {t : Ax} {g : Ex} {nm : Option Str} {kpos : Pos} (ha : PE X e (tE C Wx g)) (hr : PK X kws (tA C Wx t)) : PK X (⟨nm, e, kpos⟩ :: kws) (tA C Wx (aCons g t)) :=
  pk_imp (pk_cons ha hr) fun σ H Q ⟨ρ, W, s, er, sm, o⟩ => ⟨ρ, W, s, er, sm, Out.mono (Out.bind (P := Rep C) o) (by
    rintro v H1 ⟨W1, s1, d, e1, sm1, r1, o1⟩
    refine ⟨ρ, W1, s1, er.mono e1, sm1, Out.mono (Out.bind (P := RepL C) o1) ?_⟩
    rintro vs H2 ⟨W2, s2, l, e2, sm2, r2, o2⟩
    exact o2 W2 _ H2 (Ext.refl _ _) sm2 (RepL.cons (r1.mono e2.le) r2))⟩
theorem ze_callK {np nk : Nat} {sel : List Nat} {dd : List D} {dvs : List V} {ds : List Value} (F : FnG X.prog X.w X.K X.mg X.base k f fd ps (spZ C Fn np)) (hr : Room k X.A) (hgu : X.A.guards = some []) (tk : Takes X Wx) (hg : Gl X x) (hm : X.mg x = some (.ref f)) (hk : PySem.W.keepIn X.K (.ref f) = true)
    (hb : BindZ X.K fd ps n ks sel ds) (hdv : Vals dvs ds) (hdd : ∀ W, RepL C W dd dvs) (hsel : sel.length = ps.length) (hnp : ps.length = np) (hnk : ks.length = nk)
    (ha : PA X (e :: es) (tA C Wx a)) (hkw : PK X kws (tA C Wx b)) (hall : (backToKw pos (keywordEach kws X.env)).all (·.1.isSome) = true := by rfl) (hks : (backToKw pos (keywordEach kws X.env)).filterMap (·.1) = ks := by rfl)
    (hdb : (x == ("__debug__" : Str)) = false := by decide) (he : starEach (e :: es) X.env = (false, eval e X.env) :: starEach es X.env := by rfl)
    (hpl : ((backTo pos (starEach (e :: es) X.env)).any (·.1) || (backToKw pos (keywordEach kws X.env)).any (·.1.isNone)) = false := by rfl) :
    PE X (.Call (.Name x p) (e :: es) kws pos) (tE C Wx (eCallK n nk Fn sel dd a b)) := by
  subst hnp hnk
  refine ⟨fun pins st σ H Q I ⟨ρ, W, s, er, sm, o⟩ => ?_⟩
  refine wpAny_Call_Name_kw (ld_glob I hg hm ?_ hdb)
  refine PySem.W.callWith_KW (h₀ := X.base) I.ok.mod.kin hk hall (thn (ha.run pos pins st σ H _ I ⟨ρ, W, s, er, sm, Out.mono (Out.bind (P := RepL C) o) fun _ _ z => z⟩) fun us s1 ⟨vs, H1, I1, r, W1, s2, d1, e1, sm1, r1, o1⟩ => ?_) hpl he
  refine thn (hkw.run pos pins s1 σ H1 _ I1 ⟨ρ, W1, s2, er.mono e1, sm1, Out.mono (Out.bind (P := RepL C) o1) fun _ _ z => z⟩) fun ws s3 ⟨zs, H2, I2, rz, W2, s4, d2, e2, sm2, r2, o2⟩ => ⟨I2.kIn, ?_⟩
  rw [hks]
  obtain ⟨hn, o2⟩ := gd_ok o2
  obtain ⟨hn3, o2⟩ := gd_ok o2
  rw [Bool.and_eq_true] at hn
  have hn1 := Nat.eq_of_beq_eq_true hn.1
  have hn2 := Nat.eq_of_beq_eq_true hn.2
  have hn3 := Nat.eq_of_beq_eq_true hn3
  exact run_z F hr hgu tk I2 (hb s3 us ws I2.kIn (by rw [← r.length, ← r1.length]; exact hn1) (by rw [← rz.length, ← r2.length]; exact hn2)) (pick_vals (r.append (rz.append hdv))) (callF_sp sm2 (hn3.trans hsel) (pick_rep ((r1.mono e2.le).append (r2.append (hdd W2)))) o2)
end
end Z
namespace Z
open PySem L2
section
variable {X : Cx} {C : Cn} {Wx : WX} {k : Nat} {f : Addr} {fd : FuncData} {ps ks : List Str} {Fn : FnZ} {x : Str} {p pos : Pos} {e : Expr} {es : List Expr} {a b : Ax} {kws : List Keyword} {n m : Nat}
theorem ze_callK0 {np nk : Nat} {sel : List Nat} {dd : List D} {dvs : List V} {ds : List Value} (F : FnG X.prog X.w X.K X.mg X.base k f fd ps (spZ C Fn np)) (hr : Room k X.A) (hgu : X.A.guards = some []) (tk : Takes X Wx) (hg : Gl X x) (hm : X.mg x = some (.ref f)) (hk : PySem.W.keepIn X.K (.ref f) = true)
    (hb : BindZ X.K fd ps 0 ks sel ds) (hdv : Vals dvs ds) (hdd : ∀ W, RepL C W dd dvs) (hsel : sel.length = ps.length) (hnp : ps.length = np) (hnk : ks.length = nk)
    (hkw : PK X kws (tA C Wx b)) (hall : (backToKw pos (keywordEach kws X.env)).all (·.1.isSome) = true := by rfl) (hks : (backToKw pos (keywordEach kws X.env)).filterMap (·.1) = ks := by rfl)
    (hdb : (x == ("__debug__" : Str)) = false := by decide)
    (hpl : ((backTo pos (starEach [] X.env)).any (·.1) || (backToKw pos (keywordEach kws X.env)).any (·.1.isNone)) = false := by rfl) :
    PE X (.Call (.Name x p) [] kws pos) (tE C Wx (eCallK 0 nk Fn sel dd aNil b)) := by
  subst hnp hnk
  refine ⟨fun pins st σ H Q I ⟨ρ, W, s, er, sm, o⟩ => ?_⟩
  refine wpAny_Call_Name_kw (ld_glob I hg hm ?_ hdb)
  have o : Out (Rep C) C Wx σ W H Q ((b ρ s).bind fun ws s => gd (Nat.beq ([] : List D).length 0 && Nat.beq ws.length ks.length) (gd (Nat.beq (pick sel ([] ++ (ws ++ dd))).length sel.length) (callF Fn (pick sel ([] ++ (ws ++ dd))) s))) := o
  refine PySem.W.callWith_KW0 (h₀ := X.base) I.ok.mod.kin hk hall (thn (hkw.run pos pins st σ H _ I ⟨ρ, W, s, er, sm, Out.mono (Out.bind (P := RepL C) o) fun _ _ z => z⟩) fun ws s3 ⟨zs, H2, I2, rz, W2, s4, d2, e2, sm2, r2, o2⟩ => ⟨I2.kIn, ?_⟩) hpl
  rw [hks]
  obtain ⟨hn, o2⟩ := gd_ok o2
  obtain ⟨hn3, o2⟩ := gd_ok o2
  rw [Bool.and_eq_true] at hn
  have hn2 := Nat.eq_of_beq_eq_true hn.2
  have hn3 := Nat.eq_of_beq_eq_true hn3
  exact run_z (us := []) F hr hgu tk I2 (hb s3 [] ws I2.kIn rfl (by rw [← rz.length, ← r2.length]; exact hn2)) (pick_vals (rz.append hdv)) (callF_sp sm2 (hn3.trans hsel) (pick_rep (r2.append (hdd W2))) o2)
end

/-! ### built-in functions, built-in types, methods of built-in types -/
abbrev FL := List D → S → R D
def rC (C : Cn) (F : FL) : List V → Hp → VK → Prop := fun xs H Q => ∃ Wx σ W s ds, Sim C W s H ∧ RepL C W ds xs ∧ Out (Rep C) C Wx σ W H Q (F ds s)
def eCB (F : FL) (a : Ax) : Ex := fun ρ s => (a ρ s).bind F
section
variable {X : Cx} {C : Cn} {Wx : WX} {x : Str} {p pos : Pos} {e : Expr} {es : List Expr} {a : Ax} {F : FL} {id T : String}
theorem ze_cb (hc : CallR X (.builtin id) (rC C F)) (hg : Gl X x) (hm : X.mg x = none) (hv : bootBuiltins x = some (.builtin id)) (ha : PA X (e :: es) (tA C Wx a)) (hn : x ≠ "__name__" := by decide) (hdb : (x == ("__debug__" : Str)) = false := by decide)
    (he : starEach (e :: es) X.env = (false, eval e X.env) :: starEach es X.env := by rfl) (hpl : (backTo pos (starEach es X.env)).any (·.1) = false := by rfl) : PE X (.Call (.Name x p) (e :: es) [] pos) (tE C Wx (eCB F a)) :=
  pe_imp (pe_callB hc hg hm hv ha hn hdb he hpl) fun σ H Q ⟨ρ, W, s, er, sm, o⟩ => ⟨ρ, W, s, er, sm, Out.mono (Out.bind (P := RepL C) o) (by
    rintro v H1 ⟨W1, s1, d, e1, sm1, r1, o1⟩
    exact ⟨Wx, σ, W1, s1, d, sm1, r1, o1⟩)⟩
theorem ze_ct (hc : CallR X (.type T) (rC C F)) (hg : Gl X x) (hm : X.mg x = none) (hv : bootBuiltins x = some (.type T)) (ha : PA X (e :: es) (tA C Wx a)) (hn : x ≠ "__name__" := by decide) (hdb : (x == ("__debug__" : Str)) = false := by decide)
    (he : starEach (e :: es) X.env = (false, eval e X.env) :: starEach es X.env := by rfl) (hpl : (backTo pos (starEach es X.env)).any (·.1) = false := by rfl) : PE X (.Call (.Name x p) (e :: es) [] pos) (tE C Wx (eCB F a)) :=
  pe_imp (pe_callTy hc hg hm hv ha hn hdb he hpl) fun σ H Q ⟨ρ, W, s, er, sm, o⟩ => ⟨ρ, W, s, er, sm, Out.mono (Out.bind (P := RepL C) o) (by
    rintro v H1 ⟨W1, s1, d, e1, sm1, r1, o1⟩
    exact ⟨Wx, σ, W1, s1, d, sm1, r1, o1⟩)⟩
end
theorem RepL.one {C : Cn} {W : Wd} {d : D} {xs : List V} (h : RepL C W [d] xs) : ∃ x, xs = [x] ∧ Rep C W d x := by
  rw [RepL] at h
  obtain ⟨v, r, rfl, q, t⟩ := h
  rw [RepL] at t
  subst t
  exact ⟨v, rfl, q⟩
theorem RepL.two {C : Cn} {W : Wd} {d e : D} {xs : List V} (h : RepL C W [d, e] xs) : ∃ x y, xs = [x, y] ∧ Rep C W d x ∧ Rep C W e y := by
  rw [RepL] at h
  obtain ⟨v, r, rfl, q, t⟩ := h
  obtain ⟨y, rfl, q2⟩ := t.one
  exact ⟨v, y, rfl, q, q2⟩
theorem RepL.three {C : Cn} {W : Wd} {d e f : D} {xs : List V} (h : RepL C W [d, e, f] xs) : ∃ x y z, xs = [x, y, z] ∧ Rep C W d x ∧ Rep C W e y ∧ Rep C W f z := by
  rw [RepL] at h
  obtain ⟨v, r, rfl, q, t⟩ := h
  obtain ⟨y, z, rfl, q2, q3⟩ := t.two
  exact ⟨v, y, z, rfl, q, q2, q3⟩
def fLen : FL := fun ds s => match ds with
  | [.lst l] => .ok (.int (l.length : Nat)) s
  | [.tup l] => .ok (.int (l.length : Nat)) s
  | [.str z] => gd (sz2 z.length 0) (.ok (.int (z.length : Nat)) s)
  | [.glb n] => match s.g[n]? with
    | some (.lst l) => .ok (.int (l.length : Nat)) s
    | _ => .bad
  | [.scr l] => .ok (.int (l.length : Nat)) s
  | _ => .bad
def fTuple : FL := fun ds s => match ds with
  | [.lst l] => .ok (.tup l) s
  | [.tup l] => .ok (.tup l) s
  | _ => .bad
def fList : FL := fun ds s => match ds with
  | [.lst l] => .ok (.lst l) s
  | [.tup l] => .ok (.lst l) s
  | _ => .bad
def fAbs : FL := fun ds s => match ds with
  | [.int i] => .ok (.int (if i < 0 then -i else i)) s
  | _ => .bad
def fMax2 : FL := fun ds s => match ds with
  | [.int i, .int j] => .ok (.int (if j > i then j else i)) s
  | _ => .bad
def fMin2 : FL := fun ds s => match ds with
  | [.int i, .int j] => .ok (.int (if j < i then j else i)) s
  | _ => .bad
def fInt : FL := fun ds s => match ds with
  | [.int i] => .ok (.int i) s
  | [.bl b] => .ok (.int (if b then 1 else 0)) s
  | [.str a] => gd (decide (a.length ≤ 640)) (match PySem.intText? a with
    | some n => .ok (.int n) s
    | none => .bad)
  | _ => .bad
def fBool : FL := fun ds s => match ds with
  | [.int i] => .ok (.bl (i != 0)) s
  | [.bl b] => .ok (.bl b) s
  | _ => .bad
def fAll : FL := fun ds s => match ds with
  | [.lst l] => match boolsOf l with
    | some bs => .ok (.bl (bs.all id)) s
    | none => .bad
  | _ => .bad
def fAny : FL := fun ds s => match ds with
  | [.lst l] => match boolsOf l with
    | some bs => .ok (.bl (bs.any id)) s
    | none => .bad
  | _ => .bad
def fSum : FL := fun ds s => match ds with
  | [.lst l] => match intsOf l with
    | some ns => .ok (.int ns.sum) s
    | none => .bad
  | _ => .bad
section
variable {X : Cx} {C : Cn} {k : Nat}
theorem cd_len (hK : X.K = C.K) : CallR X (.builtin "len") (rC C fLen) := by
  intro pins st σ H xs us Q I rs h
  obtain ⟨Wx, σ', W, s, ds, sm, r, o⟩ := h
  unfold fLen at o
  split at o
  · obtain ⟨x, rfl, q⟩ := r.one
    rw [Rep] at q
    obtain ⟨a, vs, rfl, q1, t1⟩ := q
    exact call_len_seq pins st σ H _ us Q I rs ⟨a, vs, rfl, .inl (SqL.of (sm.sub _ _ q1)), o.now sm (by rw [Rep, t1.length])⟩
  · obtain ⟨x, rfl, q⟩ := r.one
    rw [Rep] at q
    obtain ⟨a, vs, rfl, q1, t1⟩ := q
    exact call_len_seq pins st σ H _ us Q I rs ⟨a, vs, rfl, .inr (by rw [hK]; exact sqt_mono sm.sub q1), o.now sm (by rw [Rep, t1.length])⟩
  · obtain ⟨x, rfl, q⟩ := r.one
    rw [Rep] at q
    subst q
    obtain ⟨c, o⟩ := gd_ok o
    exact call_len_str pins st σ H _ us Q I rs ⟨_, rfl, by have := sz2_le c; omega, o.now sm (by rw [Rep])⟩
  · split at o
    · rename_i hg
      obtain ⟨x, rfl, q⟩ := r.one
      rw [Rep] at q
      obtain ⟨a, rfl, q1⟩ := q
      obtain ⟨w, hw, vs, rfl, t1⟩ := sm.gv _ a _ q1 hg
      exact call_len_seq pins st σ H _ us Q I rs ⟨a, vs, rfl, .inl (SqL.of hw), o.now sm (by rw [Rep, t1.length])⟩
    · exact o.elim
  · rename_i l
    obtain ⟨x, rfl, q⟩ := r.one
    rw [Rep] at q
    obtain ⟨a, rfl, q1⟩ := q
    exact call_len_seq pins st σ H _ us Q I rs ⟨a, _, rfl, .inl (by rw [hK]; exact sql_mono sm.sub q1), o.now sm (by rw [Rep, List.length_map])⟩
  · exact o.elim
theorem cd_tuple (hK : X.K = C.K) : CallR X (.type "tuple") (rC C fTuple) := by
  intro pins st σ H xs us Q I rs h
  obtain ⟨Wx, σ', W, s, ds, sm, r, o⟩ := h
  unfold fTuple at o
  split at o
  · obtain ⟨x, rfl, q⟩ := r.one
    rw [Rep] at q
    obtain ⟨a, vs, rfl, q1, t1⟩ := q
    exact call_tupleP pins st σ H _ us Q I rs ⟨a, vs, rfl, .inl ⟨SqL.of (sm.sub _ _ q1), o.newT sm t1⟩⟩
  · obtain ⟨x, rfl, q⟩ := r.one
    rw [Rep] at q
    obtain ⟨a, vs, rfl, q1, t1⟩ := q
    exact call_tupleP pins st σ H _ us Q I rs ⟨a, vs, rfl, .inr ⟨by rw [hK]; exact sqt_mono sm.sub q1, o.now sm (by rw [Rep]; exact ⟨a, vs, rfl, q1, t1⟩)⟩⟩
  · exact o.elim
theorem cd_list (hK : X.K = C.K) : CallR X (.type "list") (rC C fList) := by
  intro pins st σ H xs us Q I rs h
  obtain ⟨Wx, σ', W, s, ds, sm, r, o⟩ := h
  unfold fList at o
  split at o
  · obtain ⟨x, rfl, q⟩ := r.one
    rw [Rep] at q
    obtain ⟨a, vs, rfl, q1, t1⟩ := q
    exact call_list_of pins st σ H _ us Q I rs ⟨a, vs, rfl, .inl (SqL.of (sm.sub _ _ q1)), fun p hp => o.newL sm t1 hp⟩
  · obtain ⟨x, rfl, q⟩ := r.one
    rw [Rep] at q
    obtain ⟨a, vs, rfl, q1, t1⟩ := q
    exact call_list_of pins st σ H _ us Q I rs ⟨a, vs, rfl, .inr (by rw [hK]; exact sqt_mono sm.sub q1), fun p hp => o.newL sm t1 hp⟩
  · exact o.elim
theorem cd_abs : CallR X (.builtin "abs") (rC C fAbs) := by
  intro pins st σ H xs us Q I rs h
  obtain ⟨Wx, σ', W, s, ds, sm, r, o⟩ := h
  unfold fAbs at o
  split at o
  · obtain ⟨x, rfl, q⟩ := r.one
    rw [Rep] at q
    subst q
    exact call_abs pins st σ H _ us Q I rs ⟨_, rfl, o.now sm (by rw [Rep])⟩
  · exact o.elim
theorem cd_max2 (hc : X.calm = true) : CallR X (.builtin "max") (rC C fMax2) := by
  intro pins st σ H xs us Q I rs h
  obtain ⟨Wx, σ', W, s, ds, sm, r, o⟩ := h
  unfold fMax2 at o
  split at o
  · obtain ⟨x, y, rfl, q, q'⟩ := r.two
    rw [Rep] at q
    rw [Rep] at q'
    subst q q'
    exact call_max2 hc pins st σ H _ us Q I rs ⟨_, _, rfl, o.now sm (by rw [Rep])⟩
  · exact o.elim
theorem cd_min2 (hc : X.calm = true) : CallR X (.builtin "min") (rC C fMin2) := by
  intro pins st σ H xs us Q I rs h
  obtain ⟨Wx, σ', W, s, ds, sm, r, o⟩ := h
  unfold fMin2 at o
  split at o
  · obtain ⟨x, y, rfl, q, q'⟩ := r.two
    rw [Rep] at q
    rw [Rep] at q'
    subst q q'
    exact call_min2 hc pins st σ H _ us Q I rs ⟨_, _, rfl, o.now sm (by rw [Rep])⟩
  · exact o.elim
theorem cd_int : CallR X (.type "int") (rC C fInt) := by
  intro pins st σ H xs us Q I rs h
  obtain ⟨Wx, σ', W, s, ds, sm, r, o⟩ := h
  unfold fInt at o
  split at o
  · obtain ⟨x, rfl, q⟩ := r.one
    rw [Rep] at q
    subst q
    exact call_int1 pins st σ H _ us Q I rs (.inl ⟨_, rfl, o.now sm (by rw [Rep])⟩)
  · obtain ⟨x, rfl, q⟩ := r.one
    rw [Rep] at q
    subst q
    exact call_int1 pins st σ H _ us Q I rs (.inr ⟨_, rfl, o.now sm (by rw [Rep])⟩)
  · obtain ⟨x, rfl, q⟩ := r.one
    rw [Rep] at q
    subst q
    obtain ⟨c, o⟩ := gd_ok o
    split at o
    · rename_i hn
      exact call_int_str pins st σ H _ us Q I rs ⟨_, _, rfl, hn, of_decide_eq_true c, o.now sm (by rw [Rep])⟩
    · exact o.elim
  · exact o.elim
theorem cd_bool : CallR X (.type "bool") (rC C fBool) := by
  intro pins st σ H xs us Q I rs h
  obtain ⟨Wx, σ', W, s, ds, sm, r, o⟩ := h
  unfold fBool at o
  split at o
  · obtain ⟨x, rfl, q⟩ := r.one
    rw [Rep] at q
    subst q
    exact call_bool1 pins st σ H _ us Q I rs (.inl ⟨_, rfl, o.now sm (by rw [Rep])⟩)
  · obtain ⟨x, rfl, q⟩ := r.one
    rw [Rep] at q
    subst q
    exact call_bool1 pins st σ H _ us Q I rs (.inr ⟨_, rfl, o.now sm (by rw [Rep])⟩)
  · exact o.elim
theorem cd_all (hc : X.calm = true) : CallR X (.builtin "all") (rC C fAll) := by
  intro pins st σ H xs us Q I rs h
  obtain ⟨Wx, σ', W, s, ds, sm, r, o⟩ := h
  unfold fAll at o
  split at o
  · split at o
    · rename_i hb
      have hb := boolsOf_eq hb
      subst hb
      obtain ⟨x, rfl, q⟩ := r.one
      rw [Rep] at q
      obtain ⟨a, vs, rfl, q1, t1⟩ := q
      have t1 := t1.ofBools
      subst t1
      exact cr_all hc pins st σ H _ us Q I rs ⟨a, _, rfl, SqL.of (sm.sub _ _ q1), o.now sm (by rw [Rep])⟩
    · exact o.elim
  · exact o.elim
theorem cd_any (hc : X.calm = true) : CallR X (.builtin "any") (rC C fAny) := by
  intro pins st σ H xs us Q I rs h
  obtain ⟨Wx, σ', W, s, ds, sm, r, o⟩ := h
  unfold fAny at o
  split at o
  · split at o
    · rename_i hb
      have hb := boolsOf_eq hb
      subst hb
      obtain ⟨x, rfl, q⟩ := r.one
      rw [Rep] at q
      obtain ⟨a, vs, rfl, q1, t1⟩ := q
      have t1 := t1.ofBools
      subst t1
      exact cr_any hc pins st σ H _ us Q I rs ⟨a, _, rfl, SqL.of (sm.sub _ _ q1), o.now sm (by rw [Rep])⟩
    · exact o.elim
  · exact o.elim
theorem cd_sum (hc : X.calm = true) : CallR X (.builtin "sum") (rC C fSum) := by
  intro pins st σ H xs us Q I rs h
  obtain ⟨Wx, σ', W, s, ds, sm, r, o⟩ := h
  unfold fSum at o
  split at o
  · split at o
    · rename_i hb
      have hb := intsOf_eq hb
      subst hb
      obtain ⟨x, rfl, q⟩ := r.one
      rw [Rep] at q
      obtain ⟨a, vs, rfl, q1, t1⟩ := q
      have t1 := t1.ofInts
      subst t1
      exact cr_sum hc pins st σ H _ us Q I rs ⟨a, _, rfl, SqL.of (sm.sub _ _ q1), o.now sm (by rw [Rep])⟩
    · exact o.elim
  · exact o.elim
/-! isinstance -/
def tyD : D → Option String
  | .non => some "NoneType"
  | .bl _ => some "bool"
  | .int _ => some "int"
  | .str _ => some "str"
  | .tup _ => some "tuple"
  | .lst _ => some "list"
  | _ => none
def isiB (T t : String) : Bool := t == T || (t == "bool" && T == "int")
def fIsi (T : String) : FL := fun ds s => match ds with
  | [d] => match tyD d with
    | some t => .ok (.bl (isiB T t)) s
    | none => .bad
  | _ => .bad
theorem tyD_x (hK : X.K = C.K) {W : Wd} {H : Hp} {s : S} (sm : Sim C W s H) : ∀ {d : D} {v : V} {t : String}, Rep C W d v → tyD d = some t → TyX X.K H v (.type t)
  | .non, v, t, h, e => by rw [Rep] at h; subst h; simp [tyD] at e; subst e; exact .base .non
  | .bl b, v, t, h, e => by rw [Rep] at h; subst h; simp [tyD] at e; subst e; exact .base (.bl b)
  | .int b, v, t, h, e => by rw [Rep] at h; subst h; simp [tyD] at e; subst e; exact .base (.int b)
  | .str b, v, t, h, e => by rw [Rep] at h; subst h; simp [tyD] at e; subst e; exact .base (.str b)
  | .tup l, v, t, h, e => by
    rw [Rep] at h
    obtain ⟨a, vs, rfl, q, r⟩ := h
    simp [tyD] at e
    subst e
    rcases sqt_mono sm.sub q with (q | ⟨o, q⟩) | ⟨o, its, n, q1, q2, _⟩
    · exact .base (.tup q)
    · exact .fTuple q
    · exact .kTuple (by rw [hK]; exact q1) q2
  | .lst l, v, t, h, e => by
    rw [Rep] at h
    obtain ⟨a, vs, rfl, q, r⟩ := h
    simp [tyD] at e
    subst e
    exact .base (.lst (sm.sub _ _ q))
  | .glb _, v, t, h, e => by simp [tyD] at e
  | .obj _ _, v, t, h, e => by simp [tyD] at e
  | .dic _ _, v, t, h, e => by simp [tyD] at e
  | .fn _, v, t, h, e => by simp [tyD] at e
  | .xcp _ _, v, t, h, e => by simp [tyD] at e
  | .scr _, v, t, h, e => by simp [tyD] at e
  | .wtp _, v, t, h, e => by simp [tyD] at e
theorem tyD_cases {d : D} {t : String} (h : tyD d = some t) : t = "NoneType" ∨ t = "bool" ∨ t = "int" ∨ t = "str" ∨ t = "tuple" ∨ t = "list" := by
  cases d <;> simp [tyD] at h <;> simp [← h]
def eIsi (T : String) (f : Ex) : Ex := fun ρ s => (f ρ s).bind fun d s => fIsi T [d] s
theorem isi_kit {T t : String} (hT : T = "int" ∨ T = "bool" ∨ T = "str" ∨ T = "tuple" ∨ T = "list" ∨ T = "dict") (ht : t = "NoneType" ∨ t = "bool" ∨ t = "int" ∨ t = "str" ∨ t = "tuple" ∨ t = "list") : kitB t T = some (isiB T t) := by
  rcases hT with rfl | rfl | rfl | rfl | rfl | rfl <;> rcases ht with rfl | rfl | rfl | rfl | rfl | rfl <;> decide +kernel
theorem ze_isi (hK : X.K = C.K) {Wx : WX} {e : Expr} {f : Ex} {T : String} {y : Str} {p p2 pos : Pos} (hT : T = "int" ∨ T = "bool" ∨ T = "str" ∨ T = "tuple" ∨ T = "list" ∨ T = "dict") (he : PE X e (tE C Wx f)) (hg : Gl X "isinstance") (hm : X.mg "isinstance" = none) (hy : PE X (.Name y p2) (tC (.ty T)))
    (h1 : starEach [e, .Name y p2] X.env = (false, eval e X.env) :: starEach [.Name y p2] X.env := by rfl) (h2 : starEach [.Name y p2] X.env = (false, eval (.Name y p2) X.env) :: starEach [] X.env := by rfl) (hpl : (backTo pos (starEach [.Name y p2] X.env)).any (·.1) = false := by rfl) :
    PE X (.Call (.Name "isinstance" p) [e, .Name y p2] [] pos) (tE C Wx (eIsi T f)) :=
  pe_imp (pe_callB call_isi hg hm (by decide +kernel) (pa_cons he (pa_cons hy pa_nil h2) h1) (he := h1) (hpl := hpl)) fun σ H Q ⟨ρ, W, s, er, sm, o⟩ => ⟨ρ, W, s, er, sm, Out.mono (Out.bind (P := Rep C) o) (by
    rintro v H1 ⟨W1, s1, d, e1, sm1, r1, o1⟩
    unfold fIsi at o1
    simp only at o1
    split at o1
    · rename_i t ht
      exact ⟨v, .ty T, .type t, .type T, isiB T t, rfl, .ty T, tyD_x hK sm1 r1 ht, kit_ty (isi_kit hT (tyD_cases ht)), o1.now sm1 (by rw [Rep])⟩
    · exact o1.elim)⟩
end
end Z

/-! Z6: targets, what is walked, for, comprehensions, while. -/
namespace Z
open PySem L2

/-! ### targets -/
inductive Tg where
  | nm (i : Nat)
  | tp (l : List Tg)
def itemsD : D → Option (List D)
  | .tup l => some l
  | .lst l => some l
  | .wtp l => some l
  | _ => none
mutual
def Tg.put : Tg → D → Rho → Option Rho
  | .nm i, d, ρ => some (ρ.set i (.v d))
  | .tp l, d, ρ => match itemsD d with
    | some ds => Tg.puts l ds ρ
    | none => none
def Tg.puts : List Tg → List D → Rho → Option Rho
  | [], [], ρ => some ρ
  | t :: l, d :: ds, ρ => match Tg.put t d ρ with
    | some ρ' => Tg.puts l ds ρ'
    | none => none
  | _, _, _ => none
end
mutual
def Tg.sl : Tg → List Nat
  | .nm i => [i]
  | .tp l => Tg.sls l
def Tg.sls : List Tg → List Nat
  | [] => []
  | t :: l => Tg.sl t ++ Tg.sls l
end
/-- the slots but these are as they were -/
def Agree (vs : List Nat) (σ σ' : L2.St) : Prop := σ'.length = σ.length ∧ ∀ j, j ∉ vs → σ'[j]? = σ[j]?
theorem Agree.refl (vs : List Nat) (σ : L2.St) : Agree vs σ σ := ⟨rfl, fun _ _ => rfl⟩
theorem Agree.trans {vs ws : List Nat} {σ σ1 σ2 : L2.St} (a : Agree vs σ σ1) (b : Agree ws σ1 σ2) : Agree (vs ++ ws) σ σ2 :=
  ⟨b.1.trans a.1, fun j hj => (b.2 j fun z => hj (List.mem_append_right _ z)).trans (a.2 j fun z => hj (List.mem_append_left _ z))⟩
theorem wipe_get (σ : L2.St) : ∀ (vs : List Nat) (j : Nat), (wipe σ vs)[j]? = if j ∈ vs then (σ[j]?).map fun _ => none else σ[j]?
  | [], j => by simp [wipe]
  | v :: vs, j => by
    unfold wipe
    by_cases h : v = j
    · subst h
      rw [if_pos (List.mem_cons_self ..)]
      by_cases hl : v < σ.length
      · rw [List.getElem?_set_self (by rw [wipe_length]; exact hl), List.getElem?_eq_getElem hl]
        rfl
      · rw [List.getElem?_eq_none (by rw [List.length_set, wipe_length]; omega), List.getElem?_eq_none (by omega)]
        rfl
    · rw [List.getElem?_set_ne h, wipe_get σ vs j]
      by_cases hm : j ∈ vs
      · rw [if_pos hm, if_pos (List.mem_cons_of_mem _ hm)]
      · rw [if_neg hm, if_neg (by simp only [List.mem_cons, not_or]; exact ⟨fun e => h e.symm, hm⟩)]
theorem Agree.wipe {vs ws : List Nat} {σ σ' : L2.St} (a : Agree vs (L2.wipe σ ws) σ') (h : ∀ i ∈ vs, i ∈ ws) : L2.wipe σ' ws = L2.wipe σ ws := by
  apply List.ext_getElem?
  intro j
  rw [wipe_get, wipe_get]
  have hl : σ'.length = σ.length := by rw [a.1, wipe_length]
  by_cases hm : j ∈ ws
  · rw [if_pos hm, if_pos hm]
    by_cases hj : j < σ.length
    · rw [List.getElem?_eq_getElem hj, List.getElem?_eq_getElem (by omega)]
      rfl
    · rw [List.getElem?_eq_none (by omega), List.getElem?_eq_none (by omega)]
  · rw [if_neg hm, if_neg hm, a.2 j fun z => hm (h j z), wipe_get, if_neg hm]
def tG (C : Cn) (T : Tg) : TG := fun v σ H Q => ∃ ρ W s d, EnvR C W ρ σ ∧ Sim C W s H ∧ Rep C W d v ∧ match T.put d ρ with
  | some ρ' => ∀ σ', EnvR C W ρ' σ' → Agree T.sl σ σ' → Q σ' H
  | none => False
def tGs (C : Cn) (l : List Tg) : TGs := fun vs σ H Q => ∃ ρ W s ds, EnvR C W ρ σ ∧ Sim C W s H ∧ RepL C W ds vs ∧ match Tg.puts l ds ρ with
  | some ρ' => ∀ σ', EnvR C W ρ' σ' → Agree (Tg.sls l) σ σ' → Q σ' H
  | none => False
theorem pg_imp {X : Cx} {e : Expr} {t t' : TG} (h : PG X e t) (k : ∀ v σ H Q, t' v σ H Q → t v σ H Q) : PG X e t' := ⟨fun pins s σ H v u Q I r q => h.run pins s σ H v u Q I r (k _ _ _ _ q)⟩
theorem pgs_imp {X : Cx} {e : List Expr} {t t' : TGs} (h : PGs X e t) (k : ∀ v σ H Q, t' v σ H Q → t v σ H Q) : PGs X e t' := ⟨fun pins s σ H v u Q I r q => h.run pins s σ H v u Q I r (k _ _ _ _ q)⟩
section
variable {X : Cx} {C : Cn} {x : Str} {pos : Pos} {e : Expr} {es : List Expr}
theorem zg_nm {i : Nat} (h : PG X (.Name x pos) (gName i)) : PG X (.Name x pos) (tG C (.nm i)) :=
  pg_imp h fun v σ H Q ⟨ρ, W, s, d, er, sm, r, o⟩ => o _ (er.set ⟨v, rfl, r⟩) ⟨by simp, fun j hj => List.getElem?_set_ne (fun z => hj (by simp [Tg.sl, z]))⟩
theorem zgs_nil : PGs X [] (tGs C []) := pgs_imp pgs_nil fun vs σ H Q ⟨ρ, W, s, ds, er, sm, r, o⟩ => by
  cases ds with
  | nil =>
    rw [RepL] at r
    exact ⟨r, o σ er (Agree.refl _ _)⟩
  | cons d ds => simp [Tg.puts] at o
theorem zgs_cons {t : Tg} {l : List Tg} (h1 : PG X e (tG C t)) (h2 : PGs X es (tGs C l)) (hs : (assignEach (e :: es) X.env).map (·.2) = assign e X.env :: (assignEach es X.env).map (·.2) := by rfl) : PGs X (e :: es) (tGs C (t :: l)) :=
  pgs_imp (pgs_cons h1 h2 hs) fun vs σ H Q ⟨ρ, W, s, ds, er, sm, r, o⟩ => by
    cases ds with
    | nil => simp [Tg.puts] at o
    | cons d ds =>
      rw [RepL] at r
      obtain ⟨v, rr, rfl, q, t1⟩ := r
      refine ⟨v, rr, rfl, ρ, W, s, d, er, sm, q, ?_⟩
      rw [Tg.puts] at o
      cases z : t.put d ρ with
      | none => simp only [z] at o
      | some ρ' =>
        simp only [z] at o
        intro σ' er' ag
        refine ⟨ρ', W, s, ds, er', sm, t1, ?_⟩
        cases z2 : Tg.puts l ds ρ' with
        | none => simp only [z2] at o
        | some ρ2 =>
          simp only [z2] at o
          exact fun σ2 er2 ag2 => o σ2 er2 (by rw [Tg.sls]; exact ag.trans ag2)
theorem zg_tp (hK : X.K = C.K) {k : Nat} {l : List Tg} (hc : X.calm = true) (h : PGs X es (tGs C l)) (hn : (assignEach es X.env).length = l.length := by rfl) (hst : (assignEach es X.env).findIdx? (·.1) = none := by rfl) : PG X (.Tuple es k pos) (tG C (.tp l)) := by
  have h1 := pg_tup (k := k) (pos := pos) (n := l.length) hc h hn hst
  have h2 := pg_lst (k := k) (pos := pos) (n := l.length) hc h hn hst
  have len : ∀ (l : List Tg) (ds : List D) (ρ ρ' : Rho), Tg.puts l ds ρ = some ρ' → ds.length = l.length := by
    intro l
    induction l with
    | nil => intro ds ρ ρ' z; cases ds with
      | nil => rfl
      | cons d ds => simp [Tg.puts] at z
    | cons t l ih => intro ds ρ ρ' z; cases ds with
      | nil => simp [Tg.puts] at z
      | cons d ds =>
        rw [Tg.puts] at z
        cases q : t.put d ρ with
        | none => simp only [q] at z; cases z
        | some ρ1 =>
          simp only [q] at z
          simp [ih ds _ _ z]
  refine ⟨fun pins st σ H v u Q I rv ⟨ρ, W, s, d, er, sm, r, o⟩ => ?_⟩
  rw [Tg.put] at o
  cases d with
  | tup ds =>
    simp only [itemsD] at o
    rw [Rep] at r
    obtain ⟨a, vs, rfl, q1, t1⟩ := r
    refine h1.run pins st σ H _ u Q I rv ⟨a, vs, rfl, by rw [hK]; exact sqt_mono sm.sub q1, ?_, ρ, W, s, ds, er, sm, t1, ?_⟩
    · cases z : Tg.puts l ds ρ with
      | none => simp only [z] at o
      | some ρ' => rw [← t1.length]; exact len l ds ρ ρ' z
    · cases z : Tg.puts l ds ρ with
      | none => simp only [z] at o
      | some ρ' =>
        simp only [z] at o
        exact fun σ' er' ag => o σ' er' (by rw [Tg.sl]; exact ag)
  | wtp ds =>
    simp only [itemsD] at o
    rw [Rep] at r
    obtain ⟨a, vs, rfl, q1, t1⟩ := r
    refine h1.run pins st σ H _ u Q I rv ⟨a, vs, rfl, by rw [hK]; exact sqt_mono0 sm.sub q1, ?_, ρ, W, s, ds, er, sm, t1, ?_⟩
    · cases z : Tg.puts l ds ρ with
      | none => simp only [z] at o
      | some ρ' => rw [← t1.length]; exact len l ds ρ ρ' z
    · cases z : Tg.puts l ds ρ with
      | none => simp only [z] at o
      | some ρ' =>
        simp only [z] at o
        exact fun σ' er' ag => o σ' er' (by rw [Tg.sl]; exact ag)
  | lst ds =>
    simp only [itemsD] at o
    rw [Rep] at r
    obtain ⟨a, vs, rfl, q1, t1⟩ := r
    refine h2.run pins st σ H _ u Q I rv ⟨a, vs, rfl, SqL.of (sm.sub _ _ q1), ?_, ρ, W, s, ds, er, sm, t1, ?_⟩
    · cases z : Tg.puts l ds ρ with
      | none => simp only [z] at o
      | some ρ' => rw [← t1.length]; exact len l ds ρ ρ' z
    · cases z : Tg.puts l ds ρ with
      | none => simp only [z] at o
      | some ρ' =>
        simp only [z] at o
        exact fun σ' er' ag => o σ' er' (by rw [Tg.sl]; exact ag)
  | _ => simp [itemsD] at o
end
def sAsg (T : Tg) (f : Ex) : Stm := fun ρ s => (f ρ s).toS ρ fun d s => match T.put d ρ with
  | some ρ' => .nx ρ' s
  | none => .bad
section
variable {X : Cx} {C : Cn} {Wx : WX} {tg e : Expr} {f : Ex} {pos : Pos} {T : Tg}
theorem zs_asg (he : PE X e (tE C Wx f)) (hg : PG X tg (tG C T)) (hs : swapsWithSole [tg] e pos.line X.env = pure false := by rfl) (hw : swappedStores [tg] e X.env = pure none := by rfl)
    (h1 : (assignEach [tg] X.env).map (·.2) = [assign tg X.env] := by rfl) : PS X (.Assign [tg] e pos) (tS C Wx (sAsg T f)) :=
  ps_imp (ps_asg he hg hs hw h1) fun E σ H ⟨ρ, W, s, er, sm, o⟩ => ⟨ρ, W, s, er, sm, Out.mono (OutS.split (P := Rep C) er o) (by
    rintro v H1 ⟨W1, s1, d, e1, sm1, r1, o1⟩
    refine ⟨ρ, W1, s1, d, er.mono e1, sm1, r1, ?_⟩
    cases z : T.put d ρ with
    | none => rw [z] at o1; exact o1
    | some ρ' =>
      rw [z] at o1
      exact fun σ' er' _ => o1 W1 σ' H1 (Ext.refl _ _) sm1 er')⟩
end

/-! ### what is walked -/
/-- an iterator yields just these -/
structure ItD (C : Cn) (W0 : Wd) (items : List D) (J : It) : Prop where
  go : ∀ i, i < items.length → ∀ W s H, Le W0 W → Sim C W s H → J.go i H
  yld : ∀ i d, items[i]? = some d → ∀ W s H x H', Le W0 W → Sim C W s H → J.yld i H x H' → ∃ W', Ext W H W' H' ∧ Sim C W' s H' ∧ Rep C W' d x
  stop : ∀ W s H, Le W0 W → Sim C W s H → J.stop items.length H
abbrev Lx := Rho → S → R (List D)
def tI (C : Cn) (Wx : WX) (F : Lx) : TI := fun σ H Q => ∃ ρ W s, EnvR C W ρ σ ∧ Sim C W s H ∧ Out (ItD C) C Wx σ W H Q (F ρ s)
theorem pi_imp {X : Cx} {tg e : Expr} {t t' : TI} (h : PI X tg e t) (k : ∀ σ H Q, t' σ H Q → t σ H Q) : PI X tg e t' := ⟨fun pins s σ H Q I q => h.run pins s σ H Q I (k _ _ _ q)⟩
def iVal : D → S → R (List D) := fun d s => match d with
  | .lst l => .ok l s
  | .tup l => .ok l s
  | _ => .bad
def itL (f : Ex) : Lx := fun ρ s => (f ρ s).bind fun d s => match d with
  | .lst l => .ok l s
  | _ => .bad
def itT (f : Ex) : Lx := fun ρ s => (f ρ s).bind fun d s => match d with
  | .tup l => .ok l s
  | _ => .bad
def signs (z : Str) : List D := z.cps.toList.map fun c => .str ⟨#[c]⟩
def itS (f : Ex) : Lx := fun ρ s => (f ρ s).bind fun d s => match d with
  | .str z => .ok (signs z) s
  | _ => .bad
def rngD (lo : Int) (n : Nat) : List D := (List.range n).map fun i => .int (lo + (i : Nat))
def itR1 (a : Ax) : Lx := fun ρ s => (a ρ s).bind fun ds s => match ds with
  | [.int j] => gd (decide (j ≤ 100000000)) (gd (decide (-100000000 ≤ j)) (.ok (rngD 0 j.toNat) s))
  | _ => .bad
def itR2 (a : Ax) : Lx := fun ρ s => (a ρ s).bind fun ds s => match ds with
  | [.int i, .int j] => gd (decide (j ≤ 100000000) && decide (-100000000 ≤ j) && (decide (i ≤ 100000000) && decide (-100000000 ≤ i))) (.ok (rngD i (j - i).toNat) s)
  | _ => .bad
def numb : Nat → List D → List D
  | _, [] => []
  | i, d :: l => .wtp [.int (i : Nat), d] :: numb (i + 1) l
def itE (a : Ax) : Lx := fun ρ s => (a ρ s).bind fun ds s => match ds with
  | [.lst l] => .ok (numb 0 l) s
  | _ => .bad
def zipD : List D → List D → List D
  | x :: xs, y :: ys => .wtp [x, y] :: zipD xs ys
  | _, _ => []
def itZ (a : Ax) : Lx := fun ρ s => (a ρ s).bind fun ds s => match ds with
  | [.lst l, .lst m] => .ok (zipD l m) s
  | [.tup l, .tup m] => .ok (zipD l m) s
  | _ => .bad
section
variable {X : Cx} {C : Cn} {Wx : WX} {tg e : Expr} {f : Ex} {pos : Pos} {W0 : Wd}
theorem itd_list {a : Addr} {vs : List V} {l : List D} {K : PySem.W.Frag} (hs : W0.hs a = some (.lst vs)) (r : RepL C W0 l vs) : ItD C W0 l (Itl K a) where
  go := fun i hi W s H le sm => by
    have hl := r.length
    exact ⟨vs, vs[i]'(by omega), SqL.of (sm.sub _ _ (le.hs _ _ hs)), List.getElem?_eq_getElem _⟩
  yld := fun i d hd W s H x H' le sm y => by
    obtain ⟨e, y⟩ := y
    subst e
    obtain ⟨v, e1, e2⟩ := r.get hd
    have := y vs (SqL.of (sm.sub _ _ (le.hs _ _ hs)))
    rw [e1] at this
    cases this
    exact ⟨W, Ext.refl _ _, sm, e2.mono le⟩
  stop := fun W s H le sm => ⟨vs, SqL.of (sm.sub _ _ (le.hs _ _ hs)), by rw [r.length]; exact Nat.le_refl _⟩
theorem itd_tup {a : Addr} {vs : List V} {l : List D} {K : PySem.W.Frag} (hs : SqT K W0.hs a vs) (r : RepL C W0 l vs) : ItD C W0 l (Itt K a) where
  go := fun i hi W s H le sm => by
    have hl := r.length
    exact ⟨vs, vs[i]'(by omega), sqt_mono0 sm.sub (sqt_mono0 le.hs hs), List.getElem?_eq_getElem _⟩
  yld := fun i d hd W s H x H' le sm y => by
    obtain ⟨e, y⟩ := y
    subst e
    obtain ⟨v, e1, e2⟩ := r.get hd
    have := y vs (sqt_mono0 sm.sub (sqt_mono0 le.hs hs))
    rw [e1] at this
    cases this
    exact ⟨W, Ext.refl _ _, sm, e2.mono le⟩
  stop := fun W s H le sm => ⟨vs, sqt_mono0 sm.sub (sqt_mono0 le.hs hs), by rw [r.length]; exact Nat.le_refl _⟩
theorem itd_str {z : Str} : ItD C W0 (signs z) (Its z) where
  go := fun i hi W s H le sm => by
    unfold signs at hi
    show i < z.cps.size
    simpa using hi
  yld := fun i d hd W s H x H' le sm y => by
    obtain ⟨e, c, e1, e2⟩ := y
    subst e e2
    unfold signs at hd
    rw [List.getElem?_map] at hd
    have : z.cps.toList[i]? = some c := by simpa using e1
    rw [this] at hd
    cases hd
    exact ⟨W, Ext.refl _ _, sm, by rw [Rep]⟩
  stop := fun W s H le sm => by
    show z.cps.size ≤ (signs z).length
    unfold signs
    simp
theorem itd_rng {lo : Int} {n : Nat} : ItD C W0 (rngD lo n) (Itr lo n) where
  go := fun i hi W s H le sm => by
    unfold rngD at hi
    show i < n
    simpa using hi
  yld := fun i d hd W s H x H' le sm y => by
    obtain ⟨e, e2⟩ := y
    subst e e2
    unfold rngD at hd
    rw [List.getElem?_map] at hd
    by_cases hi : i < n
    · rw [List.getElem?_range hi] at hd
      cases hd
      exact ⟨W, Ext.refl _ _, sm, by rw [Rep]⟩
    · rw [List.getElem?_eq_none (by simpa using hi)] at hd
      cases hd
  stop := fun W s H le sm => by
    show n ≤ (rngD lo n).length
    unfold rngD
    simp
theorem numb_get : ∀ (l : List D) (k i : Nat), (numb k l)[i]? = (l[i]?).map fun d => .wtp [.int ((k + i : Nat)), d]
  | [], k, i => by simp [numb]
  | d :: l, k, 0 => by simp [numb]
  | d :: l, k, i + 1 => by
    rw [numb, List.getElem?_cons_succ, List.getElem?_cons_succ, numb_get l (k + 1) i]
    have : k + 1 + i = k + (i + 1) := by omega
    rw [this]
theorem numb_len : ∀ (l : List D) (k : Nat), (numb k l).length = l.length
  | [], k => rfl
  | d :: l, k => by rw [numb, List.length_cons, numb_len l, List.length_cons]
theorem itd_enum {a : Addr} {vs : List V} {l : List D} {K : PySem.W.Frag} (hs : W0.hs a = some (.lst vs)) (r : RepL C W0 l vs) : ItD C W0 (numb 0 l) (Ite K a) where
  go := fun i hi W s H le sm => by
    have hl := r.length
    rw [numb_len] at hi
    exact ⟨vs, vs[i]'(by omega), SqL.of (sm.sub _ _ (le.hs _ _ hs)), List.getElem?_eq_getElem _⟩
  yld := fun i d hd W s H x H' le sm y => by
    obtain ⟨T, y, e1, hT, e2, q⟩ := y
    subst e1 e2
    rw [numb_get] at hd
    cases z : l[i]? with
    | none => rw [z] at hd; cases hd
    | some d' =>
      rw [z] at hd
      simp only [Option.map_some, Option.some.injEq, Nat.zero_add] at hd
      subst hd
      obtain ⟨v, e1, e2⟩ := r.get z
      have := q vs (SqL.of (sm.sub _ _ (le.hs _ _ hs)))
      rw [e1] at this
      cases this
      refine ⟨_, Ext.alloc hT _ sm, sm.alloc hT _, ?_⟩
      rw [Rep]
      refine ⟨T, _, rfl, .inl (.inl upd_same), ?_⟩
      exact RepL.cons (by rw [Rep]) (RepL.cons (e2.mono (le.trans (Ext.alloc hT _ sm).le)) RepL.nil)
  stop := fun W s H le sm => ⟨vs, SqL.of (sm.sub _ _ (le.hs _ _ hs)), by rw [numb_len, r.length]; exact Nat.le_refl _⟩
theorem zipD_get : ∀ (l m : List D) (i : Nat), (zipD l m)[i]? = (match l[i]?, m[i]? with
    | some x, some y => some (.wtp [x, y])
    | _, _ => none)
  | [], m, i => by cases m <;> simp [zipD]
  | x :: l, [], i => by
    simp [zipD]
  | x :: l, y :: m, 0 => by simp [zipD]
  | x :: l, y :: m, i + 1 => by
    rw [zipD, List.getElem?_cons_succ, zipD_get l m i]
    simp
theorem zipD_len : ∀ (l m : List D), (zipD l m).length = min l.length m.length
  | [], m => by cases m <;> simp [zipD]
  | x :: l, [] => by simp [zipD]
  | x :: l, y :: m => by simp [zipD, zipD_len l m]
theorem itd_zip {a b : Addr} {vs ws : List V} {l m : List D} {K : PySem.W.Frag} (hs : W0.hs a = some (.lst vs)) (r : RepL C W0 l vs) (hs2 : W0.hs b = some (.lst ws)) (r2 : RepL C W0 m ws) : ItD C W0 (zipD l m) (Itz K a b) where
  go := fun i hi W s H le sm => by
    have hl := r.length
    have hl2 := r2.length
    rw [zipD_len] at hi
    exact ⟨vs, ws, vs[i]'(by omega), ws[i]'(by omega), SqL.of (sm.sub _ _ (le.hs _ _ hs)), SqL.of (sm.sub _ _ (le.hs _ _ hs2)), List.getElem?_eq_getElem _, List.getElem?_eq_getElem _⟩
  yld := fun i d hd W s H x H' le sm y => by
    obtain ⟨T, x1, y1, e1, hT, e2, q1, q2⟩ := y
    subst e1 e2
    rw [zipD_get] at hd
    cases z : l[i]? with
    | none => rw [z] at hd; cases hd
    | some d1 => cases z2 : m[i]? with
      | none => rw [z, z2] at hd; cases hd
      | some d2 =>
        rw [z, z2] at hd
        cases hd
        obtain ⟨v, e1, e2⟩ := r.get z
        obtain ⟨v2, e3, e4⟩ := r2.get z2
        have h1 := q1 vs (SqL.of (sm.sub _ _ (le.hs _ _ hs)))
        have h2 := q2 ws (SqL.of (sm.sub _ _ (le.hs _ _ hs2)))
        rw [e1] at h1
        rw [e3] at h2
        cases h1
        cases h2
        refine ⟨_, Ext.alloc hT _ sm, sm.alloc hT _, ?_⟩
        rw [Rep]
        refine ⟨T, _, rfl, .inl (.inl upd_same), ?_⟩
        have l1 := le.trans (Ext.alloc hT (.tup [x1, y1]) sm).le
        exact RepL.cons (e2.mono l1) (RepL.cons (e4.mono l1) RepL.nil)
  stop := fun W s H le sm => ⟨vs, ws, SqL.of (sm.sub _ _ (le.hs _ _ hs)), SqL.of (sm.sub _ _ (le.hs _ _ hs2)), by rw [zipD_len, ← r.length, ← r2.length]; omega⟩
theorem itd_zipT {a b : Addr} {vs ws : List V} {l m : List D} {K : PySem.W.Frag} (hs : SqT K W0.hs a vs) (r : RepL C W0 l vs) (hs2 : SqT K W0.hs b ws) (r2 : RepL C W0 m ws) : ItD C W0 (zipD l m) (RZ.ItzT K a b) where
  go := fun i hi W s H le sm => by
    have hl := r.length
    have hl2 := r2.length
    rw [zipD_len] at hi
    exact ⟨vs, ws, vs[i]'(by omega), ws[i]'(by omega), sqt_mono0 sm.sub (sqt_mono0 le.hs hs), sqt_mono0 sm.sub (sqt_mono0 le.hs hs2), List.getElem?_eq_getElem _, List.getElem?_eq_getElem _⟩
  yld := fun i d hd W s H x H' le sm y => by
    obtain ⟨T, x1, y1, e1, hT, e2, q1, q2⟩ := y
    subst e1 e2
    rw [zipD_get] at hd
    cases z : l[i]? with
    | none => rw [z] at hd; cases hd
    | some d1 => cases z2 : m[i]? with
      | none => rw [z, z2] at hd; cases hd
      | some d2 =>
        rw [z, z2] at hd
        cases hd
        obtain ⟨v, e1, e2⟩ := r.get z
        obtain ⟨v2, e3, e4⟩ := r2.get z2
        have h1 := q1 vs (sqt_mono0 sm.sub (sqt_mono0 le.hs hs))
        have h2 := q2 ws (sqt_mono0 sm.sub (sqt_mono0 le.hs hs2))
        rw [e1] at h1
        rw [e3] at h2
        cases h1
        cases h2
        refine ⟨_, Ext.alloc hT _ sm, sm.alloc hT _, ?_⟩
        rw [Rep]
        refine ⟨T, _, rfl, .inl (.inl upd_same), ?_⟩
        have l1 := le.trans (Ext.alloc hT (.tup [x1, y1]) sm).le
        exact RepL.cons (e2.mono l1) (RepL.cons (e4.mono l1) RepL.nil)
  stop := fun W s H le sm => ⟨vs, ws, sqt_mono0 sm.sub (sqt_mono0 le.hs hs), sqt_mono0 sm.sub (sqt_mono0 le.hs hs2), by rw [zipD_len, ← r.length, ← r2.length]; omega⟩
theorem zi_list (he : PE X e (tE C Wx f)) : PI X tg e (tI C Wx (itL f)) :=
  pi_imp (pi_list he) fun σ H Q ⟨ρ, W, s, er, sm, o⟩ => ⟨ρ, W, s, er, sm, Out.mono (Out.bind (P := Rep C) o) (by
    rintro v H1 ⟨W1, s1, d, e1, sm1, r1, o1⟩
    split at o1
    · rw [Rep] at r1
      obtain ⟨a, vs, rfl, q1, t1⟩ := r1
      exact ⟨a, rfl, ⟨vs, SqL.of (sm1.sub _ _ q1)⟩, o1 W1 _ H1 (Ext.refl _ _) sm1 (itd_list q1 t1)⟩
    · exact o1.elim)⟩
theorem zi_tup (hK : X.K = C.K) (he : PE X e (tE C Wx f)) : PI X tg e (tI C Wx (itT f)) :=
  pi_imp (pi_tup he) fun σ H Q ⟨ρ, W, s, er, sm, o⟩ => ⟨ρ, W, s, er, sm, Out.mono (Out.bind (P := Rep C) o) (by
    rintro v H1 ⟨W1, s1, d, e1, sm1, r1, o1⟩
    split at o1
    · rw [Rep] at r1
      obtain ⟨a, vs, rfl, q1, t1⟩ := r1
      have q2 : SqT X.K W1.hs a vs := by rw [hK]; exact q1.t
      exact ⟨a, rfl, ⟨vs, sqt_mono0 sm1.sub q2⟩, o1 W1 _ H1 (Ext.refl _ _) sm1 (itd_tup q2 t1)⟩
    · exact o1.elim)⟩
theorem zi_str (he : PE X e (tE C Wx f)) : PI X tg e (tI C Wx (itS f)) :=
  pi_imp (pi_str he) fun σ H Q ⟨ρ, W, s, er, sm, o⟩ => ⟨ρ, W, s, er, sm, Out.mono (Out.bind (P := Rep C) o) (by
    rintro v H1 ⟨W1, s1, d, e1, sm1, r1, o1⟩
    split at o1
    · rw [Rep] at r1
      subst r1
      exact ⟨_, rfl, o1 W1 _ H1 (Ext.refl _ _) sm1 itd_str⟩
    · exact o1.elim)⟩
theorem zi_rng1 {a : Expr} {ta : Ax} {p : Pos} (hg : Gl X "range") (hm : X.mg "range" = none) (ha : PA X [a] (tA C Wx ta)) (hs : starEach [a] X.env = [(false, eval a X.env)] := by rfl) : PI X tg (.Call (.Name "range" p) [a] [] pos) (tI C Wx (itR1 ta)) :=
  pi_imp (pi_range1 hg hm ha hs) fun σ H Q ⟨ρ, W, s, er, sm, o⟩ => ⟨ρ, W, s, er, sm, Out.mono (Out.bind (P := RepL C) o) (by
    rintro v H1 ⟨W1, s1, d, e1, sm1, r1, o1⟩
    split at o1
    · obtain ⟨x, rfl, q⟩ := r1.one
      rw [Rep] at q
      subst q
      obtain ⟨c1, o1⟩ := gd_ok o1
      obtain ⟨c2, o1⟩ := gd_ok o1
      have c1 := of_decide_eq_true c1
      have c2 := of_decide_eq_true c2
      exact ⟨_, rfl, by omega, by omega, o1 W1 _ H1 (Ext.refl _ _) sm1 itd_rng⟩
    · exact o1.elim)⟩
theorem zi_rng2 {a b : Expr} {ta : Ax} {p : Pos} (hg : Gl X "range") (hm : X.mg "range" = none) (ha : PA X [a, b] (tA C Wx ta)) (hs : starEach [a, b] X.env = [(false, eval a X.env), (false, eval b X.env)] := by rfl) (hs2 : starEach [b] X.env = [(false, eval b X.env)] := by rfl) : PI X tg (.Call (.Name "range" p) [a, b] [] pos) (tI C Wx (itR2 ta)) :=
  pi_imp (pi_range2 hg hm ha hs hs2) fun σ H Q ⟨ρ, W, s, er, sm, o⟩ => ⟨ρ, W, s, er, sm, Out.mono (Out.bind (P := RepL C) o) (by
    rintro v H1 ⟨W1, s1, d, e1, sm1, r1, o1⟩
    split at o1
    · obtain ⟨x, y, rfl, q, q'⟩ := r1.two
      rw [Rep] at q
      rw [Rep] at q'
      subst q q'
      obtain ⟨c1, o1⟩ := gd_ok o1
      simp only [Bool.and_eq_true, decide_eq_true_eq] at c1
      exact ⟨_, _, rfl, by omega, o1 W1 _ H1 (Ext.refl _ _) sm1 itd_rng⟩
    · exact o1.elim)⟩
theorem zi_enum {a : Expr} {ta : Ax} {p tpos : Pos} {elts : List Expr} {kk : Nat} (hg : Gl X "enumerate") (hm : X.mg "enumerate" = none) (ha : PA X [a] (tA C Wx ta)) (hs : starEach [a] X.env = [(false, eval a X.env)] := by rfl) :
    PI X (.Tuple elts kk tpos) (.Call (.Name "enumerate" p) [a] [] pos) (tI C Wx (itE ta)) :=
  pi_imp (pi_enum hg hm ha hs) fun σ H Q ⟨ρ, W, s, er, sm, o⟩ => ⟨ρ, W, s, er, sm, Out.mono (Out.bind (P := RepL C) o) (by
    rintro v H1 ⟨W1, s1, d, e1, sm1, r1, o1⟩
    split at o1
    · obtain ⟨x, rfl, q⟩ := r1.one
      rw [Rep] at q
      obtain ⟨a, vs, rfl, q1, t1⟩ := q
      exact ⟨a, vs, rfl, SqL.of (sm1.sub _ _ q1), o1 W1 _ H1 (Ext.refl _ _) sm1 (itd_enum q1 t1)⟩
    · exact o1.elim)⟩
theorem zi_zip (hK : X.K = C.K) {a b : Expr} {ta : Ax} {p tpos : Pos} {elts : List Expr} {kk : Nat} (hg : Gl X "zip") (hm : X.mg "zip" = none) (ha : PA X [a, b] (tA C Wx ta))
    (hs : starEach [a, b] X.env = (false, eval a X.env) :: starEach [b] X.env := by rfl) (hpl : (backTo pos (starEach [b] X.env)).any (·.1) = false := by rfl) :
    PI X (.Tuple elts kk tpos) (.Call (.Name "zip" p) [a, b] [] pos) (tI C Wx (itZ ta)) :=
  pi_imp (RZ.pi_zipA hg hm ha hs hpl) fun σ H Q ⟨ρ, W, s, er, sm, o⟩ => ⟨ρ, W, s, er, sm, Out.mono (Out.bind (P := RepL C) o) (by
    rintro v H1 ⟨W1, s1, d, e1, sm1, r1, o1⟩
    split at o1
    · obtain ⟨x, y, rfl, q, q'⟩ := r1.two
      rw [Rep] at q
      rw [Rep] at q'
      obtain ⟨a, vs, rfl, q1, t1⟩ := q
      obtain ⟨b, ws, rfl, q2, t2⟩ := q'
      exact ⟨a, b, vs, ws, rfl, .inl ⟨SqL.of (sm1.sub _ _ q1), SqL.of (sm1.sub _ _ q2), o1 W1 _ H1 (Ext.refl _ _) sm1 (itd_zip q1 t1 q2 t2)⟩⟩
    · obtain ⟨x, y, rfl, q, q'⟩ := r1.two
      rw [Rep] at q
      rw [Rep] at q'
      obtain ⟨a, vs, rfl, q1, t1⟩ := q
      obtain ⟨b, ws, rfl, q2, t2⟩ := q'
      have q1 : SqT X.K W1.hs a vs := by rw [hK]; exact q1.t
      have q2 : SqT X.K W1.hs b ws := by rw [hK]; exact q2.t
      exact ⟨a, b, vs, ws, rfl, .inr ⟨sqt_mono0 sm1.sub q1, sqt_mono0 sm1.sub q2, o1 W1 _ H1 (Ext.refl _ _) sm1 (itd_zipT q1 t1 q2 t2)⟩⟩
    · exact o1.elim)⟩
end
end Z

/-! Z7: lists that change, loops. -/
namespace Z
open PySem L2

/-! ### one of the frame's own lists is stable from now on -/
def frzS (n : Nat) (l : List LO) (x : Sl) : Sl := match x with
  | .l k => match Nat.beq k n with
    | true => viewS l (.l k)
    | false => .l k
  | x => x
def sFrz (i : Nat) (f : Stm) : Stm := fun ρ s => match slot ρ i with
  | .l n => match s.l[n]? with
    | some (.lst l) => f (ρ.map (frzS n s.l)) ⟨s.l.set n .dead, s.g⟩
    | _ => .bad
  | _ => f ρ s
section
variable {C : Cn} {W : Wd} {s : S} {H : Hp} {ρ : Rho} {σ : L2.St} {n : Nat} {a : Addr} {vs : List V} {l : List D}
theorem nodup_get {l : List Addr} (h : l.Nodup) {i j : Nat} {a : Addr} (h1 : l[i]? = some a) (h2 : l[j]? = some a) : i = j := by
  have hi := (List.getElem?_eq_some_iff.mp h1).1
  have hj := (List.getElem?_eq_some_iff.mp h2).1
  exact (List.getElem?_inj hi h).mp (h1.trans h2.symm)
def Wd.one (W : Wd) (a : Addr) (u : HO) : Wd := ⟨upd W.hs a u, W.ll, W.lg⟩
theorem le_one {u : HO} (h : W.hs a = none) : Le W (W.one a u) := ⟨fun b o e => by show upd W.hs a u b = some o; rw [upd_ne (ne_of_none e h)]; exact e, fun _ _ h => h⟩
theorem Ext.one {u : HO} (hn : W.hs a = none) (ha : a ∈ W.ll) : Ext W H (W.one a u) H where
  hs := (le_one hn).hs
  new := fun b o e => by
    by_cases hb : b = a
    · subst hb
      exact .inr (.inr ha)
    · have e : upd W.hs a u b = some o := e
      rw [upd_ne hb] at e
      exact .inl e
  ll := ⟨[], by show W.ll = _; simp, fun _ h => by cases h⟩
  lg := ⟨[], by show W.lg = _; simp, fun _ h => by cases h⟩
  fr := fun _ _ h _ _ => h
  dom := fun _ h => h
theorem Sim.one (sm : Sim C W s H) (h1 : W.ll[n]? = some a) (h2 : s.l[n]? = some (.lst l)) (hu : H a = some (.lst vs)) : Sim C (W.one a (.lst vs)) ⟨s.l.set n .dead, s.g⟩ H := by
  have hn : W.hs a = none := sm.lf n a _ h1 h2 (by intro z; cases z)
  have hm : a ∈ W.ll := List.mem_of_getElem? h1
  have le := le_one (u := .lst vs) hn
  have hl : n < s.l.length := (List.getElem?_eq_some_iff.mp h2).1
  have nd1 := (List.nodup_append.mp sm.nd).1
  refine ⟨fun b o e => ?_, by show W.ll.length = _; rw [List.length_set]; exact sm.ll, fun k b o e1 e2 => ?_, fun k b o e1 e2 hd => ?_, sm.gl, fun k b o e1 e2 => ?_, fun b hb => ?_, sm.nd⟩
  · by_cases hb : b = a
    · subst hb
      have e : upd W.hs b (.lst vs) b = some o := e
      rw [upd_same] at e
      rw [← e]
      exact hu
    · have e : upd W.hs a (.lst vs) b = some o := e
      rw [upd_ne hb] at e
      exact sm.sub b o e
  · have e1 : W.ll[k]? = some b := e1
    by_cases hk : n = k
    · subst hk
      have e2 : (s.l.set n .dead)[n]? = some o := e2
      rw [List.getElem?_set_self hl] at e2
      cases e2
      rw [h1] at e1
      cases e1
      exact ⟨_, hu, trivial⟩
    · have e2 : (s.l.set n .dead)[k]? = some o := e2
      rw [List.getElem?_set_ne hk] at e2
      obtain ⟨u, q, r⟩ := sm.lv k b o e1 e2
      exact ⟨u, q, r.mono le _ _⟩
  · have e1 : W.ll[k]? = some b := e1
    by_cases hk : n = k
    · subst hk
      have e2 : (s.l.set n .dead)[n]? = some o := e2
      rw [List.getElem?_set_self hl] at e2
      cases e2
      exact absurd rfl hd
    · have e2 : (s.l.set n .dead)[k]? = some o := e2
      rw [List.getElem?_set_ne hk] at e2
      have hb : b ≠ a := fun z => hk (nodup_get nd1 h1 (z ▸ e1))
      show upd W.hs a _ b = none
      rw [upd_ne hb]
      exact sm.lf k b o e1 e2 hd
  · obtain ⟨u, q, r⟩ := sm.gv k b o e1 e2
    exact ⟨u, q, r.mono le _ _⟩
  · have hb' : b ≠ a := fun z => (List.nodup_append.mp sm.nd).2.2 a hm b hb z.symm
    show upd W.hs a _ b = none
    rw [upd_ne hb']
    exact sm.gf b hb
theorem EnvR.one (er : EnvR C W ρ σ) (hn : W.hs a = none) (r : RepL C W l vs) (h1 : W.ll[n]? = some a) (h2 : s.l[n]? = some (.lst l)) : EnvR C (W.one a (.lst vs)) (ρ.map (frzS n s.l)) σ := by
  refine ⟨by rw [List.length_map]; exact er.len, fun i x hx => ?_⟩
  rw [List.getElem?_map] at hx
  cases q : ρ[i]? with
  | none => rw [q] at hx; cases hx
  | some y =>
    rw [q] at hx
    simp only [Option.map_some, Option.some.injEq] at hx
    obtain ⟨o, e1, e2⟩ := er.at_ i y q
    refine ⟨o, e1, ?_⟩
    subst hx
    have le := le_one (u := .lst vs) hn
    cases y with
    | un => trivial
    | v d =>
      obtain ⟨w, e3, e4⟩ := e2
      exact ⟨w, e3, e4.mono le⟩
    | l k =>
      obtain ⟨b, e3, e4⟩ := e2
      unfold frzS
      cases z : Nat.beq k n with
      | false =>
        simp only [z]
        exact ⟨b, e3, e4⟩
      | true =>
        have hk := Nat.eq_of_beq_eq_true z
        simp only [z]
        rw [hk] at e4 ⊢
        rw [h1] at e4
        cases e4
        simp only [viewS, h2]
        exact ⟨_, e3, by rw [Rep]; exact ⟨a, vs, rfl, upd_same, r.mono le⟩⟩
end
section
variable {X : Cx} {C : Cn} {Wx : WX} {st : Stmt} {rest : List Stmt} {f : Stm}
theorem frz_key {i : Nat} {E : Ends} {σ : L2.St} {H : Hp} (h : tS C Wx (sFrz i f) E σ H) : tS C Wx f E σ H := by
  obtain ⟨ρ, W, s, er, sm, o⟩ := h
  unfold sFrz at o
  split at o
  · rename_i n hn
    split at o
    · rename_i l hl
      obtain ⟨ov, e1, a, e2, e3⟩ := er.at_ i _ (slot_get ρ i _ hn (by intro z; cases z))
      obtain ⟨u, hu, vs, rfl, r⟩ := sm.lv n a _ e3 hl
      have hn : W.hs a = none := sm.lf n a _ e3 hl (by intro z; cases z)
      exact ⟨_, _, _, er.one (s := s) hn r e3 hl, sm.one e3 hl hu, OutS.ext (Ext.one hn (List.mem_of_getElem? e3)) o⟩
    · exact o.elim
  · exact ⟨ρ, W, s, er, sm, o⟩
theorem zs_frz (i : Nat) (h : PS X st (tS C Wx f)) : PS X st (tS C Wx (sFrz i f)) := ps_imp h fun _ _ _ => frz_key
theorem zss_frz (i : Nat) (h : PSs X rest (tS C Wx f)) : PSs X rest (tS C Wx (sFrz i f)) := pss_imp h fun _ _ _ => frz_key
end

/-! ### loops -/
def RS.loop (r : RS) (k : Rho → S → RS) : RS := match r with
  | .nx ρ s => k ρ s
  | .cnt ρ s => k ρ s
  | .brk ρ s => .nx ρ s
  | r => r
theorem OutS.loop {C : Cn} {Wx : WX} {W : Wd} {H : Hp} {E : Ends} {r : RS} {k : Rho → S → RS} {N : L2.St → Hp → Prop} (h : OutS C Wx W H E (r.loop k))
    (hN : ∀ W' σ' H' ρ s, Ext W H W' H' → Sim C W' s H' → EnvR C W' ρ σ' → OutS C Wx W' H' E (k ρ s) → N σ' H') : OutS C Wx W H { E with nx := N, ct := N, bk := E.nx } r := by
  cases r with
  | nx ρ s => exact fun W' σ' H' e sm er => hN W' σ' H' ρ s e sm er (OutS.ext e h)
  | cnt ρ s => exact fun W' σ' H' e sm er => hN W' σ' H' ρ s e sm er (OutS.ext e h)
  | brk ρ s => exact h
  | ret d s => exact h
  | exc x ρ s => exact h
  | excF x s => exact h
  | bad => exact h
def forGo (T : Tg) (b : Stm) : List D → Stm
  | [], ρ, s => .nx ρ s
  | d :: ds, ρ, s => match T.put d ρ with
    | some ρ' => (b ρ' s).loop (forGo T b ds)
    | none => .bad
def sFor (T : Tg) (F : Lx) (b : Stm) : Stm := fun ρ s => (F ρ s).toS ρ fun ds s => forGo T b ds ρ s
def whGo (c : Bx) (b : Stm) : Nat → Stm
  | 0, _, _ => .bad
  | n + 1, ρ, s => (c ρ s).toS ρ fun t s => match t with
    | true => (b ρ s).loop (whGo c b n)
    | false => .nx ρ s
def sWh (n : Nat) (c : Bx) (b : Stm) : Stm := whGo c b n
section
variable {X : Cx} {C : Cn} {Wx : WX} {tg iter c : Expr} {body : List Stmt} {pos : Pos} {T : Tg} {F : Lx} {b : Stm} {p : Bx}
theorem zs_for (hc : X.calm = true) (hi : PI X tg iter (tI C Wx F)) (hg : PG X tg (tG C T)) (hb : PSs X body (tS C Wx b)) (hp : PassesOwn (model X.prog X.w) X.A X.env X.xe) (hs : ∀ x, foldedSetIterable iter X.env x = pure x := by intro _; rfl) :
    PS X (.For tg iter body [] pos) (tS C Wx (sFor T F b)) :=
  ps_imp (ps_for hp hc hi hg hb hs) fun D σ H ⟨ρ, W, s, er, sm, o⟩ => ⟨ρ, W, s, er, sm, Out.mono (OutS.split (P := ItD C) er o) (by
    rintro J H1 ⟨W1, s1, ds, e1, sm1, it, o1⟩
    refine ⟨fun i m σ' H' => m = ds.length - i ∧ i ≤ ds.length ∧ ∃ ρ W s, Le W1 W ∧ EnvR C W ρ σ' ∧ Sim C W s H' ∧ OutS C Wx W H' D (forGo T b (ds.drop i) ρ s), ⟨ds.length, rfl, Nat.zero_le _, ρ, W1, s1, Le.refl _, er.mono e1, sm1, o1⟩, ?_⟩
    rintro i m σ2 H2 ⟨rfl, hi2, ρ2, W2, s2, le2, er2, sm2, o2⟩
    by_cases hlt : i < ds.length
    · right
      refine ⟨it.go i hlt W2 s2 H2 le2 sm2, fun σ' H' => ds.length - (i + 1) = ds.length - (i + 1) ∧ i + 1 ≤ ds.length ∧ ∃ ρ W s, Le W1 W ∧ EnvR C W ρ σ' ∧ Sim C W s H' ∧ OutS C Wx W H' D (forGo T b (ds.drop (i + 1)) ρ s), fun σ' H' n => ⟨_, by omega, n⟩, fun x H' y => ?_⟩
      obtain ⟨W3, e3, sm3, r3⟩ := it.yld i _ (List.getElem?_eq_getElem hlt) W2 s2 H2 x H' le2 sm2 y
      rw [List.drop_eq_getElem_cons hlt, forGo] at o2
      refine ⟨ρ2, W3, s2, _, er2.mono e3, sm3, r3, ?_⟩
      cases z : T.put ds[i] ρ2 with
      | none => rw [z] at o2; exact o2
      | some ρ' =>
        rw [z] at o2
        exact fun σ3 er3 _ => ⟨ρ', W3, s2, er3, sm3, OutS.loop (OutS.ext e3 o2) fun W' σ' H' ρ s e sm er o => ⟨rfl, hlt, ρ, W', s, (le2.trans e3.le).trans e.le, er, sm, o⟩⟩
    · have : i = ds.length := by omega
      subst this
      left
      rw [List.drop_length, forGo] at o2
      exact ⟨it.stop W2 s2 H2 le2 sm2, o2 W2 σ2 H2 (Ext.refl _ _) sm2 er2⟩)⟩
theorem zs_wh (n : Nat) (hc : PT X c (tB C Wx p)) (hb : PSs X body (tS C Wx b)) (hp : PassesOwn (model X.prog X.w) X.A X.env X.xe) : PS X (.While c body [] pos) (tS C Wx (sWh n p b)) :=
  ps_imp (ps_while hp hc hb) fun D σ H ⟨ρ, W, s, er, sm, o⟩ => by
    refine ⟨fun m σ' H' => ∃ ρ W s, EnvR C W ρ σ' ∧ Sim C W s H' ∧ OutS C Wx W H' D (whGo p b m ρ s), ⟨n, ρ, W, s, er, sm, o⟩, ?_⟩
    rintro m σ2 H2 ⟨ρ2, W2, s2, er2, sm2, o2⟩
    cases m with
    | zero => exact o2.elim
    | succ m =>
      rw [whGo] at o2
      refine ⟨ρ2, W2, s2, er2, sm2, Out.mono (OutS.split (P := PB) er2 o2) ?_⟩
      rintro t H3 ⟨W3, s3, t', e3, sm3, rfl, o3⟩
      cases t' with
      | false => exact o3 W3 σ2 H3 (Ext.refl _ _) sm3 (er2.mono e3)
      | true =>
        rw [if_pos rfl]
        exact ⟨fun σ' H' => ∃ ρ W s, EnvR C W ρ σ' ∧ Sim C W s H' ∧ OutS C Wx W H' D (whGo p b m ρ s), fun σ' H' q => ⟨m, Nat.lt_succ_self _, q⟩, ρ2, W3, s3, er2.mono e3, sm3, OutS.loop o3 fun W' σ' H' ρ s e sm er o => ⟨ρ, W', s, er, sm, o⟩⟩
/-- name op= e -/
def sAug (i : Nat) (F : F2) (f : Ex) : Stm := sSet i (eBin F (eVar i) f)
theorem zs_aug {i : Nat} {x : Str} {pos' : Pos} {e : Expr} {op : Operator} {F : F2} {f : Ex} (he : PE X e (tE C Wx f)) (ho : OpR X (inplaceOp op) (rD C F)) (h : ∀ {te : TE} {ti : TIp}, PE X e te → PIp X op ti → PS X (.AugAssign (.Name x pos') op e pos) (tAug i te ti)) :
    PS X (.AugAssign (.Name x pos') op e pos) (tS C Wx (sAug i F f)) :=
  ps_imp (h he ho) fun D σ H ⟨ρ, W, s, er, sm, o⟩ => by
    unfold sAug sSet eBin eVar at o
    cases z : slot ρ i with
    | v d =>
      rw [z] at o
      obtain ⟨ov, e1, w, e2, e3⟩ := er.at_ i _ (slot_get ρ i _ z (by intro z; cases z))
      subst e2
      refine ⟨w, e1, ρ, W, s, er, sm, ?_⟩
      have o : OutS C Wx W H D (((f ρ s).bind fun e s => F d e s).toS ρ fun d s => .nx (ρ.set i (.v d)) s) := o
      have o : OutS C Wx W H D ((f ρ s).toS ρ fun e s => (F d e s).toS ρ fun d s => .nx (ρ.set i (.v d)) s) := by
        cases q : f ρ s <;> (rw [q] at o; exact o)
      refine Out.mono (OutS.split (P := Rep C) er o) ?_
      rintro y H1 ⟨W1, s1, d1, e4, sm1, r1, o1⟩
      refine ⟨Wx, σ, W1, s1, d, d1, sm1, e3.mono e4.le, r1, Out.mono (OutS.split (P := Rep C) (er.mono e4) o1) ?_⟩
      rintro y2 H2 ⟨W2, s2, d2, e5, sm2, r2, o2⟩
      exact o2 W2 _ H2 (Ext.refl _ _) sm2 (((er.mono e4).mono e5).set ⟨y2, rfl, r2⟩)
    | un => rw [z] at o; exact o.elim
    | l n => rw [z] at o; exact o.elim
end

/-! ### new lists -/
def OutF (C : Cn) (Wx : WX) (σ : L2.St) (W : Wd) (H : Hp) (Q : VK) : R (List D) → Prop
  | .ok l s => ∀ W' vs H' p, Ext W H W' H' → Sim C W' s H' → RepL C W' l vs → H' p = none → Q (.ref p) (upd H' p (.lst vs))
  | .exc x s => ∀ W' H' cls dx, Ext W H W' H' → Sim C W' s H' → RepX C W' x cls dx H' → Wx cls dx σ H'
  | .bad => False
/-- an expression that makes a new list -/
def tF (C : Cn) (Wx : WX) (f : Lx) : TE := fun σ H Q => ∃ ρ W s, EnvR C W ρ σ ∧ Sim C W s H ∧ OutF C Wx σ W H Q (f ρ s)
def PL : Wd → Nat → V → Prop := fun W n v => ∃ a, v = .ref a ∧ W.ll[n]? = some a
abbrev Nx := Rho → S → R Nat
def tL (C : Cn) (Wx : WX) (f : Nx) : TE := fun σ H Q => ∃ ρ W s, EnvR C W ρ σ ∧ Sim C W s H ∧ Out PL C Wx σ W H Q (f ρ s)
def eF (f : Lx) : Ex := fun ρ s => (f ρ s).bind fun l s => .ok (.lst l) s
def eG (f : Lx) : Ex := fun ρ s => (f ρ s).bind fun l s => .ok (.glb s.g.length) ⟨s.l, s.g ++ [.lst l]⟩
def lF (f : Lx) : Nx := fun ρ s => (f ρ s).bind fun l s => .ok s.l.length ⟨s.l ++ [.lst l], s.g⟩
section
variable {C : Cn} {W : Wd} {s : S} {H : Hp} {p : Addr} {l : List D} {vs : List V}
theorem Sim.hnone (sm : Sim C W s H) (hp : H p = none) : W.hs p = none := by
  cases e : W.hs p with
  | none => rfl
  | some u => rw [sm.sub p u e] at hp; cases hp
theorem Sim.nll (sm : Sim C W s H) (hp : H p = none) : p ∉ W.ll := fun h => by
  obtain ⟨u, e⟩ := sm.lat h
  rw [hp] at e
  cases e
theorem Sim.nlg (sm : Sim C W s H) (hp : H p = none) : p ∉ W.lg := fun h => by
  obtain ⟨u, e⟩ := sm.gat h
  rw [hp] at e
  cases e
theorem get_snoc {α : Type} {l : List α} {x y : α} {n : Nat} (h : (l ++ [x])[n]? = some y) : l[n]? = some y ∨ (n = l.length ∧ y = x) := by
  by_cases hn : n < l.length
  · rw [List.getElem?_append_left hn] at h
    exact .inl h
  · rw [List.getElem?_append_right (by omega)] at h
    have : n - l.length = 0 := by
      cases q : n - l.length with
      | zero => rfl
      | succ k => rw [q] at h; simp at h
    rw [this] at h
    simp at h
    exact .inr ⟨by omega, h.symm⟩
theorem Ext.newl (sm : Sim C W s H) (hp : H p = none) (o : HO) : Ext W H ⟨W.hs, W.ll ++ [p], W.lg⟩ (upd H p o) where
  hs := fun _ _ h => h
  new := fun _ _ h => .inl h
  ll := ⟨[p], rfl, fun a h => by rw [List.mem_singleton.mp h]; exact hp⟩
  lg := ⟨[], by simp, fun _ h => by cases h⟩
  fr := fun a u e _ _ => by rw [upd_ne (ne_of_none e hp)]; exact e
  dom := fun a e => by
    by_cases ha : a = p
    · subst ha
      rw [upd_same] at e
      cases e
    · rw [upd_ne ha] at e
      exact e
theorem Ext.newg (sm : Sim C W s H) (hp : H p = none) (o : HO) : Ext W H ⟨W.hs, W.ll, W.lg ++ [p]⟩ (upd H p o) where
  hs := fun _ _ h => h
  new := fun _ _ h => .inl h
  lg := ⟨[p], rfl, fun a h => by rw [List.mem_singleton.mp h]; exact hp⟩
  ll := ⟨[], by simp, fun _ h => by cases h⟩
  fr := fun a u e _ _ => by rw [upd_ne (ne_of_none e hp)]; exact e
  dom := fun a e => by
    by_cases ha : a = p
    · subst ha
      rw [upd_same] at e
      cases e
    · rw [upd_ne ha] at e
      exact e
theorem Sim.newl (sm : Sim C W s H) (hp : H p = none) (r : RepL C W l vs) : Sim C ⟨W.hs, W.ll ++ [p], W.lg⟩ ⟨s.l ++ [.lst l], s.g⟩ (upd H p (.lst vs)) := by
  have le := (Ext.newl sm hp (HO.lst vs)).le
  have nl := sm.nll hp
  have ng := sm.nlg hp
  refine ⟨fun a o e => by rw [upd_ne (ne_of_none (sm.sub a o e) hp)]; exact sm.sub a o e, by show (W.ll ++ [p]).length = (s.l ++ [LO.lst l]).length; simp [sm.ll], fun n a o e1 e2 => ?_, fun n a o e1 e2 hd => ?_, sm.gl, fun n a o e1 e2 => ?_, sm.gf, ?_⟩
  · rcases get_snoc e1 with e1 | ⟨e1, rfl⟩
    · rcases get_snoc e2 with e2 | ⟨e2, rfl⟩
      · obtain ⟨u, q, r⟩ := sm.lv n a o e1 e2
        exact ⟨u, by rw [upd_ne (ne_of_none q hp)]; exact q, r.mono le _ _⟩
      · have := (List.getElem?_eq_some_iff.mp e1).1
        rw [sm.ll] at this
        omega
    · rcases get_snoc e2 with e2 | ⟨e2, rfl⟩
      · have := (List.getElem?_eq_some_iff.mp e2).1
        rw [← sm.ll] at this
        omega
      · exact ⟨_, upd_same, vs, rfl, r.mono le⟩
  · rcases get_snoc e1 with e1 | ⟨e1, rfl⟩
    · rcases get_snoc e2 with e2 | ⟨e2, rfl⟩
      · exact sm.lf n a o e1 e2 hd
      · have := (List.getElem?_eq_some_iff.mp e1).1
        rw [sm.ll] at this
        omega
    · exact sm.hnone hp
  · obtain ⟨u, q, r⟩ := sm.gv n a o e1 e2
    exact ⟨u, by rw [upd_ne (ne_of_none q hp)]; exact q, r.mono le _ _⟩
  · have e := List.nodup_append.mp sm.nd
    refine List.nodup_append.mpr ⟨List.nodup_append.mpr ⟨e.1, by simp, fun a ha b hb => ?_⟩, e.2.1, fun a ha b hb => ?_⟩
    · rw [List.mem_singleton.mp hb]
      exact fun z => nl (z ▸ ha)
    · rcases List.mem_append.mp ha with ha | ha
      · exact e.2.2 a ha b hb
      · rw [List.mem_singleton.mp ha]
        exact fun z => ng (z ▸ hb)
theorem Sim.newg {o : GO} {u : HO} (sm : Sim C W s H) (hp : H p = none) (r : RepGO C W o u) : Sim C ⟨W.hs, W.ll, W.lg ++ [p]⟩ ⟨s.l, s.g ++ [o]⟩ (upd H p u) := by
  have le := (Ext.newg sm hp u).le
  have nl := sm.nll hp
  have ng := sm.nlg hp
  refine ⟨fun a o e => by rw [upd_ne (ne_of_none (sm.sub a o e) hp)]; exact sm.sub a o e, sm.ll, fun n a o e1 e2 => ?_, sm.lf, by show (W.lg ++ [p]).length = (s.g ++ [o]).length; simp [sm.gl], fun n a o e1 e2 => ?_, fun a ha => ?_, ?_⟩
  · obtain ⟨u, q, r⟩ := sm.lv n a o e1 e2
    exact ⟨u, by rw [upd_ne (ne_of_none q hp)]; exact q, r.mono le _ _⟩
  · rcases get_snoc e1 with e1 | ⟨e1, rfl⟩
    · rcases get_snoc e2 with e2 | ⟨e2, rfl⟩
      · obtain ⟨u, q, r⟩ := sm.gv n a o e1 e2
        exact ⟨u, by rw [upd_ne (ne_of_none q hp)]; exact q, r.mono le _ _⟩
      · have := (List.getElem?_eq_some_iff.mp e1).1
        rw [sm.gl] at this
        omega
    · rcases get_snoc e2 with e2 | ⟨e2, rfl⟩
      · have := (List.getElem?_eq_some_iff.mp e2).1
        rw [← sm.gl] at this
        omega
      · exact ⟨_, upd_same, r.mono le _ _⟩
  · rcases List.mem_append.mp ha with ha | ha
    · exact sm.gf a ha
    · rw [List.mem_singleton.mp ha]
      exact sm.hnone hp
  · have e := List.nodup_append.mp sm.nd
    refine List.nodup_append.mpr ⟨e.1, List.nodup_append.mpr ⟨e.2.1, by simp, fun a ha b hb => ?_⟩, fun a ha b hb => ?_⟩
    · rw [List.mem_singleton.mp hb]
      exact fun z => ng (z ▸ ha)
    · rcases List.mem_append.mp hb with hb | hb
      · exact e.2.2 a ha b hb
      · rw [List.mem_singleton.mp hb]
        exact fun z => nl (z ▸ ha)
theorem OutF.ext {Wx : WX} {σ : L2.St} {W1 : Wd} {H1 : Hp} {Q : VK} {r : R (List D)} (e : Ext W H W1 H1) (h : OutF C Wx σ W H Q r) : OutF C Wx σ W1 H1 Q r := by
  cases r with
  | ok d s => exact fun W' vs H' p e' => h W' vs H' p (e.trans e')
  | exc x s => exact fun W' H' c d e' => h W' H' c d (e.trans e')
  | bad => exact h
theorem OutF.bind {α β : Type} {P : Wd → α → β → Prop} {Wx : WX} {σ : L2.St} {Q : VK} {r : R α} {k : α → S → R (List D)} (h : OutF C Wx σ W H Q (r.bind k)) :
    Out P C Wx σ W H (fun v H1 => ∃ W1 s1 d, Ext W H W1 H1 ∧ Sim C W1 s1 H1 ∧ P W1 d v ∧ OutF C Wx σ W1 H1 Q (k d s1)) r := by
  cases r with
  | ok d s => exact fun W' v H' e' sm p => ⟨W', s, d, e', sm, p, h.ext e'⟩
  | exc x s => exact h
  | bad => exact h
theorem OutF.now {Wx : WX} {σ : L2.St} {Q : VK} (h : OutF C Wx σ W H Q (.ok l s)) (sm : Sim C W s H) (r : RepL C W l vs) (hp : H p = none) : Q (.ref p) (upd H p (.lst vs)) := h W vs H p (Ext.refl _ _) sm r hp
end
section
variable {X : Cx} {C : Cn} {Wx : WX} {e : Expr} {es : List Expr} {f : Lx} {h : Nx} {a : Ax} {pos : Pos}
theorem ze_F (he : PE X e (tF C Wx f)) : PE X e (tE C Wx (eF f)) := pe_imp he fun σ H Q ⟨ρ, W, s, er, sm, o⟩ => ⟨ρ, W, s, er, sm, by
  unfold eF at o
  cases q : f ρ s with
  | ok l s1 =>
    rw [q] at o
    exact fun W' vs H' p e' sm' r hp => o _ _ _ (e'.trans (Ext.alloc hp _ sm')) (sm'.alloc hp _) (by rw [Rep]; exact ⟨p, vs, rfl, upd_same, r.mono (Ext.alloc hp _ sm').le⟩)
  | exc x s1 => rw [q] at o; exact o
  | bad => rw [q] at o; exact o⟩
theorem ze_G (he : PE X e (tF C Wx f)) : PE X e (tE C Wx (eG f)) := pe_imp he fun σ H Q ⟨ρ, W, s, er, sm, o⟩ => ⟨ρ, W, s, er, sm, by
  unfold eG at o
  cases q : f ρ s with
  | ok l s1 =>
    rw [q] at o
    exact fun W' vs H' p e' sm' r hp => o _ _ _ (e'.trans (Ext.newg sm' hp _)) (sm'.newg hp ⟨vs, rfl, r⟩) (by rw [Rep]; exact ⟨p, rfl, by show (W'.lg ++ [p])[s1.g.length]? = some p; rw [← sm'.gl]; simp⟩)
  | exc x s1 => rw [q] at o; exact o
  | bad => rw [q] at o; exact o⟩
theorem zl_F (he : PE X e (tF C Wx f)) : PE X e (tL C Wx (lF f)) := pe_imp he fun σ H Q ⟨ρ, W, s, er, sm, o⟩ => ⟨ρ, W, s, er, sm, by
  unfold lF at o
  cases q : f ρ s with
  | ok l s1 =>
    rw [q] at o
    exact fun W' vs H' p e' sm' r hp => o _ _ _ (e'.trans (Ext.newl sm' hp _)) (sm'.newl hp r) ⟨p, rfl, by show (W'.ll ++ [p])[s1.l.length]? = some p; rw [← sm'.ll]; simp⟩
  | exc x s1 => rw [q] at o; exact o
  | bad => rw [q] at o; exact o⟩
def sSetL (i : Nat) (f : Nx) : Stm := fun ρ s => (f ρ s).toS ρ fun n s => .nx (ρ.set i (.l n)) s
theorem zs_setL {i : Nat} {x : Str} {pos' : Pos} (h0 : PS X (.Assign [.Name x pos'] e pos) (tAsg (tL C Wx h) (gName i))) : PS X (.Assign [.Name x pos'] e pos) (tS C Wx (sSetL i h)) :=
  ps_imp h0 fun D σ H ⟨ρ, W, s, er, sm, o⟩ => ⟨ρ, W, s, er, sm, Out.mono (OutS.split (P := PL) er o) (by
    rintro v H1 ⟨W1, s1, d, e1, sm1, ⟨a, rfl, r1⟩, o1⟩
    exact o1 W1 _ H1 (Ext.refl _ _) sm1 ((er.mono e1).set ⟨a, rfl, r1⟩))⟩
/-- [a, b, ..] -/
theorem zf_lst (ha : PA X es (tA C Wx a)) (hn : es.length ≤ sizeLine := by decide) : PE X (.List es pos) (tF C Wx (fun ρ s => (a ρ s).bind fun l s => gd (sz2 l.length 0) (.ok l s))) :=
  pe_imp (pe_lst ha) fun σ H Q ⟨ρ, W, s, er, sm, o⟩ => ⟨ρ, W, s, er, sm, Out.mono (OutF.bind (P := RepL C) o) (by
    rintro v H1 ⟨W1, s1, d, e1, sm1, r1, o1⟩
    unfold gd at o1
    split at o1
    · rename_i c
      exact ⟨by have := sz2_le c; rw [← r1.length]; omega, fun p hp => o1.now sm1 r1 hp⟩
    · exact o1.elim)⟩
end
end Z

/-! Z8: lists that change, read and written where they stand; comprehensions. -/
namespace Z
open PySem L2

/-! ### one of the frame's own lists at a slot -/
def atL (ρ : Rho) (i : Nat) (s : S) : Option (Nat × List D) := match slot ρ i with
  | .l n => match s.l[n]? with
    | some (.lst l) => some (n, l)
    | _ => none
  | _ => none
def atG (d : D) (s : S) : Option (Nat × List D) := match d with
  | .glb n => match s.g[n]? with
    | some (.lst l) => some (n, l)
    | _ => none
  | _ => none
section
variable {C : Cn} {W : Wd} {s : S} {H : Hp} {ρ : Rho} {σ : L2.St} {n i : Nat} {a : Addr} {vs : List V} {l : List D}
theorem atL_get (er : EnvR C W ρ σ) (sm : Sim C W s H) (h : atL ρ i s = some (n, l)) :
    ∃ a vs, σ[i]? = some (some (.ref a)) ∧ W.ll[n]? = some a ∧ s.l[n]? = some (.lst l) ∧ H a = some (.lst vs) ∧ RepL C W l vs := by
  unfold atL at h
  split at h
  · rename_i k hk
    split at h
    · rename_i m hm
      cases h
      obtain ⟨o, e1, a, e2, e3⟩ := er.at_ i _ (slot_get ρ i _ hk (by intro z; cases z))
      obtain ⟨u, hu, vs, rfl, r⟩ := sm.lv _ a _ e3 hm
      exact ⟨a, vs, by rw [e1, e2], e3, hm, hu, r⟩
    · cases h
  · cases h
theorem atL_set (er : EnvR C W ρ σ) {W1 : Wd} {H1 : Hp} {s1 : S} (e : Ext W H W1 H1) (h : atL ρ i s = some (n, l)) : ∃ a, σ[i]? = some (some (.ref a)) ∧ W1.ll[n]? = some a := by
  unfold atL at h
  split at h
  · rename_i k hk
    split at h
    · cases h
      obtain ⟨o, e1, a, e2, e3⟩ := (er.mono e).at_ i _ (slot_get ρ i _ hk (by intro z; cases z))
      exact ⟨a, by rw [e1, e2], e3⟩
    · cases h
  · cases h
theorem atG_get {d : D} {v : V} (sm : Sim C W s H) (r : Rep C W d v) (h : atG d s = some (n, l)) :
    ∃ a vs, v = .ref a ∧ W.lg[n]? = some a ∧ s.g[n]? = some (.lst l) ∧ H a = some (.lst vs) ∧ RepL C W l vs := by
  unfold atG at h
  split at h
  · rename_i k
    split at h
    · rename_i m hm
      cases h
      rw [Rep] at r
      obtain ⟨a, e2, e3⟩ := r
      obtain ⟨u, hu, vs, rfl, r⟩ := sm.gv _ a _ e3 hm
      exact ⟨a, vs, e2, e3, hm, hu, r⟩
    · cases h
  · cases h
theorem Ext.lset {o : HO} (ha : a ∈ W.ll) (hu : ∃ u, H a = some u) : Ext W H W (upd H a o) where
  hs := fun _ _ h => h
  new := fun _ _ h => .inl h
  ll := ⟨[], by simp, fun _ h => by cases h⟩
  lg := ⟨[], by simp, fun _ h => by cases h⟩
  fr := fun b u e h1 _ => by rw [upd_ne (fun z => h1 (by rw [z]; exact ha))]; exact e
  dom := fun b e => by
    by_cases hb : b = a
    · subst hb
      rw [upd_same] at e
      cases e
    · rw [upd_ne hb] at e
      exact e
theorem Ext.gset {o : HO} (ha : a ∈ W.lg) (hu : ∃ u, H a = some u) : Ext W H W (upd H a o) where
  hs := fun _ _ h => h
  new := fun _ _ h => .inl h
  ll := ⟨[], by simp, fun _ h => by cases h⟩
  lg := ⟨[], by simp, fun _ h => by cases h⟩
  fr := fun b u e _ h1 => by rw [upd_ne (fun z => h1 (by rw [z]; exact ha))]; exact e
  dom := fun b e => by
    by_cases hb : b = a
    · subst hb
      rw [upd_same] at e
      cases e
    · rw [upd_ne hb] at e
      exact e
theorem Sim.lset {o' : LO} {u : HO} (sm : Sim C W s H) (h1 : W.ll[n]? = some a) (h2 : ∃ o, s.l[n]? = some o ∧ o ≠ .dead) (r : RepLO C W o' u) : Sim C W ⟨s.l.set n o', s.g⟩ (upd H a u) := by
  obtain ⟨o0, h2, hd0⟩ := h2
  have hn : W.hs a = none := sm.lf n a _ h1 h2 hd0
  have hm : a ∈ W.ll := List.mem_of_getElem? h1
  have hl : n < s.l.length := (List.getElem?_eq_some_iff.mp h2).1
  have nd1 := (List.nodup_append.mp sm.nd).1
  refine ⟨fun b o e => by rw [upd_ne (ne_of_none e hn)]; exact sm.sub b o e, by show W.ll.length = _; rw [List.length_set]; exact sm.ll, fun k b o e1 e2 => ?_, fun k b o e1 e2 hd => ?_, sm.gl, fun k b o e1 e2 => ?_, sm.gf, sm.nd⟩
  · by_cases hk : n = k
    · subst hk
      rw [h1] at e1
      cases e1
      rw [List.getElem?_set_self hl] at e2
      cases e2
      exact ⟨u, upd_same, r⟩
    · rw [List.getElem?_set_ne hk] at e2
      have hb : b ≠ a := fun z => hk (nodup_get nd1 h1 (z ▸ e1))
      rw [upd_ne hb]
      exact sm.lv k b o e1 e2
  · by_cases hk : n = k
    · subst hk
      rw [h1] at e1
      cases e1
      exact hn
    · rw [List.getElem?_set_ne hk] at e2
      exact sm.lf k b o e1 e2 hd
  · have hb : b ≠ a := fun z => (List.nodup_append.mp sm.nd).2.2 a hm b (List.mem_of_getElem? e1) z.symm
    rw [upd_ne hb]
    exact sm.gv k b o e1 e2
theorem Sim.gset {o' : GO} {u : HO} (sm : Sim C W s H) (h1 : W.lg[n]? = some a) (r : RepGO C W o' u) : Sim C W ⟨s.l, s.g.set n o'⟩ (upd H a u) := by
  have hm : a ∈ W.lg := List.mem_of_getElem? h1
  have hn : W.hs a = none := sm.gf a hm
  have hl : n < s.g.length := by
    have := (List.getElem?_eq_some_iff.mp h1).1
    rw [sm.gl] at this
    exact this
  have nd1 := (List.nodup_append.mp sm.nd).2.1
  refine ⟨fun b o e => by rw [upd_ne (ne_of_none e hn)]; exact sm.sub b o e, sm.ll, fun k b o e1 e2 => ?_, sm.lf, by show W.lg.length = _; rw [List.length_set]; exact sm.gl, fun k b o e1 e2 => ?_, sm.gf, sm.nd⟩
  · have hb : b ≠ a := fun z => (List.nodup_append.mp sm.nd).2.2 b (List.mem_of_getElem? e1) a hm z
    rw [upd_ne hb]
    exact sm.lv k b o e1 e2
  · by_cases hk : n = k
    · subst hk
      rw [h1] at e1
      cases e1
      rw [List.getElem?_set_self hl] at e2
      cases e2
      exact ⟨u, upd_same, r⟩
    · rw [List.getElem?_set_ne hk] at e2
      have hb : b ≠ a := fun z => hk (nodup_get nd1 h1 (z ▸ e1))
      rw [upd_ne hb]
      exact sm.gv k b o e1 e2
theorem dp_now (sm : Sim C W s H) (hu : H a = some (.lst vs)) (r : RepL C W l vs) (h : shp (.lst l) = true) : Dp C.K H (.ref a) (toP (.lst l)) := by
  have c := shp_lay h
  rw [toP, PyData.canLay0] at c
  rw [toP]
  exact .lst (.inl (.inl hu)) (RepL.dp sm.sub l vs r c)
end

def eLenL (i : Nat) : Ex := fun ρ s => match atL ρ i s with
  | some (_, l) => .ok (.int (l.length : Nat)) s
  | none => .bad
def wL (ρ : Rho) (i : Nat) (s : S) (h : Nat × List D → R D) : R D := match atL ρ i s with
  | some t => h t
  | none => .bad
def hIx (d : D) (s : S) (t : Nat × List D) : R D := match d with
  | .int k => match atI t.2 k with
    | some x => .ok x s
    | none => .bad
  | _ => .bad
def hIn (neg : Bool) (d : D) (s : S) (t : Nat × List D) : R D := gd (shp d && shp (.lst t.2)) (.ok (.bl (xor neg (inD d t.2))) s)
def hEq (neg : Bool) (d : D) (s : S) (t : Nat × List D) : R D := gd (shp (.lst t.2) && shp (see s d)) (.ok (.bl (xor neg (eqD (.lst t.2) (see s d)))) s)
def eWL (h : D → S → Nat × List D → R D) (i : Nat) (g : Ex) : Ex := fun ρ s => (g ρ s).bind fun d s => wL ρ i s (h d s)
def eIxL (i : Nat) (g : Ex) : Ex := eWL hIx i g
def eInL (neg : Bool) (f : Ex) (i : Nat) : Ex := eWL (hIn neg) i f
def eEqL (neg : Bool) (i : Nat) (g : Ex) : Ex := eWL (hEq neg) i g
section
variable {X : Cx} {C : Cn} {Wx : WX} {x : Str} {p pos : Pos} {e : Expr} {g f : Ex} {i k : Nat}
theorem slot_val {ρ : Rho} {W : Wd} {σ : L2.St} (er : EnvR C W ρ σ) {s : S} {n : Nat} {l : List D} (h : atL ρ i s = some (n, l)) : ∃ a, σ[i]? = some (some (.ref a)) ∧ W.ll[n]? = some a := by
  unfold atL at h
  split at h
  · rename_i k hk
    split at h
    · cases h
      obtain ⟨o, e1, a, e2, e3⟩ := er.at_ i _ (slot_get ρ i _ hk (by intro z; cases z))
      exact ⟨a, by rw [e1, e2], e3⟩
    · cases h
  · cases h
def isL (ρ : Rho) (i : Nat) (s : S) : Bool := match atL ρ i s with
  | some _ => true
  | none => false
theorem isL_at {ρ : Rho} {s : S} (h : isL ρ i s = true) : ∃ n l, atL ρ i s = some (n, l) := by
  unfold isL at h
  split at h
  · rename_i t ht
    exact ⟨t.1, t.2, ht⟩
  · cases h
theorem isL_val {ρ : Rho} {s : S} {W : Wd} {σ : L2.St} (er : EnvR C W ρ σ) (h : isL ρ i s = true) : ∃ a, σ[i]? = some (some (.ref a)) := by
  obtain ⟨n, l, h⟩ := isL_at h
  obtain ⟨a, e, _⟩ := slot_val er h
  exact ⟨a, e⟩
theorem ze_lenL {p2 : Pos} (hx : PE X (.Name x p) (tVar i)) (hg : Gl X "len") (hm : X.mg "len" = none) (hst : starEach [.Name x p] X.env = (false, eval (.Name x p) X.env) :: starEach [] X.env := by rfl)
    (hpl : (backTo pos (starEach [] X.env)).any (·.1) = false := by rfl) : PE X (.Call (.Name "len" p2) [.Name x p] [] pos) (tE C Wx (eLenL i)) :=
  pe_imp (pe_callB call_len_seq hg hm (by decide +kernel) (pa_cons hx pa_nil hst) (he := hst) (hpl := hpl)) fun σ H Q ⟨ρ, W, s, er, sm, o⟩ => by
    unfold eLenL at o
    split at o
    · rename_i n l hl
      obtain ⟨a, vs, e1, e2, e3, e4, r⟩ := atL_get er sm hl
      exact ⟨.ref a, e1, a, vs, rfl, .inl (SqL.of e4), o.now sm (by rw [Rep, r.length])⟩
    · exact o.elim
/-- reading a slot first, then an operand -/
theorem slotOp {r : R2} {h : D → S → (Nat × List D) → R D} (hr : ∀ σ W s H n l vs d a y Q, Sim C W s H → W.ll[n]? = some a → H a = some (.lst vs) → RepL C W l vs → Rep C W d y → Out (Rep C) C Wx σ W H Q (h d s (n, l)) → r (.ref a) y H Q)
    {σ : L2.St} {H : Hp} {Q : VK} {ρ : Rho} {W : Wd} {s : S} (er : EnvR C W ρ σ) (sm : Sim C W s H) (hL : isL ρ i s = true)
    (o : Out (Rep C) C Wx σ W H Q (eWL h i g ρ s)) : tOp r (tVar i) (tE C Wx g) σ H Q := by
  obtain ⟨a, e1⟩ := isL_val er hL
  refine ⟨.ref a, e1, ρ, W, s, er, sm, Out.mono (Out.bind (P := Rep C) o) ?_⟩
  rintro y H1 ⟨W1, s1, d, ex, sm1, r1, o1⟩
  unfold wL at o1
  cases z : atL ρ i s1 with
  | none => rw [z] at o1; exact o1.elim
  | some t =>
    rw [z] at o1
    obtain ⟨n, l⟩ := t
    obtain ⟨a', vs, q1, q2, q3, q4, q5⟩ := atL_get (er.mono ex) sm1 z
    rw [e1] at q1
    cases q1
    exact hr _ _ _ _ _ _ _ _ _ _ _ sm1 q2 q4 q5 r1 o1
/-- an operand first, then the slot -/
theorem opSlot {r : R2} {h : D → S → (Nat × List D) → R D} (hr : ∀ σ W s H n l vs d a y Q, Sim C W s H → W.ll[n]? = some a → H a = some (.lst vs) → RepL C W l vs → Rep C W d y → Out (Rep C) C Wx σ W H Q (h d s (n, l)) → r y (.ref a) H Q)
    {σ : L2.St} {H : Hp} {Q : VK} {ρ : Rho} {W : Wd} {s : S} (er : EnvR C W ρ σ) (sm : Sim C W s H)
    (o : Out (Rep C) C Wx σ W H Q (eWL h i g ρ s)) : tOp r (tE C Wx g) (tVar i) σ H Q := by
  refine ⟨ρ, W, s, er, sm, Out.mono (Out.bind (P := Rep C) o) ?_⟩
  rintro y H1 ⟨W1, s1, d, ex, sm1, r1, o1⟩
  unfold wL at o1
  cases z : atL ρ i s1 with
  | none => rw [z] at o1; exact o1.elim
  | some t =>
    rw [z] at o1
    obtain ⟨n, l⟩ := t
    obtain ⟨a', vs, q1, q2, q3, q4, q5⟩ := atL_get (er.mono ex) sm1 z
    exact ⟨.ref a', q1, hr _ _ _ _ _ _ _ _ _ _ _ sm1 q2 q4 q5 r1 o1⟩
end
/-- the slot first -/
def onL (i : Nat) (f : Ex) : Ex := fun ρ s => match isL ρ i s with
  | true => f ρ s
  | false => .bad
section
variable {X : Cx} {C : Cn} {Wx : WX} {x : Str} {p pos : Pos} {e : Expr} {g f : Ex} {i k : Nat}
theorem onL_ok {ρ : Rho} {s : S} {W : Wd} {σ : L2.St} {H : Hp} {Q : VK} (o : Out (Rep C) C Wx σ W H Q (onL i f ρ s)) : isL ρ i s = true ∧ Out (Rep C) C Wx σ W H Q (f ρ s) := by
  unfold onL at o
  split at o
  · rename_i h
    exact ⟨h, o⟩
  · exact o.elim
theorem ze_ixL (hx : PE X (.Name x p) (tVar i)) (hb : PE X e (tE C Wx g)) (hs : PlainIx e) : PE X (.Subscript (.Name x p) e pos) (tE C Wx (onL i (eIxL i g))) :=
  pe_imp (pe_ix ix_list hx hb hs) fun σ H Q ⟨ρ, W, s, er, sm, o⟩ => by
    obtain ⟨hL, o⟩ := onL_ok o
    refine slotOp (Wx := Wx) (h := hIx) ?_ er sm hL o
    intro σ W s H n l vs d a y Q sm h1 h2 h3 h4 o
    unfold hIx at o
    split at o
    · rename_i kk
      split at o
      · rename_i hx
        rw [Rep] at h4
        subst h4
        obtain ⟨w, e1, e2⟩ := h3.atI hx
        exact ⟨a, vs, _, w, rfl, rfl, SqL.of h2, e1, o.now sm e2⟩
      · exact o.elim
    · exact o.elim
theorem zc_inL (hK : X.K = C.K) (hr : Room k X.A) (ha : PE X e (tE C Wx g)) (hx : PE X (.Name x p) (tVar i)) : CmpZ X C Wx e .In (.Name x p) (eInL false g i) :=
  ⟨_, _, _, (op_inD (by have := hr.un; omega)), ha, hx, rfl, fun σ H Q ⟨ρ, W, s, er, sm, o⟩ =>
    opSlot (Wx := Wx) (h := hIn false) (by
      intro σ W s H n l vs d a y Q sm h1 h2 h3 h4 o
      obtain ⟨c, o⟩ := gd_ok o
      simp only [Bool.and_eq_true] at c
      have g2 := dp_now sm h2 h3 c.2
      rw [toP] at g2
      refine ⟨toP d, _, by rw [hK]; exact Rep.dp sm.sub _ _ h4 (shp_lay c.1), by rw [hK]; exact g2, c.1, by have := c.2; unfold shp at this; rw [toP] at this; exact this, o.now sm ?_⟩
      rw [any_toP, Rep, Bool.false_xor]) er sm o⟩
theorem zc_notInL (hK : X.K = C.K) (hr : Room k X.A) (ha : PE X e (tE C Wx g)) (hx : PE X (.Name x p) (tVar i)) : CmpZ X C Wx e .NotIn (.Name x p) (eInL true g i) :=
  ⟨_, _, _, (op_notInD (by have := hr.un; omega)), ha, hx, rfl, fun σ H Q ⟨ρ, W, s, er, sm, o⟩ =>
    opSlot (Wx := Wx) (h := hIn true) (by
      intro σ W s H n l vs d a y Q sm h1 h2 h3 h4 o
      obtain ⟨c, o⟩ := gd_ok o
      simp only [Bool.and_eq_true] at c
      have g2 := dp_now sm h2 h3 c.2
      rw [toP] at g2
      refine ⟨toP d, _, by rw [hK]; exact Rep.dp sm.sub _ _ h4 (shp_lay c.1), by rw [hK]; exact g2, c.1, by have := c.2; unfold shp at this; rw [toP] at this; exact this, o.now sm ?_⟩
      rw [any_toP, Rep, Bool.true_xor]) er sm o⟩
theorem zc_eqL (hK : X.K = C.K) (hr : Room k X.A) (hx : PE X (.Name x p) (tVar i)) (hb : PE X e (tE C Wx g)) (hm : behindInMarks .Eq e = false := by rfl) : CmpZ X C Wx (.Name x p) .Eq e (onL i (eEqL false i g)) :=
  ⟨_, _, _, (op_eqD hr.units), hx, hb, hm, fun σ H Q ⟨ρ, W, s, er, sm, o⟩ => by
    obtain ⟨hL, o⟩ := onL_ok o
    exact slotOp (Wx := Wx) (h := hEq false) (by
      intro σ W s H n l vs d a y Q sm h1 h2 h3 h4 o
      obtain ⟨c, o⟩ := gd_ok o
      simp only [Bool.and_eq_true] at c
      refine ⟨toP (.lst l), toP (see s d), by rw [hK]; exact dp_now sm h2 h3 c.1, by rw [hK]; exact see_dp sm h4 c.2, c.1, c.2, o.now sm ?_⟩
      rw [Rep, Bool.false_xor]
      rfl) er sm hL o⟩
theorem zc_neL (hK : X.K = C.K) (hr : Room k X.A) (hx : PE X (.Name x p) (tVar i)) (hb : PE X e (tE C Wx g)) (hm : behindInMarks .NotEq e = false := by rfl) : CmpZ X C Wx (.Name x p) .NotEq e (onL i (eEqL true i g)) :=
  ⟨_, _, _, (op_neD hr.units), hx, hb, hm, fun σ H Q ⟨ρ, W, s, er, sm, o⟩ => by
    obtain ⟨hL, o⟩ := onL_ok o
    exact slotOp (Wx := Wx) (h := hEq true) (by
      intro σ W s H n l vs d a y Q sm h1 h2 h3 h4 o
      obtain ⟨c, o⟩ := gd_ok o
      simp only [Bool.and_eq_true] at c
      refine ⟨toP (.lst l), toP (see s d), by rw [hK]; exact dp_now sm h2 h3 c.1, by rw [hK]; exact see_dp sm h4 c.2, c.1, c.2, o.now sm ?_⟩
      rw [Rep, Bool.true_xor]
      rfl) er sm hL o⟩
end

/-! ### methods that change a list -/
abbrev LM := List D → List D → Option (D × List D)
def MetL (C : Cn) (r : V → List V → Hp → VK → Prop) (G : LM) : Prop :=
  ∀ (W : Wd) (s : S) (ds l : List D) (vs xs : List V) (d : D) (l' : List D) (a : Addr) (H : Hp) (Q : VK), Sim C W s H → RepL C W l vs → RepL C W ds xs → G l ds = some (d, l') → H a = some (.lst vs) → vs.length + 1 ≤ sizeLine →
    (∀ ws y, RepL C W l' ws → Rep C W d y → Q y (upd H a (.lst ws))) → r (.ref a) xs H Q
def eML (i : Nat) (G : LM) (a : Ax) : Ex := fun ρ s => (a ρ s).bind fun ds s => match atL ρ i s with
  | some (n, l) => gd (sz2 l.length 1) (match G l ds with
    | some (d, l') => .ok d ⟨s.l.set n (.lst l'), s.g⟩
    | none => .bad)
  | none => .bad
def eMG (f : Ex) (G : LM) (a : Ax) : Ex := fun ρ s => (f ρ s).bind fun o s => (a ρ s).bind fun ds s => match atG o s with
  | some (n, l) => gd (sz2 l.length 1) (match G l ds with
    | some (d, l') => .ok d ⟨s.l, s.g.set n (.lst l')⟩
    | none => .bad)
  | none => .bad
def mAppend : LM := fun l ds => match ds with
  | [d] => some (.non, l ++ [d])
  | _ => none
def mPop : LM := fun l ds => match ds with
  | [] => match l[l.length - 1]? with
    | some d => some (d, l.dropLast)
    | none => none
  | _ => none
def mPopAt : LM := fun l ds => match ds with
  | [.int i] => match (decide (i < 1000000000) && decide (-1000000000 < i)), seqIndex? i l.length with
    | true, some k => match l[k]? with
      | some d => some (d, l.eraseIdx k)
      | none => none
    | _, _ => none
  | _ => none
def mClear : LM := fun l ds => match ds with
  | [] => some (.non, [])
  | _ => none
def mExtend : LM := fun l ds => match ds with
  | [.lst m] => match sz2 l.length m.length with
    | true => some (.non, l ++ m)
    | false => none
  | _ => none
def mInsert : LM := fun l ds => match ds with
  | [.int i, d] => match (decide (0 ≤ i) && decide (i < 1000000000)) with
    | true => some (.non, l.take i.toNat ++ [d] ++ l.drop i.toNat)
    | false => none
  | _ => none
theorem RepL.dropLast {C : Cn} {W : Wd} {l : List D} {vs : List V} (h : RepL C W l vs) : RepL C W l.dropLast vs.dropLast := by
  rw [List.dropLast_eq_take, List.dropLast_eq_take, h.length]
  exact h.take _
theorem RepL.erase {C : Cn} {W : Wd} : ∀ {l : List D} {vs : List V} (k : Nat), RepL C W l vs → RepL C W (l.eraseIdx k) (vs.eraseIdx k)
  | [], vs, k, h => by
    rw [RepL] at h
    subst h
    simp
    exact RepL.nil
  | d :: l, vs, 0, h => by
    rw [RepL] at h
    obtain ⟨v, r, rfl, q, t⟩ := h
    exact t
  | d :: l, vs, k + 1, h => by
    rw [RepL] at h
    obtain ⟨v, r, rfl, q, t⟩ := h
    exact RepL.cons q (RepL.erase k t)
section
variable {C : Cn}
theorem met_append : MetL C rAppend mAppend := by
  intro W s ds l vs xs d l' a H Q sm r1 r2 e hu hz k
  unfold mAppend at e
  split at e
  · cases e
    obtain ⟨x, rfl, q⟩ := r2.one
    exact ⟨a, vs, x, rfl, rfl, hu, by omega, k _ _ (r1.append (RepL.cons q RepL.nil)) (by rw [Rep])⟩
  · cases e
theorem met_pop : MetL C rPop mPop := by
  intro W s ds l vs xs d l' a H Q sm r1 r2 e hu hz k
  unfold mPop at e
  split at e
  · split at e
    · rename_i hd
      cases e
      rw [RepL] at r2
      subst r2
      obtain ⟨y, e1, e2⟩ := r1.get hd
      exact ⟨a, vs, y, rfl, rfl, hu, by rw [← r1.length]; exact e1, k _ _ r1.dropLast e2⟩
    · cases e
  · cases e
theorem met_popAt : MetL C rPopAt mPopAt := by
  intro W s ds l vs xs d l' a H Q sm r1 r2 e hu hz k
  unfold mPopAt at e
  split at e
  · rename_i i
    split at e
    · rename_i kk c hk
      simp only [Bool.and_eq_true, decide_eq_true_eq] at c
      split at e
      · rename_i hd
        cases e
        obtain ⟨x, rfl, q⟩ := r2.one
        rw [Rep] at q
        subst q
        obtain ⟨y, e1, e2⟩ := r1.get hd
        exact ⟨a, vs, i, kk, y, rfl, rfl, hu, by omega, by omega, by rw [← r1.length]; exact hk, e1, k _ _ (r1.erase _) e2⟩
      · cases e
    · cases e
  · cases e
theorem met_clear : MetL C rClear mClear := by
  intro W s ds l vs xs d l' a H Q sm r1 r2 e hu hz k
  unfold mClear at e
  split at e
  · cases e
    rw [RepL] at r2
    subst r2
    exact ⟨a, vs, rfl, rfl, hu, k _ _ RepL.nil (by rw [Rep])⟩
  · cases e
theorem met_extend : MetL C rExtend mExtend := by
  intro W s ds l vs xs d l' a H Q sm r1 r2 e hu hz k
  unfold mExtend at e
  split at e
  · split at e
    · rename_i hs
      cases e
      obtain ⟨x, rfl, q⟩ := r2.one
      rw [Rep] at q
      obtain ⟨b, zs, rfl, q1, t1⟩ := q
      have := sz2_le hs
      exact ⟨a, b, vs, zs, rfl, rfl, hu, sm.sub _ _ q1, by rw [← r1.length, ← t1.length]; exact this, k _ _ (r1.append t1) (by rw [Rep])⟩
    · cases e
  · cases e
end
end Z

/-! Z9: the methods called, targets in general, comprehensions. -/
namespace Z
open PySem L2

section
variable {X : Cx} {C : Cn} {Wx : WX} {x : Str} {p apos pos : Pos} {o e : Expr} {es : List Expr} {g f : Ex} {a : Ax} {i k : Nat} {G : LM} {r : V → List V → Hp → VK → Prop} {name : Str} {id : String}
/-- what a method's arguments, then the method, answer -/
theorem mL_key {ρ : Rho} {W : Wd} {s : S} {σ : L2.St} {H : Hp} {Q : VK} (hm : MetL C r G) (er : EnvR C W ρ σ) (sm : Sim C W s H) {ds : List D} {xs : List V} (rr : RepL C W ds xs)
    (o : Out (Rep C) C Wx σ W H Q (match atL ρ i s with
      | some (n, l) => gd (sz2 l.length 1) (match G l ds with
        | some (d, l') => .ok d ⟨s.l.set n (.lst l'), s.g⟩
        | none => .bad)
      | none => .bad)) : ∃ a, σ[i]? = some (some (.ref a)) ∧ r (.ref a) xs H Q := by
  split at o
  · rename_i n l hl
    obtain ⟨c, o⟩ := gd_ok o
    obtain ⟨a, vs, e1, e2, e3, e4, r1⟩ := atL_get er sm hl
    split at o
    · rename_i d l' hG
      refine ⟨a, e1, hm W s ds l vs xs d l' a H Q sm r1 rr hG e4 (by rw [← r1.length]; exact sz2_le c) fun ws y r2 r3 => ?_⟩
      exact o W y _ (Ext.lset (List.mem_of_getElem? e2) ⟨_, e4⟩) (sm.lset e2 ⟨_, e3, by intro z; cases z⟩ ⟨ws, rfl, r2⟩) r3
    · exact o.elim
  · exact o.elim
theorem mG_key {W : Wd} {s : S} {σ : L2.St} {H : Hp} {Q : VK} (hm : MetL C r G) (sm : Sim C W s H) {ds : List D} {xs : List V} {od : D} {ov : V} (ro : Rep C W od ov) (rr : RepL C W ds xs)
    (o : Out (Rep C) C Wx σ W H Q (match atG od s with
      | some (n, l) => gd (sz2 l.length 1) (match G l ds with
        | some (d, l') => .ok d ⟨s.l, s.g.set n (.lst l')⟩
        | none => .bad)
      | none => .bad)) : r ov xs H Q := by
  split at o
  · rename_i n l hl
    obtain ⟨c, o⟩ := gd_ok o
    obtain ⟨a, vs, rfl, e2, e3, e4, r1⟩ := atG_get sm ro hl
    split at o
    · rename_i d l' hG
      refine hm W s ds l vs xs d l' a H Q sm r1 rr hG e4 (by rw [← r1.length]; exact sz2_le c) fun ws y r2 r3 => ?_
      exact o W y _ (Ext.gset (List.mem_of_getElem? e2) ⟨_, e4⟩) (sm.gset e2 ⟨ws, rfl, r2⟩) r3
    · exact o.elim
  · exact o.elim
theorem ze_mL (slot : Slot "list" name id) (hty : typeOf (.builtin id) = pure (.type "method_descriptor")) (hR : MtR X id r) (hm : MetL C r G) (hx : PE X (.Name x p) (tVar i)) (ha : PA X (e :: es) (tA C Wx a))
    (hbase : attributeBase (.Name x p) name X.env (eval (.Name x p) X.env) = eval (.Name x p) X.env := by rfl)
    (hfew : ((backTo pos (starEach (e :: es) X.env)).all (fun x => !x.1) && (backToKw pos (keywordEach [] X.env)).all (fun x => x.1.isSome)
      && decide ((e :: es).length + ([] : List Keyword).length + (if ([] : List Keyword).isEmpty then 0 else 1) < 30)) = true := by rfl)
    (hline : (apos.endLine == pos.line) = true := by rfl) (hs : starEach (e :: es) X.env = (false, eval e X.env) :: starEach es X.env := by rfl) (hplain : (backTo pos (starEach es X.env)).any (·.1) = false := by rfl) :
    PE X (.Call (.Attribute (.Name x p) name apos) (e :: es) [] pos) (tE C Wx (onL i (eML i G a))) :=
  pe_imp (pe_bm PySem.F.plainAttrs_list slot hty hR hx ha hbase hfew hline hs hplain) fun σ H Q ⟨ρ, W, s, er, sm, o⟩ => by
    obtain ⟨hL, o⟩ := onL_ok o
    obtain ⟨ad, e1⟩ := isL_val er hL
    have hk : ∃ xs, SqL X.K H ad xs := by
      obtain ⟨n, l, hL⟩ := isL_at hL
      obtain ⟨a', vs, q1, q2, q3, q4, q5⟩ := atL_get er sm hL
      rw [e1] at q1
      cases q1
      exact ⟨vs, SqL.of q4⟩
    refine ⟨.ref ad, e1, .inl ⟨rfl, hk⟩, ρ, W, s, er, sm, Out.mono (Out.bind (P := RepL C) o) ?_⟩
    rintro xs H1 ⟨W1, s1, ds, ex, sm1, r1, o1⟩
    obtain ⟨a', q1, q2⟩ := mL_key hm (er.mono ex) sm1 r1 o1
    rw [e1] at q1
    cases q1
    exact q2
theorem ze_mL0 (slot : Slot "list" name id) (hty : typeOf (.builtin id) = pure (.type "method_descriptor")) (hR : MtR X id r) (hm : MetL C r G) (hx : PE X (.Name x p) (tVar i))
    (hbase : attributeBase (.Name x p) name X.env (eval (.Name x p) X.env) = eval (.Name x p) X.env := by rfl) (hline : (apos.endLine == pos.line) = true := by rfl) :
    PE X (.Call (.Attribute (.Name x p) name apos) [] [] pos) (tE C Wx (onL i (eML i G aNil))) :=
  pe_imp (pe_bm0 PySem.F.plainAttrs_list slot hty hR hx hbase hline) fun σ H Q ⟨ρ, W, s, er, sm, o⟩ => by
    obtain ⟨hL, o⟩ := onL_ok o
    obtain ⟨ad, e1⟩ := isL_val er hL
    have hk : ∃ xs, SqL X.K H ad xs := by
      obtain ⟨n, l, hL⟩ := isL_at hL
      obtain ⟨a', vs, q1, q2, q3, q4, q5⟩ := atL_get er sm hL
      rw [e1] at q1
      cases q1
      exact ⟨vs, SqL.of q4⟩
    refine ⟨.ref ad, e1, .inl ⟨rfl, hk⟩, ?_⟩
    obtain ⟨a', q1, q2⟩ := mL_key (ds := []) hm er sm RepL.nil o
    rw [e1] at q1
    cases q1
    exact q2
/-- an object of the whole that is a list now -/
def nowG (f : Ex) (h : D → Ex) : Ex := fun ρ s => (f ρ s).bind fun o s => match atG o s with
  | some _ => h o ρ s
  | none => .bad
def eMGo (G : LM) (a : Ax) (o : D) : Ex := fun ρ s => (a ρ s).bind fun ds s => match atG o s with
  | some (n, l) => gd (sz2 l.length 1) (match G l ds with
    | some (d, l') => .ok d ⟨s.l, s.g.set n (.lst l')⟩
    | none => .bad)
  | none => .bad
theorem ze_mG (slot : Slot "list" name id) (hty : typeOf (.builtin id) = pure (.type "method_descriptor")) (hR : MtR X id r) (hm : MetL C r G) (hx : PE X o (tE C Wx f)) (ha : PA X (e :: es) (tA C Wx a))
    (hbase : attributeBase o name X.env (eval o X.env) = eval o X.env := by rfl)
    (hfew : ((backTo pos (starEach (e :: es) X.env)).all (fun x => !x.1) && (backToKw pos (keywordEach [] X.env)).all (fun x => x.1.isSome)
      && decide ((e :: es).length + ([] : List Keyword).length + (if ([] : List Keyword).isEmpty then 0 else 1) < 30)) = true := by rfl)
    (hline : (apos.endLine == pos.line) = true := by rfl) (hs : starEach (e :: es) X.env = (false, eval e X.env) :: starEach es X.env := by rfl) (hplain : (backTo pos (starEach es X.env)).any (·.1) = false := by rfl) :
    PE X (.Call (.Attribute o name apos) (e :: es) [] pos) (tE C Wx (nowG f (eMGo G a))) :=
  pe_imp (pe_bm PySem.F.plainAttrs_list slot hty hR hx ha hbase hfew hline hs hplain) fun σ H Q ⟨ρ, W, s, er, sm, o⟩ => ⟨ρ, W, s, er, sm, Out.mono (Out.bind (P := Rep C) o) (by
    rintro v H1 ⟨W1, s1, d, ex, sm1, r1, o1⟩
    split at o1
    · rename_i t ht
      obtain ⟨ad, vs, rfl, q2, q3, q4, q5⟩ := atG_get (n := t.1) (l := t.2) sm1 r1 ht
      refine ⟨.inl ⟨rfl, vs, SqL.of q4⟩, ρ, W1, s1, er.mono ex, sm1, Out.mono (Out.bind (P := RepL C) o1) ?_⟩
      rintro xs H2 ⟨W2, s2, ds, ex2, sm2, r2, o2⟩
      exact mG_key hm sm2 (r1.mono ex2.le) r2 o2
    · exact o1.elim)⟩
theorem ze_mG0 (slot : Slot "list" name id) (hty : typeOf (.builtin id) = pure (.type "method_descriptor")) (hR : MtR X id r) (hm : MetL C r G) (hx : PE X o (tE C Wx f))
    (hbase : attributeBase o name X.env (eval o X.env) = eval o X.env := by rfl) (hline : (apos.endLine == pos.line) = true := by rfl) :
    PE X (.Call (.Attribute o name apos) [] [] pos) (tE C Wx (nowG f (eMGo G aNil))) :=
  pe_imp (pe_bm0 PySem.F.plainAttrs_list slot hty hR hx hbase hline) fun σ H Q ⟨ρ, W, s, er, sm, o⟩ => ⟨ρ, W, s, er, sm, Out.mono (Out.bind (P := Rep C) o) (by
    rintro v H1 ⟨W1, s1, d, ex, sm1, r1, o1⟩
    split at o1
    · rename_i t ht
      obtain ⟨ad, vs, rfl, q2, q3, q4, q5⟩ := atG_get (n := t.1) (l := t.2) sm1 r1 ht
      exact ⟨.inl ⟨rfl, vs, SqL.of q4⟩, mG_key (ds := []) (σ := σ) hm sm1 r1 RepL.nil o1⟩
    · exact o1.elim)⟩
end

/-! ### targets in general -/
abbrev Pt := D → Rho → S → R Rho
def OutP (C : Cn) (Wx : WX) (σ : L2.St) (W : Wd) (H : Hp) (Q : L2.St → Hp → Prop) : R Rho → Prop
  | .ok ρ s => ∀ W' σ' H', Ext W H W' H' → Sim C W' s H' → EnvR C W' ρ σ' → Q σ' H'
  | .exc _ _ => False
  | .bad => False
def tP (C : Cn) (p : Pt) : TG := fun v σ H Q => ∃ ρ W s d, EnvR C W ρ σ ∧ Sim C W s H ∧ Rep C W d v ∧ OutP C (fun _ _ _ _ => False) σ W H Q (p d ρ s)
def tPs (C : Cn) (p : List D → Rho → S → R Rho) : TGs := fun vs σ H Q => ∃ ρ W s ds, EnvR C W ρ σ ∧ Sim C W s H ∧ RepL C W ds vs ∧ OutP C (fun _ _ _ _ => False) σ W H Q (p ds ρ s)
def pNm (i : Nat) : Pt := fun d ρ s => .ok (ρ.set i (.v d)) s
/-- an index that raises nothing -/
def R.sure {α : Type} : R α → R α
  | .exc _ _ => .bad
  | r => r
def pIxL (i : Nat) (g : Ex) : Pt := fun d ρ s => match isL ρ i s with
  | true => (g ρ s).sure.bind fun k s => match k with
    | .int k => match atL ρ i s with
      | some (n, l) => match ixN l.length k with
        | some j => .ok ρ ⟨s.l.set n (.lst (l.set j d)), s.g⟩
        | none => .bad
      | none => .bad
    | _ => .bad
  | false => .bad
def pIxG (f g : Ex) : Pt := fun d ρ s => (f ρ s).sure.bind fun o s => (g ρ s).sure.bind fun k s => match k with
  | .int k => match atG o s with
    | some (n, l) => match ixN l.length k with
      | some j => .ok ρ ⟨s.l, s.g.set n (.lst (l.set j d))⟩
      | none => .bad
    | none => .bad
  | _ => .bad
def itemsG (d : D) (s : S) : Option (List D) := match d with
  | .tup l => some l
  | .lst l => some l
  | .wtp l => some l
  | .glb n => match s.g[n]? with
    | some (.lst l) => some l
    | _ => none
  | _ => none
def pTp (p : List D → Rho → S → R Rho) : Pt := fun d ρ s => match itemsG d s with
  | some ds => p ds ρ s
  | none => .bad
def psNil : List D → Rho → S → R Rho := fun ds ρ s => match ds with
  | [] => .ok ρ s
  | _ => .bad
def psCons (p : Pt) (q : List D → Rho → S → R Rho) : List D → Rho → S → R Rho := fun ds ρ s => match ds with
  | d :: ds => (p d ρ s).bind fun ρ s => q ds ρ s
  | _ => .bad
def sAsgP (p : Pt) (f : Ex) : Stm := fun ρ s => (f ρ s).toS ρ fun d s => (p d ρ s).sure.toS ρ fun ρ s => .nx ρ s
section
variable {X : Cx} {C : Cn} {Wx : WX} {x : Str} {ps pos : Pos} {o e tg : Expr} {es : List Expr} {g f : Ex} {i : Nat} {p : Pt} {q : List D → Rho → S → R Rho}
theorem OutP.ext {σ : L2.St} {W W1 : Wd} {H H1 : Hp} {Q : L2.St → Hp → Prop} {r : R Rho} (e : Ext W H W1 H1) (h : OutP C Wx σ W H Q r) : OutP C Wx σ W1 H1 Q r := by
  cases r with
  | ok d s => exact fun W' σ' H' e' => h W' σ' H' (e.trans e')
  | exc x s => exact h
  | bad => exact h
theorem OutP.bind {α : Type} {P : Wd → α → V → Prop} {σ : L2.St} {W : Wd} {H : Hp} {Q : L2.St → Hp → Prop} {r : R α} {k : α → S → R Rho} (h : OutP C (fun _ _ _ _ => False) σ W H Q (r.sure.bind k)) :
    Out P C Wx σ W H (fun v H1 => ∃ W1 s1 d, Ext W H W1 H1 ∧ Sim C W1 s1 H1 ∧ P W1 d v ∧ OutP C (fun _ _ _ _ => False) σ W1 H1 Q (k d s1)) r := by
  cases r with
  | ok d s => exact fun W' v H' e' sm p => ⟨W', s, d, e', sm, p, h.ext e'⟩
  | exc x s => exact h.elim
  | bad => exact h
theorem zp_nm (h : PG X (.Name x ps) (gName i)) : PG X (.Name x ps) (tP C (pNm i)) :=
  pg_imp h fun v σ H Q ⟨ρ, W, s, d, er, sm, r, o⟩ => o W _ H (Ext.refl _ _) sm (er.set ⟨v, rfl, r⟩)
theorem zp_ixL (h : PG X (.Subscript (.Name x ps) e pos) (gSub (tVar i) (tE C Wx g) rSetL)) : PG X (.Subscript (.Name x ps) e pos) (tP C (pIxL i g)) :=
  pg_imp h fun v σ H Q ⟨ρ, W, s, d, er, sm, r, o⟩ => by
    unfold pIxL at o
    split at o
    · rename_i hL
      obtain ⟨ad, e1⟩ := isL_val er hL
      refine ⟨.ref ad, e1, ρ, W, s, er, sm, Out.mono (OutP.bind (P := Rep C) (Wx := Wx) o) ?_⟩
      rintro kv H1 ⟨W1, s1, kd, ex, sm1, r1, o1⟩
      split at o1
      · rename_i k
        split at o1
        · rename_i n l hl
          split at o1
          · rename_i j hj
            rw [Rep] at r1
            subst r1
            obtain ⟨a', vs, q1, q2, q3, q4, q5⟩ := atL_get (er.mono ex) sm1 hl
            rw [e1] at q1
            cases q1
            exact ⟨ad, vs, k, j, rfl, rfl, q4, by rw [← q5.length]; exact hj, o1 W1 σ _ (Ext.lset (List.mem_of_getElem? q2) ⟨_, q4⟩) (sm1.lset q2 ⟨_, q3, by intro z; cases z⟩ ⟨_, rfl, q5.set j (r.mono ex.le)⟩) (er.mono ex)⟩
          · exact o1.elim
        · exact o1.elim
      · exact o1.elim
    · exact o.elim
theorem zp_ixG (h : PG X (.Subscript o e pos) (gSub (tE C Wx f) (tE C Wx g) rSetL)) : PG X (.Subscript o e pos) (tP C (pIxG f g)) :=
  pg_imp h fun v σ H Q ⟨ρ, W, s, d, er, sm, r, o⟩ => by
    unfold pIxG at o
    refine ⟨ρ, W, s, er, sm, Out.mono (OutP.bind (P := Rep C) (Wx := Wx) o) ?_⟩
    rintro ov H1 ⟨W1, s1, od, ex, sm1, r1, o1⟩
    refine ⟨ρ, W1, s1, er.mono ex, sm1, Out.mono (OutP.bind (P := Rep C) (Wx := Wx) o1) ?_⟩
    rintro kv H2 ⟨W2, s2, kd, ex2, sm2, r2, o2⟩
    split at o2
    · rename_i k
      split at o2
      · rename_i n l hl
        split at o2
        · rename_i j hj
          rw [Rep] at r2
          subst r2
          obtain ⟨a', vs, rfl, q2, q3, q4, q5⟩ := atG_get sm2 (r1.mono ex2.le) hl
          exact ⟨a', vs, k, j, rfl, rfl, q4, by rw [← q5.length]; exact hj, o2 W2 σ _ (Ext.gset (List.mem_of_getElem? q2) ⟨_, q4⟩) (sm2.gset q2 ⟨_, rfl, q5.set j (r.mono (ex.trans ex2).le)⟩) ((er.mono ex).mono ex2)⟩
        · exact o2.elim
      · exact o2.elim
    · exact o2.elim
theorem zps_nil : PGs X [] (tPs C psNil) := pgs_imp pgs_nil fun vs σ H Q ⟨ρ, W, s, ds, er, sm, r, o⟩ => by
  cases ds with
  | nil =>
    rw [RepL] at r
    exact ⟨r, o W σ H (Ext.refl _ _) sm er⟩
  | cons d ds => exact o.elim
theorem zps_cons (h1 : PG X e (tP C p)) (h2 : PGs X es (tPs C q)) (hs : (assignEach (e :: es) X.env).map (·.2) = assign e X.env :: (assignEach es X.env).map (·.2) := by rfl) : PGs X (e :: es) (tPs C (psCons p q)) :=
  pgs_imp (pgs_cons h1 h2 hs) fun vs σ H Q ⟨ρ, W, s, ds, er, sm, r, o⟩ => by
    cases ds with
    | nil => exact o.elim
    | cons d ds =>
      rw [RepL] at r
      obtain ⟨v, rr, rfl, q1, t1⟩ := r
      refine ⟨v, rr, rfl, ρ, W, s, d, er, sm, q1, ?_⟩
      unfold psCons at o
      simp only at o
      cases z : p d ρ s with
      | bad => rw [z] at o; exact o.elim
      | exc x s' => rw [z] at o; exact o.elim
      | ok ρ' s' =>
        rw [z] at o
        exact fun W' σ' H' ex sm' er' => ⟨ρ', W', s', ds, er', sm', t1.mono ex.le, OutP.ext ex o⟩
theorem zp_tp (hK : X.K = C.K) {k n : Nat} (hc : X.calm = true) (h : PGs X es (tPs C q)) (hn : (assignEach es X.env).length = n := by rfl) (hst : (assignEach es X.env).findIdx? (·.1) = none := by rfl) :
    PG X (.Tuple es k pos) (tP C (pTp (fun ds ρ s => gd (Nat.beq ds.length n) (q ds ρ s)))) := by
  have h1 := pg_tup (k := k) (pos := pos) (n := n) hc h hn hst
  have h2 := pg_lst (k := k) (pos := pos) (n := n) hc h hn hst
  have gk : ∀ {σ W H Q} {b : Bool} {r : R Rho}, OutP C (fun _ _ _ _ => False) σ W H Q (gd b r) → b = true ∧ OutP C (fun _ _ _ _ => False) σ W H Q r := fun {σ W H Q b r} o => by
    cases b with
    | true => exact ⟨rfl, o⟩
    | false => exact o.elim
  refine ⟨fun pins st σ H v u Q I rv ⟨ρ, W, s, d, er, sm, r, o⟩ => ?_⟩
  unfold pTp itemsG at o
  cases d with
  | tup ds =>
    rw [Rep] at r
    obtain ⟨a, vs, rfl, q1, t1⟩ := r
    obtain ⟨c, o⟩ := gk o
    exact h1.run pins st σ H _ u Q I rv ⟨a, vs, rfl, by rw [hK]; exact sqt_mono sm.sub q1, by rw [← t1.length]; exact Nat.eq_of_beq_eq_true c, ρ, W, s, ds, er, sm, t1, o⟩
  | wtp ds =>
    rw [Rep] at r
    obtain ⟨a, vs, rfl, q1, t1⟩ := r
    obtain ⟨c, o⟩ := gk o
    exact h1.run pins st σ H _ u Q I rv ⟨a, vs, rfl, by rw [hK]; exact sqt_mono0 sm.sub q1, by rw [← t1.length]; exact Nat.eq_of_beq_eq_true c, ρ, W, s, ds, er, sm, t1, o⟩
  | lst ds =>
    rw [Rep] at r
    obtain ⟨a, vs, rfl, q1, t1⟩ := r
    obtain ⟨c, o⟩ := gk o
    exact h2.run pins st σ H _ u Q I rv ⟨a, vs, rfl, SqL.of (sm.sub _ _ q1), by rw [← t1.length]; exact Nat.eq_of_beq_eq_true c, ρ, W, s, ds, er, sm, t1, o⟩
  | glb m =>
    rw [Rep] at r
    obtain ⟨a, rfl, q1⟩ := r
    simp only at o
    cases z : s.g[m]? with
    | none => rw [z] at o; exact o.elim
    | some go => cases go with
      | lst ds =>
        rw [z] at o
        obtain ⟨u', hu, vs, rfl, t1⟩ := sm.gv m a _ q1 z
        obtain ⟨c, o⟩ := gk o
        exact h2.run pins st σ H _ u Q I rv ⟨a, vs, rfl, SqL.of hu, by rw [← t1.length]; exact Nat.eq_of_beq_eq_true c, ρ, W, s, ds, er, sm, t1, o⟩
      | ins c l => rw [z] at o; exact o.elim
      | dead => rw [z] at o; exact o.elim
  | _ => exact o.elim
theorem zs_asgP (he : PE X e (tE C Wx f)) (hg : PG X tg (tP C p)) (hs : swapsWithSole [tg] e pos.line X.env = pure false := by rfl) (hw : swappedStores [tg] e X.env = pure none := by rfl)
    (h1 : (assignEach [tg] X.env).map (·.2) = [assign tg X.env] := by rfl) : PS X (.Assign [tg] e pos) (tS C Wx (sAsgP p f)) :=
  ps_imp (ps_asg he hg hs hw h1) fun E σ H ⟨ρ, W, s, er, sm, o⟩ => ⟨ρ, W, s, er, sm, Out.mono (OutS.split (P := Rep C) er o) (by
    rintro v H1 ⟨W1, s1, d, e1, sm1, r1, o1⟩
    refine ⟨ρ, W1, s1, d, er.mono e1, sm1, r1, ?_⟩
    cases z : p d ρ s1 with
    | bad => rw [z] at o1; exact o1.elim
    | exc x s' => rw [z] at o1; exact o1.elim
    | ok ρ' s' =>
      rw [z] at o1
      exact fun W' σ' H' ex sm' er' => o1 W' σ' H' ex sm' er')⟩
/-- a, b = x, y at two names -/
def sPar (i j : Nat) (a : Ax) : Stm := fun ρ s => (a ρ s).toS ρ fun ds s => match ds with
  | [d, e] => .nx ((ρ.set i (.v d)).set j (.v e)) s
  | _ => .bad
theorem zs_par {st : Stmt} {i j : Nat} {a : Ax} (h : PS X st (tPar i j (tA C Wx a))) : PS X st (tS C Wx (sPar i j a)) :=
  ps_imp h fun E σ H ⟨ρ, W, s, er, sm, o⟩ => ⟨ρ, W, s, er, sm, Out.mono (OutS.split (P := RepL C) er o) (by
    rintro vs H1 ⟨W1, s1, ds, e1, sm1, r1, o1⟩
    split at o1
    · obtain ⟨v, w, rfl, q1, q2⟩ := r1.two
      exact ⟨v, w, rfl, o1 W1 _ H1 (Ext.refl _ _) sm1 (((er.mono e1).set (x := .v _) (v := v) ⟨v, rfl, q1⟩).set (x := .v _) (v := w) ⟨w, rfl, q2⟩)⟩
    · exact o1.elim)⟩
end
end Z

/-! Z10: comprehensions. -/
namespace Z
open PySem L2
def wipeR (ρ : Rho) : List Nat → Rho
  | [] => ρ
  | v :: vs => (wipeR ρ vs).set v .un
def compGo (T : Tg) (p : Bx) (e : Ex) (ρ : Rho) : List D → S → R (List D)
  | [], s => .ok [] s
  | d :: ds, s => match T.put d ρ with
    | some ρ' => (p ρ' s).bind fun b s => match b with
      | true => (e ρ' s).bind fun x s => (compGo T p e ρ ds s).bind fun r s => .ok (x :: r) s
      | false => compGo T p e ρ ds s
    | none => .bad
def fComp (T : Tg) (F : Lx) (p : Bx) (e : Ex) (vs : List Nat) : Lx := fun ρ s => (F ρ s).bind fun ds s => gd (sz2 ds.length 0) (compGo T p e (wipeR ρ vs) ds s).sure
section
variable {C : Cn} {W : Wd} {s : S} {H : Hp} {ρ : Rho} {σ : L2.St} {a : Addr}
theorem EnvR.wipe (er : EnvR C W ρ σ) : ∀ vs, EnvR C W (wipeR ρ vs) (L2.wipe σ vs)
  | [] => er
  | v :: vs => by
    have h := EnvR.wipe er vs
    unfold wipeR L2.wipe
    refine ⟨by rw [List.length_set, List.length_set]; exact h.len, fun j y hy => ?_⟩
    by_cases e : v = j
    · subst e
      by_cases hi : v < (wipeR ρ vs).length
      · rw [List.getElem?_set_self hi] at hy
        cases hy
        exact ⟨none, List.getElem?_set_self (by rw [← h.len]; exact hi), trivial⟩
      · rw [List.getElem?_eq_none (by simpa using hi)] at hy
        cases hy
    · rw [List.getElem?_set_ne e] at hy
      rw [List.getElem?_set_ne e]
      exact h.at_ j y hy
/-- outside the world -/
structure Apart (W : Wd) (a : Addr) : Prop where
  hs : W.hs a = none
  ll : a ∉ W.ll
  lg : a ∉ W.lg
theorem Sim.apart (sm : Sim C W s H) (h : H a = none) : Apart W a := ⟨sm.hnone h, sm.nll h, sm.nlg h⟩
theorem Apart.ext {W' : Wd} {H' : Hp} (h : Apart W a) (e : Ext W H W' H') (hu : ∃ u, H a = some u) : Apart W' a := by
  obtain ⟨u, hu⟩ := hu
  refine ⟨?_, fun hm => ?_, fun hm => ?_⟩
  · cases q : W'.hs a with
    | none => rfl
    | some o =>
      rcases e.new a o q with z | z | z
      · rw [h.hs] at z; cases z
      · rw [hu] at z; cases z
      · exact absurd z h.ll
  · obtain ⟨m, em, fm⟩ := e.ll
    rw [em] at hm
    rcases List.mem_append.mp hm with hm | hm
    · exact h.ll hm
    · have := fm a hm
      rw [hu] at this
      cases this
  · obtain ⟨m, em, fm⟩ := e.lg
    rw [em] at hm
    rcases List.mem_append.mp hm with hm | hm
    · exact h.lg hm
    · have := fm a hm
      rw [hu] at this
      cases this
theorem Sim.put (sm : Sim C W s H) (h : Apart W a) (o : Option HO) : Sim C W s (fun b => if b = a then o else H b) := by
  have ne : ∀ b, b ≠ a → (if b = a then o else H b) = H b := fun b hb => if_neg hb
  refine ⟨fun b u e => ?_, sm.ll, fun n b x e1 e2 => ?_, sm.lf, sm.gl, fun n b x e1 e2 => ?_, sm.gf, sm.nd⟩
  · rw [ne b (fun z => by rw [z, h.hs] at e; cases e)]
    exact sm.sub b u e
  · rw [ne b (fun z => h.ll (z ▸ List.mem_of_getElem? e1))]
    exact sm.lv n b x e1 e2
  · rw [ne b (fun z => h.lg (z ▸ List.mem_of_getElem? e1))]
    exact sm.gv n b x e1 e2
def ers (H : Hp) (a : Addr) : Hp := fun b => if b = a then none else H b
theorem upd_put {o : HO} : upd H a o = fun b => if b = a then some o else H b := by
  funext b
  by_cases hb : b = a
  · subst hb
    rw [upd_same, if_pos rfl]
  · rw [upd_ne hb, if_neg hb]
theorem ers_upd {o : HO} : ers (upd H a o) a = ers H a := by
  funext b
  unfold ers
  by_cases hb : b = a
  · rw [if_pos hb, if_pos hb]
  · rw [if_neg hb, if_neg hb, upd_ne hb]
theorem ers_none (h : H a = none) : ers H a = H := by
  funext b
  unfold ers
  by_cases hb : b = a
  · rw [if_pos hb, hb, h]
  · rw [if_neg hb]
theorem ers_same : ers H a a = none := if_pos rfl
theorem ers_back {o : HO} (h : H a = some o) : upd (ers H a) a o = H := by
  funext b
  by_cases hb : b = a
  · subst hb
    rw [upd_same, h]
  · rw [upd_ne hb]
    exact if_neg hb
theorem Sim.ers (sm : Sim C W s H) (h : Apart W a) : Sim C W s (Z.ers H a) := sm.put h none
theorem Sim.uners (sm : Sim C W s (Z.ers H a)) (h : Apart W a) : Sim C W s H := by
  have := sm.put h (H a)
  have e : (fun b => if b = a then H a else Z.ers H a b) = H := by
    funext b
    by_cases hb : b = a
    · rw [if_pos hb, hb]
    · rw [if_neg hb]
      exact if_neg hb
  rw [e] at this
  exact this
theorem Ext.ers {W' : Wd} {H' : Hp} (e : Ext W H W' H') (h : Apart W a) (hu : ∃ u, H a = some u) : Ext W (Z.ers H a) W' (Z.ers H' a) := by
  have en : ∀ b, H b = none → Z.ers H a b = none := fun b hb => by
    unfold Z.ers
    split
    · rfl
    · exact hb
  refine ⟨e.hs, fun b o hb => ?_, ?_, ?_, fun b o hb h1 h2 => ?_, fun b hb => ?_⟩
  · rcases e.new b o hb with z | z | z
    · exact .inl z
    · exact .inr (.inl (en b z))
    · exact .inr (.inr z)
  · obtain ⟨m, em, fm⟩ := e.ll
    exact ⟨m, em, fun b hb => en b (fm b hb)⟩
  · obtain ⟨m, em, fm⟩ := e.lg
    exact ⟨m, em, fun b hb => en b (fm b hb)⟩
  · unfold Z.ers at hb ⊢
    by_cases hba : b = a
    · rw [if_pos hba] at hb
      cases hb
    · rw [if_neg hba] at hb ⊢
      exact e.fr b o hb h1 h2
  · unfold Z.ers at hb
    by_cases hba : b = a
    · exact if_pos hba
    · rw [if_neg hba] at hb
      exact en b (e.dom b hb)
end
theorem OutF.mono' {C : Cn} {Wx : WX} {σ : L2.St} {W : Wd} {H : Hp} {Q : VK} {α : Type} {r : R α} {k k' : α → S → R (List D)} (hk : ∀ a s, k a s = k' a s) (h : OutF C Wx σ W H Q (r.bind k)) : OutF C Wx σ W H Q (r.bind k') := by
  have : k = k' := by funext a s; exact hk a s
  rw [← this]
  exact h
/-- a comprehension's item evaluated, under no exception -/
theorem sure_bind {C : Cn} {Wx : WX} {σ σ' : L2.St} {W : Wd} {H : Hp} {α β : Type} {P : Wd → α → β → Prop} {Q : VK} {r : R α} {k : α → S → R (List D)} {h : List D → List D}
    (o : OutF C Wx σ W (H) Q ((r.bind k).sure.bind fun l s => .ok (h l) s)) (hr : ∀ x s, r = .exc x s → False) :
    Out P C (fun _ _ _ _ => False) σ' W H (fun v H1 => ∃ W1 s1 d, Ext W H W1 H1 ∧ Sim C W1 s1 H1 ∧ P W1 d v ∧ r = .ok d s1) r := by
  cases r with
  | ok d s => exact fun W' v H' e' sm p => ⟨W', s, d, e', sm, p, rfl⟩
  | exc x s => exact (hr x s rfl).elim
  | bad => exact o.elim
section
variable {X : Cx} {C : Cn} {Wx : WX} {T : Tg} {F : Lx} {p : Bx} {e : Ex} {vs : List Nat}
theorem compGo_len {ρ : Rho} : ∀ {ds : List D} {s s' : S} {l : List D}, compGo T p e ρ ds s = .ok l s' → l.length ≤ ds.length
  | [], s, s', l, h => by
    rw [compGo] at h
    cases h
    exact Nat.le_refl _
  | d :: ds, s, s', l, h => by
    rw [compGo] at h
    cases z : T.put d ρ with
    | none => simp only [z] at h; cases h
    | some ρ' =>
      simp only [z] at h
      cases z1 : p ρ' s with
      | bad => rw [z1] at h; cases h
      | exc x s1 => rw [z1] at h; cases h
      | ok b s1 =>
        rw [z1] at h
        cases b with
        | false =>
          have h : compGo T p e ρ ds s1 = .ok l s' := h
          have := compGo_len h
          simp
          omega
        | true =>
          have h : ((e ρ' s1).bind fun x s => (compGo T p e ρ ds s).bind fun r s => .ok (x :: r) s) = .ok l s' := h
          cases z2 : e ρ' s1 with
          | bad => rw [z2] at h; cases h
          | exc x s2 => rw [z2] at h; cases h
          | ok x s2 =>
            rw [z2] at h
            have h : ((compGo T p e ρ ds s2).bind fun r s => .ok (x :: r) s) = .ok l s' := h
            cases z3 : compGo T p e ρ ds s2 with
            | bad => rw [z3] at h; cases h
            | exc x s3 => rw [z3] at h; cases h
            | ok r s3 =>
              rw [z3] at h
              cases h
              have := compGo_len z3
              simp
              omega
theorem lc_key (hT : ∀ i ∈ T.sl, i ∈ vs) {σ : L2.St} {H : Hp} {Q : VK} (h : tF C Wx (fComp T F p e vs) σ H Q) :
    tLc (tI C Wx F) (tG C T) (tB C (fun _ _ _ _ => False) p) (tE C (fun _ _ _ _ => False) e) vs σ H Q := by
  obtain ⟨ρ, W, s, er, sm, o⟩ := h
  refine ⟨ρ, W, s, er, sm, Out.mono (OutF.bind (P := ItD C) o) ?_⟩
  rintro J H1 ⟨W1, s1, ds, e1, sm1, it, o1⟩ A hA
  have hz : sz2 ds.length 0 = true := by
    cases z : sz2 ds.length 0 with
    | true => rfl
    | false => rw [z] at o1; exact o1.elim
  rw [hz] at o1
  have o1 : OutF C Wx σ W1 H1 Q (compGo T p e (wipeR ρ vs) ds s1).sure := o1
  have hlen := sz2_le hz
  have ap1 := sm1.apart hA
  -- the invariant: what is made so far, what remains
  refine ⟨fun i m H' => m = ds.length - i ∧ i ≤ ds.length ∧ ∃ W2 s2 acc l2 wr, Le W1 W2 ∧ EnvR C W2 ρ σ ∧ Sim C W2 s2 (Z.ers H' A) ∧ Apart W2 A ∧ H' A = some (.lst wr) ∧ RepL C W2 acc wr ∧ acc.length ≤ i ∧
      l2 = (compGo T p e (wipeR ρ vs) (ds.drop i) s2) ∧ OutF C Wx σ W2 (Z.ers H' A) Q (l2.sure.bind fun r s => .ok (acc ++ r) s), ⟨ds.length, rfl, Nat.zero_le _, W1, s1, [], _, [], Le.refl _, er.mono e1, by rw [ers_upd, ers_none hA]; exact sm1, ap1, upd_same, RepL.nil, Nat.le_refl _, rfl, ?_⟩, ?_⟩
  · rw [ers_upd, ers_none hA, List.drop_zero]
    cases z : compGo T p e (wipeR ρ vs) ds s1 with
    | bad => rw [z] at o1; exact o1.elim
    | exc x s => rw [z] at o1; exact o1.elim
    | ok r s => rw [z] at o1; exact o1
  · rintro i m H2 ⟨rfl, hi, W2, s2, acc, l2, wr, le2, er2, sm2, ap2, hw, ra, hal, rfl, o2⟩
    have smu := sm2.uners ap2
    by_cases hlt : i < ds.length
    · right
      refine ⟨it.go i hlt W2 s2 H2 le2 smu, _, fun H' n => ⟨ds.length - (i + 1), by omega, n⟩, fun x H3 y => ?_⟩
      obtain ⟨W3, e3, sm3, r3⟩ := it.yld i _ (List.getElem?_eq_getElem hlt) W2 s2 H2 x H3 le2 smu y
      have ap3 := ap2.ext e3 ⟨_, hw⟩
      have hw3 : H3 A = some (.lst wr) := e3.fr A _ hw ap2.ll ap2.lg
      rw [List.drop_eq_getElem_cons hlt, compGo] at o2
      refine ⟨wipeR ρ vs, W3, s2, _, (er2.wipe vs).mono e3, sm3, r3, ?_⟩
      cases z : T.put ds[i] (wipeR ρ vs) with
      | none => simp only [z] at o2; exact o2
      | some ρ' =>
        simp only [z] at o2
        intro σ4 er4 ag
        refine ⟨ag.wipe hT, ρ', W3, s2, er4, sm3, ?_⟩
        have o3 := OutF.ext (Ext.ers e3 ap2 ⟨_, hw⟩) o2
        cases z1 : p ρ' s2 with
        | bad => rw [z1] at o3; exact o3.elim
        | exc x s => rw [z1] at o3; exact o3.elim
        | ok b s4 =>
          rw [z1] at o3
          rintro W4 b' H4 e4 sm4 rfl
          have ap4 := ap3.ext e4 ⟨_, hw3⟩
          have hw4 : H4 A = some (.lst wr) := e4.fr A _ hw3 ap3.ll ap3.lg
          have o4 := OutF.ext (Ext.ers e4 ap3 ⟨_, hw3⟩) o3
          cases b with
          | false =>
            rw [if_neg Bool.false_ne_true]
            exact ⟨rfl, hlt, W4, s4, acc, _, wr, (le2.trans e3.le).trans e4.le, (er2.mono e3).mono e4, sm4.ers ap4, ap4, hw4, (ra.mono e3.le).mono e4.le, by omega, rfl, o4⟩
          | true =>
            rw [if_pos rfl]
            refine ⟨ρ', W4, s4, er4.mono e4, sm4, ?_⟩
            have o4 : OutF C Wx σ W4 (Z.ers H4 A) Q (((e ρ' s4).bind fun x s => (compGo T p e (wipeR ρ vs) (ds.drop (i + 1)) s).bind fun r s => .ok (x :: r) s).sure.bind fun r s => .ok (acc ++ r) s) := o4
            cases z2 : e ρ' s4 with
            | bad => rw [z2] at o4; exact o4.elim
            | exc x s => rw [z2] at o4; exact o4.elim
            | ok x5 s5 =>
              rw [z2] at o4
              intro W5 v5 H5 e5 sm5 r5
              have ap5 := ap4.ext e5 ⟨_, hw4⟩
              have hw5 : H5 A = some (.lst wr) := e5.fr A _ hw4 ap4.ll ap4.lg
              have o5 := OutF.ext (Ext.ers e5 ap4 ⟨_, hw4⟩) o4
              have ra5 := ((ra.mono e3.le).mono e4.le).mono e5.le
              refine ⟨wr, hw5, by rw [← ra.length]; have := hlen; omega, rfl, hlt, W5, s5, acc ++ [x5], _, wr ++ [v5], ((le2.trans e3.le).trans e4.le).trans e5.le, ((er2.mono e3).mono e4).mono e5, by rw [ers_upd]; exact sm5.ers ap5, ap5, upd_same, ra5.append (RepL.cons r5 RepL.nil), by simp; omega, rfl, ?_⟩
              rw [ers_upd]
              have o5 : OutF C Wx σ W5 (Z.ers H5 A) Q (((compGo T p e (wipeR ρ vs) (ds.drop (i + 1)) s5).bind fun r s => .ok (x5 :: r) s).sure.bind fun r s => .ok (acc ++ r) s) := o5
              cases z3 : compGo T p e (wipeR ρ vs) (ds.drop (i + 1)) s5 with
              | bad => rw [z3] at o5; exact o5.elim
              | exc x s => rw [z3] at o5; exact o5.elim
              | ok r s =>
                rw [z3] at o5
                have o5 : OutF C Wx σ W5 (Z.ers H5 A) Q (.ok (acc ++ x5 :: r) s) := o5
                show OutF C Wx σ W5 (Z.ers H5 A) Q (.ok (acc ++ [x5] ++ r) s)
                rw [List.append_assoc]
                exact o5
    · have hi2 : i = ds.length := by omega
      subst hi2
      left
      refine ⟨it.stop W2 s2 H2 le2 smu, ?_⟩
      rw [List.drop_length, compGo] at o2
      have o2 : OutF C Wx σ W2 (Z.ers H2 A) Q (.ok (acc ++ []) s2) := o2
      rw [List.append_nil] at o2
      have := o2 W2 wr (Z.ers H2 A) A (Ext.refl _ _) sm2 ra ers_same
      rw [ers_back hw] at this
      exact this
end
end Z

/-! Z11: a law's end; comprehensions as values and as a name's value. -/
namespace Z
open PySem PySem.Spec PyProof.Rows L2

section
variable {P : Program} {w : World} {K : PySem.W.Frag} {mg mb : Str → Option Value} {k : Nat} {fa a : Addr} {fd : FuncData} {x : Str} {sp : Sp} {t0 : Shared} {us : List Value} {zs : List Int}
/-- the promise used from one tracked heap -/
theorem end_from (KX : K.In t0.heap) (hns : t0.heap.Ns mainGlobals mg) (hb : t0.heap.Ns builtinsNs mb) (hbb : ∀ x : Str, x ≠ "__name__" → mb x = bootBuiltins x) (hlim : t0.heap.NoLimit) (hg : t0.gens = #[])
    (ha : t0.heap.get? a = some { cls := .type "list", data := .seq us.toArray }) (hr : Room k callerA) (hgu : callerA.guards = some [])
    (F : ∀ base : Heap, K.In base → base.Ns mainGlobals mg → FnG P w K mg base k fa fd [x] sp) (hbind : ∀ (s : Shared) (u : Value), BindsTo s fd ⟨[u], []⟩ [(x, u)])
    {H : Hp} (hO : ∀ b, H b = none ∨ (b = a ∧ ∃ ob ys, H b = some (.frz ob (.lst ys)))) (hK : ∀ b, H b ≠ none → K.lookup b = none) (hok : HOk P w H t0.heap) (hsp : sp [.ref a] H (fun v _ => v = .bl true) fun _ _ _ => False) :
    codeAny (model P w) callerA (.call (.ref fa) ⟨[.ref a], []⟩) (fun r s' => r = .ok (.ret (.bool true)) ∧ OldK t0.heap s'.heap ∧ s'.os = t0.os ∧ AllBare s'.gens) t0 := by
  -- what isn't tracked stays in the base
  have keep1 : ∀ {b : Addr} {o : Obj}, t0.heap.get? b = some o → H b = none → (hidT t0.heap H).get? b = some o := fun h1 h2 => hidT_get h1 h2
  have dictFree : ∀ {b : Addr} {o : Obj} {es : Array DictEntry} {n : Nat}, t0.heap.get? b = some o → o.data = .dict es n → H b = none := by
    intro b o es n h1 h2
    rcases hO b with h3 | ⟨h3, _⟩
    · exact h3
    · rw [h3, ha] at h1
      cases h1
      cases h2
  have nsOf : ∀ {b : Addr} {m : Str → Option Value}, t0.heap.Ns b m → (hidT t0.heap H).Ns b m := by
    rintro b m ⟨o, es, n, h1, h2, h3⟩
    exact ⟨o, es, n, keep1 h1 (dictFree h1 h2), h2, h3⟩
  have inBase : K.In (hidT t0.heap H) := by
    intro b o h1
    refine keep1 (KX b o h1) ?_
    cases q : H b with
    | none => rfl
    | some u =>
      have := hK b (by rw [q]; intro z; cases z)
      rw [this] at h1
      cases h1
  have modl : Mod K mg (hidT t0.heap H) := by
    obtain ⟨mc, l1, l2⟩ := hlim
    exact ⟨inBase, nsOf hns, ⟨mb, nsOf hb, hbb⟩, mc, nsOf l1, l2⟩
  have start0 : Env0 P w K mg (hidT t0.heap H) callerA [] t0 H :=
    ⟨rfl, modl, fun b o h1 => of_hidT h1, Nat.le_of_eq (hidT_size _ _), trivial, (fun b hb => nomatch (show b ∈ ([] : List Addr) from hb)), hok, .of_eq hg⟩
  have go := (F _ inBase (nsOf hns)).run callerA [] t0 H ⟨[.ref a], []⟩ [.ref a] [.ref a] _ _ hr hgu start0 (hbind t0 (.ref a)) (.cons rfl .nil) hsp
  refine codeAny_mono go ?_
  intro r s' h
  match r, h with
  | .error e, h =>
    obtain ⟨_, _, _, _, _, _, _, _, _, _, _, _, _, _, _, _, z⟩ := h
  | .ok .next, h => exact False.elim h
  | .ok .brk, h => exact False.elim h
  | .ok .cont, h => exact False.elim h
  | .ok (.ret u), h =>
    obtain ⟨v, H1, o1, b1, un, ok1, rv, q⟩ := h
    have q : v = .bl true := q
    subst q
    have eu : u = Value.bool true := rv
    subst eu
    refine ⟨rfl, OldK.of_keep ?_, o1, b1⟩
    intro b o h1
    rcases hO b with h3 | ⟨_, ob, ys, h3⟩
    · exact un.keep b o h1 h3 (fun z => by cases z) (by simp)
    · have h4 := un.frzs b ob _ h3
      obtain ⟨g1, _⟩ := hok b _ h3
      obtain ⟨g2, _⟩ := ok1 b _ h4
      rw [g1] at h1
      rw [g2]
      exact h1
/-- a law's call: the script is tracked or the module's own -/
theorem law_end (KX : K.In t0.heap) (hns : t0.heap.Ns mainGlobals mg) (hb : t0.heap.Ns builtinsNs mb) (hbb : ∀ x : Str, x ≠ "__name__" → mb x = bootBuiltins x) (hlim : t0.heap.NoLimit) (hg : t0.gens = #[])
    (ha : t0.heap.get? a = some { cls := .type "list", data := .seq us.toArray }) (hi : IntsAre us zs) (hl : zs.length ≤ sizeLine) (hr : Room k callerA) (hgu : callerA.guards = some [])
    (F : ∀ base : Heap, K.In base → base.Ns mainGlobals mg → FnG P w K mg base k fa fd [x] sp) (hbind : ∀ (s : Shared) (u : Value), BindsTo s fd ⟨[u], []⟩ [(x, u)])
    (hsp : ∀ H : Hp, Only H → SqL K H a (zs.map V.int) → sp [.ref a] H (fun v _ => v = .bl true) fun _ _ _ => False) :
    codeAny (model P w) callerA (.call (.ref fa) ⟨[.ref a], []⟩) (fun r s' => r = .ok (.ret (.bool true)) ∧ OldK t0.heap s'.heap ∧ s'.os = t0.os ∧ AllBare s'.gens) t0 := by
  have vz := vals_ints hi
  have lz := hi.length
  cases own : K.lookup a with
  | some o =>
    have h1 := KX a o own
    rw [ha] at h1
    cases h1
    have hS : SqL K (fun _ => none) a (zs.map V.int) := .inr ⟨_, us.toArray, _, own, rfl, rfl, rfl, by rw [List.size_toArray, lz]; exact hl, by simpa using vz⟩
    exact end_from KX hns hb hbb hlim hg ha hr hgu F hbind (H := fun _ => none) (fun _ => .inl rfl) (fun b z => absurd rfl z) (fun b u z => by cases (show (none : Option HO) = some u from z)) (hsp _ (fun _ => .inl rfl) hS)
  | none =>
    let O : Obj := { cls := .type "list", data := .seq us.toArray }
    let H0 : Hp := fun b => if b = a then some (.frz O (.lst (zs.map V.int))) else none
    have at0 : H0 a = some (.frz O (.lst (zs.map V.int))) := if_pos rfl
    have off : ∀ b, b ≠ a → H0 b = none := fun b hb => if_neg hb
    refine end_from KX hns hb hbb hlim hg ha hr hgu F hbind (H := H0) (fun b => ?_) (fun b z => ?_) (fun b u z => ?_) (hsp H0 (fun b => ?_) (.inl (.inr ⟨O, at0⟩)))
    · by_cases hba : b = a
      · exact .inr ⟨hba, O, _, by rw [hba]; exact at0⟩
      · exact .inl (off b hba)
    · by_cases hba : b = a
      · rw [hba]
        exact own
      · exact absurd (off b hba) z
    · by_cases hba : b = a
      · subst hba
        rw [at0] at z
        cases z
        exact ⟨ha, by rw [List.length_map]; exact hl, us, _, vz, ha⟩
      · rw [off b hba] at z
        cases z
    · by_cases hba : b = a
      · exact .inr ⟨O, _, by rw [hba]; exact at0⟩
      · exact .inl (off b hba)
end
/-- what a law says, by its data: true at every script -/
theorem walk_z {l : PySem.W.OpenLaw} {n k : Nat} {q : Program} {loose : List Str} {XP : (Str → Option Value) → Heap → Prop} {YP : World → Heap → Prop} {d : DefRec} {K : Params → PySem.W.Frag} {Ck : PySem.W.Frag → Cn} {x : Str} {Fn : FnZ}
    (hn : l.most = some n) (hn2 : n ≤ sizeLine) (hdf : d.params.defaults = []) (hr : Room k callerA) (hY : ∀ (w : World) (h : Heap), YP w h → (K w.params).In h) (hCK : ∀ K, (Ck K).K = K)
    (F : ∀ (w : World) (mg : Str → Option Value) (fa : Addr) (h : Heap), (K w.params).In h → h.Ns mainGlobals mg → mg d.name = some (.ref fa) →
      ∃ fd : FuncData, (∀ (s : Shared) (u : Value), BindsTo s fd ⟨[u], []⟩ [(x, u)]) ∧
        ∀ base : Heap, (K w.params).In base → base.Ns mainGlobals mg → FnG l.prog w (K w.params) mg base k fa fd [x] (spZ (Ck (K w.params)) Fn 1))
    (hlaw : ∀ zs : List Int, zs.length ≤ n → (∀ z ∈ zs, Builtin.Int.intBits z ≤ 1048576) → ∃ s, Fn [.scr zs] [] = .ok (.bl true) s) :
    PySem.W.WalkO q loose XP YP l.row.toRowW d [] (fun f vs => PySem.call f vs) := by
  refine Att.attach_callB hn hdf ?_
  intro w s₀ t0 mg mb fa o pm cd doc a us zs G Y ho hd hcd hmg hobj hints hlen hbits hg
  have KX := hY w _ Y
  obtain ⟨fd, hb, hF⟩ := F w mg fa _ KX G.T.g hmg
  refine law_end KX G.T.g G.T.b G.T.builtins G.T.nolimit hg hobj hints (Nat.le_trans hlen hn2) hr rfl hF hb ?_
  intro H hO hS
  obtain ⟨s1, hs1⟩ := hlaw zs hlen hbits
  refine ⟨⟨H, [], []⟩, [], [.scr zs], rfl, rfl, RepL.cons ?_ RepL.nil, ⟨fun _ _ h => h, rfl, fun n a o h => by simp at h, fun n a o h => by simp at h, rfl, fun n a o h => by simp at h, (fun a h => by cases h), List.nodup_nil⟩, ?_⟩
  · rw [Rep]
    exact ⟨a, rfl, by rw [hCK]; exact hS⟩
  · rw [hs1]
    intro W' v H' e sm r
    rw [Rep] at r
    exact r
end Z

/-! Z12: new lists by calls, slices, comprehensions; sorted; texts of data. -/
namespace Z
open PySem L2

/-! ### sequences as they are now -/
def seqD (d : D) (s : S) : Option (List D) := match d with
  | .lst l => some l
  | .tup l => some l
  | .scr l => some (l.map D.int)
  | .glb n => match s.g[n]? with
    | some (.lst l) => some l
    | _ => none
  | _ => none
theorem seqD_get {C : Cn} {W : Wd} {s : S} {H : Hp} {d : D} {v : V} {l : List D} (sm : Sim C W s H) (r : Rep C W d v) (h : seqD d s = some l) :
    ∃ a vs, v = .ref a ∧ (SqL C.K H a vs ∨ SqT C.K H a vs) ∧ RepL C W l vs := by
  unfold seqD at h
  cases d with
  | lst m =>
    cases h
    rw [Rep] at r
    obtain ⟨a, vs, rfl, q, t⟩ := r
    exact ⟨a, vs, rfl, .inl (SqL.of (sm.sub _ _ q)), t⟩
  | tup m =>
    cases h
    rw [Rep] at r
    obtain ⟨a, vs, rfl, q, t⟩ := r
    exact ⟨a, vs, rfl, .inr (sqt_mono sm.sub q), t⟩
  | scr m =>
    cases h
    rw [Rep] at r
    obtain ⟨a, rfl, q⟩ := r
    exact ⟨a, _, rfl, .inl (sql_mono sm.sub q), RepL.ints m⟩
  | glb n =>
    simp only at h
    rw [Rep] at r
    obtain ⟨a, rfl, q⟩ := r
    cases z : s.g[n]? with
    | none => rw [z] at h; cases h
    | some o => cases o with
      | lst m =>
        rw [z] at h
        cases h
        obtain ⟨u, hu, vs, rfl, t⟩ := sm.gv n a _ q z
        exact ⟨a, vs, rfl, .inl (SqL.of hu), t⟩
      | ins c m => rw [z] at h; cases h
      | dead => rw [z] at h; cases h
  | _ => cases h
def seqL (d : D) (s : S) : Option (List D) := match d with
  | .tup _ => none
  | d => seqD d s
theorem seqL_get {C : Cn} {W : Wd} {s : S} {H : Hp} {d : D} {v : V} {l : List D} (sm : Sim C W s H) (r : Rep C W d v) (h : seqL d s = some l) :
    ∃ a vs, v = .ref a ∧ SqL C.K H a vs ∧ RepL C W l vs := by
  unfold seqL at h
  cases d with
  | lst m =>
    cases h
    rw [Rep] at r
    obtain ⟨a, vs, rfl, q, t⟩ := r
    exact ⟨a, vs, rfl, SqL.of (sm.sub _ _ q), t⟩
  | scr m =>
    cases h
    rw [Rep] at r
    obtain ⟨a, rfl, q⟩ := r
    exact ⟨a, _, rfl, sql_mono sm.sub q, RepL.ints m⟩
  | glb n =>
    simp only [seqD] at h
    rw [Rep] at r
    obtain ⟨a, rfl, q⟩ := r
    cases z : s.g[n]? with
    | none => rw [z] at h; cases h
    | some o => cases o with
      | lst m =>
        rw [z] at h
        cases h
        obtain ⟨u, hu, vs, rfl, t⟩ := sm.gv n a _ q z
        exact ⟨a, vs, rfl, SqL.of hu, t⟩
      | ins c m => rw [z] at h; cases h
      | dead => rw [z] at h; cases h
  | tup m => cases h
  | _ => cases h

/-! ### calls that make a list -/
abbrev FF := List D → S → R (List D)
def rF (C : Cn) (F : FF) : List V → Hp → VK → Prop := fun xs H Q => ∃ Wx σ W s ds, Sim C W s H ∧ RepL C W ds xs ∧ OutF C Wx σ W H Q (F ds s)
def fCB (F : FF) (a : Ax) : Lx := fun ρ s => (a ρ s).bind F
def fListF : FF := fun ds s => match ds with
  | [d] => match seqD d s with
    | some l => .ok l s
    | none => .bad
  | _ => .bad
section
variable {X : Cx} {C : Cn} {Wx : WX} {x : Str} {p pos : Pos} {e : Expr} {es : List Expr} {a : Ax} {F : FF} {id T : String} {f g : Ex}
theorem zf_cb (hc : CallR X (.builtin id) (rF C F)) (hg : Gl X x) (hm : X.mg x = none) (hv : bootBuiltins x = some (.builtin id)) (ha : PA X (e :: es) (tA C Wx a)) (hn : x ≠ "__name__" := by decide) (hdb : (x == ("__debug__" : Str)) = false := by decide)
    (he : starEach (e :: es) X.env = (false, eval e X.env) :: starEach es X.env := by rfl) (hpl : (backTo pos (starEach es X.env)).any (·.1) = false := by rfl) : PE X (.Call (.Name x p) (e :: es) [] pos) (tF C Wx (fCB F a)) :=
  pe_imp (pe_callB hc hg hm hv ha hn hdb he hpl) fun σ H Q ⟨ρ, W, s, er, sm, o⟩ => ⟨ρ, W, s, er, sm, Out.mono (OutF.bind (P := RepL C) o) (by
    rintro v H1 ⟨W1, s1, d, e1, sm1, r1, o1⟩
    exact ⟨Wx, σ, W1, s1, d, sm1, r1, o1⟩)⟩
theorem zf_ct (hc : CallR X (.type T) (rF C F)) (hg : Gl X x) (hm : X.mg x = none) (hv : bootBuiltins x = some (.type T)) (ha : PA X (e :: es) (tA C Wx a)) (hn : x ≠ "__name__" := by decide) (hdb : (x == ("__debug__" : Str)) = false := by decide)
    (he : starEach (e :: es) X.env = (false, eval e X.env) :: starEach es X.env := by rfl) (hpl : (backTo pos (starEach es X.env)).any (·.1) = false := by rfl) : PE X (.Call (.Name x p) (e :: es) [] pos) (tF C Wx (fCB F a)) :=
  pe_imp (pe_callTy hc hg hm hv ha hn hdb he hpl) fun σ H Q ⟨ρ, W, s, er, sm, o⟩ => ⟨ρ, W, s, er, sm, Out.mono (OutF.bind (P := RepL C) o) (by
    rintro v H1 ⟨W1, s1, d, e1, sm1, r1, o1⟩
    exact ⟨Wx, σ, W1, s1, d, sm1, r1, o1⟩)⟩
theorem cf_list (hK : X.K = C.K) : CallR X (.type "list") (rF C fListF) := by
  intro pins st σ H xs us Q I rs h
  obtain ⟨Wx, σ', W, s, ds, sm, r, o⟩ := h
  unfold fListF at o
  split at o
  · split at o
    · rename_i hl
      obtain ⟨x, rfl, q⟩ := r.one
      obtain ⟨a, vs, rfl, q1, t1⟩ := seqD_get sm q hl
      exact call_list_of pins st σ H _ us Q I rs ⟨a, vs, rfl, by rw [hK]; exact q1, fun p hp => o.now sm t1 hp⟩
    · exact o.elim
  · exact o.elim
theorem gdF {C : Cn} {Wx : WX} {σ : L2.St} {W : Wd} {H : Hp} {Q : VK} {c : Bool} {r : R (List D)} (h : OutF C Wx σ W H Q (gd c r)) : c = true ∧ OutF C Wx σ W H Q r := by
  cases c with
  | true => exact ⟨rfl, h⟩
  | false => exact h.elim
/-- a slice of a list -/
def fSl (f : Ex) (lo hi : Ox) : Lx := fun ρ s => (f ρ s).bind fun d s => (lo ρ s).bind fun l s => (hi ρ s).bind fun h s => match seqL d s with
  | some m => .ok (cutD m l h) s
  | none => .bad
theorem zf_slice (hK : X.K = C.K) {lo hi : Option Expr} {lf hf : Ox} {p2 : Pos} (he : PE X e (tE C Wx f)) (hl : PO X lo (tOO C Wx lf)) (hu : PO X hi (tOO C Wx hf)) :
    PE X (.Subscript e (.Slice lo hi none p2) pos) (tF C Wx (fSl f lf hf)) :=
  pe_imp (pe_slice (sl_list (X := X)) he hl hu) fun σ H Q ⟨ρ, W, s, er, sm, o⟩ => ⟨ρ, W, s, er, sm, Out.mono (OutF.bind (P := Rep C) o) (by
    rintro v H1 ⟨W1, s1, d, e1, sm1, r1, o1⟩
    refine ⟨ρ, W1, s1, er.mono e1, sm1, Out.mono (OutF.bind (P := PO') o1) ?_⟩
    rintro x2 H2 ⟨W2, s2, d2, e2, sm2, r2, o2⟩
    refine ⟨ρ, W2, s2, (er.mono e1).mono e2, sm2, Out.mono (OutF.bind (P := PO') o2) ?_⟩
    rintro x3 H3 ⟨W3, s3, d3, e3, sm3, r3, o3⟩
    cases r2
    cases r3
    split at o3
    · rename_i m hm
      obtain ⟨a, vs, rfl, q1, t1⟩ := seqL_get sm3 (r1.mono (e2.le.trans e3.le)) hm
      exact ⟨a, vs, rfl, by rw [hK]; exact q1, fun p hp => o3.now sm3 (cutD_rep t1 _ _) hp⟩
    · exact o3.elim)⟩
/-- a list times a number; two lists put together -/
def fMul (f g : Ex) : Lx := fun ρ s => (f ρ s).bind fun d s => (g ρ s).bind fun e s => match d, e with
  | .lst l, .int k => gd (repOk l.length k) (.ok (List.replicate k.toNat l).flatten s)
  | _, _ => .bad
theorem zf_mul {b : Expr} (ha : PE X e (tE C Wx f)) (hb : PE X b (tE C Wx g)) : PE X (.BinOp e .Mult b pos) (tF C Wx (fMul f g)) :=
  pe_imp (pe_op op_rep ha hb) fun σ H Q ⟨ρ, W, s, er, sm, o⟩ => ⟨ρ, W, s, er, sm, Out.mono (OutF.bind (P := Rep C) o) (by
    rintro v H1 ⟨W1, s1, d, e1, sm1, r1, o1⟩
    refine ⟨ρ, W1, s1, er.mono e1, sm1, Out.mono (OutF.bind (P := Rep C) o1) ?_⟩
    rintro u H2 ⟨W2, s2, d2, e2, sm2, r2, o2⟩
    replace r1 := r1.mono e2.le
    split at o2
    · rename_i l k
      obtain ⟨c, o2⟩ := gdF o2
      rw [Rep] at r1
      rw [Rep] at r2
      obtain ⟨a, vs, rfl, q1, t1⟩ := r1
      subst r2
      unfold repOk at c
      simp only [Bool.and_eq_true, decide_eq_true_eq] at c
      exact ⟨a, k, vs, rfl, rfl, sm2.sub _ _ q1, by omega, by omega, by rw [← t1.length, sizeLine_eq]; omega, fun p hp => o2.now sm2 (t1.rep _) hp⟩
    · exact o2.elim)⟩
def fCat (f g : Ex) : Lx := fun ρ s => (f ρ s).bind fun d s => (g ρ s).bind fun e s => match d, e with
  | .lst l, .lst m => gd (sz2 l.length m.length) (.ok (l ++ m) s)
  | _, _ => .bad
theorem zf_cat {b : Expr} (ha : PE X e (tE C Wx f)) (hb : PE X b (tE C Wx g)) : PE X (.BinOp e .Add b pos) (tF C Wx (fCat f g)) :=
  pe_imp (pe_op op_cat ha hb) fun σ H Q ⟨ρ, W, s, er, sm, o⟩ => ⟨ρ, W, s, er, sm, Out.mono (OutF.bind (P := Rep C) o) (by
    rintro v H1 ⟨W1, s1, d, e1, sm1, r1, o1⟩
    refine ⟨ρ, W1, s1, er.mono e1, sm1, Out.mono (OutF.bind (P := Rep C) o1) ?_⟩
    rintro u H2 ⟨W2, s2, d2, e2, sm2, r2, o2⟩
    replace r1 := r1.mono e2.le
    split at o2
    · obtain ⟨c, o2⟩ := gdF o2
      rw [Rep] at r1
      rw [Rep] at r2
      obtain ⟨a, vs, rfl, q1, t1⟩ := r1
      obtain ⟨b, ws, rfl, q2, t2⟩ := r2
      have c := sz2_le c
      exact ⟨a, b, vs, ws, rfl, rfl, sm2.sub _ _ q1, sm2.sub _ _ q2, by rw [← t1.length, ← t2.length]; exact c, fun p hp => o2.now sm2 (t1.append t2) hp⟩
    · exact o2.elim)⟩
end

/-! ### comprehensions -/
section
variable {X : Cx} {C : Cn} {Wx : WX} {elt tg iter : Expr} {ifs : List Expr} {scope : Scope} {own : List (Str × Nat)} {pos spos py : Pos} {T : Tg} {F : Lx} {p : Bx} {e : Ex} {y : Str} {i : Nat}
def bYes : Bx := fun _ s => .ok true s
theorem zts_nil {Y : Cx} {W : WX} : PTs Y [] (tB C W bYes) := ⟨fun pins s σ H Q I ⟨ρ, W, st, er, sm, o⟩ => pts_nil.run pins s σ H Q I (o.nowB sm)⟩
theorem zf_lc (hc : X.calm = true) (hN : X.N.Nodup) (hi : PI X tg iter (tI C Wx F)) (ok : BlkOk X.N X.env.scope scope own) (hT : ∀ i ∈ T.sl, i ∈ own.map (·.2))
    (hg : ∀ (s : Shared) (H : Hp) (D : Addr) (cl : List (Str × Addr)) (fp : List Addr), PG (X.blk s H scope (compEnvC scope cl D X.env) fp) tg (tG C T)) (ht : ∀ (s : Shared) (H : Hp) (D : Addr) (cl : List (Str × Addr)) (fp : List Addr), PTs (X.blk s H scope (compEnvC scope cl D X.env) fp) ifs (tB C (fun _ _ _ _ => False) p))
    (he : ∀ (s : Shared) (H : Hp) (D : Addr) (cl : List (Str × Addr)) (fp : List Addr), PE (X.blk s H scope (compEnvC scope cl D X.env) fp) elt (tE C (fun _ _ _ _ => False) e)) (hs : ∀ x, foldedSetIterable iter X.env x = pure x := by intro _; rfl) :
    PE X (.ListComp elt [⟨tg, iter, ifs, 0⟩] scope pos) (tF C Wx (fComp T F p e (own.map (·.2)))) :=
  pe_imp (pe_lc hc hN hi ok hg ht he hs) fun _ _ _ h => lc_key hT h
/-- name = [..]: the data's statement asks what the rule asks -/
theorem asg_key {f : Ex} {D : Ends} {σ : L2.St} {H : Hp} (h : tS C Wx (sSet i f) D σ H) : tAsg (tE C Wx f) (gName i) D σ H := by
  obtain ⟨ρ, W, s, er, sm, o⟩ := h
  refine ⟨ρ, W, s, er, sm, Out.mono (OutS.split (P := Rep C) er o) ?_⟩
  rintro v H1 ⟨W1, s1, d, e1, sm1, r1, o1⟩
  exact o1 W1 _ H1 (Ext.refl _ _) sm1 ((er.mono e1).set ⟨v, rfl, r1⟩)
theorem asgL_key {f : Nx} {D : Ends} {σ : L2.St} {H : Hp} (h : tS C Wx (sSetL i f) D σ H) : tAsg (tL C Wx f) (gName i) D σ H := by
  obtain ⟨ρ, W, s, er, sm, o⟩ := h
  refine ⟨ρ, W, s, er, sm, Out.mono (OutS.split (P := PL) er o) ?_⟩
  rintro v H1 ⟨W1, s1, d, e1, sm1, ⟨a, rfl, r1⟩, o1⟩
  exact o1 W1 _ H1 (Ext.refl _ _) sm1 ((er.mono e1).set ⟨a, rfl, r1⟩)
theorem F_key {f : Lx} {σ : L2.St} {H : Hp} {Q : VK} (h : tE C Wx (eF f) σ H Q) : tF C Wx f σ H Q := by
  obtain ⟨ρ, W, s, er, sm, o⟩ := h
  refine ⟨ρ, W, s, er, sm, ?_⟩
  unfold eF at o
  cases q : f ρ s with
  | ok l s1 =>
    rw [q] at o
    exact fun W' vs H' p e' sm' r hp => o _ _ _ (e'.trans (Ext.alloc hp _ sm')) (sm'.alloc hp _) (by rw [Rep]; exact ⟨p, vs, rfl, upd_same, r.mono (Ext.alloc hp _ sm').le⟩)
  | exc x s1 => rw [q] at o; exact o
  | bad => rw [q] at o; exact o
theorem L_key {f : Lx} {σ : L2.St} {H : Hp} {Q : VK} (h : tL C Wx (lF f) σ H Q) : tF C Wx f σ H Q := by
  obtain ⟨ρ, W, s, er, sm, o⟩ := h
  refine ⟨ρ, W, s, er, sm, ?_⟩
  unfold lF at o
  cases q : f ρ s with
  | ok l s1 =>
    rw [q] at o
    exact fun W' vs H' p e' sm' r hp => o _ _ _ (e'.trans (Ext.newl sm' hp _)) (sm'.newl hp r) ⟨p, rfl, by show (W'.ll ++ [p])[s1.l.length]? = some p; rw [← sm'.ll]; simp⟩
  | exc x s1 => rw [q] at o; exact o
  | bad => rw [q] at o; exact o
theorem zs_lc (hc : X.calm = true) (hN : X.N.Nodup) (hy : X.N[i]? = some y) (hyl : X.env.scope.names.lookup y = some .local)
    (hsw : swapsWith (.ListComp elt [⟨tg, iter, ifs, 0⟩] scope pos) (some (.Name y py)) spos.line X.env = pure true) (hi : PI X tg iter (tI C Wx F)) (ok : BlkOk X.N X.env.scope scope own) (hT : ∀ i ∈ T.sl, i ∈ own.map (·.2))
    (hg : ∀ (s : Shared) (H : Hp) (D : Addr) (cl : List (Str × Addr)) (fp : List Addr), PG (X.blk s H scope (compEnvC scope cl D X.env) fp) tg (tG C T)) (ht : ∀ (s : Shared) (H : Hp) (D : Addr) (cl : List (Str × Addr)) (fp : List Addr), PTs (X.blk s H scope (compEnvC scope cl D X.env) fp) ifs (tB C (fun _ _ _ _ => False) p))
    (he : ∀ (s : Shared) (H : Hp) (D : Addr) (cl : List (Str × Addr)) (fp : List Addr), PE (X.blk s H scope (compEnvC scope cl D X.env) fp) elt (tE C (fun _ _ _ _ => False) e)) (hs : ∀ x, foldedSetIterable iter X.env x = pure x := by intro _; rfl) :
    PS X (.Assign [.Name y py] (.ListComp elt [⟨tg, iter, ifs, 0⟩] scope pos) spos) (tS C Wx (sSet i (eF (fComp T F p e (own.map (·.2)))))) :=
  ps_imp (ps_setLc hc hN hy hyl hsw hi ok hg ht he hs) fun _ _ _ h => lc_key hT (F_key (asg_key h))
theorem zs_lcL (hc : X.calm = true) (hN : X.N.Nodup) (hy : X.N[i]? = some y) (hyl : X.env.scope.names.lookup y = some .local)
    (hsw : swapsWith (.ListComp elt [⟨tg, iter, ifs, 0⟩] scope pos) (some (.Name y py)) spos.line X.env = pure true) (hi : PI X tg iter (tI C Wx F)) (ok : BlkOk X.N X.env.scope scope own) (hT : ∀ i ∈ T.sl, i ∈ own.map (·.2))
    (hg : ∀ (s : Shared) (H : Hp) (D : Addr) (cl : List (Str × Addr)) (fp : List Addr), PG (X.blk s H scope (compEnvC scope cl D X.env) fp) tg (tG C T)) (ht : ∀ (s : Shared) (H : Hp) (D : Addr) (cl : List (Str × Addr)) (fp : List Addr), PTs (X.blk s H scope (compEnvC scope cl D X.env) fp) ifs (tB C (fun _ _ _ _ => False) p))
    (he : ∀ (s : Shared) (H : Hp) (D : Addr) (cl : List (Str × Addr)) (fp : List Addr), PE (X.blk s H scope (compEnvC scope cl D X.env) fp) elt (tE C (fun _ _ _ _ => False) e)) (hs : ∀ x, foldedSetIterable iter X.env x = pure x := by intro _; rfl) :
    PS X (.Assign [.Name y py] (.ListComp elt [⟨tg, iter, ifs, 0⟩] scope pos) spos) (tS C Wx (sSetL i (lF (fComp T F p e (own.map (·.2)))))) :=
  ps_imp (ps_setLc hc hN hy hyl hsw hi ok hg ht he hs) fun _ _ _ h => lc_key hT (L_key (asgL_key h))
end

/-! ### str of data -/
def dStr (d : D) : Option Str := match d with
  | .str x => some x
  | d => match shp d && ((toP d).showable && (decide ((toP d).shown.length ≤ 1000000) && decide ((toP d).depth ≤ 32))) with
    | true => some (toP d).shown
    | false => none
def fStrD : FL := fun ds s => match ds with
  | [d] => match dStr d with
    | some x => .ok (.str x) s
    | none => .bad
  | _ => .bad
section
variable {X : Cx} {C : Cn} {k : Nat}
theorem cd_str (hK : X.K = C.K) (hr : Room k X.A) (hgu : X.A.guards = some []) : CallR X (.type "str") (rC C fStrD) := by
  intro pins st σ H xs us Q I rs h
  obtain ⟨Wx, σ', W, s, ds, sm, r, o⟩ := h
  unfold fStrD at o
  split at o
  · rename_i d
    obtain ⟨v, rfl, q⟩ := r.one
    obtain ⟨u, rfl, rv⟩ := vals1 rs
    split at o
    · rename_i x hx
      have big : ∀ {t : Str}, (shp d && ((toP d).showable && (decide ((toP d).shown.length ≤ 1000000) && decide ((toP d).depth ≤ 32)))) = true → (toP d).shown = x → shp d = true ∧ (toP d).showable = true ∧ (toP d).shown.length ≤ sizeLine ∧ (toP d).depth ≤ 32 := by
        intro t h _
        simp only [Bool.and_eq_true, decide_eq_true_eq] at h
        exact ⟨h.1, h.2.1, by rw [sizeLine_eq]; omega, h.2.2.2⟩
      have un := hr.un
      have fin : Q (.str x) H := o.now sm (by rw [Rep])
      have go : ∀ {a : Addr}, u = .ref a → (shp d = true ∧ (toP d).showable = true ∧ (toP d).shown.length ≤ sizeLine ∧ (toP d).depth ≤ 32) → (toP d).shown = x → wpAny (model X.prog X.w) X.A (call (.type "str") [u]) (EP X pins σ Q) X.xe st := by
        intro a e h1 h2
        subst e
        obtain ⟨as, w1⟩ := Dp.reads I _ _ _ (by rw [hK]; exact Rep.dp sm.sub _ _ q (shp_lay h1.1)) rv
        refine PySem.str_of_reads w1 h1.2.1 (PyData.noDict_hsm (PyData.hasDict_of_canLay _ (shp_lay h1.1))) hgu (by have := h1.2.2.2; omega) (fun _ _ z => z) (fun h' t' tk kp => ?_) h1.2.2.1
        rw [h2]
        exact ⟨.str x, H, I.kept (t' := tk) kp, ⟨_, rfl⟩, fin⟩
      have lay : dStr d = some x → (∀ y, d ≠ .str y) → (shp d = true ∧ (toP d).showable = true ∧ (toP d).shown.length ≤ sizeLine ∧ (toP d).depth ≤ 32) ∧ (toP d).shown = x := by
        intro h hn
        unfold dStr at h
        split at h
        · exact absurd rfl (hn _)
        · split at h
          · rename_i hc
            cases h
            exact ⟨big (t := Str.empty) hc rfl, rfl⟩
          · cases h
      cases d with
      | str y =>
        rw [Rep] at q
        subst q
        obtain ⟨t, rfl⟩ := rv
        simp only [dStr, Option.some.injEq] at hx
        subst hx
        exact PySem.P.str_of_str ⟨.str _, H, I, ⟨t, rfl⟩, fin⟩
      | int n =>
        rw [Rep] at q
        subst q
        obtain ⟨t, rfl⟩ := rv
        obtain ⟨h1, h2⟩ := lay hx (by intro y z; cases z)
        have h3 : n.natAbs.log2 < 1920 := by
          have := h1.2.1
          rw [toP, PyData.showable] at this
          exact of_decide_eq_true this
        have h4 : (toString n : Str) = x := by
          rw [toP, PyData.shown] at h2
          exact h2
        refine PySem.P.str_of_int h3 ?_
        rw [h4]
        exact ⟨.str _, H, I.tok _, ⟨_, rfl⟩, fin⟩
      | bl b =>
        rw [Rep] at q
        subst q
        cases rv
        obtain ⟨h1, h2⟩ := lay hx (by intro y z; cases z)
        rw [toP, PyData.shown] at h2
        refine PySem.P.str_of_bool ?_
        rw [h2]
        exact ⟨.str _, H, I.tok _, ⟨_, rfl⟩, fin⟩
      | non =>
        rw [Rep] at q
        subst q
        cases rv
        obtain ⟨h1, h2⟩ := lay hx (by intro y z; cases z)
        rw [toP, PyData.shown] at h2
        refine PySem.P.str_of_none ?_
        rw [h2]
        exact ⟨.str _, H, I.tok _, ⟨_, rfl⟩, fin⟩
      | tup l =>
        obtain ⟨h1, h2⟩ := lay hx (by intro y z; cases z)
        have q' := q
        rw [Rep] at q'
        obtain ⟨a, vs, rfl, _⟩ := q'
        exact go rv h1 h2
      | lst l =>
        obtain ⟨h1, h2⟩ := lay hx (by intro y z; cases z)
        have q' := q
        rw [Rep] at q'
        obtain ⟨a, vs, rfl, _⟩ := q'
        exact go rv h1 h2
      | glb n => have := shp_lay (lay hx (by intro y z; cases z)).1.1; simp [toP, PyData.canLay0] at this
      | obj c l => have := shp_lay (lay hx (by intro y z; cases z)).1.1; simp [toP, PyData.canLay0] at this
      | dic ks vs => have := shp_lay (lay hx (by intro y z; cases z)).1.1; simp [toP, PyData.canLay0] at this
      | fn n => have := shp_lay (lay hx (by intro y z; cases z)).1.1; simp [toP, PyData.canLay0] at this
      | xcp c l => have := shp_lay (lay hx (by intro y z; cases z)).1.1; simp [toP, PyData.canLay0] at this
      | wtp l => have := shp_lay (lay hx (by intro y z; cases z)).1.1; simp [toP, PyData.canLay0] at this
      | scr l => have := shp_lay (lay hx (by intro y z; cases z)).1.1; simp [toP, PyData.canLay0] at this
    · exact o.elim
  · exact o.elim
end

/-! ### sorted -/
def insD (le : D → D → Bool) (a : D) : List D → List D
  | [] => [a]
  | b :: l => match le a b with
    | true => a :: b :: l
    | false => b :: insD le a l
def sortD (le : D → D → Bool) : List D → List D
  | [] => []
  | a :: l => insD le a (sortD le l)
def leD (a b : D) : Bool := PySem.W.dataLe false toP a b
theorem insD_at {le : D → D → Bool} {a : D} : ∀ {l1 l2 : List D}, (∀ b ∈ l1, le a b = false) → (∀ b ∈ l2, le a b = true) → insD le a (l1 ++ l2) = l1 ++ a :: l2
  | [], [], _, _ => rfl
  | [], b :: l2, _, h => by
    show insD le a (b :: l2) = a :: b :: l2
    unfold insD
    rw [h b (List.mem_cons_self ..)]
  | b :: l1, l2, h, h2 => by
    show insD le a (b :: (l1 ++ l2)) = b :: (l1 ++ a :: l2)
    unfold insD
    rw [h b (List.mem_cons_self ..)]
    show b :: insD le a (l1 ++ l2) = _
    rw [insD_at (fun c hc => h c (List.mem_cons_of_mem _ hc)) h2]
theorem sortD_merge {le : D → D → Bool} (tr : ∀ a b c, le a b = true → le b c = true → le a c = true) (to : ∀ a b, (le a b || le b a) = true) : ∀ l : List D, l.mergeSort le = sortD le l
  | [] => by simp [sortD]
  | a :: l => by
    obtain ⟨l1, l2, h1, h2, h3⟩ := List.mergeSort_cons tr to a l
    have hs := List.pairwise_mergeSort tr to (a :: l)
    rw [h1] at hs
    rw [sortD, ← sortD_merge tr to l, h2, insD_at (fun b hb => by simpa using h3 b hb) fun b hb => (List.pairwise_cons.mp (List.pairwise_append.mp hs).2.1).1 b hb, h1]
end Z
namespace Z
open PySem L2
def neTup (d : D) : Bool := match d with
  | .tup (_ :: _) => true
  | _ => false
def noTup (d : D) : Bool := match d with
  | .tup _ => false
  | .non => false
  | _ => true
def sortOk (l : List D) : Bool := l.all (fun a => l.all fun b => PySem.W.alike (toP a) (toP b)) && ((l.all neTup || l.all noTup) && (l.all (fun a => decide ((toP a).depth ≤ 32)) && (l.all shp && sz2 l.length 0)))
def fSortF : FF := fun ds s => match ds with
  | [d] => match seqL d s with
    | some l => gd (sortOk l) (.ok (sortD leD l) s)
    | none => .bad
  | _ => .bad
theorem each_of {C : Cn} {W : Wd} : ∀ {l : List D} {vs : List V} {us : List Value}, RepL C W l vs → Vals vs us → PySem.W.EachIs (fun u d => ∃ v, RelV v u ∧ Rep C W d v) us l
  | [], _, _, r, h => by
    rw [RepL] at r
    subst r
    cases h
    exact .nil
  | d :: l, _, _, r, h => by
    rw [RepL] at r
    obtain ⟨v, vs, rfl, q, t⟩ := r
    cases h with
    | cons h1 h2 => exact .cons ⟨v, h1, q⟩ (each_of t h2)
theorem of_each {C : Cn} {W : Wd} : ∀ {l : List D} {us : List Value}, PySem.W.EachIs (fun u d => ∃ v, RelV v u ∧ Rep C W d v) us l → ∃ vs, Vals vs us ∧ RepL C W l vs
  | _, _, .nil => ⟨[], .nil, RepL.nil⟩
  | _, _, .cons ⟨v, h1, h2⟩ t => by
    obtain ⟨vs, h3, h4⟩ := of_each t
    exact ⟨v :: vs, .cons h1 h3, RepL.cons h2 h4⟩
theorem each_reads {C : Cn} {W : Wd} {X : Cx} {pins : List (Addr × Obj)} {σ : L2.St} {H : Hp} {st : Shared} {s : S} (hK : X.K = C.K) (I : L2.Inv X pins σ H st) (sm : Sim C W s H) :
    ∀ {l : List D} {us : List Value}, l.all shp = true → PySem.W.EachIs (fun u d => ∃ v, RelV v u ∧ Rep C W d v) us l → PySem.W.EachIs (fun v b => ∃ as, Reads st.heap v (toP b) as) us l
  | _, _, _, .nil => .nil
  | _, _, c, .cons ⟨v, h1, h2⟩ t => by
    rw [List.all_cons, Bool.and_eq_true] at c
    exact .cons (Dp.reads I _ _ _ (by rw [hK]; exact Rep.dp sm.sub _ _ h2 (shp_lay c.1)) h1) (each_reads hK I sm c.2 t)
theorem leD_ok : PySem.W.TotalLe leD := PySem.W.sortLe_total (PyProof.Rows.listOrd PyProof.Rows.itemOrd) false fun b => PySem.W.keyToks (toP b)
theorem cf_sorted {X : Cx} {C : Cn} {k : Nat} (hK : X.K = C.K) (hr : Room k X.A) : CallR X (.builtin "sorted") (rF C fSortF) := by
  intro pins st σ H xs us Q I rs h
  obtain ⟨Wx, σ', W, s, ds, sm, r, o⟩ := h
  unfold fSortF at o
  split at o
  · split at o
    · rename_i l hl
      obtain ⟨c, o⟩ := gdF o
      unfold sortOk at c
      simp only [Bool.and_eq_true, Bool.or_eq_true] at c
      obtain ⟨c1, c2, c3, c4, c5⟩ := c
      obtain ⟨x, rfl, q⟩ := r.one
      obtain ⟨a, vs, rfl, q1, t1⟩ := seqL_get sm q hl
      obtain ⟨its, rv, pl, hz⟩ := I.list (by rw [hK]; exact q1)
      rw [Vals.ref1 rs]
      have e := each_of t1 rv
      have un := hr.un
      refine PySem.W.sorted_data (enc := toP) pl.isList e (each_reads hK I sm c4 e) (fun d hd d' hd' => ?_) ?_ (by rw [t1.length]; exact hz) (fun b hb => ?_) fun out ho eo => ?_
      · obtain ⟨b, hb, rfl⟩ := List.mem_map.mp hd
        obtain ⟨b', hb', rfl⟩ := List.mem_map.mp hd'
        exact List.all_eq_true.mp (List.all_eq_true.mp c1 b hb) b' hb'
      · rcases c2 with c2 | c2
        · refine .inl fun d hd => ?_
          obtain ⟨b, hb, rfl⟩ := List.mem_map.mp hd
          have := List.all_eq_true.mp c2 b hb
          unfold neTup at this
          split at this
          · exact ⟨_, _, by rw [toP, toPs]⟩
          · cases this
        · refine .inr fun d hd => ?_
          obtain ⟨b, hb, rfl⟩ := List.mem_map.mp hd
          have := List.all_eq_true.mp c2 b hb
          have c6 := shp_lay (List.all_eq_true.mp c4 b hb)
          cases b <;> simp [noTup] at this <;> simp [toP, PyData.canLay0] at c6 ⊢
      · have := List.all_eq_true.mp c3 b hb
        have := of_decide_eq_true this
        omega
      · have em : l.mergeSort (PySem.W.dataLe false toP) = sortD leD l := sortD_merge (fun a b c => leD_ok.trans a b c) (fun a b => by rw [Bool.or_eq_true]; exact leD_ok.total a b) l
        rw [em] at eo
        obtain ⟨ws, h3, h4⟩ := of_each eo
        obtain ⟨ep, he'⟩ := PyProof.Rows.sortedAll_at st.heap its out.toArray
        have hlen : ws.length ≤ sizeLine := by
          rw [h3.length, ho, t1.length]
          exact hz
        exact ⟨.ref _, upd H (st.heap.objs.size + 1) (.lst ws), I.laid (t' := st.toks) (fun _ _ => PyProof.Rows.sortedAll_old) (Nat.le_succ _) ⟨hlen, out, ep, h3, he'⟩, rfl, o.now sm h4 (I.hok.fresh (Nat.le_succ _))⟩
    · exact o.elim
  · exact o.elim
end Z

/-! Z13: what a module's text has written: constants, binding. -/
namespace Z
open PySem L2
def isTupO (o : Obj) : Option (List Value) := match o with
  | ⟨.type "tuple", none, .seq its _, _⟩ => match decide (its.size ≤ 16777216) with
    | true => some its.toList
    | false => none
  | _ => none
theorem isTupO_eq {o : Obj} {l : List Value} (h : isTupO o = some l) : ∃ (its : Array Value) (n : Nat), o.cls = .type "tuple" ∧ o.dict = none ∧ o.data = .seq its n ∧ its.size ≤ sizeLine ∧ its.toList = l := by
  unfold isTupO at h
  split at h
  · split at h
    · rename_i hd
      cases h
      exact ⟨_, _, rfl, rfl, rfl, by rw [sizeLine_eq]; exact of_decide_eq_true hd, rfl⟩
    · cases h
  · cases h
mutual
/-- the value stands for the data in the written part -/
def chkV (K : PySem.W.Frag) : D → Value → Bool
  | .non, .none => true
  | .bl b, .bool c => b == c
  | .int i, .int j _ => i == j
  | .str x, .str y _ => decide (x = y)
  | .tup l, .ref a => match K.lookup a with
    | some o => match isTupO o with
      | some us => chkL K l us
      | none => false
    | none => false
  | _, _ => false
def chkL (K : PySem.W.Frag) : List D → List Value → Bool
  | [], [] => true
  | d :: l, u :: us => chkV K d u && chkL K l us
  | _, _ => false
end
def valV : D → Value → V
  | .non, _ => .non
  | .bl b, _ => .bl b
  | .int i, _ => .int i
  | .str x, _ => .str x
  | _, .ref a => .ref a
  | _, _ => .non
mutual
theorem chkV_rel {K : PySem.W.Frag} : ∀ (d : D) (u : Value), chkV K d u = true → RelV (valV d u) u
  | .non, u, h => by cases u <;> simp [chkV] at h; rfl
  | .bl b, u, h => by cases u <;> simp [chkV] at h; subst h; rfl
  | .int i, u, h => by cases u <;> simp [chkV] at h; subst h; exact ⟨_, rfl⟩
  | .str x, u, h => by cases u <;> simp [chkV] at h; subst h; exact ⟨_, rfl⟩
  | .tup l, u, h => by cases u <;> simp [chkV] at h; rfl
  | .lst l, u, h => by simp [chkV] at h
  | .glb l, u, h => by simp [chkV] at h
  | .obj _ l, u, h => by simp [chkV] at h
  | .dic _ l, u, h => by simp [chkV] at h
  | .fn l, u, h => by simp [chkV] at h
  | .xcp _ l, u, h => by simp [chkV] at h
  | .scr l, u, h => by simp [chkV] at h
  | .wtp l, u, h => by simp [chkV] at h
theorem chkV_rep {C : Cn} {W : Wd} : ∀ (d : D) (u : Value), chkV C.K d u = true → Rep C W d (valV d u)
  | .non, u, h => by rw [Rep]; rfl
  | .bl b, u, h => by rw [Rep]; rfl
  | .int i, u, h => by rw [Rep]; rfl
  | .str x, u, h => by rw [Rep]; rfl
  | .tup l, u, h => by
    cases u with
    | ref a =>
      rw [chkV] at h
      split at h
      · rename_i o ho
        split at h
        · rename_i us hu
          obtain ⟨its, n, h1, hdn, h2, h3, h4⟩ := isTupO_eq hu
          obtain ⟨vs, r1, r2⟩ := chkL_rep (C := C) (W := W) l us h
          rw [Rep]
          exact ⟨a, vs, rfl, .inr ⟨o, its, n, ho, h1, hdn, h2, h3, by rw [h4]; exact r1⟩, r2⟩
        · cases h
      · cases h
    | _ => simp [chkV] at h
  | .lst l, u, h => by simp [chkV] at h
  | .glb l, u, h => by simp [chkV] at h
  | .obj _ l, u, h => by simp [chkV] at h
  | .dic _ l, u, h => by simp [chkV] at h
  | .fn l, u, h => by simp [chkV] at h
  | .xcp _ l, u, h => by simp [chkV] at h
  | .scr l, u, h => by simp [chkV] at h
  | .wtp l, u, h => by simp [chkV] at h
theorem chkL_rep {C : Cn} {W : Wd} : ∀ (l : List D) (us : List Value), chkL C.K l us = true → ∃ vs, Vals vs us ∧ RepL C W l vs
  | [], us, h => by
    cases us with
    | nil => exact ⟨[], .nil, RepL.nil⟩
    | cons u us => simp [chkL] at h
  | d :: l, us, h => by
    cases us with
    | nil => simp [chkL] at h
    | cons u us =>
      rw [chkL, Bool.and_eq_true] at h
      obtain ⟨vs, r1, r2⟩ := chkL_rep (C := C) (W := W) l us h.2
      exact ⟨valV d u :: vs, .cons (chkV_rel d u h.1) r1, RepL.cons (chkV_rep d u h.1) r2⟩
end
section
variable {X : Cx} {C : Cn} {Wx : WX}
theorem ze_cst {x : Str} {d : D} {u : Value} {pos : Pos} (hg : Gl X x) (hm : X.mg x = some u) (hc : chkV C.K d u = true) (hd : (x == ("__debug__" : Str)) = false := by decide) : PE X (.Name x pos) (tE C Wx (eC d)) :=
  ze_glob hg hm (chkV_rel d u hc) (fun W => chkV_rep d u hc) hd
end
section
variable {K : PySem.W.Frag} {x qual : Str} {st : Stmt} {f : Addr} {fd : FuncData} {ps ks : List Str} {n : Nat} {sel : List Nat}
theorem bindP_of (F : Fun K x qual st f fd)
    (h : ∀ (kV doc pm : Value) (an : Option Addr) (cdv ct : Value) (us : List Value), us.length = ps.length → bindArgs (PySem.W.fnOf x qual (defArgs st) (defBody st) (defScope st) .none kV doc pm an cdv ct) ⟨us, []⟩ = pure (ps.zip us)) : BindP fd ps := by
  obtain ⟨oc, od, kV, doc, pm, an, cdv, ct, osl, rfl, lk, hcd⟩ := F.ex
  exact fun s us hl => .of_eq (h kV doc pm an cdv ct us hl)
theorem bindZ_of (F : Fun K x qual st f fd)
    (h : ∀ (kV doc pm : Value) (an : Option Addr) (cdv ct : Value) (us ws : List Value), us.length = n → ws.length = ks.length → bindArgs (PySem.W.fnOf x qual (defArgs st) (defBody st) (defScope st) .none kV doc pm an cdv ct) ⟨us, ks.zip ws⟩ = pure (ps.zip (pick sel (us ++ (ws ++ []))))) : BindZ K fd ps n ks sel [] := by
  obtain ⟨oc, od, kV, doc, pm, an, cdv, ct, osl, rfl, lk, hcd⟩ := F.ex
  exact fun s us ws _ h1 h2 => .of_eq (h kV doc pm an cdv ct us ws h1 h2)
end
/-- the constants of a law that has no class of its own -/
def cn (K : PySem.W.Frag) : Cn := ⟨K, fun _ => none, fun _ => none, fun _ => none⟩
end Z

/-! Z14: what is walked, by its data; list(range(..)); operators in place. -/
namespace Z
open PySem L2
def itA (f : Ex) : Lx := fun ρ s => (f ρ s).bind fun d s => match d with
  | .lst l => .ok l s
  | .tup l => .ok l s
  | .str z => .ok (signs z) s
  | .scr l => .ok (l.map D.int) s
  | _ => .bad
def fDisp (a : Ax) : Lx := fun ρ s => (a ρ s).bind fun l s => gd (sz2 l.length 0) (.ok l s)
theorem itd_scr {C : Cn} {W0 : Wd} {a : Addr} {l : List Int} (hs : SqL C.K W0.hs a (l.map V.int)) : ItD C W0 (l.map D.int) (Itl C.K a) where
  go := fun i hi W s H le sm => by
    rw [List.length_map] at hi
    exact ⟨_, V.int l[i], sql_mono sm.sub (sql_mono le.hs hs), by rw [List.getElem?_map, List.getElem?_eq_getElem hi]; rfl⟩
  yld := fun i d hd W s H x H' le sm y => by
    obtain ⟨e, y⟩ := y
    subst e
    have := y _ (sql_mono sm.sub (sql_mono le.hs hs))
    rw [List.getElem?_map] at this hd
    cases z : l[i]? with
    | none => rw [z] at hd; cases hd
    | some j =>
      rw [z] at this hd
      cases this
      cases hd
      exact ⟨W, Ext.refl _ _, sm, by rw [Rep]⟩
  stop := fun W s H le sm => ⟨_, sql_mono sm.sub (sql_mono le.hs hs), by rw [List.length_map, List.length_map]; exact Nat.le_refl _⟩
section
variable {X : Cx} {C : Cn} {Wx : WX} {tg e : Expr} {f : Ex} {pos : Pos}
theorem zi_scr (hK : X.K = C.K) (he : PE X e (tE C Wx f)) : PI X tg e (tI C Wx (fun ρ s => (f ρ s).bind fun d s => match d with
  | .scr l => .ok (l.map D.int) s
  | _ => .bad)) :=
  pi_imp (pi_list he) fun σ H Q ⟨ρ, W, s, er, sm, o⟩ => ⟨ρ, W, s, er, sm, Out.mono (Out.bind (P := Rep C) o) (by
    rintro v H1 ⟨W1, s1, d, e1, sm1, r1, o1⟩
    split at o1
    · rw [Rep] at r1
      obtain ⟨a, rfl, q1⟩ := r1
      exact ⟨a, rfl, ⟨_, by rw [hK]; exact sql_mono sm1.sub q1⟩, o1 W1 _ H1 (Ext.refl _ _) sm1 (by rw [hK]; exact itd_scr q1)⟩
    · exact o1.elim)⟩
theorem zi_any (hK : X.K = C.K) (he : PE X e (tE C Wx f)) : PI X tg e (tI C Wx (itA f)) :=
  ⟨fun pins st σ H Q I ⟨ρ, W, s, er, sm, o⟩ => by
    unfold itA at o
    cases q : f ρ s with
    | bad => rw [q] at o; exact o.elim
    | exc x s1 =>
      rw [q] at o
      exact (zi_list (tg := tg) he).run pins st σ H Q I ⟨ρ, W, s, er, sm, by unfold itL; rw [q]; exact o⟩
    | ok d s1 =>
      rw [q] at o
      cases d with
      | lst l => exact (zi_list (tg := tg) he).run pins st σ H Q I ⟨ρ, W, s, er, sm, by unfold itL; rw [q]; exact o⟩
      | tup l => exact (zi_tup (tg := tg) hK he).run pins st σ H Q I ⟨ρ, W, s, er, sm, by unfold itT; rw [q]; exact o⟩
      | str z => exact (zi_str (tg := tg) he).run pins st σ H Q I ⟨ρ, W, s, er, sm, by unfold itS; rw [q]; exact o⟩
      | scr l => exact (zi_scr (tg := tg) hK he).run pins st σ H Q I ⟨ρ, W, s, er, sm, by show Out _ _ _ _ _ _ _ ((f ρ s).bind _); rw [q]; exact o⟩
      | glb n => exact o.elim
      | non => exact o.elim
      | bl b => exact o.elim
      | int i => exact o.elim
      | obj c l => exact o.elim
      | dic k v => exact o.elim
      | fn n => exact o.elim
      | xcp c l => exact o.elim
      | wtp l => exact o.elim⟩
/-- list(range(n)), list(range(a, b)) -/
def fRg1 (f : Ex) : Lx := fun ρ s => (f ρ s).bind fun d s => match d with
  | .int n => gd (decide (0 ≤ n) && decide (n ≤ 16777216)) (.ok (rngD 0 n.toNat) s)
  | _ => .bad
theorem rng_rep {C : Cn} {W : Wd} {n : Int} : RepL C W (rngD 0 n.toNat) (rgV 0 n) := by
  have e1 : rngD 0 n.toNat = ((List.range n.toNat).map fun i => ((i : Nat) : Int)).map D.int := by
    unfold rngD
    rw [List.map_map]
    apply List.map_congr_left
    intro i _
    show D.int (0 + (i : Nat)) = D.int (i : Nat)
    rw [Int.zero_add]
  have e2 : rgV 0 n = ((List.range n.toNat).map fun i => ((i : Nat) : Int)).map V.int := by
    unfold rgV
    rw [List.map_map]
    have : n - 0 = n := by omega
    rw [this]
    apply List.map_congr_left
    intro i _
    show V.int (0 + (i : Nat)) = V.int (i : Nat)
    rw [Int.zero_add]
  rw [e1, e2]
  exact RepL.ints _
theorem zf_rg1 {p p2 pos2 : Pos} (hc : X.calm = true) (hl : Gl X "list") (ml : X.mg "list" = none) (hg : Gl X "range") (hm : X.mg "range" = none) (ha : PE X e (tE C Wx f)) (na : starEach [e] X.env = (false, eval e X.env) :: starEach [] X.env := by rfl)
    (nb : starEach [.Call (.Name "range" p) [e] [] pos2] X.env = (false, eval (.Call (.Name "range" p) [e] [] pos2) X.env) :: starEach [] X.env := by rfl) :
    PE X (.Call (.Name "list" p2) [.Call (.Name "range" p) [e] [] pos2] [] pos) (tF C Wx (fRg1 f)) :=
  pe_imp (pe_listRg hc hl ml (prg_1 hg hm ha na) nb) fun σ H Q ⟨ρ, W, s, er, sm, o⟩ => ⟨ρ, W, s, er, sm, Out.mono (OutF.bind (P := Rep C) o) (by
    rintro v H1 ⟨W1, s1, d, e1, sm1, r1, o1⟩
    split at o1
    · obtain ⟨c, o1⟩ := gdF o1
      simp only [Bool.and_eq_true, decide_eq_true_eq] at c
      rw [Rep] at r1
      subst r1
      exact ⟨_, rfl, RgOk.of_le (by omega) c.2 (by omega) c.1, fun q hq => o1.now sm1 rng_rep hq⟩
    · exact o1.elim)⟩
end
def dIAdd : F2 := fun d e s => match d, e with
  | .int i, .int j => .ok (.int (i + j)) s
  | .str a, .str b => gd (sz2 a.length b.length) (.ok (.str (a ++ b)) s)
  | _, _ => .bad
theorem iopdAdd {X : Cx} {C : Cn} : OpR X (inplaceOp .Add) (rD C dIAdd) := by
  intro pins st σ H x y v u Q I rx ry h
  obtain ⟨Wx, σ', W, s, d, e, sm, r1, r2, o⟩ := h
  unfold dIAdd at o
  split at o
  · rw [Rep] at r1
    rw [Rep] at r2
    subst r1 r2
    exact iop_add pins st σ H _ _ v u Q I rx ry ⟨_, _, rfl, rfl, o.now sm (by rw [Rep])⟩
  · rw [Rep] at r1
    rw [Rep] at r2
    subst r1 r2
    obtain ⟨c, o⟩ := gd_ok o
    exact iop_add_str pins st σ H _ _ v u Q I rx ry ⟨_, _, rfl, rfl, sz2_le c, o.now sm (by rw [Rep])⟩
  · exact o.elim
theorem iopdSub {X : Cx} {C : Cn} : OpR X (inplaceOp .Sub) (rD C dSub) := by
  intro pins st σ H x y v u Q I rx ry h
  obtain ⟨Wx, σ', W, s, d, e, sm, r1, r2, o⟩ := h
  unfold dSub at o
  split at o
  · rw [Rep] at r1
    rw [Rep] at r2
    subst r1 r2
    exact iop_sub pins st σ H _ _ v u Q I rx ry ⟨_, _, rfl, rfl, o.now sm (by rw [Rep])⟩
  · exact o.elim
end Z
namespace Z
open PySem L2
/-- what is never reached -/
def sBad : Stm := fun _ _ => .bad
theorem zs_bad {X : Cx} {C : Cn} {Wx : WX} {st : Stmt} : PS X st (tS C Wx sBad) := ⟨fun pins s σ H D I h => by
  obtain ⟨ρ, W, st, er, sm, o⟩ := h
  exact o.elim⟩
def eBad : Ex := fun _ _ => .bad
theorem ze_bad {X : Cx} {C : Cn} {Wx : WX} {e : Expr} : PE X e (tE C Wx eBad) := ⟨fun pins s σ H Q I h => by
  obtain ⟨ρ, W, st, er, sm, o⟩ := h
  exact o.elim⟩
end Z

/-! Z15: running the data functions by rewriting. -/
namespace Z
open PySem L2
theorem bind_ok {α β : Type} (a : α) (s : S) (k : α → S → R β) : (R.ok a s).bind k = k a s := rfl
theorem toS_ok {α : Type} (a : α) (s : S) (ρ : Rho) (k : α → S → RS) : (R.ok a s).toS ρ k = k a s := rfl
theorem sure_ok {α : Type} (a : α) (s : S) : (R.ok a s).sure = R.ok a s := rfl
theorem gd_t {α : Type} (r : R α) : gd true r = r := rfl
theorem gd_of {α : Type} {c : Bool} (h : c = true) (r : R α) : gd c r = r := by rw [h]; rfl
theorem nx_bind (ρ : Rho) (s : S) (k : Rho → S → RS) : (RS.nx ρ s).bind k = k ρ s := rfl
theorem ret_bind (d : D) (s : S) (k : Rho → S → RS) : (RS.ret d s).bind k = .ret d s := rfl
theorem brk_bind (ρ : Rho) (s : S) (k : Rho → S → RS) : (RS.brk ρ s).bind k = .brk ρ s := rfl
theorem cnt_bind (ρ : Rho) (s : S) (k : Rho → S → RS) : (RS.cnt ρ s).bind k = .cnt ρ s := rfl
theorem exc_bind (x : Xc) (ρ : Rho) (s : S) (k : Rho → S → RS) : (RS.exc x ρ s).bind k = .exc x ρ s := rfl
theorem excF_bind (x : Xc) (s : S) (k : Rho → S → RS) : (RS.excF x s).bind k = .excF x s := rfl
theorem loop_nx (ρ : Rho) (s : S) (k : Rho → S → RS) : (RS.nx ρ s).loop k = k ρ s := rfl
theorem loop_ret (d : D) (s : S) (k : Rho → S → RS) : (RS.ret d s).loop k = .ret d s := rfl
theorem loop_brk (ρ : Rho) (s : S) (k : Rho → S → RS) : (RS.brk ρ s).loop k = .nx ρ s := rfl
theorem loop_cnt (ρ : Rho) (s : S) (k : Rho → S → RS) : (RS.cnt ρ s).loop k = k ρ s := rfl
theorem mulOk_l {i j : Int} (h : i.natAbs < 18446744073709551616) : mulOk i j = true := by
  unfold mulOk
  rw [decide_eq_true h, Bool.true_or]
theorem mulOk_r {i j : Int} (h : j.natAbs < 18446744073709551616) : mulOk i j = true := by
  unfold mulOk
  rw [decide_eq_true h, Bool.true_or, Bool.or_true]
theorem mod_small {x m : Int} (h : 0 < m) (h2 : m < 18446744073709551616) : (x % m).natAbs < 18446744073709551616 := by
  have h3 := Int.emod_nonneg x (by omega : m ≠ 0)
  have h4 := Int.emod_lt_of_pos x h
  omega
theorem mulOk_a (x y : Int) : mulOk (x % 2147483629) y = true := mulOk_l (mod_small (by decide) (by decide))
theorem mulOk_b (x y : Int) : mulOk (x % 2147483647) y = true := mulOk_l (mod_small (by decide) (by decide))
theorem mulOk_c (x y : Int) : mulOk (x % 2147483587) y = true := mulOk_l (mod_small (by decide) (by decide))
theorem mulOk_d (x : Int) : mulOk x 69621 = true := mulOk_r (by decide)
theorem ge_i (i j : Int) (s : S) : dGe (.int i) (.int j) s = .ok (.bl (decide (j ≤ i))) s := rfl
theorem le_i (i j : Int) (s : S) : dLe (.int i) (.int j) s = .ok (.bl (decide (i ≤ j))) s := rfl
theorem gt_i (i j : Int) (s : S) : dGt (.int i) (.int j) s = .ok (.bl (decide (j < i))) s := rfl
theorem eEqL_at (n : Bool) (i : Nat) (g : Ex) (ρ : Rho) (s : S) : eEqL n i g ρ s = eWL (hEq n) i g ρ s := rfl
theorem eInL_at (n : Bool) (g : Ex) (i : Nat) (ρ : Rho) (s : S) : eInL n g i ρ s = eWL (hIn n) i g ρ s := rfl
theorem eIxL_at (i : Nat) (g : Ex) (ρ : Rho) (s : S) : eIxL i g ρ s = eWL hIx i g ρ s := rfl
theorem sWh_at (n : Nat) (c : Bx) (b : Stm) (ρ : Rho) (s : S) : sWh n c b ρ s = whGo c b n ρ s := rfl
theorem pow18 (s : S) : dPow (.int 10) (.int 18) s = .ok (.int 1000000000000000000) s := by
  unfold dPow
  simp only
  rw [gd_of (by decide)]
  rfl
theorem pow9 (s : S) : dPow (.int 10) (.int 9) s = .ok (.int 1000000000) s := by
  unfold dPow
  simp only
  rw [gd_of (by decide)]
  rfl
theorem pow60 (s : S) : dPow (.int 10) (.int 60) s = .ok (.int (10 ^ 60)) s := by
  unfold dPow
  simp only
  rw [gd_of (by decide)]
  rfl
theorem pow60_20 (s : S) : dPow (.int (10 ^ 60)) (.int 20) s = .ok (.int ((10 ^ 60) ^ 20)) s := by
  unfold dPow
  simp only
  rw [gd_of (by decide +kernel)]
  rfl

end Z

/-! Z16: small data: shown, shaped; loops by what they keep. -/
namespace Z
open PySem L2
def okE (d : D) : Bool := match d with
  | .non => true
  | .bl _ => true
  | .int i => decide (i.natAbs.log2 < 200)
  | .str x => decide (x.length ≤ 20) && (PyData.strOk x && x.cps.toList.all fun c => decide (c < 4294967296))
  | _ => false
def okD : Nat → D → Bool
  | 0, d => okE d
  | n + 1, d => match d with
    | .tup l => decide (l.length ≤ 30) && l.all (okD n)
    | .lst l => decide (l.length ≤ 30) && l.all (okD n)
    | d => okE d
def bnd : Nat → Nat
  | 0 => 210
  | n + 1 => 30 * (bnd n + 2) + 4
theorem bnd_le (n : Nat) : 210 ≤ bnd n := by
  cases n with
  | zero => exact Nat.le_refl _
  | succ n => rw [bnd]; have := bnd_le n; omega
theorem textFrom_up : ∀ (ts : List Str) (k : Nat) (acc : Str), (textFrom k acc ts).length ≤ acc.length + piled ts
  | [], k, acc => by rw [textFrom]; exact Nat.le_add_right _ _
  | t :: ts, k, acc => by
    rw [textFrom, piled_cons]
    refine Nat.le_trans (textFrom_up ts (k + 1) _) ?_
    rw [strLen_append, strLen_append]
    have : (Str.ofString (if k > 0 then ", " else "" : String)).length ≤ 2 := by split <;> decide
    have : ((if k > 0 then ", " else "" : String) : Str).length ≤ 2 := this
    omega
theorem listText_up (ts : List Str) : (listText ts).length ≤ piled ts + 2 := by
  unfold listText
  rw [strLen_append]
  have := textFrom_up ts 0 "["
  have e1 : ("[" : Str).length = 1 := rfl
  have e2 : ("]" : Str).length = 1 := rfl
  omega
theorem tupleText_up (ts : List Str) : (tupleText ts).length ≤ piled ts + 4 := by
  unfold tupleText
  rw [strLen_append, strLen_append]
  have e1 : ("(" : Str).length = 1 := rfl
  have e2 : ((if ts.length == 1 then ",)" else ")" : String) : Str).length ≤ 2 := by split <;> decide
  by_cases h : ts = []
  · subst h
    have e3 : (Str.join ", " []).length = 0 := rfl
    omega
  · have := join_length_add ts h
    omega
theorem piled_all {f : D → Str} {b : Nat} : ∀ l : List D, (∀ d ∈ l, (f d).length ≤ b) → piled (l.map f) ≤ l.length * (b + 2)
  | [], _ => by simp [piled]
  | d :: l, h => by
    rw [List.map_cons, piled_cons, List.length_cons, Nat.add_mul]
    have h1 := h d (List.mem_cons_self ..)
    have h2 := piled_all l fun e he => h e (List.mem_cons_of_mem _ he)
    omega
theorem shownAll_map : ∀ l : List D, PyData.shownAll (toPs l) = l.map fun d => (toP d).shown
  | [] => by rw [toPs, PyData.shownAll, List.map_nil]
  | d :: l => by rw [toPs, PyData.shownAll, List.map_cons, shownAll_map l]
structure Nice (n : Nat) (d : D) : Prop where
  lay : (toP d).canLay0 = true
  dep : (toP d).depth ≤ n
  sho : (toP d).showable = true
  len : (toP d).shown.length ≤ bnd n
theorem nice_all {n : Nat} : ∀ l : List D, (∀ d ∈ l, Nice n d) → PyData.canLayAll0 (toPs l) = true ∧ PyData.depthAll (toPs l) ≤ n ∧ PyData.showableAll (toPs l) = true
  | [], _ => by rw [toPs]; exact ⟨by rw [PyData.canLayAll0], by rw [PyData.depthAll]; exact Nat.zero_le _, by rw [PyData.showableAll]⟩
  | d :: l, h => by
    obtain ⟨h1, h2, h3⟩ := nice_all l fun e he => h e (List.mem_cons_of_mem _ he)
    have q := h d (List.mem_cons_self ..)
    rw [toPs]
    refine ⟨by rw [PyData.canLayAll0, q.lay, h1]; rfl, by rw [PyData.depthAll]; exact Nat.max_le.mpr ⟨q.dep, h2⟩, by rw [PyData.showableAll, q.sho, h3]; rfl⟩
theorem nice_E {d : D} (h : okE d = true) (n : Nat) : Nice n d := by
  have hb := bnd_le n
  cases d with
  | non => exact ⟨by simp [toP, PyData.canLay0], by simp [toP, PyData.depth], by simp [toP, PyData.showable], by
      rw [toP, PyData.shown]; exact Nat.le_trans (by decide) hb⟩
  | bl b => exact ⟨by simp [toP, PyData.canLay0], by simp [toP, PyData.depth], by simp [toP, PyData.showable], by
      rw [toP, PyData.shown]; cases b <;> exact Nat.le_trans (by decide) hb⟩
  | int i =>
    have hl : i.natAbs.log2 < 200 := of_decide_eq_true h
    refine ⟨by simp [toP, PyData.canLay0], by simp [toP, PyData.depth], by rw [toP, PyData.showable]; exact decide_eq_true (by omega), ?_⟩
    rw [toP, PyData.shown]
    have e := int_text_length_le (k := 200) (by decide) hl
    show (Str.ofString (toString i)).length ≤ _
    rw [ofString_length]
    omega
  | str x =>
    unfold okE at h
    simp only [Bool.and_eq_true, decide_eq_true_eq] at h
    refine ⟨by simp [toP, PyData.canLay0, h.2.1], by simp [toP, PyData.depth], by simp [toP, PyData.showable], ?_⟩
    rw [toP, PyData.shown]
    have := PySem.StrLaws.reprText_len x fun c hc => by
      have := List.all_eq_true.mp h.2.2 c hc
      have := of_decide_eq_true this
      have e : (16 : Nat) ^ 8 = 4294967296 := by decide
      rw [e]
      exact this
    omega
  | _ => cases h
theorem nice_of : ∀ (n : Nat) (d : D), okD n d = true → Nice n d
  | 0, d, h => nice_E h 0
  | n + 1, d, h => by
    unfold okD at h
    split at h
    · rename_i l
      rw [Bool.and_eq_true] at h
      have hl := of_decide_eq_true h.1
      have q := fun e he => nice_of n e (List.all_eq_true.mp h.2 e he)
      obtain ⟨h1, h2, h3⟩ := nice_all l q
      refine ⟨by rw [toP, PyData.canLay0]; exact h1, by rw [toP, PyData.depth]; omega, by rw [toP, PyData.showable]; exact h3, ?_⟩
      rw [toP, PyData.shown, shownAll_map, bnd]
      have a1 := tupleText_up (l.map fun d => (toP d).shown)
      have a2 := piled_all (f := fun d => (toP d).shown) l fun e he => (q e he).len
      have a3 : l.length * (bnd n + 2) ≤ 30 * (bnd n + 2) := Nat.mul_le_mul_right _ hl
      omega
    · rename_i l
      rw [Bool.and_eq_true] at h
      have hl := of_decide_eq_true h.1
      have q := fun e he => nice_of n e (List.all_eq_true.mp h.2 e he)
      obtain ⟨h1, h2, h3⟩ := nice_all l q
      refine ⟨by rw [toP, PyData.canLay0]; exact h1, by rw [toP, PyData.depth]; omega, by rw [toP, PyData.showable]; exact h3, ?_⟩
      rw [toP, PyData.shown, shownAll_map, bnd]
      have a1 := listText_up (l.map fun d => (toP d).shown)
      have a2 := piled_all (f := fun d => (toP d).shown) l fun e he => (q e he).len
      have a3 : l.length * (bnd n + 2) ≤ 30 * (bnd n + 2) := Nat.mul_le_mul_right _ hl
      omega
    · exact nice_E h (n + 1)
theorem okD_shp {n : Nat} {d : D} (h : okD n d = true) (hn : n ≤ 32) : shp d = true := by
  have q := nice_of n d h
  unfold shp SeqAt.shaped
  rw [q.lay, decide_eq_true (Nat.le_trans q.dep (by omega))]
  rfl
theorem okD_str {n : Nat} {d : D} (h : okD n d = true) (hn : n ≤ 2) : ∃ x, dStr d = some x := by
  have q := nice_of n d h
  have hb : bnd n ≤ 1000000 := by
    have : n = 0 ∨ n = 1 ∨ n = 2 := by omega
    rcases this with rfl | rfl | rfl <;> decide
  have c : (shp d && ((toP d).showable && (decide ((toP d).shown.length ≤ 1000000) && decide ((toP d).depth ≤ 32)))) = true := by
    rw [okD_shp h (by omega), q.sho, decide_eq_true (Nat.le_trans q.len hb), decide_eq_true (Nat.le_trans q.dep (by omega))]
    rfl
  by_cases hs : ∃ x, d = .str x
  · obtain ⟨x, rfl⟩ := hs
    exact ⟨x, rfl⟩
  · refine ⟨(toP d).shown, ?_⟩
    unfold dStr
    split
    · exact absurd ⟨_, rfl⟩ hs
    · rw [c]
theorem okD_ty {n : Nat} {d : D} (h : okD n d = true) : ∃ t, tyD d = some t := by
  cases n <;> cases d <;> first | exact ⟨_, rfl⟩ | (simp [okD, okE] at h)
end Z
namespace Z
open PySem L2
/-! ### loops by what they keep -/
theorem compGo_map {T : Tg} {p : Bx} {e : Ex} {ρ : Rho} {f : D → D} {s : S} : ∀ l : List D, (∀ d ∈ l, ∃ ρ', T.put d ρ = some ρ' ∧ p ρ' s = .ok true s ∧ e ρ' s = .ok (f d) s) → compGo T p e ρ l s = .ok (l.map f) s
  | [], _ => rfl
  | d :: l, h => by
    obtain ⟨ρ', h1, h2, h3⟩ := h d (List.mem_cons_self ..)
    rw [compGo, h1]
    simp only [h2, bind_ok, h3, compGo_map l fun e he => h e (List.mem_cons_of_mem _ he), List.map_cons]
theorem for_ind {T : Tg} {b : Stm} (I : Nat → Rho → S → Prop) : ∀ (items : List D) (k : Nat) (ρ : Rho) (s : S),
    (∀ j d, items[j]? = some d → ∀ ρ s, I (k + j) ρ s → ∃ ρ1, T.put d ρ = some ρ1 ∧ ∃ ρ' s', b ρ1 s = .nx ρ' s' ∧ I (k + j + 1) ρ' s') → I k ρ s → ∃ ρ' s', forGo T b items ρ s = .nx ρ' s' ∧ I (k + items.length) ρ' s'
  | [], k, ρ, s, _, h => ⟨ρ, s, rfl, h⟩
  | d :: l, k, ρ, s, st, h => by
    obtain ⟨ρ1, h1, ρ2, s2, h2, h3⟩ := st 0 d rfl ρ s h
    obtain ⟨ρ3, s3, h4, h5⟩ := for_ind I l (k + 1) ρ2 s2 (fun j e he ρ s hi => by
      have e1 : k + 1 + j = k + (j + 1) := by omega
      rw [e1] at hi ⊢
      exact st (j + 1) e (by simpa using he) ρ s hi) h3
    refine ⟨ρ3, s3, ?_, by rw [List.length_cons]; have : k + (l.length + 1) = k + 1 + l.length := by omega
                           rw [this]; exact h5⟩
    rw [forGo, h1]
    simp only [h2, loop_nx, h4]
/-- data not deep -/
def Sh (d : D) : Prop := (toP d).canLay0 = true ∧ (toP d).depth ≤ 32
theorem okD_sh {n : Nat} {d : D} (h : okD n d = true) (hn : n ≤ 32) : Sh d := ⟨(nice_of n d h).lay, Nat.le_trans (nice_of n d h).dep hn⟩
theorem sh_all : ∀ l : List D, (∀ d ∈ l, Sh d) → PyData.canLayAll0 (toPs l) = true ∧ PyData.depthAll (toPs l) ≤ 32
  | [], _ => by rw [toPs]; exact ⟨by rw [PyData.canLayAll0], by rw [PyData.depthAll]; exact Nat.zero_le _⟩
  | d :: l, h => by
    obtain ⟨h1, h2⟩ := sh_all l fun e he => h e (List.mem_cons_of_mem _ he)
    have q := h d (List.mem_cons_self ..)
    rw [toPs]
    exact ⟨by rw [PyData.canLayAll0, q.1, h1]; rfl, by rw [PyData.depthAll]; exact Nat.max_le.mpr ⟨q.2, h2⟩⟩
theorem shp_lst {l : List D} (h : ∀ d ∈ l, Sh d) : shp (.lst l) = true := by
  obtain ⟨h1, h2⟩ := sh_all l h
  unfold shp SeqAt.shaped
  rw [toP, PyData.canLay0, PyData.depth, h1, decide_eq_true (by omega)]
  rfl
theorem shp_tup {l : List D} (h : ∀ d ∈ l, Sh d) : shp (.tup l) = true := by
  obtain ⟨h1, h2⟩ := sh_all l h
  unfold shp SeqAt.shaped
  rw [toP, PyData.canLay0, PyData.depth, h1, decide_eq_true (by omega)]
  rfl
theorem eqD_nil (l : List D) : eqD (.lst l) (.lst []) = l.isEmpty := by
  cases l <;> simp [eqD, toP, toPs, PyData.eqv, PyData.eqvAll]
theorem seqIx {n : Nat} {d : Int} (h0 : 0 ≤ d) (h1 : d < n) : seqIndex? d n = some d.toNat := by
  unfold seqIndex?
  simp only [if_neg (by omega : ¬ d < 0), decide_eq_true h0, decide_eq_true h1, Bool.and_self, if_true]
theorem erase_perm {α : Type} : ∀ (l : List α) (i : Nat) (h : i < l.length), (l[i] :: l.eraseIdx i).Perm l
  | [], _, h => absurd h (Nat.not_lt_zero _)
  | a :: l, 0, _ => List.Perm.refl _
  | a :: l, i + 1, h => by
    show (l[i]'(by simpa using h) :: a :: l.eraseIdx i).Perm (a :: l)
    exact (List.Perm.swap _ _ _).trans ((erase_perm l i (by simpa using h)).cons a)
theorem sz_of {m n : Nat} (h : m + n ≤ 16777216) : sz2 m n = true := decide_eq_true h
end Z

/-! Z17: the laws' own draws. -/
namespace Z
open PySem L2
def bDraw : Stm := sSeq (sAsgP (pTp (fun ds ρ s => gd (Nat.beq ds.length 2) ((psCons (pNm 5) (psCons (pNm 6) (psNil))) ds ρ s))) (eVar 0)) (sSeq (sSet 2 (eBin dMod (eVar 6) (eCB fLen (aCons (eVar 5) (aNil))))) (sSeq (sSet 3 (eBin dIx (eVar 5) (eVar 2))) (sSeq (sAsgP (pIxG (eVar 0) (eC (.int 1))) (eBin dAdd (eVar 6) (eC (.int 1)))) (sSeq (sIf (bC (eBin dGe (eVar 3) (eBin dPow (eC (.int 10)) (eC (.int 18))))) (sSeq (sAsgP (pIxG (eVar 5) (eVar 2)) (eBin dDiv (eVar 3) (eVar 1))) (sRet (eBin dMod (eVar 3) (eVar 1)))) (sNil)) (sSeq (sSet 4 (eBin dMod (eBin dAdd (eBin dAdd (eBin dMul (eBin dMod (eVar 3) (eC (.int 2147483629))) (eC (.int 48271))) (eBin dMul (eBin dMul (eVar 6) (eVar 6)) (eC (.int 69621)))) (eC (.int 11))) (eC (.int 2147483647)))) (sSeq (sSet 4 (eBin dMod (eBin dMul (eVar 4) (eVar 4)) (eC (.int 2147483629)))) (sSeq (sSet 4 (eBin dMod (eBin dMul (eVar 4) (eVar 4)) (eC (.int 2147483587)))) (sSeq (sIf (bC (eBin dGt (eVar 1) (eBin dPow (eC (.int 10)) (eC (.int 9))))) (sSeq (sSet 7 (eBin dMod (eBin dAdd (eBin dAdd (eBin dMul (eVar 4) (eC (.int 39373))) (eBin dMul (eVar 6) (eC (.int 7919)))) (eC (.int 500))) (eC (.int 2147483629)))) (sSet 4 (eBin dMul (eVar 4) (eBin dAdd (eBin dMul (eBin dMul (eVar 7) (eVar 7)) (eVar 7)) (eC (.int 1)))))) (sNil)) (sRet (eBin dMod (eVar 4) (eVar 1)))))))))))
def zDraw : FnZ := fnz 8 bDraw
def bPurse : Stm := sSeq (sSet 1 (eG (fSl (eVar 0) (oNo) (oPart (eC (.int 63)))))) (sSeq (sFor (.nm 2) (itR1 (aCons (eCB fLen (aCons (eVar 1) (aNil))) (aNil))) (sIf (bC (eBin dGe (eCB fAbs (aCons (eBin dIx (eVar 1) (eVar 2)) (aNil))) (eBin dPow (eC (.int 10)) (eC (.int 18))))) (sAsgP (pIxG (eVar 1) (eVar 2)) (eBin dMod (eBin dIx (eVar 1) (eVar 2)) (eBin dPow (eBin dPow (eC (.int 10)) (eC (.int 60))) (eC (.int 20))))) (sNil))) (sSeq (sIf (bC (eBin dEq (eVar 1) (eLst (aNil)))) (sSet 1 (eG (fDisp (aCons (eC (.int 0)) (aNil))))) (sNil)) (sRet (eG (fDisp (aCons (eVar 1) (aCons (eC (.int 0)) (aNil))))))))
def zPurse : FnZ := fnz 3 bPurse
def bMixed : Stm := sSeq (sSetL 2 (lF (fCB fListF (aCons (eVar 1) (aNil))))) (sSeq (sSetL 3 (lF (fDisp (aNil)))) (sSeq (sWh 1000 (bC (onL 2 (eEqL true 2 (eLst (aNil))))) (sEx (onL 3 (eML 3 mAppend (aCons (onL 2 (eML 2 mPopAt (aCons (eCall 2 zDraw (aCons (eVar 0) (aCons (eLenL 2) (aNil)))) (aNil)))) (aNil)))))) (sRet (eVar 3))))
def zMixed : FnZ := fnz 4 bMixed
/-- the purse stands at p: its cells at i, went so far -/
structure Purse (g : List GO) (p : Nat) (n : Nat) : Prop where
  ex : ∃ (i : Nat) (cells : List Int) (w : Int), i ≠ p ∧ g[p]? = some (.lst [.glb i, .int w]) ∧ g[i]? = some (.lst (cells.map D.int)) ∧ cells ≠ [] ∧ 0 ≤ w ∧ w ≤ (n : Nat)
theorem draw_ok {g : List GO} {p n : Nat} {k : Int} (hP : Purse g p n) (hn : n < 1000000) (hk : 0 < k) (hk2 : k ≤ 1000000000) :
    ∃ d g', zDraw [.glb p, .int k] g = .ok (.int d) ⟨[], g'⟩ ∧ 0 ≤ d ∧ d < k ∧ Purse g' p (n + 1) := by
  obtain ⟨i, cells, w, hip, hp, hc, hne, hw, hw2⟩ := hP.ex
  have hl : (0 : Int) < (cells.length : Nat) := by
    cases cells with
    | nil => exact absurd rfl hne
    | cons a l => simp
  have hj0 := Int.emod_nonneg w (by omega : ((cells.length : Nat) : Int) ≠ 0)
  have hj1 := Int.emod_lt_of_pos w hl
  obtain ⟨j, hj, hjl⟩ : ∃ j : Nat, w % (cells.length : Nat) = (j : Int) ∧ j < cells.length := ⟨(w % (cells.length : Nat)).toNat, by omega, by omega⟩
  have hix : ixN cells.length (j : Int) = some j := by
    unfold ixN
    rw [if_pos (Int.natCast_nonneg j), if_pos (by omega)]
    rfl
  have hat : atI (cells.map D.int) (j : Int) = some (.int cells[j]) := by
    unfold atI
    rw [List.length_map, hix]
    simp [hjl]
  have h21 : ixN 2 1 = some 1 := rfl
  have hset : (g.set p (.lst [.glb i, .int (w + 1)]))[i]? = some (.lst (cells.map D.int)) := by rw [List.getElem?_set_ne (Ne.symm hip)]; exact hc
  have hpl : p < g.length := (List.getElem?_eq_some_iff.mp hp).1
  have hset2 : (g.set p (.lst [.glb i, .int (w + 1)]))[p]? = some (.lst [.glb i, .int (w + 1)]) := List.getElem?_set_self hpl
  by_cases hbig : 1000000000000000000 ≤ cells[j]
  · have hk3 : k.natAbs.log2 < 9000 := Nat.lt_trans ((Nat.log2_lt (by omega)).mpr (by omega : k.natAbs < 2 ^ 30)) (by decide)
    simp only [fnz, sNil, sSeq, sPass, sBrk, sCnt, sEx, sIf, sSet, sRet, sRetN, sAsgP, sAsg, sPar, sAug, sSetL, sFor, view, viewS, eVar, slot, eC, eBin, eUn, eIf, eAnd, eOr, eNot, isBl, eTup, eLst, aNil, aCons, sz1, eSl, oNo, oPart, eCB, eCall, eCallK, callF, pick, eIsi, fIsi, tyD, isiB, eF, eG, lF, fDisp, fCB, bT, bC, bNot, bAnd, bOr, tru, pTp, itemsG, psCons, psNil, pNm, pIxG, pIxL, atG, dAdd, dSub, dMul, dDiv, dMod, dNeg, dIx, ge_i, le_i, gt_i, dIAdd, fLen, fAbs, fMax2, fMin2, fInt, fBool, mulOk_a, mulOk_b, mulOk_c, mulOk_d, Int.reduceLT, Int.reduceLE, Nat.zero_le, Nat.reduceLeDiff, onL, isL, atL, eEqL_at, eWL, wL, hEq, hIn, hIx, eIxL_at, eInL_at, eLenL, eML, eMGo, nowG, mAppend, mPop, eLst, see, dEq, dNe, seqL, fListF, fSl, itR1, itR2, itA, sWh_at, List.getElem?_cons_zero, List.getElem?_cons_succ, List.getElem?_nil, Int.toNat_natCast, pow18, pow9, pow60, pow60_20, List.map_cons, List.map_nil, List.length_cons, List.length_nil, List.length_map, List.cons_append, List.nil_append, List.append_nil, List.replicate_succ, List.replicate_zero, List.set_cons_zero, List.set_cons_succ, List.set_nil, Nat.reduceAdd, Nat.reduceSub, Nat.zero_add, Nat.beq, Nat.sub_self, bind_ok, toS_ok, sure_ok, gd_t, nx_bind, ret_bind, brk_bind, cnt_bind, exc_bind, excF_bind, loop_nx, loop_ret, loop_brk, loop_cnt, String.reduceBEq, beq_self_eq_true, Bool.or_false, Bool.or_true, Bool.false_or, Bool.true_or, Bool.false_and, Bool.and_false, decide_true, decide_false, Bool.and_true, Bool.true_and, Bool.and_self, Bool.not_true, Bool.not_false, zDraw, bDraw, hp, hc, hl, hj, hat, h21, hset, hbig, hix, hk, hk3]
    refine ⟨_, _, rfl, Int.emod_nonneg _ (by omega), Int.emod_lt_of_pos _ hk, ⟨i, cells.set j (cells[j] / k), w + 1, hip, ?_, ?_, ?_, by omega, by omega⟩⟩
    · rw [List.getElem?_set_ne hip]
      exact hset2
    · rw [List.getElem?_set_self (by rw [List.length_set]; exact (List.getElem?_eq_some_iff.mp hc).1), List.map_set]
    · intro z
      have := congrArg List.length z
      simp at this
      exact hne this
  · have hww : mulOk w w = true := mulOk_l (by omega)
    have hk5 : ¬ 1000000000 < k := by omega
    simp only [fnz, sNil, sSeq, sPass, sBrk, sCnt, sEx, sIf, sSet, sRet, sRetN, sAsgP, sAsg, sPar, sAug, sSetL, sFor, view, viewS, eVar, slot, eC, eBin, eUn, eIf, eAnd, eOr, eNot, isBl, eTup, eLst, aNil, aCons, sz1, eSl, oNo, oPart, eCB, eCall, eCallK, callF, pick, eIsi, fIsi, tyD, isiB, eF, eG, lF, fDisp, fCB, bT, bC, bNot, bAnd, bOr, tru, pTp, itemsG, psCons, psNil, pNm, pIxG, pIxL, atG, dAdd, dSub, dMul, dDiv, dMod, dNeg, dIx, ge_i, le_i, gt_i, dIAdd, fLen, fAbs, fMax2, fMin2, fInt, fBool, mulOk_a, mulOk_b, mulOk_c, mulOk_d, Int.reduceLT, Int.reduceLE, Nat.zero_le, Nat.reduceLeDiff, onL, isL, atL, eEqL_at, eWL, wL, hEq, hIn, hIx, eIxL_at, eInL_at, eLenL, eML, eMGo, nowG, mAppend, mPop, eLst, see, dEq, dNe, seqL, fListF, fSl, itR1, itR2, itA, sWh_at, List.getElem?_cons_zero, List.getElem?_cons_succ, List.getElem?_nil, Int.toNat_natCast, pow18, pow9, pow60, pow60_20, List.map_cons, List.map_nil, List.length_cons, List.length_nil, List.length_map, List.cons_append, List.nil_append, List.append_nil, List.replicate_succ, List.replicate_zero, List.set_cons_zero, List.set_cons_succ, List.set_nil, Nat.reduceAdd, Nat.reduceSub, Nat.zero_add, Nat.beq, Nat.sub_self, bind_ok, toS_ok, sure_ok, gd_t, nx_bind, ret_bind, brk_bind, cnt_bind, exc_bind, excF_bind, loop_nx, loop_ret, loop_brk, loop_cnt, String.reduceBEq, beq_self_eq_true, Bool.or_false, Bool.or_true, Bool.false_or, Bool.true_or, Bool.false_and, Bool.and_false, decide_true, decide_false, Bool.and_true, Bool.true_and, Bool.and_self, Bool.not_true, Bool.not_false, zDraw, bDraw, hp, hc, hl, hj, hat, h21, hset, hbig, hix, hk, hww, hk5]
    refine ⟨_, _, rfl, Int.emod_nonneg _ (by omega), Int.emod_lt_of_pos _ hk, ⟨i, cells, w + 1, hip, hset2, hset, hne, by omega, by omega⟩⟩
theorem mixed_go {p : Nat} {sm : D} : ∀ (m f n : Nat) (left found : List D) (g : List GO), left.length = m → m < f → Purse g p n → n + m < 1000000 → (∀ d ∈ left, Sh d) → left.length + found.length < 1000000 →
    ∃ out g', (left ++ found).Perm out ∧ Purse g' p (n + m) ∧
      whGo (bC (onL 2 (eEqL true 2 (eLst aNil)))) (sEx (onL 3 (eML 3 mAppend (aCons (onL 2 (eML 2 mPopAt (aCons (eCall 2 zDraw (aCons (eVar 0) (aCons (eLenL 2) aNil))) aNil))) aNil)))) f
        [.v (.glb p), .v sm, .l 0, .l 1] ⟨[.lst left, .lst found], g⟩ = .nx [.v (.glb p), .v sm, .l 0, .l 1] ⟨[.lst [], .lst out], g'⟩ := by
  intro m
  induction m with
  | zero =>
    intro f n left found g hl hf hP hn hs hz
    have : left = [] := List.length_eq_zero_iff.mp hl
    subst this
    obtain ⟨f, rfl⟩ : ∃ k, f = k + 1 := ⟨f - 1, by omega⟩
    have h1 : shp (.lst []) = true := by decide +kernel
    refine ⟨found, g, List.Perm.refl _, hP, ?_⟩
    rw [whGo]
    simp only [fnz, sNil, sSeq, sPass, sBrk, sCnt, sEx, sIf, sSet, sRet, sRetN, sAsgP, sAsg, sPar, sAug, sSetL, sFor, view, viewS, eVar, slot, eC, eBin, eUn, eIf, eAnd, eOr, eNot, isBl, eTup, eLst, aNil, aCons, sz1, eSl, oNo, oPart, eCB, eCall, eCallK, callF, pick, eIsi, fIsi, tyD, isiB, eF, eG, lF, fDisp, fCB, bT, bC, bNot, bAnd, bOr, tru, pTp, itemsG, psCons, psNil, pNm, pIxG, pIxL, atG, dAdd, dSub, dMul, dDiv, dMod, dNeg, dIx, ge_i, le_i, gt_i, dIAdd, fLen, fAbs, fMax2, fMin2, fInt, fBool, mulOk_a, mulOk_b, mulOk_c, mulOk_d, Int.reduceLT, Int.reduceLE, Nat.zero_le, Nat.reduceLeDiff, onL, isL, atL, eEqL_at, eWL, wL, hEq, hIn, hIx, eIxL_at, eInL_at, eLenL, eML, eMGo, nowG, mAppend, mPop, eLst, see, dEq, dNe, seqL, fListF, fSl, itR1, itR2, itA, sWh_at, List.getElem?_cons_zero, List.getElem?_cons_succ, List.getElem?_nil, Int.toNat_natCast, pow18, pow9, pow60, pow60_20, List.map_cons, List.map_nil, List.length_cons, List.length_nil, List.length_map, List.cons_append, List.nil_append, List.append_nil, List.replicate_succ, List.replicate_zero, List.set_cons_zero, List.set_cons_succ, List.set_nil, Nat.reduceAdd, Nat.reduceSub, Nat.zero_add, Nat.beq, Nat.sub_self, bind_ok, toS_ok, sure_ok, gd_t, nx_bind, ret_bind, brk_bind, cnt_bind, exc_bind, excF_bind, loop_nx, loop_ret, loop_brk, loop_cnt, String.reduceBEq, beq_self_eq_true, Bool.or_false, Bool.or_true, Bool.false_or, Bool.true_or, Bool.false_and, Bool.and_false, decide_true, decide_false, Bool.and_true, Bool.true_and, Bool.and_self, Bool.not_true, Bool.not_false, onL, isL, atL, eEqL, eWL, wL, hEq, eLst, see, h1, eqD_nil, List.isEmpty_nil, Bool.bne_true, List.getElem?_cons_zero, Nat.zero_le]
  | succ m ih =>
    intro f n left found g hl hf hP hn hs hz
    obtain ⟨f, rfl⟩ : ∃ k, f = k + 1 := ⟨f - 1, by omega⟩
    have h1 : shp (.lst []) = true := by decide +kernel
    have h2 : left.isEmpty = false := by
      cases left with
      | nil => cases hl
      | cons a l => rfl
    obtain ⟨d, g', hd, hd0, hd1, hP'⟩ := draw_ok (k := (left.length : Nat)) hP (by omega) (by omega) (by omega)
    have h3 := seqIx hd0 hd1
    have hk : d.toNat < left.length := by omega
    have h4 : left[d.toNat]? = some left[d.toNat] := List.getElem?_eq_getElem hk
    have h5 : d < 1000000000 := by omega
    have h6 : -1000000000 < d := by omega
    have z1 := sz_of (m := left.length) (n := 1) (by omega)
    have z2 := sz_of (m := found.length) (n := 1) (by omega)
    obtain ⟨out, gx, o1, o2, o3⟩ := ih f (n + 1) (left.eraseIdx d.toNat) (found ++ [left[d.toNat]]) g' (by rw [List.length_eraseIdx_of_lt hk]; omega) (by omega) hP' (by omega) (fun x hx => hs x (List.mem_of_mem_eraseIdx hx)) (by rw [List.length_eraseIdx_of_lt hk]; simp; omega)
    refine ⟨out, gx, List.Perm.trans ?_ o1, (by rw [show n + (m + 1) = n + 1 + m by omega]; exact o2), ?_⟩
    · have e1 : (left[d.toNat] :: left.eraseIdx d.toNat).Perm left := erase_perm left d.toNat hk
      refine List.Perm.trans (List.Perm.append_right found e1.symm) ?_
      have e2 := List.perm_append_comm (l₁ := [left[d.toNat]]) (l₂ := left.eraseIdx d.toNat ++ found)
      rw [List.append_assoc] at e2
      exact e2
    · rw [whGo]
      simp only [fnz, sNil, sSeq, sPass, sBrk, sCnt, sEx, sIf, sSet, sRet, sRetN, sAsgP, sAsg, sPar, sAug, sSetL, sFor, view, viewS, eVar, slot, eC, eBin, eUn, eIf, eAnd, eOr, eNot, isBl, eTup, eLst, aNil, aCons, sz1, eSl, oNo, oPart, eCB, eCall, eCallK, callF, pick, eIsi, fIsi, tyD, isiB, eF, eG, lF, fDisp, fCB, bT, bC, bNot, bAnd, bOr, tru, pTp, itemsG, psCons, psNil, pNm, pIxG, pIxL, atG, dAdd, dSub, dMul, dDiv, dMod, dNeg, dIx, ge_i, le_i, gt_i, dIAdd, fLen, fAbs, fMax2, fMin2, fInt, fBool, mulOk_a, mulOk_b, mulOk_c, mulOk_d, Int.reduceLT, Int.reduceLE, Nat.zero_le, Nat.reduceLeDiff, onL, isL, atL, eEqL_at, eWL, wL, hEq, hIn, hIx, eIxL_at, eInL_at, eLenL, eML, eMGo, nowG, mAppend, mPop, eLst, see, dEq, dNe, seqL, fListF, fSl, itR1, itR2, itA, sWh_at, List.getElem?_cons_zero, List.getElem?_cons_succ, List.getElem?_nil, Int.toNat_natCast, pow18, pow9, pow60, pow60_20, List.map_cons, List.map_nil, List.length_cons, List.length_nil, List.length_map, List.cons_append, List.nil_append, List.append_nil, List.replicate_succ, List.replicate_zero, List.set_cons_zero, List.set_cons_succ, List.set_nil, Nat.reduceAdd, Nat.reduceSub, Nat.zero_add, Nat.beq, Nat.sub_self, bind_ok, toS_ok, sure_ok, gd_t, nx_bind, ret_bind, brk_bind, cnt_bind, exc_bind, excF_bind, loop_nx, loop_ret, loop_brk, loop_cnt, String.reduceBEq, beq_self_eq_true, Bool.or_false, Bool.or_true, Bool.false_or, Bool.true_or, Bool.false_and, Bool.and_false, decide_true, decide_false, Bool.and_true, Bool.true_and, Bool.and_self, Bool.not_true, Bool.not_false, onL, isL, atL, eEqL, eWL, wL, hEq, eLst, see, h1, eqD_nil, h2, shp_lst hs, eML, mAppend, mPopAt, eLenL, List.getElem?_cons_zero, List.getElem?_cons_succ, Nat.zero_le, hd, h3, h4, h5, h6, z1, z2, Bool.bne_false, Bool.xor_false]
      exact o3
theorem mixed_ok {p n : Nat} {g : List GO} {sm : D} {l : List D} (hl : sm = .lst l ∨ sm = .tup l) (hP : Purse g p n) (hs : ∀ d ∈ l, Sh d) (hz : l.length < 999) (hn : n + l.length < 1000000) :
    ∃ out g', l.Perm out ∧ Purse g' p (n + l.length) ∧ zMixed [.glb p, sm] g = .ok (.lst out) ⟨[], g'⟩ := by
  obtain ⟨out, g', h1, h2, h3⟩ := mixed_go (p := p) (sm := sm) l.length 1000 n l [] g rfl (by omega) hP hn hs (by simp; omega)
  rw [List.append_nil] at h1
  refine ⟨out, g', h1, h2, ?_⟩
  have e : seqD sm ⟨[], g⟩ = some l := by rcases hl with rfl | rfl <;> rfl
  have z0 := sz_of (m := 0) (n := 0) (by omega)
  simp only [fnz, sNil, sSeq, sPass, sBrk, sCnt, sEx, sIf, sSet, sRet, sRetN, sAsgP, sAsg, sPar, sAug, sSetL, sFor, view, viewS, eVar, slot, eC, eBin, eUn, eIf, eAnd, eOr, eNot, isBl, eTup, eLst, aNil, aCons, sz1, eSl, oNo, oPart, eCB, eCall, eCallK, callF, pick, eIsi, fIsi, tyD, isiB, eF, eG, lF, fDisp, fCB, bT, bC, bNot, bAnd, bOr, tru, pTp, itemsG, psCons, psNil, pNm, pIxG, pIxL, atG, dAdd, dSub, dMul, dDiv, dMod, dNeg, dIx, ge_i, le_i, gt_i, dIAdd, fLen, fAbs, fMax2, fMin2, fInt, fBool, mulOk_a, mulOk_b, mulOk_c, mulOk_d, Int.reduceLT, Int.reduceLE, Nat.zero_le, Nat.reduceLeDiff, onL, isL, atL, eEqL_at, eWL, wL, hEq, hIn, hIx, eIxL_at, eInL_at, eLenL, eML, eMGo, nowG, mAppend, mPop, eLst, see, dEq, dNe, seqL, fListF, fSl, itR1, itR2, itA, sWh_at, List.getElem?_cons_zero, List.getElem?_cons_succ, List.getElem?_nil, Int.toNat_natCast, pow18, pow9, pow60, pow60_20, List.map_cons, List.map_nil, List.length_cons, List.length_nil, List.length_map, List.cons_append, List.nil_append, List.append_nil, List.replicate_succ, List.replicate_zero, List.set_cons_zero, List.set_cons_succ, List.set_nil, Nat.reduceAdd, Nat.reduceSub, Nat.zero_add, Nat.beq, Nat.sub_self, bind_ok, toS_ok, sure_ok, gd_t, nx_bind, ret_bind, brk_bind, cnt_bind, exc_bind, excF_bind, loop_nx, loop_ret, loop_brk, loop_cnt, String.reduceBEq, beq_self_eq_true, Bool.or_false, Bool.or_true, Bool.false_or, Bool.true_or, Bool.false_and, Bool.and_false, decide_true, decide_false, Bool.and_true, Bool.true_and, Bool.and_self, Bool.not_true, Bool.not_false, zMixed, bMixed, fListF, e, z0, sWh, h3, List.getElem?_cons_zero, List.getElem?_cons_succ]
theorem cut_map (zs : List Int) (lo hi : Option Int) : ∃ m : List Int, cutD (zs.map D.int) lo hi = m.map D.int := by
  unfold cutD
  exact ⟨_, by rw [← List.map_drop, ← List.map_take]⟩
theorem big_pos : (0 : Int) < (10 ^ 60) ^ 20 := by decide +kernel
theorem purse_ok (zs : List Int) : ∃ p g, zPurse [.scr zs] [] = .ok (.glb p) ⟨[], g⟩ ∧ Purse g p 0 := by
  obtain ⟨m, hm⟩ := cut_map zs none (some 63)
  have hml : m.length ≤ 63 := by
    have := congrArg List.length hm
    unfold cutD at this
    simp only [List.length_take, List.length_map] at this
    have e : HT.sIx zs.length zs.length (some 63) ≤ 63 := by
      unfold HT.sIx
      simp only
      rw [if_neg (by omega)]
      exact Nat.min_le_left _ _
    omega
  let I : Nat → Rho → S → Prop := fun _ ρ s => ∃ (x : Sl) (cs : List Int), ρ = [.v (.scr zs), .v (.glb 0), x] ∧ s = ⟨[], [.lst (cs.map D.int)]⟩ ∧ cs.length = m.length
  obtain ⟨ρ1, s1, hf, x, cs, rfl, rfl, hc⟩ := for_ind (T := .nm 2) (b := sIf (bC (eBin dGe (eCB fAbs (aCons (eBin dIx (eVar 1) (eVar 2)) (aNil))) (eBin dPow (eC (.int 10)) (eC (.int 18))))) (sAsgP (pIxG (eVar 1) (eVar 2)) (eBin dMod (eBin dIx (eVar 1) (eVar 2)) (eBin dPow (eBin dPow (eC (.int 10)) (eC (.int 60))) (eC (.int 20))))) (sNil)) I (rngD 0 m.length) 0 [.v (.scr zs), .v (.glb 0), .un] ⟨[], [.lst (m.map D.int)]⟩
    (by
      rintro j d hd ρ s ⟨x, cs, rfl, rfl, hc⟩
      have hj : j < m.length := by
        have := (List.getElem?_eq_some_iff.mp hd).1
        unfold rngD at this
        simpa using this
      have e : d = .int (0 + (j : Nat)) := by
        unfold rngD at hd
        rw [List.getElem?_map, List.getElem?_range hj] at hd
        cases hd
        rfl
      subst e
      have hix : ixN cs.length (j : Int) = some j := by
        unfold ixN
        rw [if_pos (Int.natCast_nonneg j), if_pos (by omega)]
        rfl
      have hat : atI (cs.map D.int) (j : Int) = some (.int cs[j]) := by
        unfold atI
        rw [List.length_map, hix]
        simp [hc, hj]
      refine ⟨_, rfl, ?_⟩
      by_cases hb : 1000000000000000000 ≤ (if cs[j] < 0 then -cs[j] else cs[j])
      · refine ⟨[.v (.scr zs), .v (.glb 0), .v (.int (0 + (j : Nat)))], ⟨[], [.lst ((cs.set j (cs[j] % (10 ^ 60) ^ 20)).map D.int)]⟩, ?_, _, _, rfl, rfl, by rw [List.length_set]; exact hc⟩
        simp only [fnz, sNil, sSeq, sPass, sBrk, sCnt, sEx, sIf, sSet, sRet, sRetN, sAsgP, sAsg, sPar, sAug, sSetL, sFor, view, viewS, eVar, slot, eC, eBin, eUn, eIf, eAnd, eOr, eNot, isBl, eTup, eLst, aNil, aCons, sz1, eSl, oNo, oPart, eCB, eCall, eCallK, callF, pick, eIsi, fIsi, tyD, isiB, eF, eG, lF, fDisp, fCB, bT, bC, bNot, bAnd, bOr, tru, pTp, itemsG, psCons, psNil, pNm, pIxG, pIxL, atG, dAdd, dSub, dMul, dDiv, dMod, dNeg, dIx, ge_i, le_i, gt_i, dIAdd, fLen, fAbs, fMax2, fMin2, fInt, fBool, mulOk_a, mulOk_b, mulOk_c, mulOk_d, Int.reduceLT, Int.reduceLE, Nat.zero_le, Nat.reduceLeDiff, onL, isL, atL, eEqL_at, eWL, wL, hEq, hIn, hIx, eIxL_at, eInL_at, eLenL, eML, eMGo, nowG, mAppend, mPop, eLst, see, dEq, dNe, seqL, fListF, fSl, itR1, itR2, itA, sWh_at, List.getElem?_cons_zero, List.getElem?_cons_succ, List.getElem?_nil, Int.toNat_natCast, pow18, pow9, pow60, pow60_20, List.map_cons, List.map_nil, List.length_cons, List.length_nil, List.length_map, List.cons_append, List.nil_append, List.append_nil, List.replicate_succ, List.replicate_zero, List.set_cons_zero, List.set_cons_succ, List.set_nil, Nat.reduceAdd, Nat.reduceSub, Nat.zero_add, Nat.beq, Nat.sub_self, bind_ok, toS_ok, sure_ok, gd_t, nx_bind, ret_bind, brk_bind, cnt_bind, exc_bind, excF_bind, loop_nx, loop_ret, loop_brk, loop_cnt, String.reduceBEq, beq_self_eq_true, Bool.or_false, Bool.or_true, Bool.false_or, Bool.true_or, Bool.false_and, Bool.and_false, decide_true, decide_false, Bool.and_true, Bool.true_and, Bool.and_self, Bool.not_true, Bool.not_false, hat, hix, hb, Int.zero_add, List.getElem?_cons_zero, big_pos, List.map_set]
      · refine ⟨[.v (.scr zs), .v (.glb 0), .v (.int (0 + (j : Nat)))], _, ?_, _, _, rfl, rfl, hc⟩
        simp only [fnz, sNil, sSeq, sPass, sBrk, sCnt, sEx, sIf, sSet, sRet, sRetN, sAsgP, sAsg, sPar, sAug, sSetL, sFor, view, viewS, eVar, slot, eC, eBin, eUn, eIf, eAnd, eOr, eNot, isBl, eTup, eLst, aNil, aCons, sz1, eSl, oNo, oPart, eCB, eCall, eCallK, callF, pick, eIsi, fIsi, tyD, isiB, eF, eG, lF, fDisp, fCB, bT, bC, bNot, bAnd, bOr, tru, pTp, itemsG, psCons, psNil, pNm, pIxG, pIxL, atG, dAdd, dSub, dMul, dDiv, dMod, dNeg, dIx, ge_i, le_i, gt_i, dIAdd, fLen, fAbs, fMax2, fMin2, fInt, fBool, mulOk_a, mulOk_b, mulOk_c, mulOk_d, Int.reduceLT, Int.reduceLE, Nat.zero_le, Nat.reduceLeDiff, onL, isL, atL, eEqL_at, eWL, wL, hEq, hIn, hIx, eIxL_at, eInL_at, eLenL, eML, eMGo, nowG, mAppend, mPop, eLst, see, dEq, dNe, seqL, fListF, fSl, itR1, itR2, itA, sWh_at, List.getElem?_cons_zero, List.getElem?_cons_succ, List.getElem?_nil, Int.toNat_natCast, pow18, pow9, pow60, pow60_20, List.map_cons, List.map_nil, List.length_cons, List.length_nil, List.length_map, List.cons_append, List.nil_append, List.append_nil, List.replicate_succ, List.replicate_zero, List.set_cons_zero, List.set_cons_succ, List.set_nil, Nat.reduceAdd, Nat.reduceSub, Nat.zero_add, Nat.beq, Nat.sub_self, bind_ok, toS_ok, sure_ok, gd_t, nx_bind, ret_bind, brk_bind, cnt_bind, exc_bind, excF_bind, loop_nx, loop_ret, loop_brk, loop_cnt, String.reduceBEq, beq_self_eq_true, Bool.or_false, Bool.or_true, Bool.false_or, Bool.true_or, Bool.false_and, Bool.and_false, decide_true, decide_false, Bool.and_true, Bool.true_and, Bool.and_self, Bool.not_true, Bool.not_false, hat, hix, hb, Int.zero_add, List.getElem?_cons_zero, big_pos, List.map_set])
    ⟨_, m, rfl, rfl, rfl⟩
  have h1 : shp (.lst []) = true := by decide +kernel
  have h2 : shp (.lst (cs.map D.int)) = true := shp_lst fun d hd => by
    obtain ⟨i, _, rfl⟩ := List.mem_map.mp hd
    exact ⟨by simp [toP, PyData.canLay0], by simp [toP, PyData.depth]⟩
  have z1 := sz_of (m := 1) (n := 0) (by omega)
  have z2 := sz_of (m := 2) (n := 0) (by omega)
  have b1 : (m.length : Int) ≤ 100000000 := by omega
  have b2 : (-100000000 : Int) ≤ (m.length : Nat) := by omega
  by_cases he : cs = []
  · subst he
    refine ⟨2, [.lst [], .lst [.int 0], .lst [.glb 1, .int 0]], ?_, ⟨1, [0], 0, by decide, rfl, rfl, by simp, by omega, by omega⟩⟩
    simp only [fnz, sNil, sSeq, sPass, sBrk, sCnt, sEx, sIf, sSet, sRet, sRetN, sAsgP, sAsg, sPar, sAug, sSetL, sFor, view, viewS, eVar, slot, eC, eBin, eUn, eIf, eAnd, eOr, eNot, isBl, eTup, eLst, aNil, aCons, sz1, eSl, oNo, oPart, eCB, eCall, eCallK, callF, pick, eIsi, fIsi, tyD, isiB, eF, eG, lF, fDisp, fCB, bT, bC, bNot, bAnd, bOr, tru, pTp, itemsG, psCons, psNil, pNm, pIxG, pIxL, atG, dAdd, dSub, dMul, dDiv, dMod, dNeg, dIx, ge_i, le_i, gt_i, dIAdd, fLen, fAbs, fMax2, fMin2, fInt, fBool, mulOk_a, mulOk_b, mulOk_c, mulOk_d, Int.reduceLT, Int.reduceLE, Nat.zero_le, Nat.reduceLeDiff, onL, isL, atL, eEqL_at, eWL, wL, hEq, hIn, hIx, eIxL_at, eInL_at, eLenL, eML, eMGo, nowG, mAppend, mPop, eLst, see, dEq, dNe, seqL, fListF, fSl, itR1, itR2, itA, sWh_at, List.getElem?_cons_zero, List.getElem?_cons_succ, List.getElem?_nil, Int.toNat_natCast, pow18, pow9, pow60, pow60_20, List.map_cons, List.map_nil, List.length_cons, List.length_nil, List.length_map, List.cons_append, List.nil_append, List.append_nil, List.replicate_succ, List.replicate_zero, List.set_cons_zero, List.set_cons_succ, List.set_nil, Nat.reduceAdd, Nat.reduceSub, Nat.zero_add, Nat.beq, Nat.sub_self, bind_ok, toS_ok, sure_ok, gd_t, nx_bind, ret_bind, brk_bind, cnt_bind, exc_bind, excF_bind, loop_nx, loop_ret, loop_brk, loop_cnt, String.reduceBEq, beq_self_eq_true, Bool.or_false, Bool.or_true, Bool.false_or, Bool.true_or, Bool.false_and, Bool.and_false, decide_true, decide_false, Bool.and_true, Bool.true_and, Bool.and_self, Bool.not_true, Bool.not_false, zPurse, bPurse, fSl, seqL, seqD, hm, itR1, b1, b2, Int.toNat_natCast, hf, dEq, see, h1, eqD_nil, List.getElem?_cons_zero, z1, z2, List.isEmpty_nil]
  · have h3 : (cs.map D.int).isEmpty = false := by
      cases cs with
      | nil => exact absurd rfl he
      | cons a l => rfl
    refine ⟨1, [.lst (cs.map D.int), .lst [.glb 0, .int 0]], ?_, ⟨0, cs, 0, by decide, rfl, rfl, he, by omega, by omega⟩⟩
    simp only [fnz, sNil, sSeq, sPass, sBrk, sCnt, sEx, sIf, sSet, sRet, sRetN, sAsgP, sAsg, sPar, sAug, sSetL, sFor, view, viewS, eVar, slot, eC, eBin, eUn, eIf, eAnd, eOr, eNot, isBl, eTup, eLst, aNil, aCons, sz1, eSl, oNo, oPart, eCB, eCall, eCallK, callF, pick, eIsi, fIsi, tyD, isiB, eF, eG, lF, fDisp, fCB, bT, bC, bNot, bAnd, bOr, tru, pTp, itemsG, psCons, psNil, pNm, pIxG, pIxL, atG, dAdd, dSub, dMul, dDiv, dMod, dNeg, dIx, ge_i, le_i, gt_i, dIAdd, fLen, fAbs, fMax2, fMin2, fInt, fBool, mulOk_a, mulOk_b, mulOk_c, mulOk_d, Int.reduceLT, Int.reduceLE, Nat.zero_le, Nat.reduceLeDiff, onL, isL, atL, eEqL_at, eWL, wL, hEq, hIn, hIx, eIxL_at, eInL_at, eLenL, eML, eMGo, nowG, mAppend, mPop, eLst, see, dEq, dNe, seqL, fListF, fSl, itR1, itR2, itA, sWh_at, List.getElem?_cons_zero, List.getElem?_cons_succ, List.getElem?_nil, Int.toNat_natCast, pow18, pow9, pow60, pow60_20, List.map_cons, List.map_nil, List.length_cons, List.length_nil, List.length_map, List.cons_append, List.nil_append, List.append_nil, List.replicate_succ, List.replicate_zero, List.set_cons_zero, List.set_cons_succ, List.set_nil, Nat.reduceAdd, Nat.reduceSub, Nat.zero_add, Nat.beq, Nat.sub_self, bind_ok, toS_ok, sure_ok, gd_t, nx_bind, ret_bind, brk_bind, cnt_bind, exc_bind, excF_bind, loop_nx, loop_ret, loop_brk, loop_cnt, String.reduceBEq, beq_self_eq_true, Bool.or_false, Bool.or_true, Bool.false_or, Bool.true_or, Bool.false_and, Bool.and_false, decide_true, decide_false, Bool.and_true, Bool.true_and, Bool.and_self, Bool.not_true, Bool.not_false, zPurse, bPurse, fSl, seqL, seqD, hm, itR1, b1, b2, Int.toNat_natCast, hf, dEq, see, h1, h2, h3, eqD_nil, List.getElem?_cons_zero, z1, z2]
def isI (d : D) : Bool := match d with
  | .int _ => true
  | _ => false
def isNN (d : D) : Bool := match d with
  | .int i => decide (0 ≤ i)
  | _ => false
theorem boolsOf_map (f : D → Bool) : ∀ l : List D, boolsOf (l.map fun d => .bl (f d)) = some (l.map f)
  | [] => rfl
  | d :: l => by
    rw [List.map_cons, boolsOf, boolsOf_map f l]
    rfl
theorem all_id (f : D → Bool) (l : List D) : (l.map f).all id = l.all f := by
  induction l with
  | nil => rfl
  | cons d l ih => simp [ih]
structure Good (d : D) : Prop where
  ty : ∃ t, tyD d = some t
  sh : Sh d
  st : ∃ x, dStr d = some x
  el : ∀ l, d = .tup l → l.length ≤ 1000 ∧ ∀ e ∈ l, ∃ t, tyD e = some t
theorem shp_sh {d : D} (h : Sh d) : shp d = true := by
  unfold shp SeqAt.shaped
  rw [h.1, decide_eq_true (Nat.le_trans h.2 (by omega))]
  rfl
theorem Purse.up {g : List GO} {p n m : Nat} (h : Purse g p n) (hm : n ≤ m) : Purse g p m := by
  obtain ⟨i, cs, w, h1, h2, h3, h4, h5, h6⟩ := h.ex
  exact ⟨i, cs, w, h1, h2, h3, h4, h5, by omega⟩
theorem good_of {d : D} (h : okD 2 d = true) : Good d where
  ty := okD_ty h
  sh := okD_sh h (by omega)
  st := okD_str h (by omega)
  el := by
    rintro l rfl
    rw [okD, Bool.and_eq_true] at h
    have := of_decide_eq_true h.1
    exact ⟨by omega, fun e he => okD_ty (List.all_eq_true.mp h.2 e he)⟩
theorem okE_okD {d : D} (h : okE d = true) (n : Nat) : okD n d = true := by
  cases n <;> cases d <;> first | exact h | (simp [okE] at h)
theorem ok_tup {l : List D} {n : Nat} (h : ∀ e ∈ l, okD n e = true) (hl : l.length ≤ 30) : okD (n + 1) (.tup l) = true := by
  rw [okD, decide_eq_true hl, Bool.true_and]
  exact List.all_eq_true.mpr h
theorem ok_lst {l : List D} {n : Nat} (h : ∀ e ∈ l, okD n e = true) (hl : l.length ≤ 30) : okD (n + 1) (.lst l) = true := by
  rw [okD, decide_eq_true hl, Bool.true_and]
  exact List.all_eq_true.mpr h
theorem atI_ok {l : List D} {d : Int} (h0 : 0 ≤ d) (h1 : d < l.length) : ∃ e, atI l d = some e ∧ e ∈ l ∧ ixN l.length d = some d.toNat := by
  have hix : ixN l.length d = some d.toNat := by
    unfold ixN
    rw [if_pos h0, if_pos (by omega)]
  have hk : d.toNat < l.length := by omega
  refine ⟨l[d.toNat], ?_, List.getElem_mem hk, hix⟩
  unfold atI
  rw [hix]
  simp [hk]
theorem draw' {g : List GO} {p n : Nat} (k : Int) (hP : Purse g p n) (hn : n < 1000000) (hk : 0 < k := by decide) (hk2 : k ≤ 1000000000 := by decide) : ∃ d g', zDraw [.glb p, .int k] g = .ok (.int d) ⟨[], g'⟩ ∧ 0 ≤ d ∧ d < k ∧ Purse g' p (n + 1) := draw_ok hP hn hk hk2
theorem set_mem {l : List D} {i : Nat} {x y : D} (h : y ∈ l.set i x) : y ∈ l ∨ y = x := List.mem_or_eq_of_mem_set h
theorem cut_mem {l : List D} {lo hi : Option Int} {x : D} (h : x ∈ cutD l lo hi) : x ∈ l := List.mem_of_mem_drop (List.mem_of_mem_take h)
theorem cut_len (l : List D) (lo hi : Option Int) : (cutD l lo hi).length ≤ l.length := by
  unfold cutD
  rw [List.length_take, List.length_drop]
  omega
theorem pow30 (s : S) : dPow (.int 10) (.int 30) s = .ok (.int (10 ^ 30)) s := by
  unfold dPow
  simp only
  rw [gd_of (by decide)]
  rfl
theorem seq_nx {f g : Stm} {ρ ρ1 : Rho} {s s1 : S} (h : f ρ s = .nx ρ1 s1) : sSeq f g ρ s = g ρ1 s1 := by
  unfold sSeq
  rw [h]
  rfl
theorem if_f {c : Bx} {f g : Stm} {ρ : Rho} {s s1 : S} (h : c ρ s = .ok false s1) : sIf c f g ρ s = g ρ s1 := by
  unfold sIf
  rw [h]
  rfl
end Z

/-! Z18: lists that may change while they are walked; isinstance of an object of the whole. -/
namespace Z
open PySem L2
/-- a list that changes, found by what the statement read once -/
def forGoM (look : S → Option (List D)) (T : Tg) (b : Stm) : Nat → Nat → Stm
  | 0, _, _, _ => .bad
  | k + 1, i, ρ, s => match look s with
    | some l => match l[i]? with
      | some d => match T.put d ρ with
        | some ρ' => (b ρ' s).loop (forGoM look T b k (i + 1))
        | none => .bad
      | none => .nx ρ s
    | none => .bad
def lookG (d : D) (s : S) : Option (List D) := match d with
  | .lst l => some l
  | d => match atG d s with
    | some (_, l) => some l
    | none => none
def sForG (n : Nat) (T : Tg) (f : Ex) (b : Stm) : Stm := fun ρ s => (f ρ s).toS ρ fun d s => match lookG d s with
  | some _ => forGoM (lookG d) T b n 0 ρ s
  | none => .bad
theorem lookG_get {C : Cn} {W : Wd} {s : S} {H : Hp} {d : D} {v : V} {l : List D} (sm : Sim C W s H) (r : Rep C W d v) (h : lookG d s = some l) : ∃ a vs, v = .ref a ∧ H a = some (.lst vs) ∧ RepL C W l vs := by
  unfold lookG at h
  split at h
  · cases h
    rw [Rep] at r
    obtain ⟨a, vs, h1, h2, h3⟩ := r
    exact ⟨a, vs, h1, sm.sub _ _ h2, h3⟩
  · split at h
    · rename_i n l' hl
      cases h
      obtain ⟨a, vs, h1, _, _, h4, h5⟩ := atG_get sm r hl
      exact ⟨a, vs, h1, h4, h5⟩
    · cases h
section
variable {X : Cx} {C : Cn} {Wx : WX} {tg iter : Expr} {body : List Stmt} {pos : Pos} {T : Tg} {f : Ex} {b : Stm}
theorem zs_forG (n : Nat) (hc : X.calm = true) (he : PE X iter (tE C Wx f)) (hg : PG X tg (tG C T)) (hb : PSs X body (tS C Wx b)) (hp : PassesOwn (model X.prog X.w) X.A X.env X.xe) (hs : ∀ x, foldedSetIterable iter X.env x = pure x := by intro _; rfl) :
    PS X (.For tg iter body [] pos) (tS C Wx (sForG n T f b)) :=
  ps_imp (ps_for hp hc (pi_list he) hg hb hs) fun D σ H ⟨ρ, W, s, er, sm, o⟩ => ⟨ρ, W, s, er, sm, Out.mono (OutS.split (P := Rep C) er o) (by
    rintro v H1 ⟨W1, s1, d, e1, sm1, r1, o1⟩
    split at o1
    · rename_i l0 hl0
      obtain ⟨a, vs0, rfl, hu0, q0⟩ := lookG_get sm1 r1 hl0
      refine ⟨a, rfl, ⟨_, SqL.of hu0⟩, fun i m σ' H' => ∃ ρ W s, Rep C W d (.ref a) ∧ EnvR C W ρ σ' ∧ Sim C W s H' ∧ OutS C Wx W H' D (forGoM (lookG d) T b m i ρ s), ⟨n, ρ, W1, s1, r1, er.mono e1, sm1, o1⟩, ?_⟩
      rintro i m σ2 H2 ⟨ρ2, W2, s2, r2, er2, sm2, o2⟩
      cases m with
      | zero => exact o2.elim
      | succ m =>
        rw [forGoM] at o2
        cases zl : lookG d s2 with
        | none => rw [zl] at o2; exact o2.elim
        | some l =>
          rw [zl] at o2
          obtain ⟨a', vs, ea, hu, q⟩ := lookG_get sm2 r2 zl
          cases ea
          cases zi : l[i]? with
          | none =>
            simp only [zi] at o2
            left
            refine ⟨⟨vs, SqL.of hu, ?_⟩, o2 W2 σ2 H2 (Ext.refl _ _) sm2 er2⟩
            rw [← q.length]
            exact List.getElem?_eq_none_iff.mp zi
          | some x =>
            simp only [zi] at o2
            right
            obtain ⟨xv, hx1, hx2⟩ := q.get zi
            refine ⟨⟨vs, xv, SqL.of hu, hx1⟩, fun σ' H' => ∃ ρ W s, Rep C W d (.ref a) ∧ EnvR C W ρ σ' ∧ Sim C W s H' ∧ OutS C Wx W H' D (forGoM (lookG d) T b m (i + 1) ρ s), fun σ' H' nn => ⟨m, Nat.lt_succ_self _, nn⟩, fun y H' yy => ?_⟩
            obtain ⟨ey, yy⟩ := yy
            subst ey
            have := yy vs (SqL.of hu)
            rw [hx1] at this
            cases this
            refine ⟨ρ2, W2, s2, x, er2, sm2, hx2, ?_⟩
            cases zp : T.put x ρ2 with
            | none => simp only [zp] at o2; exact o2
            | some ρ' =>
              simp only [zp] at o2
              exact fun σ3 er3 _ => ⟨ρ', W2, s2, er3, sm2, OutS.loop o2 fun W' σ' H' ρ s e sm er o => ⟨ρ, W', s, r2.mono e.le, er, sm, o⟩⟩
    · exact o1.elim)⟩
end
def tyS (s : S) (d : D) : Option String := match d with
  | .glb n => match s.g[n]? with
    | some (.lst _) => some "list"
    | _ => none
  | d => tyD d
def eIsiS (T : String) (f : Ex) : Ex := fun ρ s => (f ρ s).bind fun d s => match tyS s d with
  | some t => .ok (.bl (isiB T t)) s
  | none => .bad
theorem tyS_x {X : Cx} {C : Cn} (hK : X.K = C.K) {W : Wd} {H : Hp} {s : S} (sm : Sim C W s H) {d : D} {v : V} {t : String} (h : Rep C W d v) (e : tyS s d = some t) : TyX X.K H v (.type t) := by
  cases d with
  | glb n =>
    unfold tyS at e
    simp only at e
    split at e
    · rename_i l hl
      cases e
      rw [Rep] at h
      obtain ⟨a, rfl, q⟩ := h
      obtain ⟨u, hu, vs, rfl, _⟩ := sm.gv n a _ q hl
      exact .base (.lst hu)
    · cases e
  | _ => exact tyD_x hK sm h e
theorem tyS_cases {s : S} {d : D} {t : String} (h : tyS s d = some t) : t = "NoneType" ∨ t = "bool" ∨ t = "int" ∨ t = "str" ∨ t = "tuple" ∨ t = "list" := by
  cases d with
  | glb n =>
    unfold tyS at h
    simp only at h
    split at h
    · cases h
      simp
    · cases h
  | _ => first | (simp only [tyS, tyD] at h; cases h; simp) | (simp [tyS, tyD] at h)
section
variable {X : Cx} {C : Cn}
theorem ze_isiS (hK : X.K = C.K) {Wx : WX} {e : Expr} {f : Ex} {T : String} {y : Str} {p p2 pos : Pos} (hT : T = "int" ∨ T = "bool" ∨ T = "str" ∨ T = "tuple" ∨ T = "list" ∨ T = "dict") (he : PE X e (tE C Wx f)) (hg : Gl X "isinstance") (hm : X.mg "isinstance" = none) (hy : PE X (.Name y p2) (tC (.ty T)))
    (h1 : starEach [e, .Name y p2] X.env = (false, eval e X.env) :: starEach [.Name y p2] X.env := by rfl) (h2 : starEach [.Name y p2] X.env = (false, eval (.Name y p2) X.env) :: starEach [] X.env := by rfl) (hpl : (backTo pos (starEach [.Name y p2] X.env)).any (·.1) = false := by rfl) :
    PE X (.Call (.Name "isinstance" p) [e, .Name y p2] [] pos) (tE C Wx (eIsiS T f)) :=
  pe_imp (pe_callB call_isi hg hm (by decide +kernel) (pa_cons he (pa_cons hy pa_nil h2) h1) (he := h1) (hpl := hpl)) fun σ H Q ⟨ρ, W, s, er, sm, o⟩ => ⟨ρ, W, s, er, sm, Out.mono (Out.bind (P := Rep C) o) (by
    rintro v H1 ⟨W1, s1, d, e1, sm1, r1, o1⟩
    split at o1
    · rename_i t ht
      exact ⟨v, .ty T, .type t, .type T, isiB T t, rfl, .ty T, tyS_x hK sm1 r1 ht, kit_ty (isi_kit hT (tyS_cases ht)), o1.now sm1 (by rw [Rep])⟩
    · exact o1.elim)⟩
end

/-- the purse at p with its cells at i -/
structure PurseI (g : List GO) (p i n : Nat) : Prop where
  ne : i ≠ p
  ex : ∃ (cells : List Int) (w : Int), g[p]? = some (.lst [.glb i, .int w]) ∧ g[i]? = some (.lst (cells.map D.int)) ∧ cells ≠ [] ∧ 0 ≤ w ∧ w ≤ (n : Nat)
theorem drawI {g : List GO} {p i n : Nat} (k : Int) (hP : PurseI g p i n) (hn : n < 1000000) (hk : 0 < k := by decide) (hk2 : k ≤ 1000000000 := by decide) :
    ∃ d g', zDraw [.glb p, .int k] g = .ok (.int d) ⟨[], g'⟩ ∧ 0 ≤ d ∧ d < k ∧ PurseI g' p i (n + 1) ∧ g'.length = g.length ∧ ∀ q, q ≠ p → q ≠ i → g'[q]? = g[q]? := by
  obtain ⟨cells, w, hp, hc, hne, hw, hw2⟩ := hP.ex
  have hip := hP.ne
  have hl : (0 : Int) < (cells.length : Nat) := by
    cases cells with
    | nil => exact absurd rfl hne
    | cons a l => simp
  have hj0 := Int.emod_nonneg w (by omega : ((cells.length : Nat) : Int) ≠ 0)
  have hj1 := Int.emod_lt_of_pos w hl
  obtain ⟨j, hj, hjl⟩ : ∃ j : Nat, w % (cells.length : Nat) = (j : Int) ∧ j < cells.length := ⟨(w % (cells.length : Nat)).toNat, by omega, by omega⟩
  have hix : ixN cells.length (j : Int) = some j := by
    unfold ixN
    rw [if_pos (Int.natCast_nonneg j), if_pos (by omega)]
    rfl
  have hat : atI (cells.map D.int) (j : Int) = some (.int cells[j]) := by
    unfold atI
    rw [List.length_map, hix]
    simp [hjl]
  have h21 : ixN 2 1 = some 1 := rfl
  have hset : (g.set p (.lst [.glb i, .int (w + 1)]))[i]? = some (.lst (cells.map D.int)) := by rw [List.getElem?_set_ne (Ne.symm hip)]; exact hc
  have hpl : p < g.length := (List.getElem?_eq_some_iff.mp hp).1
  have hset2 : (g.set p (.lst [.glb i, .int (w + 1)]))[p]? = some (.lst [.glb i, .int (w + 1)]) := List.getElem?_set_self hpl
  by_cases hbig : 1000000000000000000 ≤ cells[j]
  · have hk3 : k.natAbs.log2 < 9000 := Nat.lt_trans ((Nat.log2_lt (by omega)).mpr (by omega : k.natAbs < 2 ^ 30)) (by decide)
    simp only [fnz, sNil, sSeq, sPass, sBrk, sCnt, sEx, sIf, sSet, sRet, sRetN, sAsgP, sAsg, sPar, sAug, sSetL, sFor, view, viewS, eVar, slot, eC, eBin, eUn, eIf, eAnd, eOr, eNot, isBl, eTup, eLst, aNil, aCons, sz1, eSl, oNo, oPart, eCB, eCall, eCallK, callF, pick, eIsi, fIsi, tyD, isiB, eF, eG, lF, fDisp, fCB, bT, bC, bNot, bAnd, bOr, tru, pTp, itemsG, psCons, psNil, pNm, pIxG, pIxL, atG, dAdd, dSub, dMul, dDiv, dMod, dNeg, dIx, ge_i, le_i, gt_i, dIAdd, fLen, fAbs, fMax2, fMin2, fInt, fBool, mulOk_a, mulOk_b, mulOk_c, mulOk_d, Int.reduceLT, Int.reduceLE, Nat.zero_le, Nat.reduceLeDiff, onL, isL, atL, eEqL_at, eWL, wL, hEq, hIn, hIx, eIxL_at, eInL_at, eLenL, eML, eMGo, nowG, mAppend, mPop, eLst, see, dEq, dNe, seqL, fListF, fSl, itR1, itR2, itA, sWh_at, List.getElem?_cons_zero, List.getElem?_cons_succ, List.getElem?_nil, Int.toNat_natCast, pow18, pow9, pow60, pow60_20, List.map_cons, List.map_nil, List.length_cons, List.length_nil, List.length_map, List.cons_append, List.nil_append, List.append_nil, List.replicate_succ, List.replicate_zero, List.set_cons_zero, List.set_cons_succ, List.set_nil, Nat.reduceAdd, Nat.reduceSub, Nat.zero_add, Nat.beq, Nat.sub_self, bind_ok, toS_ok, sure_ok, gd_t, nx_bind, ret_bind, brk_bind, cnt_bind, exc_bind, excF_bind, loop_nx, loop_ret, loop_brk, loop_cnt, String.reduceBEq, beq_self_eq_true, Bool.or_false, Bool.or_true, Bool.false_or, Bool.true_or, Bool.false_and, Bool.and_false, decide_true, decide_false, Bool.and_true, Bool.true_and, Bool.and_self, Bool.not_true, Bool.not_false, zDraw, bDraw, hp, hc, hl, hj, hat, h21, hset, hbig, hix, hk, hk3]
    refine ⟨_, _, rfl, Int.emod_nonneg _ (by omega), Int.emod_lt_of_pos _ hk, ⟨hip, cells.set j (cells[j] / k), w + 1, ?_, ?_, ?_, by omega, by omega⟩, by simp, fun q h1 h2 => by rw [List.getElem?_set_ne (Ne.symm h2), List.getElem?_set_ne (Ne.symm h1)]⟩
    · rw [List.getElem?_set_ne hip]
      exact hset2
    · rw [List.getElem?_set_self (by rw [List.length_set]; exact (List.getElem?_eq_some_iff.mp hc).1), List.map_set]
    · intro z
      have := congrArg List.length z
      simp at this
      exact hne this
  · have hww : mulOk w w = true := mulOk_l (by omega)
    have hk5 : ¬ 1000000000 < k := by omega
    simp only [fnz, sNil, sSeq, sPass, sBrk, sCnt, sEx, sIf, sSet, sRet, sRetN, sAsgP, sAsg, sPar, sAug, sSetL, sFor, view, viewS, eVar, slot, eC, eBin, eUn, eIf, eAnd, eOr, eNot, isBl, eTup, eLst, aNil, aCons, sz1, eSl, oNo, oPart, eCB, eCall, eCallK, callF, pick, eIsi, fIsi, tyD, isiB, eF, eG, lF, fDisp, fCB, bT, bC, bNot, bAnd, bOr, tru, pTp, itemsG, psCons, psNil, pNm, pIxG, pIxL, atG, dAdd, dSub, dMul, dDiv, dMod, dNeg, dIx, ge_i, le_i, gt_i, dIAdd, fLen, fAbs, fMax2, fMin2, fInt, fBool, mulOk_a, mulOk_b, mulOk_c, mulOk_d, Int.reduceLT, Int.reduceLE, Nat.zero_le, Nat.reduceLeDiff, onL, isL, atL, eEqL_at, eWL, wL, hEq, hIn, hIx, eIxL_at, eInL_at, eLenL, eML, eMGo, nowG, mAppend, mPop, eLst, see, dEq, dNe, seqL, fListF, fSl, itR1, itR2, itA, sWh_at, List.getElem?_cons_zero, List.getElem?_cons_succ, List.getElem?_nil, Int.toNat_natCast, pow18, pow9, pow60, pow60_20, List.map_cons, List.map_nil, List.length_cons, List.length_nil, List.length_map, List.cons_append, List.nil_append, List.append_nil, List.replicate_succ, List.replicate_zero, List.set_cons_zero, List.set_cons_succ, List.set_nil, Nat.reduceAdd, Nat.reduceSub, Nat.zero_add, Nat.beq, Nat.sub_self, bind_ok, toS_ok, sure_ok, gd_t, nx_bind, ret_bind, brk_bind, cnt_bind, exc_bind, excF_bind, loop_nx, loop_ret, loop_brk, loop_cnt, String.reduceBEq, beq_self_eq_true, Bool.or_false, Bool.or_true, Bool.false_or, Bool.true_or, Bool.false_and, Bool.and_false, decide_true, decide_false, Bool.and_true, Bool.true_and, Bool.and_self, Bool.not_true, Bool.not_false, zDraw, bDraw, hp, hc, hl, hj, hat, h21, hset, hbig, hix, hk, hww, hk5]
    refine ⟨_, _, rfl, Int.emod_nonneg _ (by omega), Int.emod_lt_of_pos _ hk, ⟨hip, cells, w + 1, hset2, hset, hne, by omega, by omega⟩, by simp, fun q h1 h2 => by rw [List.getElem?_set_ne (Ne.symm h1)]⟩

theorem Purse.at_ {g : List GO} {p n : Nat} (h : Purse g p n) : ∃ i, PurseI g p i n := by
  obtain ⟨i, cs, w, h1, h2, h3, h4, h5, h6⟩ := h.ex
  exact ⟨i, h1, cs, w, h2, h3, h4, h5, h6⟩
theorem PurseI.up {g : List GO} {p i n m : Nat} (h : PurseI g p i n) (hm : n ≤ m) : PurseI g p i m := by
  obtain ⟨h1, cs, w, h2, h3, h4, h5, h6⟩ := h
  exact ⟨h1, cs, w, h2, h3, h4, h5, by omega⟩
theorem PurseI.lt {g : List GO} {p i n : Nat} (h : PurseI g p i n) : p < g.length ∧ i < g.length := by
  obtain ⟨h1, cs, w, h2, h3, _⟩ := h
  exact ⟨(List.getElem?_eq_some_iff.mp h2).1, (List.getElem?_eq_some_iff.mp h3).1⟩
theorem PurseI.same {g g' : List GO} {p i n : Nat} (h : PurseI g p i n) (h1 : g'[p]? = g[p]?) (h2 : g'[i]? = g[i]?) : PurseI g' p i n := by
  obtain ⟨h0, cs, w, a, b, c⟩ := h
  exact ⟨h0, cs, w, by rw [h1]; exact a, by rw [h2]; exact b, c⟩
theorem PurseI.app {g l : List GO} {p i n : Nat} (h : PurseI g p i n) : PurseI (g ++ l) p i n :=
  h.same (List.getElem?_append_left h.lt.1) (List.getElem?_append_left h.lt.2)
theorem PurseI.set {g : List GO} {p i n m : Nat} {o : GO} (h : PurseI g p i n) (h1 : m ≠ p) (h2 : m ≠ i) : PurseI (g.set m o) p i n :=
  h.same (List.getElem?_set_ne h1) (List.getElem?_set_ne h2)
theorem forM_same {look : S → Option (List D)} {T : Tg} {b : Stm} {s : S} {l : List D} (hl : look s = some l) (I : Rho → Prop) (hb : ∀ d ∈ l, ∀ ρ, I ρ → ∃ ρ1, T.put d ρ = some ρ1 ∧ ∃ ρ2, b ρ1 s = .nx ρ2 s ∧ I ρ2) :
    ∀ (k i : Nat) (ρ : Rho), 0 < k → l.length < k + i → I ρ → ∃ ρ', forGoM look T b k i ρ s = .nx ρ' s ∧ I ρ'
  | 0, _, _, h, _, _ => absurd h (Nat.lt_irrefl _)
  | k + 1, i, ρ, _, h2, h3 => by
    rw [forGoM, hl]
    simp only
    cases z : l[i]? with
    | none => exact ⟨ρ, rfl, h3⟩
    | some d =>
      obtain ⟨hi, hd⟩ := List.getElem?_eq_some_iff.mp z
      obtain ⟨ρ1, e1, ρ2, e2, h4⟩ := hb d (hd ▸ List.getElem_mem hi) ρ h3
      obtain ⟨ρ', e3, h5⟩ := forM_same hl I hb k (i + 1) ρ2 (by omega) (by omega) h4
      exact ⟨ρ', by simp only [e1, e2, loop_nx, e3], h5⟩
end Z

/-! Z19: numbers, six of them; ints as data. -/
namespace Z
open PySem L2
def bNum : Stm := sRet (eAnd (eIsi "int" (eVar 0)) (eNot (eIsi "bool" (eVar 0))))
def zNum : FnZ := fnz 1 bNum
def bSix : Stm := sRet (eAnd (eIsi "tuple" (eVar 0)) (eAnd (eBin dEq (eCB fLen (aCons (eVar 0) (aNil))) (eC (.int 6))) (eCB fAll (aCons (eF (fComp (.nm 1) (itA (eVar 0)) (bYes) (eAnd (eCall 1 zNum (aCons (eVar 1) (aNil))) (eBin dGe (eVar 1) (eC (.int 0)))) [1])) (aNil)))))
def zSix : FnZ := fnz 2 bSix
theorem num_ok {d : D} (h : ∃ t, tyD d = some t) (g : List GO) : zNum [d] g = .ok (.bl (isI d)) ⟨[], g⟩ := by
  obtain ⟨t, h⟩ := h
  cases d <;> first | rfl | (simp [tyD] at h)
theorem tup_six {l : List D} (h : ∀ d ∈ l, ∃ t, tyD d = some t) (hz : l.length ≤ 1000) (g : List GO) : zSix [.tup l] g = .ok (.bl (decide (l.length = 6) && l.all isNN)) ⟨[], g⟩ := by
  have hc : compGo (.nm 1) bYes (eAnd (eCall 1 zNum (aCons (eVar 1) aNil)) (eBin dGe (eVar 1) (eC (.int 0)))) [.v (.tup l), .un] l ⟨[], g⟩ = .ok (l.map fun d => .bl (isNN d)) ⟨[], g⟩ := by
    refine compGo_map (f := fun d => .bl (isNN d)) l fun d hd => ⟨[.v (.tup l), .v d], rfl, rfl, ?_⟩
    have hn := num_ok (h d hd) g
    cases d with
    | int i => simp only [fnz, sNil, sSeq, sPass, sBrk, sCnt, sEx, sIf, sSet, sRet, sRetN, sAsgP, sAsg, sPar, sAug, sSetL, sFor, view, viewS, eVar, slot, eC, eBin, eUn, eIf, eAnd, eOr, eNot, isBl, eTup, eLst, aNil, aCons, sz1, eSl, oNo, oPart, eCB, eCall, eCallK, callF, pick, eIsi, fIsi, tyD, isiB, eF, eG, lF, fDisp, fCB, bT, bC, bNot, bAnd, bOr, tru, pTp, itemsG, psCons, psNil, pNm, pIxG, pIxL, atG, dAdd, dSub, dMul, dDiv, dMod, dNeg, dIx, ge_i, le_i, gt_i, dIAdd, fLen, fAbs, fMax2, fMin2, fInt, fBool, mulOk_a, mulOk_b, mulOk_c, mulOk_d, Int.reduceLT, Int.reduceLE, Nat.zero_le, Nat.reduceLeDiff, onL, isL, atL, eEqL_at, eWL, wL, hEq, hIn, hIx, eIxL_at, eInL_at, eLenL, eML, eMGo, nowG, mAppend, mPop, eLst, see, dEq, dNe, seqL, fListF, fSl, itR1, itR2, itA, sWh_at, List.getElem?_cons_zero, List.getElem?_cons_succ, List.getElem?_nil, Int.toNat_natCast, pow18, pow9, pow60, pow60_20, List.map_cons, List.map_nil, List.length_cons, List.length_nil, List.length_map, List.cons_append, List.nil_append, List.append_nil, List.replicate_succ, List.replicate_zero, List.set_cons_zero, List.set_cons_succ, List.set_nil, Nat.reduceAdd, Nat.reduceSub, Nat.zero_add, Nat.beq, Nat.sub_self, bind_ok, toS_ok, sure_ok, gd_t, nx_bind, ret_bind, brk_bind, cnt_bind, exc_bind, excF_bind, loop_nx, loop_ret, loop_brk, loop_cnt, String.reduceBEq, beq_self_eq_true, Bool.or_false, Bool.or_true, Bool.false_or, Bool.true_or, Bool.false_and, Bool.and_false, decide_true, decide_false, Bool.and_true, Bool.true_and, Bool.and_self, Bool.not_true, Bool.not_false, hn, isI, isNN]
    | _ => simp only [fnz, sNil, sSeq, sPass, sBrk, sCnt, sEx, sIf, sSet, sRet, sRetN, sAsgP, sAsg, sPar, sAug, sSetL, sFor, view, viewS, eVar, slot, eC, eBin, eUn, eIf, eAnd, eOr, eNot, isBl, eTup, eLst, aNil, aCons, sz1, eSl, oNo, oPart, eCB, eCall, eCallK, callF, pick, eIsi, fIsi, tyD, isiB, eF, eG, lF, fDisp, fCB, bT, bC, bNot, bAnd, bOr, tru, pTp, itemsG, psCons, psNil, pNm, pIxG, pIxL, atG, dAdd, dSub, dMul, dDiv, dMod, dNeg, dIx, ge_i, le_i, gt_i, dIAdd, fLen, fAbs, fMax2, fMin2, fInt, fBool, mulOk_a, mulOk_b, mulOk_c, mulOk_d, Int.reduceLT, Int.reduceLE, Nat.zero_le, Nat.reduceLeDiff, onL, isL, atL, eEqL_at, eWL, wL, hEq, hIn, hIx, eIxL_at, eInL_at, eLenL, eML, eMGo, nowG, mAppend, mPop, eLst, see, dEq, dNe, seqL, fListF, fSl, itR1, itR2, itA, sWh_at, List.getElem?_cons_zero, List.getElem?_cons_succ, List.getElem?_nil, Int.toNat_natCast, pow18, pow9, pow60, pow60_20, List.map_cons, List.map_nil, List.length_cons, List.length_nil, List.length_map, List.cons_append, List.nil_append, List.append_nil, List.replicate_succ, List.replicate_zero, List.set_cons_zero, List.set_cons_succ, List.set_nil, Nat.reduceAdd, Nat.reduceSub, Nat.zero_add, Nat.beq, Nat.sub_self, bind_ok, toS_ok, sure_ok, gd_t, nx_bind, ret_bind, brk_bind, cnt_bind, exc_bind, excF_bind, loop_nx, loop_ret, loop_brk, loop_cnt, String.reduceBEq, beq_self_eq_true, Bool.or_false, Bool.or_true, Bool.false_or, Bool.true_or, Bool.false_and, Bool.and_false, decide_true, decide_false, Bool.and_true, Bool.true_and, Bool.and_self, Bool.not_true, Bool.not_false, hn, isI, isNN]
  have z1 := sz_of (m := l.length) (n := 0) (by omega)
  have hb := boolsOf_map isNN l
  by_cases h6 : l.length = 6
  · have h6' : ((l.length : Nat) : Int) = 6 := by omega
    simp only [fnz, sNil, sSeq, sPass, sBrk, sCnt, sEx, sIf, sSet, sRet, sRetN, sAsgP, sAsg, sPar, sAug, sSetL, sFor, view, viewS, eVar, slot, eC, eBin, eUn, eIf, eAnd, eOr, eNot, isBl, eTup, eLst, aNil, aCons, sz1, eSl, oNo, oPart, eCB, eCall, eCallK, callF, pick, eIsi, fIsi, tyD, isiB, eF, eG, lF, fDisp, fCB, bT, bC, bNot, bAnd, bOr, tru, pTp, itemsG, psCons, psNil, pNm, pIxG, pIxL, atG, dAdd, dSub, dMul, dDiv, dMod, dNeg, dIx, ge_i, le_i, gt_i, dIAdd, fLen, fAbs, fMax2, fMin2, fInt, fBool, mulOk_a, mulOk_b, mulOk_c, mulOk_d, Int.reduceLT, Int.reduceLE, Nat.zero_le, Nat.reduceLeDiff, onL, isL, atL, eEqL_at, eWL, wL, hEq, hIn, hIx, eIxL_at, eInL_at, eLenL, eML, eMGo, nowG, mAppend, mPop, eLst, see, dEq, dNe, seqL, fListF, fSl, itR1, itR2, itA, sWh_at, List.getElem?_cons_zero, List.getElem?_cons_succ, List.getElem?_nil, Int.toNat_natCast, pow18, pow9, pow60, pow60_20, List.map_cons, List.map_nil, List.length_cons, List.length_nil, List.length_map, List.cons_append, List.nil_append, List.append_nil, List.replicate_succ, List.replicate_zero, List.set_cons_zero, List.set_cons_succ, List.set_nil, Nat.reduceAdd, Nat.reduceSub, Nat.zero_add, Nat.beq, Nat.sub_self, bind_ok, toS_ok, sure_ok, gd_t, nx_bind, ret_bind, brk_bind, cnt_bind, exc_bind, excF_bind, loop_nx, loop_ret, loop_brk, loop_cnt, String.reduceBEq, beq_self_eq_true, Bool.or_false, Bool.or_true, Bool.false_or, Bool.true_or, Bool.false_and, Bool.and_false, decide_true, decide_false, Bool.and_true, Bool.true_and, Bool.and_self, Bool.not_true, Bool.not_false, zSix, bSix, h6', fComp, wipeR, hc, z1, fAll, hb, all_id]
    rw [h6]
    simp
  · have h6' : ¬ ((l.length : Nat) : Int) = 6 := by omega
    simp only [fnz, sNil, sSeq, sPass, sBrk, sCnt, sEx, sIf, sSet, sRet, sRetN, sAsgP, sAsg, sPar, sAug, sSetL, sFor, view, viewS, eVar, slot, eC, eBin, eUn, eIf, eAnd, eOr, eNot, isBl, eTup, eLst, aNil, aCons, sz1, eSl, oNo, oPart, eCB, eCall, eCallK, callF, pick, eIsi, fIsi, tyD, isiB, eF, eG, lF, fDisp, fCB, bT, bC, bNot, bAnd, bOr, tru, pTp, itemsG, psCons, psNil, pNm, pIxG, pIxL, atG, dAdd, dSub, dMul, dDiv, dMod, dNeg, dIx, ge_i, le_i, gt_i, dIAdd, fLen, fAbs, fMax2, fMin2, fInt, fBool, mulOk_a, mulOk_b, mulOk_c, mulOk_d, Int.reduceLT, Int.reduceLE, Nat.zero_le, Nat.reduceLeDiff, onL, isL, atL, eEqL_at, eWL, wL, hEq, hIn, hIx, eIxL_at, eInL_at, eLenL, eML, eMGo, nowG, mAppend, mPop, eLst, see, dEq, dNe, seqL, fListF, fSl, itR1, itR2, itA, sWh_at, List.getElem?_cons_zero, List.getElem?_cons_succ, List.getElem?_nil, Int.toNat_natCast, pow18, pow9, pow60, pow60_20, List.map_cons, List.map_nil, List.length_cons, List.length_nil, List.length_map, List.cons_append, List.nil_append, List.append_nil, List.replicate_succ, List.replicate_zero, List.set_cons_zero, List.set_cons_succ, List.set_nil, Nat.reduceAdd, Nat.reduceSub, Nat.zero_add, Nat.beq, Nat.sub_self, bind_ok, toS_ok, sure_ok, gd_t, nx_bind, ret_bind, brk_bind, cnt_bind, exc_bind, excF_bind, loop_nx, loop_ret, loop_brk, loop_cnt, String.reduceBEq, beq_self_eq_true, Bool.or_false, Bool.or_true, Bool.false_or, Bool.true_or, Bool.false_and, Bool.and_false, decide_true, decide_false, Bool.and_true, Bool.true_and, Bool.and_self, Bool.not_true, Bool.not_false, zSix, bSix, h6', h6, fComp, wipeR, hc, z1, fAll, hb, all_id]
/-- six numbers, none below zero -/
def six (d : D) : Bool := match d with
  | .tup l => decide (l.length = 6) && l.all isNN
  | _ => false
theorem six_ok {d : D} (h : Good d) (g : List GO) : zSix [d] g = .ok (.bl (six d)) ⟨[], g⟩ := by
  obtain ⟨t, ht⟩ := h.ty
  cases d with
  | tup l => exact tup_six (h.el l rfl).2 (h.el l rfl).1 g
  | glb n => simp [tyD] at ht
  | obj c l => simp [tyD] at ht
  | dic a b => simp [tyD] at ht
  | fn n => simp [tyD] at ht
  | xcp c l => simp [tyD] at ht
  | scr l => simp [tyD] at ht
  | wtp l => simp [tyD] at ht
  | _ => rfl

theorem ints_of : ∀ {l : List D}, l.all isI = true → ∃ ns : List Int, l = ns.map D.int
  | [], _ => ⟨[], rfl⟩
  | d :: l, h => by
    rw [List.all_cons, Bool.and_eq_true] at h
    obtain ⟨ns, rfl⟩ := ints_of h.2
    cases d with
    | int i => exact ⟨i :: ns, rfl⟩
    | _ => cases h.1
theorem ints_isI (ns : List Int) : (ns.map D.int).all isI = true := by
  rw [List.all_map]
  exact List.all_eq_true.mpr fun _ _ => rfl
theorem ints_sh (ns : List Int) : ∀ d ∈ ns.map D.int, Sh d := fun d hd => by
  obtain ⟨i, _, rfl⟩ := List.mem_map.mp hd
  exact ⟨by simp [toP, PyData.canLay0], by simp [toP, PyData.depth]⟩
theorem eqI : ∀ ns : List Int, PyData.eqvAll (toPs (ns.map D.int)) (toPs (ns.map D.int)) = true
  | [] => by rw [List.map_nil, toPs, PyData.eqvAll]
  | n :: ns => by
    rw [List.map_cons, toPs, PyData.eqvAll, toP, PyData.eqv, eqI ns, beq_self_eq_true]
    rfl
theorem eqD_ints (ns : List Int) : eqD (.tup (ns.map D.int)) (.tup (ns.map D.int)) = true := by
  unfold eqD
  rw [toP, PyData.eqv]
  exact eqI ns
theorem eqD_intsL (ns : List Int) : eqD (.lst (ns.map D.int)) (.lst (ns.map D.int)) = true := by
  unfold eqD
  rw [toP, PyData.eqv]
  exact eqI ns
theorem whole_bools {i : Nat} {zw : FnZ} {ρ : Rho} {s : S} {l : List D} (hw : ∀ d ∈ l, ∃ ρ', Tg.put (.nm i) d ρ = some ρ' ∧ eCall 1 zw (aCons (eVar i) aNil) ρ' s = .ok (.bl (isI d)) s) :
    compGo (.nm i) bYes (eCall 1 zw (aCons (eVar i) aNil)) ρ l s = .ok (l.map fun d => .bl (isI d)) s :=
  compGo_map (f := fun d => .bl (isI d)) l fun d hd => let ⟨ρ', h1, h2⟩ := hw d hd; ⟨ρ', h1, rfl, h2⟩
/-- a comprehension of draws -/
theorem comp_draws {i p : Nat} {e : Ex} {ρ : Rho} {B : Int → Prop} : ∀ (l : List D) (g : List GO) (n : Nat), Purse g p n → n + l.length < 1000000 →
    (∀ d ∈ l, ∀ (g : List GO) (n : Nat), Purse g p n → n < 1000000 → ∃ v g', e (ρ.set i (.v d)) ⟨[], g⟩ = .ok (.int v) ⟨[], g'⟩ ∧ B v ∧ Purse g' p (n + 1)) →
    ∃ (vs : List Int) (g' : List GO), compGo (.nm i) bYes e ρ l ⟨[], g⟩ = .ok (vs.map D.int) ⟨[], g'⟩ ∧ vs.length = l.length ∧ (∀ v ∈ vs, B v) ∧ Purse g' p (n + l.length)
  | [], g, n, hP, _, _ => ⟨[], g, rfl, rfl, (fun _ h => by cases h), hP⟩
  | d :: l, g, n, hP, hn, st => by
    rw [List.length_cons] at hn
    obtain ⟨v, g1, e1, b1, P1⟩ := st d (List.mem_cons_self ..) g n hP (by omega)
    obtain ⟨vs, g2, e2, l2, b2, P2⟩ := comp_draws l g1 (n + 1) P1 (by omega) fun d hd => st d (List.mem_cons_of_mem _ hd)
    refine ⟨v :: vs, g2, ?_, by simp [l2], fun x hx => ?_, by rw [List.length_cons, show n + (l.length + 1) = n + 1 + l.length by omega]; exact P2⟩
    · rw [compGo, Tg.put]
      simp only [bYes, bind_ok, e1, e2, List.map_cons]
    · rcases List.mem_cons.mp hx with rfl | hx
      · exact b1
      · exact b2 x hx
end Z

/-! Z20: methods of tuples that only read: index. -/
namespace Z
open PySem PySem.Spec PyProof.Rows L2
def tyTup (K : PySem.W.Frag) (x : V) (H : Hp) : Prop := ∃ a xs, x = .ref a ∧ SqP K H a xs
section
variable {X : Cx}
theorem ty_tup : TyOk X "tuple" (tyTup X.K) := by
  intro pins σ H s x v I r h
  obtain ⟨a, xs, rfl, h⟩ := h
  cases r
  obtain ⟨its, ob, g, c, d, _⟩ := tup_plain I h
  exact ⟨⟨ob, g, c⟩, fun b e => by cases e; exact ⟨ob, g, d⟩⟩
def rTIx (K : PySem.W.Frag) : V → List V → Hp → VK → Prop := fun x xs H Q => ∃ (a : Addr) (y : V) (d : PyData) (vs : List V) (ds : List PyData) (j : Nat) (z : PyData), x = V.ref a ∧ xs = [y] ∧ SqP K H a vs ∧ DpAll K H vs ds ∧ Dp K H y d ∧
  PyData.canLayAll0 ds = true ∧ SeqAt.shaped d = true ∧ ds[j]? = some z ∧ PyData.eqv z d = true ∧ (∀ (m : Nat) (w : PyData), m < j → ds[m]? = some w → PyData.eqv w d = false) ∧ Q (.int (j : Nat)) H
theorem mt_tindex (hu : X.A.units + 65 < cLine) : MtR X "tuple.index" (rTIx X.K) := by
  intro pins s σ H x xs v us Q I rx rxs h
  obtain ⟨a, y, d, vs, ds, j, z, rfl, rfl, hl, ha, hy, lay, sd, hz, heq, hno, q⟩ := h
  cases rx
  obtain ⟨uy, rfl, ry⟩ := rxs.one
  obtain ⟨bs, ry2⟩ := Dp.reads I d y uy hy ry
  have room : X.A.units + 1 + min (PyData.depthAll ds) d.depth < cLine := room_in_shaped sd hu
  obtain ⟨its, ⟨cls, dd, data, sls⟩, g, hc, hd, rv, ⟨n, hdat⟩, hlen⟩ := tup_plain I hl
  simp only at hc hd hdat
  subst hc hd hdat
  obtain ⟨as, rd⟩ := Dp.readsAll I ds vs its ha rv
  have e1 : its.length = ds.length := SeqAt.ReadsAll.length ds its as rd
  have e2 : its.map (SeqAt.readOf s.heap) = ds := SeqAt.readsAll_map ds its as lay rd
  have hjd := (List.getElem?_eq_some_iff.mp hz).1
  have hj : j < its.toArray.size := by rw [List.size_toArray]; omega
  have look : ∀ (m : Nat) (hm : m < its.toArray.size) (w : PyData), ds[m]? = some w → SeqAt.readOf s.heap its.toArray[m] = w := by
    intro m hm w hw
    have hm2 : m < its.length := by simpa using hm
    rw [← e2, List.getElem?_map, List.getElem?_eq_getElem hm2] at hw
    simpa using hw
  refine call_meets PySem.F.slot_tuple_index ⟨_, g, rfl⟩ PySem.F.entry_tuple_index (PySem.F.args_tuple_index_2 _ _)
    (TI.tuple_indexAt a its.toArray n none sls uy (fun u => PyData.eqv (SeqAt.readOf s.heap u) d) j hj ?_ ?_) ⟨g, SeqAt.items_eqAt (vs := its.toArray) (show ReadsAll s.heap its.toArray.toList ds as from rd) ry2 lay (SeqAt.canLay_of_shaped sd) room, ?_⟩
  · show PyData.eqv (SeqAt.readOf s.heap its.toArray[j]) d = true
    rw [look j hj z hz]
    exact heq
  · intro m hm hmj
    have hm2 : m < ds.length := by rw [← e1]; simpa using hm
    show PyData.eqv (SeqAt.readOf s.heap its.toArray[m]) d = false
    rw [look m hm ds[m] (List.getElem?_eq_getElem hm2)]
    exact hno m _ hmj (List.getElem?_eq_getElem hm2)
  · exact ⟨.int (j : Nat), H, I.tok _, ⟨_, rfl⟩, q⟩
/-- the first place of an equal one -/
def ixOf (l : List D) (d : D) : Option Nat := l.findIdx? fun z => eqD z d
def eTIx (f : Ex) (a : Ax) : Ex := fun ρ s => (f ρ s).bind fun o s => match o with
  | .tup l => (a ρ s).bind fun ds s => match ds with
    | [d] => gd (shp (.tup l) && shp d) (match ixOf l d with
      | some j => .ok (.int (j : Nat)) s
      | none => .bad)
    | _ => .bad
  | _ => .bad
theorem ze_tix {C : Cn} {Wx : WX} {k : Nat} {o e : Expr} {f : Ex} {a : Ax} {apos pos : Pos} (hK : X.K = C.K) (hr : Room k X.A) (ho : PE X o (tE C Wx f)) (ha : PA X [e] (tA C Wx a))
    (hbase : attributeBase o "index" X.env (eval o X.env) = eval o X.env := by rfl)
    (hfew : ((backTo pos (starEach [e] X.env)).all (fun x => !x.1) && (backToKw pos (keywordEach [] X.env)).all (fun x => x.1.isSome)
      && decide ([e].length + ([] : List Keyword).length + (if ([] : List Keyword).isEmpty then 0 else 1) < 30)) = true := by rfl)
    (hline : (apos.endLine == pos.line) = true := by rfl) (hs : starEach [e] X.env = (false, eval e X.env) :: starEach [] X.env := by rfl) (hplain : (backTo pos (starEach [] X.env)).any (·.1) = false := by rfl) :
    PE X (.Call (.Attribute o "index" apos) [e] [] pos) (tE C Wx (eTIx f a)) :=
  pe_imp (pe_mG ty_tup PySem.F.plainAttrs_tuple PySem.F.slot_tuple_index PySem.F.type_tuple_index (mt_tindex (by have := hr.un; omega)) ho ha hbase hfew hline hs hplain) fun σ H Q ⟨ρ, W, s, er, sm, o⟩ => ⟨ρ, W, s, er, sm, Out.mono (Out.bind (P := Rep C) o) (by
    rintro v H1 ⟨W1, s1, d, e1, sm1, r1, o1⟩
    split at o1
    · rename_i l
      have r0 := r1
      rw [Rep] at r1
      obtain ⟨ad, vs, rfl, q1, t1⟩ := r1
      refine ⟨⟨ad, vs, rfl, by rw [hK]; exact sqp_mono sm1.sub q1⟩, ρ, W1, s1, er.mono e1, sm1, Out.mono (Out.bind (P := RepL C) o1) ?_⟩
      rintro ys H2 ⟨W2, s2, ds, e2, sm2, r2, o2⟩
      split at o2
      · rename_i x
        obtain ⟨y, rfl, ry⟩ := r2.one
        obtain ⟨c, o2⟩ := gd_ok o2
        simp only [Bool.and_eq_true] at c
        split at o2
        · rename_i j hj
          have lay := shp_lay c.1
          rw [toP, PyData.canLay0] at lay
          unfold ixOf at hj
          obtain ⟨hjl, h1, h2⟩ := List.findIdx?_eq_some_iff_getElem.mp hj
          have at_ : ∀ m (hm : m < l.length), (toPs l)[m]? = some (toP l[m]) := fun m hm => by
            rw [toPs_map, List.getElem?_map, List.getElem?_eq_getElem hm]
            rfl
          refine ⟨ad, y, toP x, vs, toPs l, j, toP l[j], rfl, rfl, by rw [hK]; exact sqp_mono sm2.sub (sqp_mono e2.le.hs q1), by rw [hK]; exact RepL.dp sm2.sub l vs (t1.mono e2.le) lay, by rw [hK]; exact Rep.dp sm2.sub _ _ ry (shp_lay c.2), lay, c.2, at_ j hjl, h1, fun m w hm hw => ?_, o2.now sm2 (by rw [Rep])⟩
          have hml : m < l.length := by omega
          rw [at_ m hml] at hw
          cases hw
          have := h2 m hm
          exact Bool.eq_false_iff.mpr this
        · exact o2.elim
      · exact o2.elim
    · exact o1.elim)⟩
end
end Z

/-! Z21: count, of a tuple and of a list. -/
namespace Z
open PySem PySem.Spec PyProof.Rows L2
section
variable {X : Cx}
def rCt (K : PySem.W.Frag) (S : Hp → Addr → List V → Prop) : V → List V → Hp → VK → Prop := fun x xs H Q => ∃ (a : Addr) (y : V) (d : PyData) (vs : List V) (ds : List PyData), x = V.ref a ∧ xs = [y] ∧ S H a vs ∧ DpAll K H vs ds ∧ Dp K H y d ∧
  PyData.canLayAll0 ds = true ∧ SeqAt.shaped d = true ∧ Q (.int (ds.countP fun z => PyData.eqv z d : Nat)) H
theorem count_map {its : List Value} {ds : List PyData} {d : PyData} {h : Heap} (e : its.map (SeqAt.readOf h) = ds) : its.countP (fun u => PyData.eqv (SeqAt.readOf h u) d) = ds.countP fun z => PyData.eqv z d := by
  rw [← e, List.countP_map]
  rfl
theorem mt_tcount (hu : X.A.units + 65 < cLine) : MtR X "tuple.count" (rCt X.K fun H a vs => SqP X.K H a vs) := by
  intro pins s σ H x xs v us Q I rx rxs h
  obtain ⟨a, y, d, vs, ds, rfl, rfl, hl, ha, hy, lay, sd, q⟩ := h
  cases rx
  obtain ⟨uy, rfl, ry⟩ := rxs.one
  obtain ⟨bs, ry2⟩ := Dp.reads I d y uy hy ry
  have room : X.A.units + 1 + min (PyData.depthAll ds) d.depth < cLine := room_in_shaped sd hu
  obtain ⟨its, ⟨cls, dd, data, sls⟩, g, hc, hd, rv, ⟨n, hdat⟩, hlen⟩ := tup_plain I hl
  simp only at hc hd hdat
  subst hc hd hdat
  obtain ⟨as, rd⟩ := Dp.readsAll I ds vs its ha rv
  have e2 : its.map (SeqAt.readOf s.heap) = ds := SeqAt.readsAll_map ds its as lay rd
  refine call_meets PySem.F.slot_tuple_count ⟨_, g, rfl⟩ PySem.F.entry_tuple_count (PySem.F.args_tuple_count_2 _ _)
    (SeqAt.tuple_countAt a its.toArray n none sls uy (fun u => PyData.eqv (SeqAt.readOf s.heap u) d)) ⟨g, SeqAt.items_eqAt (vs := its.toArray) (show ReadsAll s.heap its.toArray.toList ds as from rd) ry2 lay (SeqAt.canLay_of_shaped sd) room, ?_⟩
  rw [show its.toArray.toList = its from rfl, count_map e2]
  exact ⟨.int _, H, I.tok _, ⟨_, rfl⟩, q⟩
theorem mt_lcount (hu : X.A.units + 65 < cLine) : MtR X "list.count" (rCt X.K fun H a vs => SqL X.K H a vs) := by
  intro pins s σ H x xs v us Q I rx rxs h
  obtain ⟨a, y, d, vs, ds, rfl, rfl, hl, ha, hy, lay, sd, q⟩ := h
  cases rx
  obtain ⟨uy, rfl, ry⟩ := rxs.one
  obtain ⟨bs, ry2⟩ := Dp.reads I d y uy hy ry
  have room : X.A.units + 1 + min (PyData.depthAll ds) d.depth < cLine := room_in_shaped sd hu
  obtain ⟨its, rv, ⟨⟨cls, dd, data, sls⟩, n, ho, hc, hdn, hdt⟩, hlen⟩ := I.list hl
  simp only at hc hdt
  subst hc hdt
  obtain ⟨as, rd⟩ := Dp.readsAll I ds vs its ha rv
  have e2 : its.map (SeqAt.readOf s.heap) = ds := SeqAt.readsAll_map ds its as lay rd
  refine call_meets PySem.F.slot_list_count ⟨_, ho, rfl⟩ PySem.F.entry_list_count (PySem.F.args_list_count_2 _ _)
    (SeqAt.list_countAt a its.toArray n dd sls uy (fun u => PyData.eqv (SeqAt.readOf s.heap u) d)) ⟨ho, SeqAt.items_eqAt (vs := its.toArray) (show ReadsAll s.heap its.toArray.toList ds as from rd) ry2 lay (SeqAt.canLay_of_shaped sd) room, ?_⟩
  rw [show its.toArray.toList = its from rfl, count_map e2]
  exact ⟨.int _, H, I.tok _, ⟨_, rfl⟩, q⟩
def ctOf (l : List D) (d : D) : Nat := l.countP fun z => eqD z d
theorem ctOf_P (l : List D) (d : D) : (toPs l).countP (fun z => PyData.eqv z (toP d)) = ctOf l d := by
  unfold ctOf
  rw [toPs_map, List.countP_map]
  rfl
def eTCt (f : Ex) (a : Ax) : Ex := fun ρ s => (f ρ s).bind fun o s => match o with
  | .tup l => (a ρ s).bind fun ds s => match ds with
    | [d] => gd (shp (.tup l) && shp d) (.ok (.int (ctOf l d : Nat)) s)
    | _ => .bad
  | _ => .bad
theorem ze_tct {C : Cn} {Wx : WX} {k : Nat} {o e : Expr} {f : Ex} {a : Ax} {apos pos : Pos} (hK : X.K = C.K) (hr : Room k X.A) (ho : PE X o (tE C Wx f)) (ha : PA X [e] (tA C Wx a))
    (hbase : attributeBase o "count" X.env (eval o X.env) = eval o X.env := by rfl)
    (hfew : ((backTo pos (starEach [e] X.env)).all (fun x => !x.1) && (backToKw pos (keywordEach [] X.env)).all (fun x => x.1.isSome)
      && decide ([e].length + ([] : List Keyword).length + (if ([] : List Keyword).isEmpty then 0 else 1) < 30)) = true := by rfl)
    (hline : (apos.endLine == pos.line) = true := by rfl) (hs : starEach [e] X.env = (false, eval e X.env) :: starEach [] X.env := by rfl) (hplain : (backTo pos (starEach [] X.env)).any (·.1) = false := by rfl) :
    PE X (.Call (.Attribute o "count" apos) [e] [] pos) (tE C Wx (eTCt f a)) :=
  pe_imp (pe_mG ty_tup PySem.F.plainAttrs_tuple PySem.F.slot_tuple_count PySem.F.type_tuple_count (mt_tcount (by have := hr.un; omega)) ho ha hbase hfew hline hs hplain) fun σ H Q ⟨ρ, W, s, er, sm, o⟩ => ⟨ρ, W, s, er, sm, Out.mono (Out.bind (P := Rep C) o) (by
    rintro v H1 ⟨W1, s1, d, e1, sm1, r1, o1⟩
    split at o1
    · rename_i l
      rw [Rep] at r1
      obtain ⟨ad, vs, rfl, q1, t1⟩ := r1
      refine ⟨⟨ad, vs, rfl, by rw [hK]; exact sqp_mono sm1.sub q1⟩, ρ, W1, s1, er.mono e1, sm1, Out.mono (Out.bind (P := RepL C) o1) ?_⟩
      rintro ys H2 ⟨W2, s2, ds, e2, sm2, r2, o2⟩
      split at o2
      · rename_i x
        obtain ⟨y, rfl, ry⟩ := r2.one
        obtain ⟨c, o2⟩ := gd_ok o2
        simp only [Bool.and_eq_true] at c
        have lay := shp_lay c.1
        rw [toP, PyData.canLay0] at lay
        refine ⟨ad, y, toP x, vs, toPs l, rfl, rfl, by rw [hK]; exact sqp_mono sm2.sub (sqp_mono e2.le.hs q1), by rw [hK]; exact RepL.dp sm2.sub l vs (t1.mono e2.le) lay, by rw [hK]; exact Rep.dp sm2.sub _ _ ry (shp_lay c.2), lay, c.2, ?_⟩
        rw [ctOf_P]
        exact o2.now sm2 (by rw [Rep])
      · exact o2.elim
    · exact o1.elim)⟩
end
end Z

/-! Z22: methods of texts. -/
namespace Z
open PySem PySem.Spec PyProof.Rows L2
abbrev FS := Str → D → S → R D
def eSM (F : FS) (f g : Ex) : Ex := fun ρ s => (f ρ s).bind fun o s => match o with
  | .str a => (g ρ s).bind fun d s => F a d s
  | _ => .bad
section
variable {X : Cx} {C : Cn} {Wx : WX} {o e : Expr} {f g : Ex} {F : FS} {r : V → List V → Hp → VK → Prop} {id : String} {name : Str} {apos pos : Pos}
theorem ze_sm (h : PE X (.Call (.Attribute o name apos) [e] [] pos) (tM1 r (tE C Wx f) (tE C Wx g))) (hr : ∀ (σ : L2.St) (W : Wd) (s : S) (H : Hp) (y : V) (a : Str) (d : D) (Q : VK), Sim C W s H → Rep C W d y → Out (Rep C) C Wx σ W H Q (F a d s) → r (.str a) [y] H Q) :
    PE X (.Call (.Attribute o name apos) [e] [] pos) (tE C Wx (eSM F f g)) :=
  pe_imp h fun σ H Q ⟨ρ, W, s, er, sm, o⟩ => ⟨ρ, W, s, er, sm, Out.mono (Out.bind (P := Rep C) o) (by
    rintro v H1 ⟨W1, s1, d, e1, sm1, r1, o1⟩
    split at o1
    · rename_i a
      rw [Rep] at r1
      subst r1
      refine ⟨⟨a, rfl⟩, ρ, W1, s1, er.mono e1, sm1, Out.mono (Out.bind (P := Rep C) o1) ?_⟩
      rintro y H2 ⟨W2, s2, d2, e2, sm2, r2, o2⟩
      exact hr σ W2 s2 H2 y a d2 Q sm2 r2 o2
    · exact o1.elim)⟩
def fJoin : FS := fun a d s => match seqD d s with
  | some l => match strsOf l with
    | some ys => gd (decide ((ys.map (·.length)).sum + ys.length * a.length ≤ 16777216)) (.ok (.str (Txt.join a ys)) s)
    | none => .bad
  | none => .bad
theorem ze_join (hK : X.K = C.K) (ho : PE X o (tE C Wx f)) (he : PE X e (tE C Wx g)) (hs : starEach [e] X.env = [(false, eval e X.env)] := by rfl) (hbase : attributeBase o "join" X.env (eval o X.env) = eval o X.env := by rfl) (hline : (apos.endLine == pos.line) = true := by rfl) :
    PE X (.Call (.Attribute o "join" apos) [e] [] pos) (tE C Wx (eSM fJoin f g)) :=
  ze_sm (pe_join ho he hs hbase hline) fun σ W s H y a d Q sm r o => by
    unfold fJoin at o
    split at o
    · rename_i l hl
      split at o
      · rename_i ys hy
        have e := strsOf_eq hy
        subst e
        obtain ⟨c, o⟩ := gd_ok o
        obtain ⟨p, vs, rfl, q, t⟩ := seqD_get sm r hl
        have t := t.ofStrs
        subst t
        exact ⟨a, p, ys, rfl, rfl, by rw [hK]; exact q, of_decide_eq_true c, o.now sm (by rw [Rep])⟩
      · exact o.elim
    · exact o.elim
end
end Z

/-! Z23: list.index; index by what the data are. -/
namespace Z
open PySem PySem.Spec PyProof.Rows L2
def eLIx (f : Ex) (a : Ax) : Ex := fun ρ s => (f ρ s).bind fun o s => match o with
  | .lst l => (a ρ s).bind fun ds s => match ds with
    | [d] => gd (shp (.lst l) && shp d) (match ixOf l d with
      | some j => .ok (.int (j : Nat)) s
      | none => .bad)
    | _ => .bad
  | _ => .bad
theorem ze_lix {X : Cx} {C : Cn} {Wx : WX} {k : Nat} {o e : Expr} {f : Ex} {a : Ax} {apos pos : Pos} (hK : X.K = C.K) (hr : Room k X.A) (ho : PE X o (tE C Wx f)) (ha : PA X [e] (tA C Wx a))
    (hbase : attributeBase o "index" X.env (eval o X.env) = eval o X.env := by rfl)
    (hfew : ((backTo pos (starEach [e] X.env)).all (fun x => !x.1) && (backToKw pos (keywordEach [] X.env)).all (fun x => x.1.isSome)
      && decide ([e].length + ([] : List Keyword).length + (if ([] : List Keyword).isEmpty then 0 else 1) < 30)) = true := by rfl)
    (hline : (apos.endLine == pos.line) = true := by rfl) (hs : starEach [e] X.env = (false, eval e X.env) :: starEach [] X.env := by rfl) (hplain : (backTo pos (starEach [] X.env)).any (·.1) = false := by rfl) :
    PE X (.Call (.Attribute o "index" apos) [e] [] pos) (tE C Wx (eLIx f a)) :=
  pe_imp (pe_bm PySem.F.plainAttrs_list PySem.F.slot_list_index PySem.F.type_list_index (mt_indexD (by have := hr.un; omega)) ho ha hbase hfew hline hs hplain) fun σ H Q ⟨ρ, W, s, er, sm, o⟩ => ⟨ρ, W, s, er, sm, Out.mono (Out.bind (P := Rep C) o) (by
    rintro v H1 ⟨W1, s1, d, e1, sm1, r1, o1⟩
    split at o1
    · rename_i l
      have r0 := r1
      rw [Rep] at r1
      obtain ⟨ad, vs, rfl, q1, t1⟩ := r1
      refine ⟨.inl ⟨rfl, vs, SqL.of (sm1.sub _ _ q1)⟩, ρ, W1, s1, er.mono e1, sm1, Out.mono (Out.bind (P := RepL C) o1) ?_⟩
      rintro ys H2 ⟨W2, s2, ds, e2, sm2, r2, o2⟩
      split at o2
      · rename_i x
        obtain ⟨y, rfl, ry⟩ := r2.one
        obtain ⟨c, o2⟩ := gd_ok o2
        simp only [Bool.and_eq_true] at c
        split at o2
        · rename_i j hj
          have sl := c.1
          have g2 := Rep.dp sm2.sub _ _ (r0.mono e2.le) (shp_lay c.1)
          rw [toP] at g2
          unfold shp at sl
          rw [toP] at sl
          unfold ixOf at hj
          obtain ⟨hjl, h1, h2⟩ := List.findIdx?_eq_some_iff_getElem.mp hj
          have at_ : ∀ m (hm : m < l.length), (toPs l)[m]? = some (toP l[m]) := fun m hm => by
            rw [toPs_map, List.getElem?_map, List.getElem?_eq_getElem hm]
            rfl
          refine ⟨ad, y, toP x, toPs l, j, toP l[j], rfl, rfl, by rw [hK]; exact g2, by rw [hK]; exact Rep.dp sm2.sub _ _ ry (shp_lay c.2), sl, c.2, at_ j hjl, h1, fun m w hm hw => ?_, o2.now sm2 (by rw [Rep])⟩
          have hml : m < l.length := by omega
          rw [at_ m hml] at hw
          cases hw
          exact Bool.eq_false_iff.mpr (h2 m hm)
        · exact o2.elim
      · exact o2.elim
    · exact o1.elim)⟩
end Z

/-! Z24: index of a text; index by what the data are. -/
namespace Z
open PySem PySem.Spec PyProof.Rows L2
def eSIx (f : Ex) (a : Ax) : Ex := fun ρ s => (f ρ s).bind fun o s => match o with
  | .str x => (a ρ s).bind fun ds s => match ds with
    | [.str y] => match Builtin.Str.occurrences x y 0 x.length 1 with
      | i :: _ => .ok (.int (i : Nat)) s
      | [] => .bad
    | _ => .bad
  | _ => .bad
def eAIx (f : Ex) (a : Ax) : Ex := fun ρ s => match f ρ s with
  | .ok (.lst _) _ => eLIx f a ρ s
  | .ok (.str _) _ => eSIx f a ρ s
  | _ => eTIx f a ρ s
section
variable {X : Cx} {C : Cn} {Wx : WX} {k : Nat} {o e : Expr} {f : Ex} {a : Ax} {apos pos : Pos}
theorem ze_six (ho : PE X o (tE C Wx f)) (ha : PA X [e] (tA C Wx a))
    (hbase : attributeBase o "index" X.env (eval o X.env) = eval o X.env := by rfl)
    (hfew : ((backTo pos (starEach [e] X.env)).all (fun x => !x.1) && (backToKw pos (keywordEach [] X.env)).all (fun x => x.1.isSome)
      && decide ([e].length + ([] : List Keyword).length + (if ([] : List Keyword).isEmpty then 0 else 1) < 30)) = true := by rfl)
    (hline : (apos.endLine == pos.line) = true := by rfl) (hs : starEach [e] X.env = (false, eval e X.env) :: starEach [] X.env := by rfl) (hplain : (backTo pos (starEach [] X.env)).any (·.1) = false := by rfl) :
    PE X (.Call (.Attribute o "index" apos) [e] [] pos) (tE C Wx (eSIx f a)) :=
  pe_imp (pe_bm PySem.F.plainAttrs_str PySem.F.slot_str_index PySem.F.type_str_index mt_sindex ho ha hbase hfew hline hs hplain) fun σ H Q ⟨ρ, W, s, er, sm, o⟩ => ⟨ρ, W, s, er, sm, Out.mono (Out.bind (P := Rep C) o) (by
    rintro v H1 ⟨W1, s1, d, e1, sm1, r1, o1⟩
    split at o1
    · rename_i x
      rw [Rep] at r1
      subst r1
      refine ⟨rfl, ρ, W1, s1, er.mono e1, sm1, Out.mono (Out.bind (P := RepL C) o1) ?_⟩
      rintro ys H2 ⟨W2, s2, ds, e2, sm2, r2, o2⟩
      split at o2
      · rename_i y
        obtain ⟨yv, rfl, ry⟩ := r2.one
        rw [Rep] at ry
        subst ry
        split at o2
        · rename_i i rest hi
          exact ⟨x, y, i, rest, rfl, rfl, hi, o2.now sm2 (by rw [Rep])⟩
        · exact o2.elim
      · exact o2.elim
    · exact o1.elim)⟩
theorem ze_aix (hK : X.K = C.K) (hr : Room k X.A) (ho : PE X o (tE C Wx f)) (ha : PA X [e] (tA C Wx a))
    (hbase : attributeBase o "index" X.env (eval o X.env) = eval o X.env := by rfl)
    (hfew : ((backTo pos (starEach [e] X.env)).all (fun x => !x.1) && (backToKw pos (keywordEach [] X.env)).all (fun x => x.1.isSome)
      && decide ([e].length + ([] : List Keyword).length + (if ([] : List Keyword).isEmpty then 0 else 1) < 30)) = true := by rfl)
    (hline : (apos.endLine == pos.line) = true := by rfl) (hs : starEach [e] X.env = (false, eval e X.env) :: starEach [] X.env := by rfl) (hplain : (backTo pos (starEach [] X.env)).any (·.1) = false := by rfl) :
    PE X (.Call (.Attribute o "index" apos) [e] [] pos) (tE C Wx (eAIx f a)) :=
  ⟨fun pins st σ H Q I ⟨ρ, W, s, er, sm, oo⟩ => by
    unfold eAIx at oo
    split at oo
    · exact (ze_lix hK hr ho ha hbase hfew hline hs hplain).run pins st σ H Q I ⟨ρ, W, s, er, sm, oo⟩
    · exact (ze_six ho ha hbase hfew hline hs hplain).run pins st σ H Q I ⟨ρ, W, s, er, sm, oo⟩
    · exact (ze_tix hK hr ho ha hbase hfew hline hs hplain).run pins st σ H Q I ⟨ρ, W, s, er, sm, oo⟩⟩
end
end Z

/-! Z25: comprehensions over a list that changes later: it is looked up at each turn. -/
namespace Z
open PySem L2
def lookN (n : Nat) (s : S) : Option (List D) := match s.l[n]? with
  | some (.lst l) => some l
  | _ => none
def compGoM (n : Nat) (T : Tg) (p : Bx) (e : Ex) (ρ : Rho) : Nat → Nat → S → R (List D)
  | 0, _, _ => .bad
  | k + 1, i, s => match lookN n s with
    | some l => gd (sz2 l.length 0) (match l[i]? with
      | some d => match T.put d ρ with
        | some ρ' => (p ρ' s).bind fun b s => match b with
          | true => (e ρ' s).bind fun x s => (compGoM n T p e ρ k (i + 1) s).bind fun r s => .ok (x :: r) s
          | false => compGoM n T p e ρ k (i + 1) s
        | none => .bad
      | none => .ok [] s)
    | none => .bad
def fCompM (m j : Nat) (T : Tg) (p : Bx) (e : Ex) (vs : List Nat) : Lx := fun ρ s => match slot ρ j with
  | .l n => match lookN n s with
    | some _ => (compGoM n T p e (wipeR ρ vs) m 0 s).sure
    | none => .bad
  | _ => .bad
theorem lookN_get {C : Cn} {W : Wd} {s : S} {H : Hp} {n : Nat} {a : Addr} {l : List D} (sm : Sim C W s H) (ha : W.ll[n]? = some a) (h : lookN n s = some l) : ∃ vs, H a = some (.lst vs) ∧ RepL C W l vs := by
  unfold lookN at h
  split at h
  · rename_i l' hl
    cases h
    obtain ⟨u, hu, vs, rfl, r⟩ := sm.lv n a _ ha hl
    exact ⟨vs, hu, r⟩
  · cases h
theorem ll_ext {W W' : Wd} {H H' : Hp} {n : Nat} {a : Addr} (e : Ext W H W' H') (h : W.ll[n]? = some a) : W'.ll[n]? = some a := by
  obtain ⟨m, em, _⟩ := e.ll
  rw [em, List.getElem?_append_left (List.getElem?_eq_some_iff.mp h).1]
  exact h
section
variable {X : Cx} {C : Cn} {Wx : WX} {T : Tg} {p : Bx} {e : Ex} {vs : List Nat} {m j : Nat}
theorem lcM_key {K : PySem.W.Frag} (hT : ∀ i ∈ T.sl, i ∈ vs) {σ : L2.St} {H : Hp} {Q : VK} (h : tF C Wx (fCompM m j T p e vs) σ H Q) :
    tLc (iList K (tVar j)) (tG C T) (tB C (fun _ _ _ _ => False) p) (tE C (fun _ _ _ _ => False) e) vs σ H Q := by
  obtain ⟨ρ, W1, s1, er1, sm1, o⟩ := h
  unfold fCompM at o
  cases hj : slot ρ j with
  | un => rw [hj] at o; exact o.elim
  | v d => rw [hj] at o; exact o.elim
  | l n =>
    rw [hj] at o
    simp only at o
    cases hl0 : lookN n s1 with
    | none => rw [hl0] at o; exact o.elim
    | some l0 =>
      rw [hl0] at o
      simp only at o
      obtain ⟨ov, q1, a, q2, ha1⟩ := er1.at_ j _ (slot_get ρ j _ hj (by intro z; cases z))
      obtain ⟨ws0, hu0, _⟩ := lookN_get sm1 ha1 hl0
      refine ⟨.ref a, by rw [q1, q2], a, rfl, ⟨ws0, SqL.of hu0⟩, fun A hA => ?_⟩
      have ap1 := sm1.apart hA
      refine ⟨fun i k H' => ∃ W2 s2 acc l2 wr, W2.ll[n]? = some a ∧ EnvR C W2 ρ σ ∧ Sim C W2 s2 (Z.ers H' A) ∧ Apart W2 A ∧ H' A = some (.lst wr) ∧ RepL C W2 acc wr ∧ acc.length ≤ i ∧
          l2 = (compGoM n T p e (wipeR ρ vs) k i s2) ∧ OutF C Wx σ W2 (Z.ers H' A) Q (l2.sure.bind fun r s => .ok (acc ++ r) s), ⟨m, W1, s1, [], _, [], ha1, er1, by rw [ers_upd, ers_none hA]; exact sm1, ap1, upd_same, RepL.nil, Nat.le_refl _, rfl, ?_⟩, ?_⟩
      · rw [ers_upd, ers_none hA]
        cases z : compGoM n T p e (wipeR ρ vs) m 0 s1 with
        | bad => rw [z] at o; exact o.elim
        | exc x s => rw [z] at o; exact o.elim
        | ok r s => rw [z] at o; exact o
      · rintro i k H2 ⟨W2, s2, acc, l2, wr, ha2, er2, sm2, ap2, hw, ra, hal, rfl, o2⟩
        have smu := sm2.uners ap2
        cases k with
        | zero => exact o2.elim
        | succ k =>
          rw [compGoM] at o2
          cases hl : lookN n s2 with
          | none => simp only [hl] at o2; exact o2.elim
          | some l =>
            simp only [hl] at o2
            cases hz : sz2 l.length 0 with
            | false => rw [hz] at o2; exact o2.elim
            | true =>
              rw [hz] at o2
              simp only [gd] at o2
              have hlen := sz2_le hz
              obtain ⟨ws, hu, rl⟩ := lookN_get smu ha2 hl
              cases zi : l[i]? with
              | none =>
                simp only [zi] at o2
                left
                refine ⟨⟨ws, SqL.of hu, by rw [← rl.length]; exact List.getElem?_eq_none_iff.mp zi⟩, ?_⟩
                have o2 : OutF C Wx σ W2 (Z.ers H2 A) Q (.ok (acc ++ []) s2) := o2
                rw [List.append_nil] at o2
                have := o2 W2 wr (Z.ers H2 A) A (Ext.refl _ _) sm2 ra ers_same
                rw [ers_back hw] at this
                exact this
              | some d0 =>
                simp only [zi] at o2
                right
                have hil := (List.getElem?_eq_some_iff.mp zi).1
                obtain ⟨xv, hx1, hx2⟩ := rl.get zi
                refine ⟨⟨ws, xv, SqL.of hu, hx1⟩, _, fun H' nn => ⟨k, Nat.lt_succ_self _, nn⟩, fun x H3 y => ?_⟩
                obtain ⟨e3, y⟩ := y
                subst e3
                have := y ws (SqL.of hu)
                rw [hx1] at this
                cases this
                refine ⟨wipeR ρ vs, W2, s2, d0, er2.wipe vs, smu, hx2, ?_⟩
                cases z : T.put d0 (wipeR ρ vs) with
                | none => simp only [z] at o2; exact o2
                | some ρ' =>
                  simp only [z] at o2
                  intro σ4 er4 ag
                  refine ⟨ag.wipe hT, ρ', W2, s2, er4, smu, ?_⟩
                  cases z1 : p ρ' s2 with
                  | bad => rw [z1] at o2; exact o2.elim
                  | exc x s => rw [z1] at o2; exact o2.elim
                  | ok b s4 =>
                    rw [z1] at o2
                    rintro W4 b' H4 e4 sm4 rfl
                    have ap4 := ap2.ext e4 ⟨_, hw⟩
                    have hw4 : H4 A = some (.lst wr) := e4.fr A _ hw ap2.ll ap2.lg
                    have o4 := OutF.ext (Ext.ers e4 ap2 ⟨_, hw⟩) o2
                    cases b with
                    | false =>
                      rw [if_neg Bool.false_ne_true]
                      exact ⟨W4, s4, acc, _, wr, ll_ext e4 ha2, er2.mono e4, sm4.ers ap4, ap4, hw4, ra.mono e4.le, by omega, rfl, o4⟩
                    | true =>
                      rw [if_pos rfl]
                      refine ⟨ρ', W4, s4, er4.mono e4, sm4, ?_⟩
                      have o4 : OutF C Wx σ W4 (Z.ers H4 A) Q (((e ρ' s4).bind fun x s => (compGoM n T p e (wipeR ρ vs) k (i + 1) s).bind fun r s => .ok (x :: r) s).sure.bind fun r s => .ok (acc ++ r) s) := o4
                      cases z2 : e ρ' s4 with
                      | bad => rw [z2] at o4; exact o4.elim
                      | exc x s => rw [z2] at o4; exact o4.elim
                      | ok x5 s5 =>
                        rw [z2] at o4
                        intro W5 v5 H5 e5 sm5 r5
                        have ap5 := ap4.ext e5 ⟨_, hw4⟩
                        have hw5 : H5 A = some (.lst wr) := e5.fr A _ hw4 ap4.ll ap4.lg
                        have o5 := OutF.ext (Ext.ers e5 ap4 ⟨_, hw4⟩) o4
                        have ra5 := (ra.mono e4.le).mono e5.le
                        refine ⟨wr, hw5, by rw [← ra.length]; omega, W5, s5, acc ++ [x5], _, wr ++ [v5], ll_ext e5 (ll_ext e4 ha2), (er2.mono e4).mono e5, by rw [ers_upd]; exact sm5.ers ap5, ap5, upd_same, ra5.append (RepL.cons r5 RepL.nil), by simp; omega, rfl, ?_⟩
                        rw [ers_upd]
                        have o5 : OutF C Wx σ W5 (Z.ers H5 A) Q (((compGoM n T p e (wipeR ρ vs) k (i + 1) s5).bind fun r s => .ok (x5 :: r) s).sure.bind fun r s => .ok (acc ++ r) s) := o5
                        cases z3 : compGoM n T p e (wipeR ρ vs) k (i + 1) s5 with
                        | bad => rw [z3] at o5; exact o5.elim
                        | exc x s => rw [z3] at o5; exact o5.elim
                        | ok r s =>
                          rw [z3] at o5
                          have o5 : OutF C Wx σ W5 (Z.ers H5 A) Q (.ok (acc ++ x5 :: r) s) := o5
                          show OutF C Wx σ W5 (Z.ers H5 A) Q (.ok (acc ++ [x5] ++ r) s)
                          rw [List.append_assoc]
                          exact o5
theorem zf_lcM {x : Str} {px pos : Pos} {elt tg : Expr} {ifs : List Expr} {scope : Scope} {own : List (Str × Nat)} (m : Nat) (hc : X.calm = true) (hN : X.N.Nodup) (hx : PE X (.Name x px) (tVar j)) (ok : BlkOk X.N X.env.scope scope own) (hT : ∀ i ∈ T.sl, i ∈ own.map (·.2))
    (hg : ∀ (s : Shared) (H : Hp) (D : Addr) (cl : List (Str × Addr)) (fp : List Addr), PG (X.blk s H scope (compEnvC scope cl D X.env) fp) tg (tG C T)) (ht : ∀ (s : Shared) (H : Hp) (D : Addr) (cl : List (Str × Addr)) (fp : List Addr), PTs (X.blk s H scope (compEnvC scope cl D X.env) fp) ifs (tB C (fun _ _ _ _ => False) p))
    (he : ∀ (s : Shared) (H : Hp) (D : Addr) (cl : List (Str × Addr)) (fp : List Addr), PE (X.blk s H scope (compEnvC scope cl D X.env) fp) elt (tE C (fun _ _ _ _ => False) e)) (hs : ∀ y, foldedSetIterable (.Name x px) X.env y = pure y := by intro _; rfl) :
    PE X (.ListComp elt [⟨tg, .Name x px, ifs, 0⟩] scope pos) (tF C Wx (fCompM m j T p e (own.map (·.2)))) :=
  pe_imp (pe_lc hc hN (pi_list hx) ok hg ht he hs) fun _ _ _ h => lcM_key hT h
end
end Z

/-! Z26: texts made of signs. -/
namespace Z
open PySem L2
def mkS (cs : List Nat) : Str := ⟨cs.toArray⟩
def ch (c : Nat) : D := .str ⟨#[c]⟩
theorem signs_mk (cs : List Nat) : signs (mkS cs) = cs.map ch := by
  unfold signs mkS ch
  simp
theorem len_mk (cs : List Nat) : (mkS cs).length = cs.length := by
  unfold mkS Str.length
  simp
theorem app_mk (a b : List Nat) : mkS a ++ mkS b = mkS (a ++ b) := by
  show Str.append _ _ = _
  unfold Str.append mkS
  simp
theorem join_mk : ∀ cs : List Nat, Txt.join "" (cs.map fun c => ⟨#[c]⟩) = mkS cs := fun cs => by
  show Builtin.Str.glued _ _ = _
  unfold Builtin.Str.glued mkS
  have h : ∀ (l : List Nat) (a : Array Nat), (l.map fun c => (⟨#[c]⟩ : Str)).foldl (fun acc p => acc ++ ("" : Str).cps ++ p.cps) a = a ++ l.toArray := by
    intro l
    induction l with
    | nil => intro a; simp
    | cons c l ih =>
      intro a
      have e : ("" : Str).cps = #[] := rfl
      rw [List.map_cons, List.foldl_cons, ih, e]
      simp
  cases cs with
  | nil => rfl
  | cons c l =>
    have := h l #[c]
    simp only [List.map_cons, List.drop_succ_cons, List.drop_zero, List.headD_cons]
    rw [this]
    simp
theorem strs_mk (cs : List Nat) : strsOf (cs.map ch) = some (cs.map fun c => ⟨#[c]⟩) := by
  induction cs with
  | nil => rfl
  | cons c l ih =>
    rw [List.map_cons, ch, strsOf, ih]
    rfl
theorem rep_mk (c : Nat) (k : Int) : repStr ⟨#[c]⟩ k = mkS (List.replicate k.toNat c) := by
  unfold repStr mkS
  simp
/-- a comprehension of draws, of any kind of thing -/
theorem comp_drawsF {α : Type} {i p : Nat} {e : Ex} {ρ : Rho} {f : α → D} {B : α → Prop} : ∀ (l : List D) (g : List GO) (n : Nat), Purse g p n → n + l.length < 1000000 →
    (∀ d ∈ l, ∀ (g : List GO) (n : Nat), Purse g p n → n < 1000000 → ∃ v g', e (ρ.set i (.v d)) ⟨[], g⟩ = .ok (f v) ⟨[], g'⟩ ∧ B v ∧ Purse g' p (n + 1)) →
    ∃ (vs : List α) (g' : List GO), compGo (.nm i) bYes e ρ l ⟨[], g⟩ = .ok (vs.map f) ⟨[], g'⟩ ∧ vs.length = l.length ∧ (∀ v ∈ vs, B v) ∧ Purse g' p (n + l.length)
  | [], g, n, hP, _, _ => ⟨[], g, rfl, rfl, (fun _ h => by cases h), hP⟩
  | d :: l, g, n, hP, hn, st => by
    rw [List.length_cons] at hn
    obtain ⟨v, g1, e1, b1, P1⟩ := st d (List.mem_cons_self ..) g n hP (by omega)
    obtain ⟨vs, g2, e2, l2, b2, P2⟩ := comp_drawsF l g1 (n + 1) P1 (by omega) fun d hd => st d (List.mem_cons_of_mem _ hd)
    refine ⟨v :: vs, g2, ?_, by simp [l2], fun x hx => ?_, by rw [List.length_cons, show n + (l.length + 1) = n + 1 + l.length by omega]; exact P2⟩
    · rw [compGo, Tg.put]
      simp only [bYes, bind_ok, e1, e2, List.map_cons]
    · rcases List.mem_cons.mp hx with rfl | hx
      · exact b1
      · exact b2 x hx
/-- all of a list, looked at in closed form -/
theorem ones {lT : List D} {α : Type} {f g : D → α} (h : lT.map f = lT.map g) {x : D} (hx : x ∈ lT) : f x = g x := List.map_inj_left.mp h x hx
theorem pairs {lT lU : List D} {α : Type} {f g : D → D → α} (h : (lT.map fun x => lU.map fun y => f x y) = lT.map fun x => lU.map fun y => g x y) {x y : D} (hx : x ∈ lT) (hy : y ∈ lU) : f x y = g x y :=
  List.map_inj_left.mp (List.map_inj_left.mp h x hx) y hy
theorem onesN {β : Type} {lT : List β} {α : Type} {f g : β → α} (h : lT.map f = lT.map g) {x : β} (hx : x ∈ lT) : f x = g x := List.map_inj_left.mp h x hx
theorem pairsN {β γ : Type} {lT : List β} {lU : List γ} {α : Type} {f g : β → γ → α} (h : (lT.map fun x => lU.map fun y => f x y) = lT.map fun x => lU.map fun y => g x y) {x : β} {y : γ} (hx : x ∈ lT) (hy : y ∈ lU) : f x y = g x y :=
  List.map_inj_left.mp (List.map_inj_left.mp h x hx) y hy
end Z

/-! Z27: an exception that is caught and kept. -/
namespace Z
open PySem PySem.Spec PyProof.Rows L2

section
variable {X : Cx} {pins : List (Addr × Obj)} {σ : L2.St} {H : Hp} {s sI : Shared} {a : Addr} {cls : Value} {d : Option Addr} {oe : Obj} {B : Heap}
theorem exK_ok {P : Program} {w : World} {vs : Array Value} {h : Heap} (e : h.get? a = some oe) (z : Zc cls d oe) (f : oe.data = .fields vs) : ObjOk P w H h a (ExK cls d a) :=
  ⟨⟨oe, vs, e, z, f⟩, ⟨oe, e⟩, fun _ _ ⟨o, v, q, r⟩ k => ⟨o, v, k o q, r⟩⟩
/-- what is untracked, is no one's pin, cell or frame, and wasn't there at the entry, may be tracked -/
theorem Inv.adopt {o : HO} {vs : Array Value} (I : L2.Inv X pins σ H s) (h0 : X.s_0.heap.get? a = none) (hn : H a = none) (nL : a ≠ X.env.locals) (hp : ∀ p ∈ X.pn ++ pins, p.1 ≠ a)
    (ha : s.heap.get? a = some oe) (hd : oe.data = .fields vs) (new : ObjOk X.prog X.w (upd H a o) s.heap a o) : L2.Inv X pins σ (upd H a o) s := by
  have old : ∀ b u, H b = some u → upd H a o b = some u := fun b u q => by
    rw [upd_ne (ne_of_none q hn)]
    exact q
  have off : ∀ b, b ≠ a → H b = none → upd H a o b = none := fun b h q => by
    rw [upd_ne h]
    exact q
  have nc : ∀ x c, X.env.cells.lookup x = some c → c ≠ a := fun x c e z => by
    obtain ⟨v, ob, ho, hv⟩ := I.cell x c e
    rw [z, ha] at ho
    cases ho
    rw [hd] at hv
    cases hv
  have hb := I.base
  refine ⟨I.ok, I.os, I.bare, ⟨hb.keep, hb.slot, fun b ob q n hx => off b (fun z => ?_) (hb.free b ob q n hx), hb.there, fun b xs q => old b _ (hb.tups b xs q), fun b ob u q => old b _ (hb.frzs b ob u q), fun b ps q => ?_⟩, I.loc, I.cell,
    off _ (Ne.symm nL) I.free, fun x c e => off c (nc x c e) (I.freeC x c e), fun p h => ?_, I.hok.laidN (fun _ _ z => z) hn new, I.len⟩
  · rw [z, h0] at q
    cases q
  · obtain ⟨m, e⟩ := hb.tbls b ps q
    exact ⟨m, old b _ e⟩
  · obtain ⟨e, n, r⟩ := I.pin p h
    exact ⟨e, off p.1 (hp p h) n, r⟩
/-- the new exception wasn't there at the entry, nor among the pins -/
theorem Inv.fresh0 (I : L2.Inv X pins σ H sI) (hex : X.ex = []) (nb : ∀ b o, sI.heap.get? b = some o → b ∉ frs X.stack → B.get? b = some o) (hB : B.get? a = none) (nfr : a ∉ frs X.stack) : X.s_0.heap.get? a = none := by
  cases q : X.s_0.heap.get? a with
  | none => rfl
  | some o =>
    obtain ⟨o', e⟩ := I.base.there a o q (by rw [hex]; exact List.not_mem_nil)
    rw [nb a o' e nfr] at hB
    cases hB
theorem Inv.unpinned (I : L2.Inv X pins σ H sI) (nb : ∀ b o, sI.heap.get? b = some o → b ∉ frs X.stack → B.get? b = some o) (hB : B.get? a = none) : ∀ p ∈ X.pn ++ pins, p.1 ≠ a := fun p h z => by
  obtain ⟨e, _, nL, nF, _⟩ := I.pin p h
  have nst : p.1 ∉ frs X.stack := fun hm => by
    rcases List.mem_cons.mp (I.stkSub p.1 hm) with z | z
    · exact nL z
    · exact nF z
  rw [z] at e nst
  rw [nb a _ e nst] at hB
  cases hB
end
/-- what 'except x as n: suite' wishes, where what was caught is known behind the suite, too -/
def wKept (K : PySem.W.Frag) (c : Value) (i : Nat) (ts : Addr → Value → Option Addr → TS) (Wout : WX) (D : Ends) : WX := fun cls d σ H =>
  ∃ b, PySem.W.exmOne K cls c = some b ∧ (b = true → ∀ a, H a = none → ts a cls d { nx := fun σ' H' => D.nx (σ'.set i none) (upd H' a (ExK cls d a)), rt := fun _ _ => False } (σ.set i (some (.ref a))) H) ∧ (b = false → Wout cls d σ H)
section
variable {X : Cx} {x n : Str} {c : Value} {i : Nat} {body suite : List Stmt} {b₀ : Stmt} {np pos pos' : Pos} {tb : WX → TS} {ts : Addr → Value → Option Addr → TS} {Wout : WX}
theorem ps_catch (hs : X.stack = X.env :: X.outer) (hf : X.env.frame = some X.env.locals) (hex : X.ex = []) (hN : X.N.Nodup) (hi : X.N[i]? = some n) (hln : X.env.kindOf n = some .local) (hc : Names X x c) (tk : Takes X Wout)
    (hb : ∀ (W : WX) (pn : List (Addr × Obj)) (xe : Value → Shared → Prop), Takes (X.tr pn xe) W → PSs (X.tr pn xe) body (tb W))
    (hsu : ∀ (a : Addr) (oe : Obj) (cls : Value) (d : Option Addr) (pn : List (Addr × Obj)), PSs (X.suite a ((a, oe) :: pn)) (b₀ :: suite) (ts a cls d)) :
    PS X (.Try body [.ExceptHandler (some (.Name x np)) (some n) (b₀ :: suite) pos'] [] [] pos) (fun D σ H => tb (wKept X.K c i ts Wout D) D σ H) := by
  constructor
  intro pins s σ H D I h
  have ok := I.ok
  have hstk : X.A.frames = some (X.env :: X.outer) := ok.frames.trans (congrArg some hs)
  apply wpAny_Try_except
  have run := (hb (wKept X.K c i ts Wout D) (X.pn ++ pins)
    (fun e s₁ => wpAny (model X.prog X.w) X.A (noteFrame e X.env) (fun _ s₂ =>
      wpAny (model X.prog X.w) X.A (setFlight e none) (fun _ s₃ =>
        wpAny (model X.prog X.w) X.A (handleBy e X.env [.ExceptHandler (some (.Name x np)) (some n) (b₀ :: suite) pos']) (SP X pins D) X.xe s₃) X.xe s₂) X.xe s₁) ?_).run [] s σ H D (I.toTry _) h
  · refine wpAny_mono run (fun f s1 sp => ?_) (fun _ _ q => q)
    match f, sp with
    | .next, ⟨σ1, H1, J, q⟩ => exact wpAny_execs_nil ⟨σ1, H1, J.ofTry ok, q⟩
    | .brk, ⟨σ1, H1, J, q⟩ => exact ⟨σ1, H1, J.ofTry ok, q⟩
    | .cont, ⟨σ1, H1, J, q⟩ => exact ⟨σ1, H1, J.ofTry ok, q⟩
    | .ret u, ⟨v, σ1, H1, J, r, q⟩ => exact ⟨v, σ1, H1, J.ofTry ok, r, q⟩
  · rintro u s1 ⟨a, B, sI, pns, σ1, H1, cls, d, rfl, J0, nb, up, sky, na, os, ag, b, hb1, hyes, hno⟩
    have J : L2.Inv X pins σ1 H1 sI := J0.ofTry ok
    have sky1 : Sky B (X.env :: X.outer) a (Zc cls d) X.env.locals s1.heap := hs ▸ sky
    show wpAny (model X.prog X.w) X.A (noteFrame (.ref a) X.env) _ _ _
    apply Sky.land Zc.steady hstk hf sky1
    intro h3 fl3 up3
    obtain ⟨oe, vs, he, hz, hd⟩ := fl3.there
    have J3 : L2.Inv X pins σ1 H1 { s1 with heap := h3 } := J.landed nb fl3.1 (up.trans up3) os ag
    have nfr : a ∉ frs (X.env :: X.outer) := fun hm => by
      obtain ⟨_, o1, e1, hnf⟩ := fl3.2.2.1.mem hm
      rw [he] at e1
      cases e1
      exact hnf _ hd
    have nL : a ≠ X.env.locals := fun z => nfr (List.mem_filterMap.mpr ⟨X.env, List.mem_cons_self, by rw [hf, z]⟩)
    have nF : a ∉ X.fs := fun hm => by
      obtain ⟨e, q1, q2⟩ := List.mem_filterMap.mp hm
      exact nfr (List.mem_filterMap.mpr ⟨e, List.mem_cons_of_mem _ q1, q2⟩)
    have nst : a ∉ frs X.stack := hs ▸ nfr
    have z0 := Inv.fresh0 J hex nb fl3.2.1 nst
    have zp := Inv.unpinned J nb fl3.2.1
    apply wpAny_handleBy_cons (codeAny_handlers_test ?_) (by intro q; cases q)
    have look : PySem.W.Looks (model X.prog X.w) h3 (typeOf (.ref a)) cls := fun _ _ _ _ k q => wpAny_typeOf_ref (k _ _ he) (hz.1 ▸ q)
    have name : ∀ {Q E : Value → Shared → Prop}, Q c { s1 with heap := h3 } → wpAny (model X.prog X.w) (X.A.mark (some (.ref a))) (eval (.Name x np) X.env) Q E { s1 with heap := h3 } := fun {Q E} q => by
      have S3 := J3.suite he hd na nL nF
      obtain ⟨g1, g2, g3 | ⟨g3, g4, g5⟩⟩ := hc
      · exact ld_glob (X := X.suite a ((a, oe) :: (X.pn ++ pins))) S3 g1 g3 q g2
      · exact ld_blt (X := X.suite a ((a, oe) :: (X.pn ++ pins))) S3 g1 g3 g4 q g5 g2
    apply name
    refine (PySem.W.exm_one (M := model X.prog X.w) J3.kIn look hb1).here ?_
    cases b with
    | true =>
      apply codeAny_handlers_suite_as
      apply HandSPX.lands_againZ fl3
      intro h4 fl4 up4
      have J4 : L2.Inv X pins σ1 H1 { s1 with heap := h4 } := J.landed nb fl4.1 ((up.trans up3).trans up4) os ag
      obtain ⟨oe4, vs4, he4, hz4, hd4⟩ := fl4.there
      apply store_ok (X := X.suite a ((a, oe4) :: (X.pn ++ pins))) (v := .ref a) (J4.suite he4 hd4 na nL nF) hN hi (.inl hln) rfl ?_ (.inr hln)
      intro s5 S5
      refine wpAny_mono ((hsu a oe4 cls d (X.pn ++ pins)).run [] s5 _ H1 _ S5 (hyes rfl a na)) (fun f s6 sp => ?_) (fun _ _ z => z.elim)
      match f, sp with
      | .next, ⟨σ6, H6, S6, q6⟩ =>
        obtain ⟨k1, k2, _⟩ := S6.pin (a, oe4) (by simp)
        have J6 : L2.Inv X pins σ6 H6 s6 := S6.unsuite ok
        have J7 := Inv.adopt (o := ExK cls d a) J6 z0 k2 nL zp k1 hd4 (exK_ok k1 hz4 hd4)
        exact gone_ok J7 hN hi hln fun s7 J8 => ⟨_, _, J8, q6⟩
      | .brk, ⟨σ6, H6, S6, q6⟩ => exact False.elim q6
      | .cont, ⟨σ6, H6, S6, q6⟩ => exact False.elim q6
      | .ret u, ⟨v6, σ6, H6, S6, r6, q6⟩ => exact False.elim q6
    | false =>
      show wpAny _ X.A (handleBy (.ref a) X.env []) _ _ _
      apply wpAny_handleBy_nil
      have hd1 : ∃ (vs : Array Value) (T : Addr), oe.data = .fields vs ∧ vs[1]? = some (.ref T) := by
        obtain ⟨_, _, _, oe', vs', T, _, _, he', _, hd', h1', _⟩ := id fl3
        rw [he] at he'
        cases he'
        exact ⟨vs', T, hd', h1'⟩
      obtain ⟨vs', T, hd', h1'⟩ := hd1
      unfold PySem.passOn
      refine wpAny_bind (wpAny_field he hd' h1' ?_)
      rw [if_neg (by simp)]
      have fin : wpAny (model X.prog X.w) X.A (setFlight (.ref a) X.env.frame) (fun _ s4 => wpAny (model X.prog X.w) X.A (throw (.ref a) : Sem Flow) (SP X pins D) X.xe s4) X.xe { s1 with heap := h3 } := by
        rw [hf]
        apply HandSPX.setFlight_upZ fl3
        intro h4 hh4 up4
        exact wpAny_throw (tk _ _ ⟨a, B, sI, pins, σ1, H1, cls, d, rfl, J, nb, (up.trans up3).trans up4, .inr (.inr (hs ▸ hh4)), na, os, ag, hno rfl⟩)
      first
        | exact wpAny_bind (wpAny_pure (wpAny_bind fin))
        | exact wpAny_bind fin
end
end Z

/-! Z28: raise, try .. except, isinstance of what was caught. -/
namespace Z
open PySem PySem.Spec PyProof.Rows L2
def sRaise (c : Nat) : Stm := fun ρ s => .exc ⟨c, []⟩ ρ s
/-- try: b, except X as n (slot i): m = n (slot j); p: which classes the clause takes -/
def sTry (b : Stm) (p : Nat → Bool) (i j : Nat) : Stm := fun ρ s => match b ρ s with
  | .exc x ρ' s' => match p x.c with
    | true => match decide (i < ρ'.length) with
      | true => .nx (((ρ'.set i .un).set j (.v (.xcp x.c []))).set i .un) s'
      | false => .bad
    | false => .exc x ρ' s'
  | .excF _ _ => .bad
  | r => r
section
variable {X : Cx} {C : Cn} {Wx : WX}
theorem zs_raise {cA : Nat} {nm : List Str} {A : Addr} {x m : Str} {k : Nat} {p p2 pos pos' : Pos} {bmB : List Value} {B newId initId : String} (hc : X.calm = true) (tk : L2.Takes X Wx) (F : ExcBaseFacts B newId initId bmB) (q : PySem.W.excIn X.K A bmB newId = true) (gC : X.mg x = some (.ref A)) (kC : PySem.W.keepIn X.K (.ref A) = true)
    (r1 : PySem.W.subIn X.K (.ref A) (.type "BaseException") = some true) (r2 : PySem.W.typeIn X.K (.ref A) = some (.type "type")) (hg : Gl X x) (hx : C.cx cA = some (A, nm)) (hdb : (x == ("__debug__" : Str)) = false := by decide) :
    PS X (.Raise (some (.Call (.Name x p) [.Constant (.str m) k p2] [] pos)) none pos') (tS C Wx (sRaise cA)) :=
  ps_imp (L2.ps_raise hc tk (L2.pmk_own F q gC kC (raises_own r1 r2) hg hdb)) fun D σ H ⟨ρ, W, s, er, sm, o⟩ =>
    o W σ H _ _ (Ext.refl _ _) sm er ⟨rfl, rfl, A, nm, hx, rfl⟩
theorem zs_try {b : Stm} {pr : Nat → Bool} {x n m : Str} {A : Addr} {i j : Nat} {body : List Stmt} {np p1 p2 p3 pos pos' : Pos}
    (hs : X.stack = X.env :: X.outer) (hf : X.env.frame = some X.env.locals) (hex : X.ex = []) (hN : X.N.Nodup) (hi : X.N[i]? = some n) (hln : X.env.kindOf n = some .local) (hc : Names X x (.ref A)) (tk : L2.Takes X Wx)
    (hcl : ∀ c A' nm, C.cx c = some (A', nm) → PySem.W.exmOne X.K (.ref A') (.ref A) = some (pr c))
    (hij : (j == i) = false) (hil : ∀ (a : Addr) (pn : List (Addr × Obj)), PS (X.suite a pn) (.Assign [.Name m p1] (.Name n p2) p3) (tAsg (tVar i) (gName j)))
    (hb : ∀ (W : WX) (pn : List (Addr × Obj)) (xe : Value → Shared → Prop), L2.Takes (X.tr pn xe) W → PSs (X.tr pn xe) body (tS C W b)) :
    PS X (.Try body [.ExceptHandler (some (.Name x np)) (some n) [.Assign [.Name m p1] (.Name n p2) p3] pos'] [] [] pos) (tS C Wx (sTry b pr i j)) :=
  ps_imp (ps_catch (tb := fun W => tS C W b) (ts := fun _ _ _ => tAsg (tVar i) (gName j)) hs hf hex hN hi hln hc tk hb fun a oe cls d pn => pss_one (hil a _)) fun D σ H ⟨ρ, W, s, er, sm, o⟩ => ⟨ρ, W, s, er, sm, by
    unfold sTry at o
    cases z : b ρ s with
    | nx ρ1 s1 => rw [z] at o; exact o
    | ret d s1 => rw [z] at o; exact o
    | brk ρ1 s1 => rw [z] at o; exact o
    | cnt ρ1 s1 => rw [z] at o; exact o
    | bad => rw [z] at o; exact o
    | excF x1 s1 => rw [z] at o; exact o.elim
    | exc x1 ρ1 s1 =>
      rw [z] at o
      simp only at o
      intro W' σ' H' cls dx e' sm' er' rx
      obtain ⟨el, ed, A', nm, hcx, ec⟩ := id rx
      subst ed ec
      refine ⟨pr x1.c, hcl _ _ _ hcx, fun ht a ha => ?_, fun hfl => ?_⟩
      · rw [ht] at o
        simp only at o
        cases hd : decide (i < ρ1.length) with
        | false => rw [hd] at o; exact o.elim
        | true =>
        rw [hd] at o
        simp only at o
        have hi' : i < σ'.length := er'.len ▸ of_decide_eq_true hd
        refine ⟨.ref a, by rw [List.getElem?_set_self hi'], ?_⟩
        have e2 := Ext.alloc ha (ExK (.ref A') none a) sm'
        have r0 : Rep C ⟨upd W'.hs a (ExK (.ref A') none a), W'.ll, W'.lg⟩ (.xcp x1.c []) (.ref a) := by
          rw [Rep]
          exact ⟨rfl, a, A', nm, rfl, hcx, upd_same⟩
        exact o _ _ _ (e'.trans e2) (Sim.alloc ha _ sm') ((((er'.mono e2).set (i := i) (x := .un) (v := .ref a) trivial).set (x := .v (.xcp x1.c [])) ⟨_, rfl, r0⟩).wipe [i])
      · rw [hfl] at o
        exact o W' σ' H' _ _ e' sm' er' rx⟩
end
end Z

/-! Z29: isinstance of what was caught; the exception classes of a program. -/
namespace Z
open PySem PySem.Spec PyProof.Rows L2
def adr (K : PySem.W.Frag) (x : Str) : Addr := match PySem.W.nsIn K mainGlobals x with
  | some (some (.ref a)) => a
  | _ => 0
theorem adr_eq {K : PySem.W.Frag} {x : Str} {a : Addr} (h : PySem.W.nsIn K mainGlobals x = some (some (.ref a))) : adr K x = a := by
  unfold adr
  rw [h]
/-- the constants of a law with exception classes -/
def cnx (xs : List Str) (K : PySem.W.Frag) : Cn := ⟨K, fun _ => none, fun c => match xs[c]? with
  | some x => some (adr K x, [])
  | none => none, fun _ => none⟩
theorem cx_nil {K : PySem.W.Frag} {P : Nat → Addr → Prop} : ∀ k A nm, (cnx [] K).cx k = some (A, nm) → P k A := fun k A nm h => by simp [cnx] at h
theorem cx_cons {K : PySem.W.Frag} {x : Str} {xs : List Str} {P : Nat → Addr → Prop} {a : Addr} (e : PySem.W.nsIn K mainGlobals x = some (some (.ref a))) (h0 : P 0 a) (h : ∀ k A nm, (cnx xs K).cx k = some (A, nm) → P (k + 1) A) : ∀ k A nm, (cnx (x :: xs) K).cx k = some (A, nm) → P k A := fun k A nm hk => by
  cases k with
  | zero =>
    simp only [cnx, List.getElem?_cons_zero, Option.some.injEq, Prod.mk.injEq] at hk
    rw [← hk.1, adr_eq e]
    exact h0
  | succ k =>
    refine h k A nm ?_
    simpa only [cnx, List.getElem?_cons_succ] using hk
/-- isinstance(e, c) of an exception that is held -/
def rIsX (K : PySem.W.Frag) : List V → Hp → VK → Prop := fun xs H Q => ∃ (a D : Addr) (c : V) (cv : Value) (b : Bool), xs = [.ref a, c] ∧ H a = some (ExK (.ref D) none a) ∧ ExcC K D ∧ (∀ u, RelV c u → u = cv) ∧ PySem.W.kitOne K (.ref D) cv = some b ∧ Q (.bl b) H
theorem call_isX {X : Cx} : CallR X (.builtin "isinstance") (rIsX X.K) := by
  intro pins s σ H xs us Q I r h
  obtain ⟨a, D, c, cv, b, rfl, ha, C, hcv, e, q⟩ := h
  match us, r with
  | [_, u], .cons rx (.cons rt .nil) =>
    cases rx
    have ec := hcv _ rt
    subst ec
    obtain ⟨⟨oe, vs, ho, hz, hd⟩, _, _⟩ := I.hok a _ ha
    have J : PySem.W.InstAt s.heap a oe D none := by
      obtain ⟨oc, od, oda, osl⟩ := oe
      obtain ⟨h1, h2⟩ := hz
      dsimp only at h1 h2 hd
      subst h1 h2 hd
      exact ⟨ho, rfl, rfl, trivial⟩
    have kx := PySem.W.handS_kitx_exc (x := a) (ox := oe) C.hg C.hk C.hs C.hd C.ha C.hn C.ht C.hm
    exact PySem.W.kia_one kx I.kIn J e (fun z => nomatch z) fun tk => ⟨.bl b, H, I.kept (t' := tk) fun _ _ z => z, rfl, q⟩
def eIsX (p : Nat → Bool) (f : Ex) : Ex := fun ρ s => (f ρ s).bind fun d s => match d with
  | .xcp c [] => .ok (.bl (p c)) s
  | _ => .bad
theorem ze_isX {X : Cx} {C : Cn} {Wx : WX} (hK : X.K = C.K) {e : Expr} {f : Ex} {pr : Nat → Bool} {y : Str} {cv : Value} {c : V} {p p2 pos : Pos} (hc : ∀ k A nm, C.cx k = some (A, nm) → ExcC C.K A ∧ PySem.W.kitOne C.K (.ref A) cv = some (pr k))
    (he : PE X e (tE C Wx f)) (hg : Gl X "isinstance") (hm : X.mg "isinstance" = none) (hy : PE X (.Name y p2) (tC c)) (hcv : ∀ u, RelV c u → u = cv)
    (h1 : starEach [e, .Name y p2] X.env = (false, eval e X.env) :: starEach [.Name y p2] X.env := by rfl) (h2 : starEach [.Name y p2] X.env = (false, eval (.Name y p2) X.env) :: starEach [] X.env := by rfl) (hpl : (backTo pos (starEach [.Name y p2] X.env)).any (·.1) = false := by rfl) :
    PE X (.Call (.Name "isinstance" p) [e, .Name y p2] [] pos) (tE C Wx (eIsX pr f)) :=
  pe_imp (pe_callB call_isX hg hm (by decide +kernel) (pa_cons he (pa_cons hy pa_nil h2) h1) (he := h1) (hpl := hpl)) fun σ H Q ⟨ρ, W, s, er, sm, o⟩ => ⟨ρ, W, s, er, sm, Out.mono (Out.bind (P := Rep C) o) (by
    rintro v H1 ⟨W1, s1, d, e1, sm1, r1, o1⟩
    split at o1
    · rename_i k
      rw [Rep] at r1
      obtain ⟨_, a, A, nm, rfl, hk, hw⟩ := r1
      obtain ⟨q1, q2⟩ := hc k A nm hk
      exact ⟨a, A, c, cv, pr k, rfl, sm1.sub _ _ hw, hK ▸ q1, hcv, hK ▸ q2, o1.now sm1 (by rw [Rep])⟩
    · exact o1.elim)⟩
/-- what is wanted of a class that may be raised -/
structure XR (K : PySem.W.Frag) (mg : Str → Option Value) (x : Str) : Prop where
  g : mg x = some (.ref (adr K x))
  xp : PySem.W.excIn K (adr K x) [.type "ValueError", .type "Exception", .type "BaseException", .type "object"] "ValueError.__new__" = true
  kp : PySem.W.keepIn K (.ref (adr K x)) = true
  sb : PySem.W.subIn K (.ref (adr K x)) (.type "BaseException") = some true
  ty : PySem.W.typeIn K (.ref (adr K x)) = some (.type "type")
theorem xr_mk {K : PySem.W.Frag} {h : Heap} {mg : Str → Option Value} {x : Str} {a : Addr} (X : K.In h) (G : h.Ns mainGlobals mg) (e : PySem.W.nsIn K mainGlobals x = some (some (.ref a)))
    (h1 : PySem.W.excIn K a [.type "ValueError", .type "Exception", .type "BaseException", .type "object"] "ValueError.__new__" = true) (h2 : PySem.W.keepIn K (.ref a) = true) (h3 : PySem.W.subIn K (.ref a) (.type "BaseException") = some true) (h4 : PySem.W.typeIn K (.ref a) = some (.type "type")) : XR K mg x := by
  have q := adr_eq e
  refine ⟨?_, ?_, ?_, ?_, ?_⟩ <;> rw [q]
  · exact PySem.W.mg_of X G e
  · exact h1
  · exact h2
  · exact h3
  · exact h4
theorem zs_raiseX {X : Cx} {C : Cn} {Wx : WX} {cA : Nat} {x m : Str} {k : Nat} {p p2 pos pos' : Pos} (hc : X.calm = true) (tk : L2.Takes X Wx) (R : XR X.K X.mg x) (hg : Gl X x) (hx : C.cx cA = some (adr X.K x, [])) (hdb : (x == ("__debug__" : Str)) = false := by decide) :
    PS X (.Raise (some (.Call (.Name x p) [.Constant (.str m) k p2] [] pos)) none pos') (tS C Wx (sRaise cA)) :=
  zs_raise hc tk PySem.F.excBase_ValueError R.xp R.g R.kp R.sb R.ty hg hx hdb
end Z

/-! Z30: str.split by a text. -/
namespace Z
open PySem PySem.Spec PyProof.Rows L2
def fSplit : FS := fun a d s => match d with
  | .str b => gd (!(b.length == 0) && decide (a.length + 2 ≤ 16777216)) (.ok (.lst ((Txt.split a b).map D.str)) s)
  | _ => .bad
theorem strs_rep {C : Cn} {W : Wd} : ∀ l : List Str, RepL C W (l.map D.str) (l.map V.str)
  | [] => RepL.nil
  | _ :: l => RepL.cons (by rw [Rep]) (strs_rep l)
section
variable {X : Cx} {C : Cn} {Wx : WX} {o e : Expr} {f g : Ex} {apos pos : Pos}
theorem ze_split (ho : PE X o (tE C Wx f)) (he : PE X e (tE C Wx g)) (hs : starEach [e] X.env = [(false, eval e X.env)] := by rfl) (hbase : attributeBase o "split" X.env (eval o X.env) = eval o X.env := by rfl) (hline : (apos.endLine == pos.line) = true := by rfl) :
    PE X (.Call (.Attribute o "split" apos) [e] [] pos) (tE C Wx (eSM fSplit f g)) :=
  ze_sm (pe_split ho he hs hbase hline) fun σ W s H y a d Q sm r o => by
    unfold fSplit at o
    split at o
    · rename_i b
      obtain ⟨c, o⟩ := gd_ok o
      rw [Bool.and_eq_true] at c
      rw [Rep] at r
      subst r
      exact ⟨a, b, rfl, rfl, by simpa using c.1, by rw [sizeLine_eq]; exact of_decide_eq_true c.2, fun p hp => o.newL sm (strs_rep _) hp⟩
    · exact o.elim
theorem pe_cls {x : Str} {a : Addr} {p : Pos} (hg : Gl X x) (hm : X.mg x = some (.ref a)) (hd : (x == ("__debug__" : Str)) = false := by decide) : PE X (.Name x p) (tC (.ref a)) := pe_glob hg hm rfl hd
theorem pe_tyn {x : Str} {T : String} {p : Pos} (hg : Gl X x) (hm : X.mg x = none) (hv : bootBuiltins x = some (.type T)) (hn : x ≠ "__name__" := by decide) (hd : (x == ("__debug__" : Str)) = false := by decide) : PE X (.Name x p) (tC (.ty T)) := pe_bltn hg hm hv rfl hn hd
theorem ty_eq {T : String} (u : Value) (h : RelV (.ty T) u) : u = .type T := h
theorem cls_eq {a : Addr} (u : Value) (h : RelV (.ref a) u) : u = .ref a := h
end
end Z

/-! Z31: the turns of a cube; what is bent. -/
namespace Z
open PySem L2
def cTURNS : D := (.tup [(.tup [(.int 0), (.int 1), (.int 2), (.int 3), (.int 4), (.int 5)]), (.tup [(.int 0), (.int 1), (.int 3), (.int 2), (.int 5), (.int 4)]), (.tup [(.int 0), (.int 1), (.int 4), (.int 5), (.int 3), (.int 2)]), (.tup [(.int 0), (.int 1), (.int 5), (.int 4), (.int 2), (.int 3)]), (.tup [(.int 1), (.int 0), (.int 2), (.int 3), (.int 5), (.int 4)]), (.tup [(.int 1), (.int 0), (.int 3), (.int 2), (.int 4), (.int 5)]), (.tup [(.int 1), (.int 0), (.int 4), (.int 5), (.int 2), (.int 3)]), (.tup [(.int 1), (.int 0), (.int 5), (.int 4), (.int 3), (.int 2)]), (.tup [(.int 2), (.int 3), (.int 0), (.int 1), (.int 5), (.int 4)]), (.tup [(.int 2), (.int 3), (.int 1), (.int 0), (.int 4), (.int 5)]), (.tup [(.int 2), (.int 3), (.int 4), (.int 5), (.int 0), (.int 1)]), (.tup [(.int 2), (.int 3), (.int 5), (.int 4), (.int 1), (.int 0)]), (.tup [(.int 3), (.int 2), (.int 0), (.int 1), (.int 4), (.int 5)]), (.tup [(.int 3), (.int 2), (.int 1), (.int 0), (.int 5), (.int 4)]), (.tup [(.int 3), (.int 2), (.int 4), (.int 5), (.int 1), (.int 0)]), (.tup [(.int 3), (.int 2), (.int 5), (.int 4), (.int 0), (.int 1)]), (.tup [(.int 4), (.int 5), (.int 0), (.int 1), (.int 2), (.int 3)]), (.tup [(.int 4), (.int 5), (.int 1), (.int 0), (.int 3), (.int 2)]), (.tup [(.int 4), (.int 5), (.int 2), (.int 3), (.int 1), (.int 0)]), (.tup [(.int 4), (.int 5), (.int 3), (.int 2), (.int 0), (.int 1)]), (.tup [(.int 5), (.int 4), (.int 0), (.int 1), (.int 3), (.int 2)]), (.tup [(.int 5), (.int 4), (.int 1), (.int 0), (.int 2), (.int 3)]), (.tup [(.int 5), (.int 4), (.int 2), (.int 3), (.int 0), (.int 1)]), (.tup [(.int 5), (.int 4), (.int 3), (.int 2), (.int 1), (.int 0)])])
def bThen : Stm := sRet (eCB fTuple (aCons (eF (fComp (.nm 2) (itA (eVar 0)) (bYes) (eBin dIx (eVar 1) (eVar 2)) [2])) (aNil)))
def zThen : FnZ := fnz 3 bThen
def bTurns : Stm := sSeq (sSetL 0 (lF (fDisp (aCons (eTup (aCons (eC (.int 0)) (aCons (eC (.int 1)) (aCons (eC (.int 2)) (aCons (eC (.int 3)) (aCons (eC (.int 4)) (aCons (eC (.int 5)) (aNil)))))))) (aNil))))) (sSeq (sSet 1 (eC (.int 0))) (sSeq (sWh 1000 (bC (eBin dLt (eVar 1) (eLenL 0))) (sSeq (sFor (.nm 2) (itA (eLst (aCons (eTup (aCons (eC (.int 0)) (aCons (eC (.int 1)) (aCons (eC (.int 4)) (aCons (eC (.int 5)) (aCons (eC (.int 3)) (aCons (eC (.int 2)) (aNil)))))))) (aCons (eTup (aCons (eC (.int 5)) (aCons (eC (.int 4)) (aCons (eC (.int 2)) (aCons (eC (.int 3)) (aCons (eC (.int 0)) (aCons (eC (.int 1)) (aNil)))))))) (aCons (eTup (aCons (eC (.int 2)) (aCons (eC (.int 3)) (aCons (eC (.int 1)) (aCons (eC (.int 0)) (aCons (eC (.int 4)) (aCons (eC (.int 5)) (aNil)))))))) (aNil)))))) (sSeq (sSet 3 (eCall 2 zThen (aCons (onL 0 (eIxL 0 (eVar 1))) (aCons (eVar 2) (aNil))))) (sIf (bC (eInL true (eVar 3) 0)) (sEx (onL 0 (eML 0 mAppend (aCons (eVar 3) (aNil))))) (sNil)))) (sSet 1 (eBin dAdd (eVar 1) (eC (.int 1)))))) (sRet (eF (fCB fSortF (aCons (eVar 0) (aNil)))))))
def zTurns : FnZ := fnz 4 bTurns
def bIsTurn : Stm := sRet (eAnd (eCall 1 zSix (aCons (eVar 0) (aNil))) (eBin (dInB false) (eVar 0) (eC cTURNS)))
def zIsTurn : FnZ := fnz 1 bIsTurn
def bBent : Stm := sSeq (sSet 2 (eCall 2 zDraw (aCons (eVar 0) (aCons (eC (.int 9)) (aNil))))) (sSeq (sPar 3 4 (aCons (eCall 2 zDraw (aCons (eVar 0) (aCons (eC (.int 6)) (aNil)))) (aCons (eCall 2 zDraw (aCons (eVar 0) (aCons (eC (.int 6)) (aNil)))) (aNil)))) (sSeq (sIf (bC (eBin dEq (eVar 2) (eC (.int 0)))) (sSeq (sSetL 5 (lF (fCB fListF (aCons (eVar 1) (aNil))))) (sSeq (sAsgP (pTp (fun ds ρ s => gd (Nat.beq ds.length 2) ((psCons (pIxL 5 (eVar 3)) (psCons (pIxL 5 (eVar 4)) (psNil))) ds ρ s))) (eTup (aCons (eBin dIx (eVar 1) (eVar 4)) (aCons (eBin dIx (eVar 1) (eVar 3)) (aNil))))) (sRet (eCB fTuple (aCons (eVar 5) (aNil)))))) (sNil)) (sSeq (sIf (bC (eBin dEq (eVar 2) (eC (.int 1)))) (sRet (eCB fTuple (aCons (eCall 2 zMixed (aCons (eVar 0) (aCons (eF (fRg1 (eC (.int 6)))) (aNil)))) (aNil)))) (sNil)) (sSeq (sIf (bC (eBin dEq (eVar 2) (eC (.int 2)))) (sSeq (sSet 6 (eLst (aCons (eUn dNeg (eC (.int 1))) (aCons (eC (.int 6)) (aCons (eC (.bl true)) (aCons (eC (.bl false)) (aCons (eC .non) (aCons (eC (.str "0")) (aCons (eLst (aCons (eC (.int 0)) (aNil))) (aCons (eTup (aCons (eC (.int 0)) (aNil))) (aCons (eBin dIx (eVar 1) (eVar 4)) (aCons (eBin dSub (eBin dPow (eC (.int 10)) (eC (.int 30))) (eC (.int 1))) (aNil))))))))))))) (sRet (eBin dAdd (eBin dAdd (eSl (eVar 1) (oNo) (oPart (eVar 3))) (eTup (aCons (eBin dIx (eVar 6) (eCall 2 zDraw (aCons (eVar 0) (aCons (eC (.int 10)) (aNil))))) (aNil)))) (eSl (eVar 1) (oPart (eBin dAdd (eVar 3) (eC (.int 1)))) (oNo))))) (sNil)) (sSeq (sIf (bC (eBin dEq (eVar 2) (eC (.int 3)))) (sRet (eBin dIx (eLst (aCons (eSl (eVar 1) (oNo) (oPart (eVar 3))) (aCons (eBin dAdd (eVar 1) (eTup (aCons (eBin dIx (eVar 1) (eVar 3)) (aNil)))) (aCons (eBin dAdd (eSl (eVar 1) (oNo) (oPart (eVar 3))) (eSl (eVar 1) (oPart (eBin dAdd (eVar 3) (eC (.int 1)))) (oNo))) (aNil))))) (eBin dMod (eVar 4) (eC (.int 3))))) (sNil)) (sSeq (sIf (bC (eBin dEq (eVar 2) (eC (.int 4)))) (sSeq (sSet 7 (eLst (aCons (eF (fCB fListF (aCons (eVar 1) (aNil)))) (aCons (eC .non) (aCons (eC (.str "012345")) (aCons (eC (.int 7)) (aCons (eC (.bl true)) (aCons (eLst (aNil)) (aCons (eTup (aNil)) (aCons (eLst (aCons (eVar 1) (aNil))) (aCons (eTup (aCons (eVar 1) (aNil))) (aCons (eC (.str "u")) (aCons (eTup (aCons (eTup (aCons (eC (.int 0)) (aCons (eC (.int 1)) (aNil)))) (aCons (eTup (aCons (eC (.int 2)) (aCons (eC (.int 3)) (aNil)))) (aCons (eTup (aCons (eC (.int 4)) (aCons (eC (.int 5)) (aNil)))) (aNil))))) (aNil)))))))))))))) (sRet (eBin dIx (eVar 7) (eCall 2 zDraw (aCons (eVar 0) (aCons (eC (.int 11)) (aNil))))))) (sNil)) (sSeq (sIf (bC (eBin dEq (eVar 2) (eC (.int 5)))) (sRet (eCB fTuple (aCons (eF (fComp (.nm 8) (itA (eVar 1)) (bYes) (eBin dIx (eLst (aCons (eVar 8) (aCons (eBin dEq (eVar 8) (eC (.int 1))) (aNil)))) (eCB fInt (aCons (eBin dLt (eVar 8) (eC (.int 2))) (aNil)))) [8])) (aNil)))) (sNil)) (sRet (eVar 1)))))))))
def zBent : FnZ := fnz 9 bBent
def tT : List D := match cTURNS with
  | .tup l => l
  | _ => []
theorem turns_eqZ (g : List GO) : zTurns [] g = .ok (.lst tT) ⟨[], g⟩ := by kernel_rfl
theorem tT_sh : ∀ d ∈ tT, Sh d := by
  have h : tT.all (okD 1) = true := by decide +kernel
  exact fun d hd => okD_sh (List.all_eq_true.mp h d hd) (by omega)
theorem turn_ok {d : D} (h : Good d) (g : List GO) : zIsTurn [d] g = .ok (.bl (six d && inD d tT)) ⟨[], g⟩ := by
  have e : cTURNS = .tup tT := rfl
  have h1 : shp (.tup tT) = true := shp_tup tT_sh
  have h2 := shp_sh h.sh
  have h3 : dInB false d (.tup tT) ⟨[], g⟩ = .ok (.bl (inD d tT)) ⟨[], g⟩ := by
    unfold dInB
    cases d <;> simp [h1, h2, gd]
  cases hs : six d with
  | true => simp only [fnz, sNil, sSeq, sPass, sBrk, sCnt, sEx, sIf, sSet, sRet, sRetN, sAsgP, sAsg, sPar, sAug, sSetL, sFor, view, viewS, eVar, slot, eC, eBin, eUn, eIf, eAnd, eOr, eNot, isBl, eTup, eLst, aNil, aCons, sz1, eSl, oNo, oPart, eCB, eCall, eCallK, callF, pick, eIsi, fIsi, tyD, isiB, eF, eG, lF, fDisp, fCB, bT, bC, bNot, bAnd, bOr, tru, pTp, itemsG, psCons, psNil, pNm, pIxG, pIxL, atG, dAdd, dSub, dMul, dDiv, dMod, dNeg, dIx, ge_i, le_i, gt_i, dIAdd, fLen, fAbs, fMax2, fMin2, fInt, fBool, mulOk_a, mulOk_b, mulOk_c, mulOk_d, Int.reduceLT, Int.reduceLE, Nat.zero_le, Nat.reduceLeDiff, onL, isL, atL, eEqL_at, eWL, wL, hEq, hIn, hIx, eIxL_at, eInL_at, eLenL, eML, eMGo, nowG, mAppend, mPop, eLst, see, dEq, dNe, seqL, fListF, fSl, itR1, itR2, itA, sWh_at, List.getElem?_cons_zero, List.getElem?_cons_succ, List.getElem?_nil, Int.toNat_natCast, pow18, pow9, pow60, pow60_20, List.map_cons, List.map_nil, List.length_cons, List.length_nil, List.length_map, List.cons_append, List.nil_append, List.append_nil, List.replicate_succ, List.replicate_zero, List.set_cons_zero, List.set_cons_succ, List.set_nil, Nat.reduceAdd, Nat.reduceSub, Nat.zero_add, Nat.beq, Nat.sub_self, bind_ok, toS_ok, sure_ok, gd_t, nx_bind, ret_bind, brk_bind, cnt_bind, exc_bind, excF_bind, loop_nx, loop_ret, loop_brk, loop_cnt, String.reduceBEq, beq_self_eq_true, Bool.or_false, Bool.or_true, Bool.false_or, Bool.true_or, Bool.false_and, Bool.and_false, decide_true, decide_false, Bool.and_true, Bool.true_and, Bool.and_self, Bool.not_true, Bool.not_false, zIsTurn, bIsTurn, six_ok h, hs, e, h3]
  | false => simp only [fnz, sNil, sSeq, sPass, sBrk, sCnt, sEx, sIf, sSet, sRet, sRetN, sAsgP, sAsg, sPar, sAug, sSetL, sFor, view, viewS, eVar, slot, eC, eBin, eUn, eIf, eAnd, eOr, eNot, isBl, eTup, eLst, aNil, aCons, sz1, eSl, oNo, oPart, eCB, eCall, eCallK, callF, pick, eIsi, fIsi, tyD, isiB, eF, eG, lF, fDisp, fCB, bT, bC, bNot, bAnd, bOr, tru, pTp, itemsG, psCons, psNil, pNm, pIxG, pIxL, atG, dAdd, dSub, dMul, dDiv, dMod, dNeg, dIx, ge_i, le_i, gt_i, dIAdd, fLen, fAbs, fMax2, fMin2, fInt, fBool, mulOk_a, mulOk_b, mulOk_c, mulOk_d, Int.reduceLT, Int.reduceLE, Nat.zero_le, Nat.reduceLeDiff, onL, isL, atL, eEqL_at, eWL, wL, hEq, hIn, hIx, eIxL_at, eInL_at, eLenL, eML, eMGo, nowG, mAppend, mPop, eLst, see, dEq, dNe, seqL, fListF, fSl, itR1, itR2, itA, sWh_at, List.getElem?_cons_zero, List.getElem?_cons_succ, List.getElem?_nil, Int.toNat_natCast, pow18, pow9, pow60, pow60_20, List.map_cons, List.map_nil, List.length_cons, List.length_nil, List.length_map, List.cons_append, List.nil_append, List.append_nil, List.replicate_succ, List.replicate_zero, List.set_cons_zero, List.set_cons_succ, List.set_nil, Nat.reduceAdd, Nat.reduceSub, Nat.zero_add, Nat.beq, Nat.sub_self, bind_ok, toS_ok, sure_ok, gd_t, nx_bind, ret_bind, brk_bind, cnt_bind, exc_bind, excF_bind, loop_nx, loop_ret, loop_brk, loop_cnt, String.reduceBEq, beq_self_eq_true, Bool.or_false, Bool.or_true, Bool.false_or, Bool.true_or, Bool.false_and, Bool.and_false, decide_true, decide_false, Bool.and_true, Bool.true_and, Bool.and_self, Bool.not_true, Bool.not_false, zIsTurn, bIsTurn, six_ok h, hs, e, h3]
/-- what the law itself asks of a turn -/
theorem inD_eq {ns : List Int} {l : List D} (h : eqD (.tup (ns.map D.int)) (.tup l) = true) (hi : l.all isI = true) : l = ns.map D.int := by
  unfold eqD at h
  rw [toP, toP, PyData.eqv] at h
  induction ns generalizing l with
  | nil =>
    cases l with
    | nil => rfl
    | cons d l => rw [List.map_nil, toPs, toPs, PyData.eqvAll] at h; cases h
  | cons n ns ih =>
    cases l with
    | nil => rw [List.map_cons, toPs, toPs, PyData.eqvAll] at h; cases h
    | cons d l =>
      rw [List.map_cons, toPs, toPs, PyData.eqvAll, Bool.and_eq_true] at h
      rw [List.all_cons, Bool.and_eq_true] at hi
      cases d with
      | int i =>
        rw [toP, toP, PyData.eqv] at h
        have := eq_of_beq h.1
        subst this
        rw [List.map_cons, ih h.2 hi.2]
      | _ => cases hi.1
def intsT (d : D) : Option (List Int) := match d with
  | .tup l => intsOf l
  | _ => none
theorem tT_ints : ∀ d ∈ tT, ∃ ns : List Int, d = .tup (ns.map D.int) ∧ ns.length = 6 ∧ ns.all (fun n => decide (0 ≤ n)) = true := by
  have h : tT.all (fun d => match intsT d with
    | some ns => decide (ns.length = 6) && ns.all fun n => decide (0 ≤ n)
    | none => false) = true := by decide +kernel
  intro d hd
  have := List.all_eq_true.mp h d hd
  split at this
  · rename_i ns hn
    unfold intsT at hn
    split at hn
    · rw [Bool.and_eq_true] at this
      exact ⟨ns, by rw [intsOf_eq hn], of_decide_eq_true this.1, this.2⟩
    · cases hn
  · cases this
theorem same {l : List D} : (l.all isI && inD (.tup l) tT) = (six (.tup l) && inD (.tup l) tT) := by
  cases hin : inD (.tup l) tT with
  | false => rw [Bool.and_false, Bool.and_false]
  | true =>
    rw [Bool.and_true, Bool.and_true]
    unfold inD at hin
    obtain ⟨z, hz, he⟩ := List.any_eq_true.mp hin
    obtain ⟨ns, rfl, h6, hp⟩ := tT_ints z hz
    cases hi : l.all isI with
    | true =>
      have := inD_eq he hi
      subst this
      unfold six
      simp only [List.length_map, h6, decide_true, Bool.true_and]
      rw [List.all_map]
      exact hp.symm
    | false =>
      unfold six
      simp only
      symm
      rw [Bool.and_eq_false_iff]
      right
      rw [List.all_eq_false] at hi ⊢
      obtain ⟨x, hx, hn⟩ := hi
      exact ⟨x, hx, by cases x <;> simp_all [isI, isNN]⟩
/-- a turn's six sides -/
structure Side6 (l : List D) : Prop where
  len : l.length = 6
  el : ∀ e ∈ l, ∃ i : Int, e = .int i ∧ 0 ≤ i ∧ i < 6
theorem Side6.ok {l : List D} (h : Side6 l) {n : Nat} : ∀ e ∈ l, okD n e = true := fun e he => by
  obtain ⟨i, rfl, h0, h1⟩ := h.el e he
  refine okE_okD ?_ n
  unfold okE
  exact decide_eq_true (Nat.lt_of_le_of_lt (Nat.log2_le_self _) (by omega))
theorem bent_ok {g : List GO} {p n : Nat} {l : List D} (hl : Side6 l) (hP : Purse g p n) (hn : n < 900000) : ∃ odd g', zBent [.glb p, .tup l] g = .ok odd ⟨[], g'⟩ ∧ okD 2 odd = true ∧ Purse g' p (n + 20) := by
  obtain ⟨way, g1, d1, w0, w1, P1⟩ := draw' 9 hP (by omega)
  obtain ⟨one, g2, d2, o0, o1, P2⟩ := draw' 6 P1 (by omega)
  obtain ⟨oth, g3, d3, t0, t1, P3⟩ := draw' 6 P2 (by omega)
  have h6 := hl.len
  obtain ⟨x1, a1, m1, i1⟩ := atI_ok (l := l) o0 (by omega)
  obtain ⟨x2, a2, m2, i2⟩ := atI_ok (l := l) t0 (by omega)
  have q1 := hl.ok (n := 1)
  have z1 := sz_of (m := l.length) (n := 0) (by omega)
  rw [h6] at i1 i2 z1
  by_cases c0 : way = 0
  · subst c0
    refine ⟨.tup ((l.set one.toNat x2).set oth.toNat x1), g3, ?_, ok_tup (fun e he => ?_) (by simp [h6]), P3.up (by omega)⟩
    · simp only [fnz, sNil, sSeq, sPass, sBrk, sCnt, sEx, sIf, sSet, sRet, sRetN, sAsgP, sAsg, sPar, sAug, sSetL, sFor, view, viewS, eVar, slot, eC, eBin, eUn, eIf, eAnd, eOr, eNot, isBl, eTup, eLst, aNil, aCons, sz1, eSl, oNo, oPart, eCB, eCall, eCallK, callF, pick, eIsi, fIsi, tyD, isiB, eF, eG, lF, fDisp, fCB, bT, bC, bNot, bAnd, bOr, tru, pTp, itemsG, psCons, psNil, pNm, pIxG, pIxL, atG, dAdd, dSub, dMul, dDiv, dMod, dNeg, dIx, ge_i, le_i, gt_i, dIAdd, fLen, fAbs, fMax2, fMin2, fInt, fBool, mulOk_a, mulOk_b, mulOk_c, mulOk_d, Int.reduceLT, Int.reduceLE, Nat.zero_le, Nat.reduceLeDiff, onL, isL, atL, eEqL_at, eWL, wL, hEq, hIn, hIx, eIxL_at, eInL_at, eLenL, eML, eMGo, nowG, mAppend, mPop, eLst, see, dEq, dNe, seqL, fListF, fSl, itR1, itR2, itA, sWh_at, List.getElem?_cons_zero, List.getElem?_cons_succ, List.getElem?_nil, Int.toNat_natCast, pow18, pow9, pow60, pow60_20, List.map_cons, List.map_nil, List.length_cons, List.length_nil, List.length_map, List.cons_append, List.nil_append, List.append_nil, List.replicate_succ, List.replicate_zero, List.set_cons_zero, List.set_cons_succ, List.set_nil, Nat.reduceAdd, Nat.reduceSub, Nat.zero_add, Nat.beq, Nat.sub_self, bind_ok, toS_ok, sure_ok, gd_t, nx_bind, ret_bind, brk_bind, cnt_bind, exc_bind, excF_bind, loop_nx, loop_ret, loop_brk, loop_cnt, String.reduceBEq, beq_self_eq_true, Bool.or_false, Bool.or_true, Bool.false_or, Bool.true_or, Bool.false_and, Bool.and_false, decide_true, decide_false, Bool.and_true, Bool.true_and, Bool.and_self, Bool.not_true, Bool.not_false, zBent, bBent, d1, d2, d3, a1, a2, i1, i2, h6, z1, seqD, List.length_set, fTuple]
    · rcases set_mem he with he | rfl
      · rcases set_mem he with he | rfl
        · exact q1 _ he
        · exact q1 _ m2
      · exact q1 _ m1
  by_cases c1 : way = 1
  · subst c1
    have hr : ∀ d ∈ rngD 0 6, okD 1 d = true := by decide +kernel
    obtain ⟨out, g4, k1, k2, k3⟩ := mixed_ok (p := p) (g := g3) (n := n + 1 + 1 + 1) (sm := .lst (rngD 0 6)) (.inl rfl) P3 (fun d hd => okD_sh (hr d hd) (by omega)) (by decide) (by show n + 1 + 1 + 1 + 6 < _; omega)
    have e6 : Int.toNat 6 = 6 := rfl
    refine ⟨.tup out, g4, ?_, ok_tup (fun e he => hr e (k1.mem_iff.mpr he)) (by rw [← k1.length_eq]; decide), k2.up (by show n + 1 + 1 + 1 + 6 ≤ _; omega)⟩
    simp only [fnz, sNil, sSeq, sPass, sBrk, sCnt, sEx, sIf, sSet, sRet, sRetN, sAsgP, sAsg, sPar, sAug, sSetL, sFor, view, viewS, eVar, slot, eC, eBin, eUn, eIf, eAnd, eOr, eNot, isBl, eTup, eLst, aNil, aCons, sz1, eSl, oNo, oPart, eCB, eCall, eCallK, callF, pick, eIsi, fIsi, tyD, isiB, eF, eG, lF, fDisp, fCB, bT, bC, bNot, bAnd, bOr, tru, pTp, itemsG, psCons, psNil, pNm, pIxG, pIxL, atG, dAdd, dSub, dMul, dDiv, dMod, dNeg, dIx, ge_i, le_i, gt_i, dIAdd, fLen, fAbs, fMax2, fMin2, fInt, fBool, mulOk_a, mulOk_b, mulOk_c, mulOk_d, Int.reduceLT, Int.reduceLE, Nat.zero_le, Nat.reduceLeDiff, onL, isL, atL, eEqL_at, eWL, wL, hEq, hIn, hIx, eIxL_at, eInL_at, eLenL, eML, eMGo, nowG, mAppend, mPop, eLst, see, dEq, dNe, seqL, fListF, fSl, itR1, itR2, itA, sWh_at, List.getElem?_cons_zero, List.getElem?_cons_succ, List.getElem?_nil, Int.toNat_natCast, pow18, pow9, pow60, pow60_20, List.map_cons, List.map_nil, List.length_cons, List.length_nil, List.length_map, List.cons_append, List.nil_append, List.append_nil, List.replicate_succ, List.replicate_zero, List.set_cons_zero, List.set_cons_succ, List.set_nil, Nat.reduceAdd, Nat.reduceSub, Nat.zero_add, Nat.beq, Nat.sub_self, bind_ok, toS_ok, sure_ok, gd_t, nx_bind, ret_bind, brk_bind, cnt_bind, exc_bind, excF_bind, loop_nx, loop_ret, loop_brk, loop_cnt, String.reduceBEq, beq_self_eq_true, Bool.or_false, Bool.or_true, Bool.false_or, Bool.true_or, Bool.false_and, Bool.and_false, decide_true, decide_false, Bool.and_true, Bool.true_and, Bool.and_self, Bool.not_true, Bool.not_false, zBent, bBent, d1, d2, d3, c0, fRg1, e6, k3, fTuple]
  by_cases c2 : way = 2
  · subst c2
    obtain ⟨w, g4, d4, w0', w1', P4⟩ := draw' 10 P3 (by omega)
    obtain ⟨x, ax, mx, _⟩ := atI_ok (l := [.int (-1), .int 6, .bl true, .bl false, .non, .str "0", .lst [.int 0], .tup [.int 0], x2, .int (10 ^ 30 - 1)]) w0' w1'
    have hx : okD 1 x = true := by
      simp only [List.mem_cons, List.not_mem_nil, or_false] at mx
      rcases mx with rfl | rfl | rfl | rfl | rfl | rfl | rfl | rfl | rfl | rfl <;> first | exact q1 _ m2 | decide +kernel
    have lA := cut_len l none (some one)
    have lB := cut_len l (some (one + 1)) none
    have za := sz_of (m := (cutD l none (some one)).length) (n := 1) (by omega)
    have zb := sz_of (m := (cutD l none (some one) ++ [x]).length) (n := (cutD l (some (one + 1)) none).length) (by simp; omega)
    refine ⟨.tup (cutD l none (some one) ++ [x] ++ cutD l (some (one + 1)) none), g4, ?_, ok_tup (fun e he => ?_) (by simp; omega), P4.up (by omega)⟩
    · simp only [fnz, sNil, sSeq, sPass, sBrk, sCnt, sEx, sIf, sSet, sRet, sRetN, sAsgP, sAsg, sPar, sAug, sSetL, sFor, view, viewS, eVar, slot, eC, eBin, eUn, eIf, eAnd, eOr, eNot, isBl, eTup, eLst, aNil, aCons, sz1, eSl, oNo, oPart, eCB, eCall, eCallK, callF, pick, eIsi, fIsi, tyD, isiB, eF, eG, lF, fDisp, fCB, bT, bC, bNot, bAnd, bOr, tru, pTp, itemsG, psCons, psNil, pNm, pIxG, pIxL, atG, dAdd, dSub, dMul, dDiv, dMod, dNeg, dIx, ge_i, le_i, gt_i, dIAdd, fLen, fAbs, fMax2, fMin2, fInt, fBool, mulOk_a, mulOk_b, mulOk_c, mulOk_d, Int.reduceLT, Int.reduceLE, Nat.zero_le, Nat.reduceLeDiff, onL, isL, atL, eEqL_at, eWL, wL, hEq, hIn, hIx, eIxL_at, eInL_at, eLenL, eML, eMGo, nowG, mAppend, mPop, eLst, see, dEq, dNe, seqL, fListF, fSl, itR1, itR2, itA, sWh_at, List.getElem?_cons_zero, List.getElem?_cons_succ, List.getElem?_nil, Int.toNat_natCast, pow18, pow9, pow60, pow60_20, List.map_cons, List.map_nil, List.length_cons, List.length_nil, List.length_map, List.cons_append, List.nil_append, List.append_nil, List.replicate_succ, List.replicate_zero, List.set_cons_zero, List.set_cons_succ, List.set_nil, Nat.reduceAdd, Nat.reduceSub, Nat.zero_add, Nat.beq, Nat.sub_self, bind_ok, toS_ok, sure_ok, gd_t, nx_bind, ret_bind, brk_bind, cnt_bind, exc_bind, excF_bind, loop_nx, loop_ret, loop_brk, loop_cnt, String.reduceBEq, beq_self_eq_true, Bool.or_false, Bool.or_true, Bool.false_or, Bool.true_or, Bool.false_and, Bool.and_false, decide_true, decide_false, Bool.and_true, Bool.true_and, Bool.and_self, Bool.not_true, Bool.not_false, zBent, bBent, d1, d2, d3, d4, c0, c1, a2, ax, dSl, za, zb, pow30]
    · rcases List.mem_append.mp he with he | he
      · rcases List.mem_append.mp he with he | he
        · exact q1 _ (cut_mem he)
        · rw [List.mem_singleton.mp he]
          exact hx
      · exact q1 _ (cut_mem he)
  by_cases c3 : way = 3
  · subst c3
    have lA := cut_len l none (some one)
    have lB := cut_len l (some (one + 1)) none
    have za := sz_of (m := l.length) (n := 1) (by omega)
    have zb := sz_of (m := (cutD l none (some one)).length) (n := (cutD l (some (one + 1)) none).length) (by omega)
    rw [h6] at za
    obtain ⟨x, ax, mx, _⟩ := atI_ok (l := [.tup (cutD l none (some one)), .tup (l ++ [x1]), .tup (cutD l none (some one) ++ cutD l (some (one + 1)) none)]) (d := oth % 3) (by omega) (by show oth % 3 < 3; omega)
    refine ⟨x, g3, ?_, ?_, P3.up (by omega)⟩
    · simp only [fnz, sNil, sSeq, sPass, sBrk, sCnt, sEx, sIf, sSet, sRet, sRetN, sAsgP, sAsg, sPar, sAug, sSetL, sFor, view, viewS, eVar, slot, eC, eBin, eUn, eIf, eAnd, eOr, eNot, isBl, eTup, eLst, aNil, aCons, sz1, eSl, oNo, oPart, eCB, eCall, eCallK, callF, pick, eIsi, fIsi, tyD, isiB, eF, eG, lF, fDisp, fCB, bT, bC, bNot, bAnd, bOr, tru, pTp, itemsG, psCons, psNil, pNm, pIxG, pIxL, atG, dAdd, dSub, dMul, dDiv, dMod, dNeg, dIx, ge_i, le_i, gt_i, dIAdd, fLen, fAbs, fMax2, fMin2, fInt, fBool, mulOk_a, mulOk_b, mulOk_c, mulOk_d, Int.reduceLT, Int.reduceLE, Nat.zero_le, Nat.reduceLeDiff, onL, isL, atL, eEqL_at, eWL, wL, hEq, hIn, hIx, eIxL_at, eInL_at, eLenL, eML, eMGo, nowG, mAppend, mPop, eLst, see, dEq, dNe, seqL, fListF, fSl, itR1, itR2, itA, sWh_at, List.getElem?_cons_zero, List.getElem?_cons_succ, List.getElem?_nil, Int.toNat_natCast, pow18, pow9, pow60, pow60_20, List.map_cons, List.map_nil, List.length_cons, List.length_nil, List.length_map, List.cons_append, List.nil_append, List.append_nil, List.replicate_succ, List.replicate_zero, List.set_cons_zero, List.set_cons_succ, List.set_nil, Nat.reduceAdd, Nat.reduceSub, Nat.zero_add, Nat.beq, Nat.sub_self, bind_ok, toS_ok, sure_ok, gd_t, nx_bind, ret_bind, brk_bind, cnt_bind, exc_bind, excF_bind, loop_nx, loop_ret, loop_brk, loop_cnt, String.reduceBEq, beq_self_eq_true, Bool.or_false, Bool.or_true, Bool.false_or, Bool.true_or, Bool.false_and, Bool.and_false, decide_true, decide_false, Bool.and_true, Bool.true_and, Bool.and_self, Bool.not_true, Bool.not_false, zBent, bBent, d1, d2, d3, c0, c1, c2, a1, ax, dSl, za, zb, h6]
    · simp only [List.mem_cons, List.not_mem_nil, or_false] at mx
      rcases mx with rfl | rfl | rfl
      · exact ok_tup (fun e he => q1 _ (cut_mem he)) (by omega)
      · refine ok_tup (fun e he => ?_) (by simp; omega)
        rcases List.mem_append.mp he with he | he
        · exact q1 _ he
        · rw [List.mem_singleton.mp he]
          exact q1 _ m1
      · refine ok_tup (fun e he => ?_) (by simp; omega)
        rcases List.mem_append.mp he with he | he
        · exact q1 _ (cut_mem he)
        · exact q1 _ (cut_mem he)
  by_cases c4 : way = 4
  · subst c4
    obtain ⟨w, g4, d4, w0', w1', P4⟩ := draw' 11 P3 (by omega)
    obtain ⟨x, ax, mx, _⟩ := atI_ok (l := [.lst l, .non, .str "012345", .int 7, .bl true, .lst [], .tup [], .lst [.tup l], .tup [.tup l], .str "u", .tup [.tup [.int 0, .int 1], .tup [.int 2, .int 3], .tup [.int 4, .int 5]]]) w0' w1'
    have hT : okD 1 (.tup l) = true := ok_tup (n := 0) hl.ok (by omega)
    refine ⟨x, g4, ?_, ?_, P4.up (by omega)⟩
    · simp only [fnz, sNil, sSeq, sPass, sBrk, sCnt, sEx, sIf, sSet, sRet, sRetN, sAsgP, sAsg, sPar, sAug, sSetL, sFor, view, viewS, eVar, slot, eC, eBin, eUn, eIf, eAnd, eOr, eNot, isBl, eTup, eLst, aNil, aCons, sz1, eSl, oNo, oPart, eCB, eCall, eCallK, callF, pick, eIsi, fIsi, tyD, isiB, eF, eG, lF, fDisp, fCB, bT, bC, bNot, bAnd, bOr, tru, pTp, itemsG, psCons, psNil, pNm, pIxG, pIxL, atG, dAdd, dSub, dMul, dDiv, dMod, dNeg, dIx, ge_i, le_i, gt_i, dIAdd, fLen, fAbs, fMax2, fMin2, fInt, fBool, mulOk_a, mulOk_b, mulOk_c, mulOk_d, Int.reduceLT, Int.reduceLE, Nat.zero_le, Nat.reduceLeDiff, onL, isL, atL, eEqL_at, eWL, wL, hEq, hIn, hIx, eIxL_at, eInL_at, eLenL, eML, eMGo, nowG, mAppend, mPop, eLst, see, dEq, dNe, seqL, fListF, fSl, itR1, itR2, itA, sWh_at, List.getElem?_cons_zero, List.getElem?_cons_succ, List.getElem?_nil, Int.toNat_natCast, pow18, pow9, pow60, pow60_20, List.map_cons, List.map_nil, List.length_cons, List.length_nil, List.length_map, List.cons_append, List.nil_append, List.append_nil, List.replicate_succ, List.replicate_zero, List.set_cons_zero, List.set_cons_succ, List.set_nil, Nat.reduceAdd, Nat.reduceSub, Nat.zero_add, Nat.beq, Nat.sub_self, bind_ok, toS_ok, sure_ok, gd_t, nx_bind, ret_bind, brk_bind, cnt_bind, exc_bind, excF_bind, loop_nx, loop_ret, loop_brk, loop_cnt, String.reduceBEq, beq_self_eq_true, Bool.or_false, Bool.or_true, Bool.false_or, Bool.true_or, Bool.false_and, Bool.and_false, decide_true, decide_false, Bool.and_true, Bool.true_and, Bool.and_self, Bool.not_true, Bool.not_false, zBent, bBent, d1, d2, d3, d4, c0, c1, c2, c3, seqD, ax]
    · simp only [List.mem_cons, List.not_mem_nil, or_false] at mx
      have one1 : ∀ e ∈ [D.tup l], okD 1 e = true := fun e he => by rw [List.mem_singleton.mp he]; exact hT
      rcases mx with rfl | rfl | rfl | rfl | rfl | rfl | rfl | rfl | rfl | rfl | rfl <;> first | exact ok_lst q1 (by omega) | exact ok_lst one1 (by simp) | exact ok_tup one1 (by simp) | decide +kernel
  by_cases c5 : way = 5
  · subst c5
    let f : D → D := fun d => match d with
      | .int i => if i < 2 then .bl (decide (i = 1)) else .int i
      | d => d
    have hc : compGo (.nm 8) bYes (eBin dIx (eLst (aCons (eVar 8) (aCons (eBin dEq (eVar 8) (eC (.int 1))) (aNil)))) (eCB fInt (aCons (eBin dLt (eVar 8) (eC (.int 2))) (aNil)))) [.v (.glb p), .v (.tup l), .v (.int 5), .v (.int one), .v (.int oth), .un, .un, .un, .un] l ⟨[], g3⟩ = .ok (l.map f) ⟨[], g3⟩ := by
      refine compGo_map (f := f) l fun d hd => ⟨[.v (.glb p), .v (.tup l), .v (.int 5), .v (.int one), .v (.int oth), .un, .un, .un, .v d], rfl, rfl, ?_⟩
      obtain ⟨i, rfl, i0, i1⟩ := hl.el d hd
      by_cases h2 : i < 2
      · have e2 : atI [D.int i, D.bl (decide (i = 1))] 1 = some (.bl (decide (i = 1))) := rfl
        simp only [fnz, sNil, sSeq, sPass, sBrk, sCnt, sEx, sIf, sSet, sRet, sRetN, sAsgP, sAsg, sPar, sAug, sSetL, sFor, view, viewS, eVar, slot, eC, eBin, eUn, eIf, eAnd, eOr, eNot, isBl, eTup, eLst, aNil, aCons, sz1, eSl, oNo, oPart, eCB, eCall, eCallK, callF, pick, eIsi, fIsi, tyD, isiB, eF, eG, lF, fDisp, fCB, bT, bC, bNot, bAnd, bOr, tru, pTp, itemsG, psCons, psNil, pNm, pIxG, pIxL, atG, dAdd, dSub, dMul, dDiv, dMod, dNeg, dIx, ge_i, le_i, gt_i, dIAdd, fLen, fAbs, fMax2, fMin2, fInt, fBool, mulOk_a, mulOk_b, mulOk_c, mulOk_d, Int.reduceLT, Int.reduceLE, Nat.zero_le, Nat.reduceLeDiff, onL, isL, atL, eEqL_at, eWL, wL, hEq, hIn, hIx, eIxL_at, eInL_at, eLenL, eML, eMGo, nowG, mAppend, mPop, eLst, see, dEq, dNe, seqL, fListF, fSl, itR1, itR2, itA, sWh_at, List.getElem?_cons_zero, List.getElem?_cons_succ, List.getElem?_nil, Int.toNat_natCast, pow18, pow9, pow60, pow60_20, List.map_cons, List.map_nil, List.length_cons, List.length_nil, List.length_map, List.cons_append, List.nil_append, List.append_nil, List.replicate_succ, List.replicate_zero, List.set_cons_zero, List.set_cons_succ, List.set_nil, Nat.reduceAdd, Nat.reduceSub, Nat.zero_add, Nat.beq, Nat.sub_self, bind_ok, toS_ok, sure_ok, gd_t, nx_bind, ret_bind, brk_bind, cnt_bind, exc_bind, excF_bind, loop_nx, loop_ret, loop_brk, loop_cnt, String.reduceBEq, beq_self_eq_true, Bool.or_false, Bool.or_true, Bool.false_or, Bool.true_or, Bool.false_and, Bool.and_false, decide_true, decide_false, Bool.and_true, Bool.true_and, Bool.and_self, Bool.not_true, Bool.not_false, dLt, h2, e2, if_true, ite_true, f]
      · have e2 : atI [D.int i, D.bl (decide (i = 1))] 0 = some (.int i) := rfl
        simp only [fnz, sNil, sSeq, sPass, sBrk, sCnt, sEx, sIf, sSet, sRet, sRetN, sAsgP, sAsg, sPar, sAug, sSetL, sFor, view, viewS, eVar, slot, eC, eBin, eUn, eIf, eAnd, eOr, eNot, isBl, eTup, eLst, aNil, aCons, sz1, eSl, oNo, oPart, eCB, eCall, eCallK, callF, pick, eIsi, fIsi, tyD, isiB, eF, eG, lF, fDisp, fCB, bT, bC, bNot, bAnd, bOr, tru, pTp, itemsG, psCons, psNil, pNm, pIxG, pIxL, atG, dAdd, dSub, dMul, dDiv, dMod, dNeg, dIx, ge_i, le_i, gt_i, dIAdd, fLen, fAbs, fMax2, fMin2, fInt, fBool, mulOk_a, mulOk_b, mulOk_c, mulOk_d, Int.reduceLT, Int.reduceLE, Nat.zero_le, Nat.reduceLeDiff, onL, isL, atL, eEqL_at, eWL, wL, hEq, hIn, hIx, eIxL_at, eInL_at, eLenL, eML, eMGo, nowG, mAppend, mPop, eLst, see, dEq, dNe, seqL, fListF, fSl, itR1, itR2, itA, sWh_at, List.getElem?_cons_zero, List.getElem?_cons_succ, List.getElem?_nil, Int.toNat_natCast, pow18, pow9, pow60, pow60_20, List.map_cons, List.map_nil, List.length_cons, List.length_nil, List.length_map, List.cons_append, List.nil_append, List.append_nil, List.replicate_succ, List.replicate_zero, List.set_cons_zero, List.set_cons_succ, List.set_nil, Nat.reduceAdd, Nat.reduceSub, Nat.zero_add, Nat.beq, Nat.sub_self, bind_ok, toS_ok, sure_ok, gd_t, nx_bind, ret_bind, brk_bind, cnt_bind, exc_bind, excF_bind, loop_nx, loop_ret, loop_brk, loop_cnt, String.reduceBEq, beq_self_eq_true, Bool.or_false, Bool.or_true, Bool.false_or, Bool.true_or, Bool.false_and, Bool.and_false, decide_true, decide_false, Bool.and_true, Bool.true_and, Bool.and_self, Bool.not_true, Bool.not_false, dLt, h2, e2, Bool.false_eq_true, if_false, f]
    have zf := sz_of (m := (l.map f).length) (n := 0) (by simp; omega)
    refine ⟨.tup (l.map f), g3, ?_, ok_tup (fun e he => ?_) (by simp; omega), P3.up (by omega)⟩
    · simp only [fnz, sNil, sSeq, sPass, sBrk, sCnt, sEx, sIf, sSet, sRet, sRetN, sAsgP, sAsg, sPar, sAug, sSetL, sFor, view, viewS, eVar, slot, eC, eBin, eUn, eIf, eAnd, eOr, eNot, isBl, eTup, eLst, aNil, aCons, sz1, eSl, oNo, oPart, eCB, eCall, eCallK, callF, pick, eIsi, fIsi, tyD, isiB, eF, eG, lF, fDisp, fCB, bT, bC, bNot, bAnd, bOr, tru, pTp, itemsG, psCons, psNil, pNm, pIxG, pIxL, atG, dAdd, dSub, dMul, dDiv, dMod, dNeg, dIx, ge_i, le_i, gt_i, dIAdd, fLen, fAbs, fMax2, fMin2, fInt, fBool, mulOk_a, mulOk_b, mulOk_c, mulOk_d, Int.reduceLT, Int.reduceLE, Nat.zero_le, Nat.reduceLeDiff, onL, isL, atL, eEqL_at, eWL, wL, hEq, hIn, hIx, eIxL_at, eInL_at, eLenL, eML, eMGo, nowG, mAppend, mPop, eLst, see, dEq, dNe, seqL, fListF, fSl, itR1, itR2, itA, sWh_at, List.getElem?_cons_zero, List.getElem?_cons_succ, List.getElem?_nil, Int.toNat_natCast, pow18, pow9, pow60, pow60_20, List.map_cons, List.map_nil, List.length_cons, List.length_nil, List.length_map, List.cons_append, List.nil_append, List.append_nil, List.replicate_succ, List.replicate_zero, List.set_cons_zero, List.set_cons_succ, List.set_nil, Nat.reduceAdd, Nat.reduceSub, Nat.zero_add, Nat.beq, Nat.sub_self, bind_ok, toS_ok, sure_ok, gd_t, nx_bind, ret_bind, brk_bind, cnt_bind, exc_bind, excF_bind, loop_nx, loop_ret, loop_brk, loop_cnt, String.reduceBEq, beq_self_eq_true, Bool.or_false, Bool.or_true, Bool.false_or, Bool.true_or, Bool.false_and, Bool.and_false, decide_true, decide_false, Bool.and_true, Bool.true_and, Bool.and_self, Bool.not_true, Bool.not_false, zBent, bBent, d1, d2, d3, c0, c1, c2, c3, c4, fComp, wipeR, hc, z1, h6, fTuple]
    · obtain ⟨d, hd, rfl⟩ := List.mem_map.mp he
      obtain ⟨i, rfl, i0, i1⟩ := hl.el d hd
      by_cases h2 : i < 2
      · simp only [f, h2, if_true]
        exact rfl
      · simp only [f, h2, if_false]
        exact hl.ok _ hd
  · refine ⟨.tup l, g3, ?_, ok_tup q1 (by omega), P3.up (by omega)⟩
    simp only [fnz, sNil, sSeq, sPass, sBrk, sCnt, sEx, sIf, sSet, sRet, sRetN, sAsgP, sAsg, sPar, sAug, sSetL, sFor, view, viewS, eVar, slot, eC, eBin, eUn, eIf, eAnd, eOr, eNot, isBl, eTup, eLst, aNil, aCons, sz1, eSl, oNo, oPart, eCB, eCall, eCallK, callF, pick, eIsi, fIsi, tyD, isiB, eF, eG, lF, fDisp, fCB, bT, bC, bNot, bAnd, bOr, tru, pTp, itemsG, psCons, psNil, pNm, pIxG, pIxL, atG, dAdd, dSub, dMul, dDiv, dMod, dNeg, dIx, ge_i, le_i, gt_i, dIAdd, fLen, fAbs, fMax2, fMin2, fInt, fBool, mulOk_a, mulOk_b, mulOk_c, mulOk_d, Int.reduceLT, Int.reduceLE, Nat.zero_le, Nat.reduceLeDiff, onL, isL, atL, eEqL_at, eWL, wL, hEq, hIn, hIx, eIxL_at, eInL_at, eLenL, eML, eMGo, nowG, mAppend, mPop, eLst, see, dEq, dNe, seqL, fListF, fSl, itR1, itR2, itA, sWh_at, List.getElem?_cons_zero, List.getElem?_cons_succ, List.getElem?_nil, Int.toNat_natCast, pow18, pow9, pow60, pow60_20, List.map_cons, List.map_nil, List.length_cons, List.length_nil, List.length_map, List.cons_append, List.nil_append, List.append_nil, List.replicate_succ, List.replicate_zero, List.set_cons_zero, List.set_cons_succ, List.set_nil, Nat.reduceAdd, Nat.reduceSub, Nat.zero_add, Nat.beq, Nat.sub_self, bind_ok, toS_ok, sure_ok, gd_t, nx_bind, ret_bind, brk_bind, cnt_bind, exc_bind, excF_bind, loop_nx, loop_ret, loop_brk, loop_cnt, String.reduceBEq, beq_self_eq_true, Bool.or_false, Bool.or_true, Bool.false_or, Bool.true_or, Bool.false_and, Bool.and_false, decide_true, decide_false, Bool.and_true, Bool.true_and, Bool.and_self, Bool.not_true, Bool.not_false, zBent, bBent, d1, d2, d3, c0, c1, c2, c3, c4, c5]
theorem tT_side : ∀ d ∈ tT, ∃ l, d = .tup l ∧ Side6 l := by
  have h : tT.all (fun d => match intsT d with
    | some ns => decide (ns.length = 6) && ns.all fun n => decide (0 ≤ n) && decide (n < 6)
    | none => false) = true := by decide +kernel
  intro d hd
  have := List.all_eq_true.mp h d hd
  split at this
  · rename_i ns hn
    unfold intsT at hn
    split at hn
    · rw [Bool.and_eq_true] at this
      have e := intsOf_eq hn
      subst e
      refine ⟨_, rfl, by rw [List.length_map]; exact of_decide_eq_true this.1, fun e he => ?_⟩
      obtain ⟨i, hi, rfl⟩ := List.mem_map.mp he
      have := List.all_eq_true.mp this.2 i hi
      rw [Bool.and_eq_true] at this
      exact ⟨i, rfl, of_decide_eq_true this.1, of_decide_eq_true this.2⟩
    · cases hn
  · cases this
/-- due: what the law itself works out -/
def due (d : D) : Bool := match d with
  | .tup l => l.all isI && inD d tT
  | _ => false
theorem due_six (d : D) : (six d && inD d tT) = due d := by
  cases d with
  | tup l => exact same.symm
  | _ => rfl
end Z

/-! Z32: min of a list or a tuple. -/
namespace Z
open PySem PySem.Spec PyProof.Rows L2
def ltP (a b : D) : Bool := PySem.W.dataLt (toP a) (toP b)
def minF (x : D) (xs : List D) : D := xs.foldl (fun a y => if ltP y a then y else a) x
def minOk (l : List D) : Bool := l.all (fun a => l.all fun b => PySem.W.alike (toP a) (toP b)) && (l.all (fun a => !isNon a) && (l.all (fun a => decide ((toP a).depth ≤ 32)) && l.all shp))
def fMinS : FL := fun ds s => match ds with
  | [d] => match seqD d s with
    | some (x :: xs) => gd (minOk (x :: xs)) (.ok (minF x xs) s)
    | _ => .bad
  | _ => .bad
theorem each_get {R : Value → D → Prop} : ∀ {l : List D} {us : List Value}, PySem.W.EachIs R us l → ∀ (i : Nat) (u : Value), us[i]? = some u → i < l.length ∧ R u (l.getD i .non) ∧ l.getD i .non ∈ l
  | _, _, .nil, i, u, h => by cases i <;> cases h
  | d :: l, _, .cons h1 t, 0, u, h => by
    cases h
    exact ⟨Nat.zero_lt_succ _, h1, List.mem_cons_self ..⟩
  | d :: l, _, .cons h1 t, i + 1, u, h => by
    obtain ⟨a, b, c⟩ := each_get t i u (by simpa using h)
    exact ⟨Nat.succ_lt_succ a, by simpa using b, by simpa using List.mem_cons_of_mem _ c⟩
theorem each_len {R : Value → D → Prop} : ∀ {l : List D} {us : List Value}, PySem.W.EachIs R us l → us.length = l.length
  | _, _, .nil => rfl
  | _, _, .cons _ t => by rw [List.length_cons, List.length_cons, each_len t]
theorem cd_min {X : Cx} {C : Cn} {k : Nat} (hK : X.K = C.K) (hc : X.calm = true) (hr : Room k X.A) : CallR X (.builtin "min") (rC C fMinS) := by
  intro pins st σ H xs us Q I rs h
  obtain ⟨Wx, σ', W, s, ds, sm, r, o⟩ := h
  unfold fMinS at o
  split at o
  · split at o
    · rename_i d x l hl
      obtain ⟨c, o⟩ := gd_ok o
      unfold minOk at c
      simp only [Bool.and_eq_true] at c
      obtain ⟨c1, c2, c3, c4⟩ := c
      obtain ⟨v, rfl, q⟩ := r.one
      obtain ⟨a, vs, rfl, q1, t1⟩ := seqD_get sm q hl
      rw [Vals.ref1 rs]
      have un := hr.un
      have hh : X.A.handled = none := I.ok.hd hc
      have fin : ∀ its : List Value, Vals vs its → ∀ (i : Nat) (u : Value) (h' : Heap) (tk : Nat), its.toArray[argBest (fun i j => ltP ((x :: l).getD i .non) ((x :: l).getD j .non)) (its.toArray.size - 1)]? = some u → (∀ b o, st.heap.get? b = some o → h'.get? b = some o) → EP X pins σ Q u { st with heap := h', toks := tk } := by
        intro its rv _ u h' tk hu hk'
        have e := each_of t1 rv
        have hlen := each_len e
        have hsz : its.toArray.size - 1 = l.length := by
          rw [List.size_toArray, hlen]
          rfl
        rw [hsz] at hu
        obtain ⟨_, ⟨w, h1, h2⟩, _⟩ := each_get e _ u (by rw [List.getElem?_toArray] at hu; exact hu)
        have e2 := (PySem.W.argBest_fold ltP D.non x l l.length (Nat.le_refl _)).2
        rw [List.take_length] at e2
        rw [e2] at h2
        exact ⟨w, H, I.kept (t' := tk) hk', h1, o.now sm h2⟩
      have cmp : ∀ its : List Value, Vals vs its → PySem.CmpIn X.prog X.w X.A.in1 .Lt st.heap (fun i v => its.toArray[i]? = some v) (fun i j => ltP ((x :: l).getD i .non) ((x :: l).getD j .non)) := by
        intro its rv i j vi vj s' Q' E' hk hi hj hq
        have e := each_of t1 rv
        have er := each_reads hK I sm c4 e
        obtain ⟨_, ⟨as1, r1⟩, m1⟩ := each_get er i vi (by rw [List.getElem?_toArray] at hi; exact hi)
        obtain ⟨_, ⟨as2, r2⟩, m2⟩ := each_get er j vj (by rw [List.getElem?_toArray] at hj; exact hj)
        have al := List.all_eq_true.mp (List.all_eq_true.mp c1 _ m1) _ m2
        have nn := List.all_eq_true.mp c2 _ m1
        have dp := of_decide_eq_true (List.all_eq_true.mp c3 _ m1)
        refine PySem.W.rcLt_alike _ _ X.A.in1 s' vi vj _ _ (PySem.W.reads_keeps hk r1) (PySem.W.reads_keeps hk r2) al (fun z => ?_) ?_ X.prog X.w E' Q' hq
        · have sh := shp_lay (List.all_eq_true.mp c4 _ m1)
          generalize (x :: l).getD i .non = y at z nn sh
          cases y <;> first | (simp [toP] at z; done) | (cases nn; done)
        · have := Nat.min_le_left (toP ((x :: l).getD i .non)).depth (toP ((x :: l).getD j .non)).depth
          show X.A.units + 1 + _ < _
          omega
      have pos : ∀ its : List Value, Vals vs its → 0 < its.toArray.size := by
        intro its rv
        have := each_len (each_of t1 rv)
        rw [List.size_toArray, this]
        exact Nat.zero_lt_succ _
      rcases q1 with q1 | q1
      · obtain ⟨its, rv, pl, hz⟩ := I.list (by rw [hK]; exact q1)
        refine PySem.call_min_walkH (PySem.W.iter_listW (A := X.A.in1) hh pl.isList fun s₂ e W st2 hfp hw hk => ?_)
        refine ⟨_, _, _, _, _, _, _, st.heap, _, rfl, W, st2, hfp, pos its rv, hw, hk, cmp its rv, fun v s' hP m => ?_⟩
        obtain ⟨h', tk, rfl, hk'⟩ := PySem.W.moved_old e rfl m
        exact fin its rv 0 v h' tk hP hk'
      · obtain ⟨its, rv, pl, hz⟩ := I.tuple (by rw [hK]; exact q1)
        refine PySem.call_min_walkH (PySem.W.iter_tupleW (A := X.A.in1) hh pl fun s₂ e W st2 hfp hw hk => ?_)
        refine ⟨_, _, _, _, _, _, _, st.heap, _, rfl, W, st2, hfp, pos its rv, hw, hk, cmp its rv, fun v s' hP m => ?_⟩
        obtain ⟨h', tk, rfl, hk'⟩ := PySem.W.moved_old e rfl m
        exact fin its rv 0 v h' tk hP hk'
    · exact o.elim
  · exact o.elim
end Z

/-! Z33: paints, drawn; turned by a turn. -/
namespace Z
open PySem L2
def bCoat : Stm := sSeq (sSet 1 (eBin dIx (eLst (aCons (eC (.int 1)) (aCons (eC (.int 2)) (aCons (eC (.int 3)) (aCons (eC (.int 12)) (aCons (eC (.int 110)) (aNil))))))) (eCall 2 zDraw (aCons (eVar 0) (aCons (eC (.int 5)) (aNil)))))) (sSeq (sSet 2 (eCB fTuple (aCons (eF (fComp (.nm 4) (itR1 (aCons (eC (.int 6)) (aNil))) (bYes) (eCall 2 zDraw (aCons (eVar 0) (aCons (eVar 1) (aNil)))) [4])) (aNil)))) (sSeq (sSet 3 (eCall 2 zDraw (aCons (eVar 0) (aCons (eC (.int 6)) (aNil))))) (sSeq (sIf (bC (eBin dEq (eVar 3) (eC (.int 0)))) (sSet 2 (eCB fTuple (aCons (eCall 2 zMixed (aCons (eVar 0) (aCons (eF (fRg1 (eC (.int 6)))) (aNil)))) (aNil)))) (sNil)) (sSeq (sIf (bC (eBin dEq (eVar 3) (eC (.int 1)))) (sSet 2 (eCB fTuple (aCons (eF (fComp (.nm 5) (itA (eVar 2)) (bYes) (eBin dAdd (eBin dMul (eVar 5) (eBin dPow (eC (.int 10)) (eC (.int 27)))) (eCall 2 zDraw (aCons (eVar 0) (aCons (eC (.int 2)) (aNil))))) [5])) (aNil)))) (sNil)) (sRet (eVar 2))))))
def zCoat : FnZ := fnz 6 bCoat
def bTurnedBy : Stm := sSeq (sSetL 2 (lF (fCB fListF (aCons (eVar 0) (aNil))))) (sSeq (sFor (.tp [.nm 3, .nm 4]) (itZ (aCons (eVar 0) (aCons (eVar 1) (aNil)))) (sAsgP (pIxL 2 (eVar 4)) (eVar 3))) (sRet (eCB fTuple (aCons (eVar 2) (aNil)))))
def zTurnedBy : FnZ := fnz 5 bTurnedBy
/-- paints of which we know: six whole numbers, none below 0, none great -/
def Coat (d : D) : Prop := ∃ vs : List Int, d = .tup (vs.map D.int) ∧ vs.length = 6 ∧ ∀ v ∈ vs, 0 ≤ v ∧ v < 10 ^ 30
theorem coat_of {vs : List Int} (hl : vs.length = 6) (hv : ∀ v ∈ vs, 0 ≤ v ∧ v < 10 ^ 30) : Coat (.tup (vs.map D.int)) := ⟨vs, rfl, hl, hv⟩
theorem Coat.six {d : D} (h : Coat d) : ∃ a b c e f k : Int, d = .tup [.int a, .int b, .int c, .int e, .int f, .int k] ∧ 0 ≤ a ∧ 0 ≤ b ∧ 0 ≤ c ∧ 0 ≤ e ∧ 0 ≤ f ∧ 0 ≤ k := by
  obtain ⟨vs, rfl, hl, hv⟩ := h
  match vs, hl with
  | [a, b, c, e, f, h], _ => exact ⟨a, b, c, e, f, h, rfl, (hv _ (by simp)).1, (hv _ (by simp)).1, (hv _ (by simp)).1, (hv _ (by simp)).1, (hv _ (by simp)).1, (hv _ (by simp)).1⟩
theorem Coat.ok {d : D} (h : Coat d) {n : Nat} : okD (n + 1) d = true := by
  obtain ⟨vs, rfl, hl, hv⟩ := h
  refine ok_tup (fun e he => ?_) (by rw [List.length_map]; omega)
  obtain ⟨v, hv1, rfl⟩ := List.mem_map.mp he
  obtain ⟨h0, h1⟩ := hv v hv1
  refine okE_okD ?_ n
  unfold okE
  refine decide_eq_true ?_
  have h2 : v.natAbs < 2 ^ 100 := by omega
  by_cases hz : v.natAbs = 0
  · rw [hz]
    decide
  · exact Nat.lt_trans ((Nat.log2_lt hz).mpr h2) (by decide)
theorem pow27 (s : S) : dPow (.int 10) (.int 27) s = .ok (.int (10 ^ 27)) s := by
  unfold dPow
  simp only
  rw [gd_of (by decide)]
  rfl
theorem drZ {g : List GO} {p n : Nat} (k : Int) (hP : Purse g p n) (hn : n < 1000000) (hk : 0 < k := by decide) (hk2 : k ≤ 1000000000 := by decide) : ∃ d g', zDraw [.glb p, .int k] g = .ok (.int d) ⟨[], g'⟩ ∧ 0 ≤ d ∧ d < k ∧ Purse g' p (n + 1) := draw_ok hP hn hk hk2
theorem coat_ok {g : List GO} {p n : Nat} (hP : Purse g p n) (hn : n < 900000) : ∃ c g', zCoat [.glb p] g = .ok c ⟨[], g'⟩ ∧ Coat c ∧ Purse g' p (n + 30) := by
  obtain ⟨w, g1, d1, w0, w1, P1⟩ := drZ 5 hP (by omega)
  obtain ⟨x, ax, mx, _⟩ := atI_ok (l := [.int 1, .int 2, .int 3, .int 12, .int 110]) w0 w1
  obtain ⟨few, rfl, f1, f2⟩ : ∃ few : Int, x = .int few ∧ 0 < few ∧ few ≤ 110 := by
    simp only [List.mem_cons, List.not_mem_nil, or_false] at mx
    rcases mx with rfl | rfl | rfl | rfl | rfl <;> exact ⟨_, rfl, by decide, by decide⟩
  obtain ⟨vs, g2, c2, l2, b2, P2⟩ := comp_draws (i := 4) (p := p) (e := eCall 2 zDraw (aCons (eVar 0) (aCons (eVar 1) aNil))) (ρ := [.v (.glb p), .v (.int few), .un, .un, .un, .un]) (B := fun v => 0 ≤ v ∧ v < 110) (rngD 0 6) g1 (n + 1) P1 (by show n + 1 + 6 < _; omega) fun d hd g n hP hn => by
    obtain ⟨v, g', h1, h2, h3, h4⟩ := drZ few hP hn f1 (by omega)
    refine ⟨v, g', ?_, ⟨h2, by omega⟩, h4⟩
    simp only [fnz, sNil, sSeq, sPass, sBrk, sCnt, sEx, sIf, sSet, sRet, sRetN, sAsgP, sAsg, sPar, sAug, sSetL, sFor, view, viewS, eVar, slot, eC, eBin, eUn, eIf, eAnd, eOr, eNot, isBl, eTup, eLst, aNil, aCons, sz1, eSl, oNo, oPart, eCB, eCall, eCallK, callF, pick, eIsi, fIsi, tyD, isiB, eF, eG, lF, fDisp, fCB, bT, bC, bNot, bAnd, bOr, tru, pTp, itemsG, psCons, psNil, pNm, pIxG, pIxL, atG, dAdd, dSub, dMul, dDiv, dMod, dNeg, dIx, ge_i, le_i, gt_i, dIAdd, fLen, fAbs, fMax2, fMin2, fInt, fBool, mulOk_a, mulOk_b, mulOk_c, mulOk_d, Int.reduceLT, Int.reduceLE, Nat.zero_le, Nat.reduceLeDiff, onL, isL, atL, eEqL_at, eWL, wL, hEq, hIn, hIx, eIxL_at, eInL_at, eLenL, eML, eMGo, nowG, mAppend, mPop, eLst, see, dEq, dNe, seqL, fListF, fSl, itR1, itR2, itA, sWh_at, List.getElem?_cons_zero, List.getElem?_cons_succ, List.getElem?_nil, Int.toNat_natCast, pow18, pow9, pow60, pow60_20, List.map_cons, List.map_nil, List.length_cons, List.length_nil, List.length_map, List.cons_append, List.nil_append, List.append_nil, List.replicate_succ, List.replicate_zero, List.set_cons_zero, List.set_cons_succ, List.set_nil, Nat.reduceAdd, Nat.reduceSub, Nat.zero_add, Nat.beq, Nat.sub_self, bind_ok, toS_ok, sure_ok, gd_t, nx_bind, ret_bind, brk_bind, cnt_bind, exc_bind, excF_bind, loop_nx, loop_ret, loop_brk, loop_cnt, String.reduceBEq, beq_self_eq_true, Bool.or_false, Bool.or_true, Bool.false_or, Bool.true_or, Bool.false_and, Bool.and_false, decide_true, decide_false, Bool.and_true, Bool.true_and, Bool.and_self, Bool.not_true, Bool.not_false, h1]
  have l6 : vs.length = 6 := l2
  have z6 := sz_of (m := 6) (n := 0) (by omega)
  have e6 : Int.toNat 6 = 6 := rfl
  obtain ⟨y, g3, d3, y0, y1, P3⟩ := drZ 6 P2 (by show n + 1 + 6 < _; omega)
  have P3' : Purse g3 p (n + 8) := P3
  have r6 : (rngD 0 6).length = 6 := rfl
  by_cases h0 : y = 0
  · subst h0
    have hr : ∀ d ∈ rngD 0 6, okD 1 d = true := by decide +kernel
    obtain ⟨out, g4, k1, k2, k3⟩ := mixed_ok (p := p) (g := g3) (n := n + 8) (sm := .lst (rngD 0 6)) (.inl rfl) P3' (fun d hd => okD_sh (hr d hd) (by omega)) (by decide) (by rw [r6]; omega)
    have hi : ∀ d ∈ rngD 0 6, ∃ i : Int, d = .int i ∧ 0 ≤ i ∧ i < 6 := by
      intro d hd
      unfold rngD at hd
      obtain ⟨j, hj, rfl⟩ := List.mem_map.mp hd
      have := List.mem_range.mp hj
      exact ⟨_, rfl, by omega, by omega⟩
    have hall : out.all isI = true := List.all_eq_true.mpr fun d hd => by
      obtain ⟨i, rfl, _⟩ := hi d (k1.mem_iff.mpr hd)
      rfl
    obtain ⟨ns, rfl⟩ := ints_of hall
    refine ⟨.tup (ns.map D.int), g4, ?_, coat_of (by have := k1.length_eq; rw [r6, List.length_map] at this; exact this.symm) (fun v hv => ?_), k2.up (by rw [r6]; omega)⟩
    · have n01 : ¬ (0 : Int) = 1 := by decide
      simp only [fnz, sNil, sSeq, sPass, sBrk, sCnt, sEx, sIf, sSet, sRet, sRetN, sAsgP, sAsg, sPar, sAug, sSetL, sFor, view, viewS, eVar, slot, eC, eBin, eUn, eIf, eAnd, eOr, eNot, isBl, eTup, eLst, aNil, aCons, sz1, eSl, oNo, oPart, eCB, eCall, eCallK, callF, pick, eIsi, fIsi, tyD, isiB, eF, eG, lF, fDisp, fCB, bT, bC, bNot, bAnd, bOr, tru, pTp, itemsG, psCons, psNil, pNm, pIxG, pIxL, atG, dAdd, dSub, dMul, dDiv, dMod, dNeg, dIx, ge_i, le_i, gt_i, dIAdd, fLen, fAbs, fMax2, fMin2, fInt, fBool, mulOk_a, mulOk_b, mulOk_c, mulOk_d, Int.reduceLT, Int.reduceLE, Nat.zero_le, Nat.reduceLeDiff, onL, isL, atL, eEqL_at, eWL, wL, hEq, hIn, hIx, eIxL_at, eInL_at, eLenL, eML, eMGo, nowG, mAppend, mPop, eLst, see, dEq, dNe, seqL, fListF, fSl, itR1, itR2, itA, sWh_at, List.getElem?_cons_zero, List.getElem?_cons_succ, List.getElem?_nil, Int.toNat_natCast, pow18, pow9, pow60, pow60_20, List.map_cons, List.map_nil, List.length_cons, List.length_nil, List.length_map, List.cons_append, List.nil_append, List.append_nil, List.replicate_succ, List.replicate_zero, List.set_cons_zero, List.set_cons_succ, List.set_nil, Nat.reduceAdd, Nat.reduceSub, Nat.zero_add, Nat.beq, Nat.sub_self, bind_ok, toS_ok, sure_ok, gd_t, nx_bind, ret_bind, brk_bind, cnt_bind, exc_bind, excF_bind, loop_nx, loop_ret, loop_brk, loop_cnt, String.reduceBEq, beq_self_eq_true, Bool.or_false, Bool.or_true, Bool.false_or, Bool.true_or, Bool.false_and, Bool.and_false, decide_true, decide_false, Bool.and_true, Bool.true_and, Bool.and_self, Bool.not_true, Bool.not_false, zCoat, bCoat, d1, ax, fComp, wipeR, e6, c2, z6, r6, l6, fTuple, d3, fRg1, k3, n01]
    · obtain ⟨i, e, h⟩ := hi (.int v) (k1.mem_iff.mpr (List.mem_map.mpr ⟨v, hv, rfl⟩))
      cases e
      exact ⟨h.1, by omega⟩
  by_cases h1 : y = 1
  · subst h1
    obtain ⟨us, g4, c4, l4, b4, P4⟩ := comp_draws (i := 5) (p := p) (e := eBin dAdd (eBin dMul (eVar 5) (eBin dPow (eC (.int 10)) (eC (.int 27)))) (eCall 2 zDraw (aCons (eVar 0) (aCons (eC (.int 2)) (aNil))))) (ρ := [.v (.glb p), .v (.int few), .v (.tup (vs.map D.int)), .v (.int 1), .un, .un]) (B := fun v => 0 ≤ v ∧ v < 10 ^ 30) (vs.map D.int) g3 (n + 8) P3' (by rw [List.length_map, l6]; omega) fun d hd g n hP hn => by
      obtain ⟨v, hv, rfl⟩ := List.mem_map.mp hd
      obtain ⟨v0, v1⟩ := b2 v hv
      obtain ⟨u, g', h1, h2, h3, h4⟩ := drZ 2 hP hn
      have hm : mulOk v (10 ^ 27) = true := mulOk_l (by omega)
      refine ⟨v * 10 ^ 27 + u, g', ?_, ⟨Int.add_nonneg (Int.mul_nonneg v0 (by decide)) h2, by omega⟩, h4⟩
      simp only [fnz, sNil, sSeq, sPass, sBrk, sCnt, sEx, sIf, sSet, sRet, sRetN, sAsgP, sAsg, sPar, sAug, sSetL, sFor, view, viewS, eVar, slot, eC, eBin, eUn, eIf, eAnd, eOr, eNot, isBl, eTup, eLst, aNil, aCons, sz1, eSl, oNo, oPart, eCB, eCall, eCallK, callF, pick, eIsi, fIsi, tyD, isiB, eF, eG, lF, fDisp, fCB, bT, bC, bNot, bAnd, bOr, tru, pTp, itemsG, psCons, psNil, pNm, pIxG, pIxL, atG, dAdd, dSub, dMul, dDiv, dMod, dNeg, dIx, ge_i, le_i, gt_i, dIAdd, fLen, fAbs, fMax2, fMin2, fInt, fBool, mulOk_a, mulOk_b, mulOk_c, mulOk_d, Int.reduceLT, Int.reduceLE, Nat.zero_le, Nat.reduceLeDiff, onL, isL, atL, eEqL_at, eWL, wL, hEq, hIn, hIx, eIxL_at, eInL_at, eLenL, eML, eMGo, nowG, mAppend, mPop, eLst, see, dEq, dNe, seqL, fListF, fSl, itR1, itR2, itA, sWh_at, List.getElem?_cons_zero, List.getElem?_cons_succ, List.getElem?_nil, Int.toNat_natCast, pow18, pow9, pow60, pow60_20, List.map_cons, List.map_nil, List.length_cons, List.length_nil, List.length_map, List.cons_append, List.nil_append, List.append_nil, List.replicate_succ, List.replicate_zero, List.set_cons_zero, List.set_cons_succ, List.set_nil, Nat.reduceAdd, Nat.reduceSub, Nat.zero_add, Nat.beq, Nat.sub_self, bind_ok, toS_ok, sure_ok, gd_t, nx_bind, ret_bind, brk_bind, cnt_bind, exc_bind, excF_bind, loop_nx, loop_ret, loop_brk, loop_cnt, String.reduceBEq, beq_self_eq_true, Bool.or_false, Bool.or_true, Bool.false_or, Bool.true_or, Bool.false_and, Bool.and_false, decide_true, decide_false, Bool.and_true, Bool.true_and, Bool.and_self, Bool.not_true, Bool.not_false, pow27, hm, h1]
    have l4' : us.length = 6 := by rw [l4, List.length_map, l6]
    refine ⟨.tup (us.map D.int), g4, ?_, coat_of l4' b4, P4.up (by rw [List.length_map, l6]; omega)⟩
    simp only [fnz, sNil, sSeq, sPass, sBrk, sCnt, sEx, sIf, sSet, sRet, sRetN, sAsgP, sAsg, sPar, sAug, sSetL, sFor, view, viewS, eVar, slot, eC, eBin, eUn, eIf, eAnd, eOr, eNot, isBl, eTup, eLst, aNil, aCons, sz1, eSl, oNo, oPart, eCB, eCall, eCallK, callF, pick, eIsi, fIsi, tyD, isiB, eF, eG, lF, fDisp, fCB, bT, bC, bNot, bAnd, bOr, tru, pTp, itemsG, psCons, psNil, pNm, pIxG, pIxL, atG, dAdd, dSub, dMul, dDiv, dMod, dNeg, dIx, ge_i, le_i, gt_i, dIAdd, fLen, fAbs, fMax2, fMin2, fInt, fBool, mulOk_a, mulOk_b, mulOk_c, mulOk_d, Int.reduceLT, Int.reduceLE, Nat.zero_le, Nat.reduceLeDiff, onL, isL, atL, eEqL_at, eWL, wL, hEq, hIn, hIx, eIxL_at, eInL_at, eLenL, eML, eMGo, nowG, mAppend, mPop, eLst, see, dEq, dNe, seqL, fListF, fSl, itR1, itR2, itA, sWh_at, List.getElem?_cons_zero, List.getElem?_cons_succ, List.getElem?_nil, Int.toNat_natCast, pow18, pow9, pow60, pow60_20, List.map_cons, List.map_nil, List.length_cons, List.length_nil, List.length_map, List.cons_append, List.nil_append, List.append_nil, List.replicate_succ, List.replicate_zero, List.set_cons_zero, List.set_cons_succ, List.set_nil, Nat.reduceAdd, Nat.reduceSub, Nat.zero_add, Nat.beq, Nat.sub_self, bind_ok, toS_ok, sure_ok, gd_t, nx_bind, ret_bind, brk_bind, cnt_bind, exc_bind, excF_bind, loop_nx, loop_ret, loop_brk, loop_cnt, String.reduceBEq, beq_self_eq_true, Bool.or_false, Bool.or_true, Bool.false_or, Bool.true_or, Bool.false_and, Bool.and_false, decide_true, decide_false, Bool.and_true, Bool.true_and, Bool.and_self, Bool.not_true, Bool.not_false, zCoat, bCoat, d1, ax, fComp, wipeR, e6, c2, c4, z6, r6, l6, fTuple, d3, h0]
  · refine ⟨.tup (vs.map D.int), g3, ?_, coat_of l6 (fun v hv => ⟨(b2 v hv).1, by have := (b2 v hv).2; omega⟩), P3'.up (by omega)⟩
    simp only [fnz, sNil, sSeq, sPass, sBrk, sCnt, sEx, sIf, sSet, sRet, sRetN, sAsgP, sAsg, sPar, sAug, sSetL, sFor, view, viewS, eVar, slot, eC, eBin, eUn, eIf, eAnd, eOr, eNot, isBl, eTup, eLst, aNil, aCons, sz1, eSl, oNo, oPart, eCB, eCall, eCallK, callF, pick, eIsi, fIsi, tyD, isiB, eF, eG, lF, fDisp, fCB, bT, bC, bNot, bAnd, bOr, tru, pTp, itemsG, psCons, psNil, pNm, pIxG, pIxL, atG, dAdd, dSub, dMul, dDiv, dMod, dNeg, dIx, ge_i, le_i, gt_i, dIAdd, fLen, fAbs, fMax2, fMin2, fInt, fBool, mulOk_a, mulOk_b, mulOk_c, mulOk_d, Int.reduceLT, Int.reduceLE, Nat.zero_le, Nat.reduceLeDiff, onL, isL, atL, eEqL_at, eWL, wL, hEq, hIn, hIx, eIxL_at, eInL_at, eLenL, eML, eMGo, nowG, mAppend, mPop, eLst, see, dEq, dNe, seqL, fListF, fSl, itR1, itR2, itA, sWh_at, List.getElem?_cons_zero, List.getElem?_cons_succ, List.getElem?_nil, Int.toNat_natCast, pow18, pow9, pow60, pow60_20, List.map_cons, List.map_nil, List.length_cons, List.length_nil, List.length_map, List.cons_append, List.nil_append, List.append_nil, List.replicate_succ, List.replicate_zero, List.set_cons_zero, List.set_cons_succ, List.set_nil, Nat.reduceAdd, Nat.reduceSub, Nat.zero_add, Nat.beq, Nat.sub_self, bind_ok, toS_ok, sure_ok, gd_t, nx_bind, ret_bind, brk_bind, cnt_bind, exc_bind, excF_bind, loop_nx, loop_ret, loop_brk, loop_cnt, String.reduceBEq, beq_self_eq_true, Bool.or_false, Bool.or_true, Bool.false_or, Bool.true_or, Bool.false_and, Bool.and_false, decide_true, decide_false, Bool.and_true, Bool.true_and, Bool.and_self, Bool.not_true, Bool.not_false, zCoat, bCoat, d1, ax, fComp, wipeR, e6, c2, z6, r6, l6, fTuple, d3, h0, h1]
def perm (t : D) (cs : List D) : List D := match zTurnedBy [.tup cs, t] [] with
  | .ok (.tup l) _ => l
  | _ => []
theorem by_okZ (a b c e f h : Int) (g : List GO) : ∀ t ∈ tT, zTurnedBy [.tup [.int a, .int b, .int c, .int e, .int f, .int h], t] g = .ok (.tup (perm t [.int a, .int b, .int c, .int e, .int f, .int h])) ⟨[], g⟩ := by
  intro d hd
  simp only [tT, cTURNS, List.mem_cons, List.not_mem_nil, or_false] at hd
  rcases hd with rfl | rfl | rfl | rfl | rfl | rfl | rfl | rfl | rfl | rfl | rfl | rfl | rfl | rfl | rfl | rfl | rfl | rfl | rfl | rfl | rfl | rfl | rfl | rfl <;> kernel_rfl
theorem perm_ints (a b c e f h : Int) : ∀ t ∈ tT, (perm t [.int a, .int b, .int c, .int e, .int f, .int h]).all isI = true := by
  intro d hd
  simp only [tT, cTURNS, List.mem_cons, List.not_mem_nil, or_false] at hd
  rcases hd with rfl | rfl | rfl | rfl | rfl | rfl | rfl | rfl | rfl | rfl | rfl | rfl | rfl | rfl | rfl | rfl | rfl | rfl | rfl | rfl | rfl | rfl | rfl | rfl <;> kernel_rfl
theorem perm_len (a b c e f h : Int) : ∀ t ∈ tT, (perm t [.int a, .int b, .int c, .int e, .int f, .int h]).length = 6 := by
  intro d hd
  simp only [tT, cTURNS, List.mem_cons, List.not_mem_nil, or_false] at hd
  rcases hd with rfl | rfl | rfl | rfl | rfl | rfl | rfl | rfl | rfl | rfl | rfl | rfl | rfl | rfl | rfl | rfl | rfl | rfl | rfl | rfl | rfl | rfl | rfl | rfl <;> kernel_rfl
end Z

/-! Z34: sorted(set(..)) of a list of tuples of ints. -/
namespace Z
open PySem PySem.Spec PyProof.Rows L2
theorem lex_irr : ∀ a : List Int, HT.lexLt a a = false
  | [] => rfl
  | x :: l => by rw [HT.lexLt_cons, if_pos rfl, lex_irr l]
theorem lex_trans : ∀ a b c : List Int, HT.lexLt a b = true → HT.lexLt b c = true → HT.lexLt a c = true
  | [], [], _, h, _ => by cases h
  | [], _ :: _, [], _, h => by cases h
  | [], _ :: _, _ :: _, _, _ => rfl
  | _ :: _, [], _, h, _ => by cases h
  | _ :: _, _ :: _, [], _, h => by cases h
  | x :: a, y :: b, z :: c, h1, h2 => by
    rw [HT.lexLt_cons] at h1 h2 ⊢
    by_cases e1 : x = y
    · subst e1
      rw [if_pos rfl] at h1
      by_cases e2 : x = z
      · rw [if_pos e2] at h2 ⊢
        exact lex_trans a b c h1 h2
      · rw [if_neg e2] at h2 ⊢
        exact h2
    · rw [if_neg e1] at h1
      have h1 := of_decide_eq_true h1
      by_cases e2 : y = z
      · subst e2
        rw [if_neg e1]
        exact decide_eq_true h1
      · rw [if_neg e2] at h2
        have h2 := of_decide_eq_true h2
        rw [if_neg (by omega)]
        exact decide_eq_true (by omega)
theorem lex_tot : ∀ a b : List Int, HT.lexLt a b = true ∨ a = b ∨ HT.lexLt b a = true
  | [], [] => .inr (.inl rfl)
  | [], _ :: _ => .inl rfl
  | _ :: _, [] => .inr (.inr rfl)
  | x :: a, y :: b => by
    rw [HT.lexLt_cons, HT.lexLt_cons]
    by_cases e : x = y
    · subst e
      rw [if_pos rfl, if_pos rfl]
      rcases lex_tot a b with h | h | h
      · exact .inl h
      · exact .inr (.inl (by rw [h]))
      · exact .inr (.inr h)
    · rw [if_neg e, if_neg (Ne.symm e)]
      by_cases h : x < y
      · exact .inl (decide_eq_true h)
      · exact .inr (.inr (decide_eq_true (by omega)))
/-- put into a list that rises strictly -/
def insS (x : List Int) : List (List Int) → List (List Int)
  | [] => [x]
  | y :: l => if HT.lexLt x y then x :: y :: l else if x = y then y :: l else y :: insS x l
/-- sorted(set(..)) -/
def ssI : List (List Int) → List (List Int)
  | [] => []
  | x :: l => insS x (ssI l)
abbrev Ris (l : List (List Int)) : Prop := l.Pairwise fun a b => HT.lexLt a b = true
theorem ins_mem (x z : List Int) : ∀ l, z ∈ insS x l ↔ z = x ∨ z ∈ l
  | [] => by simp [insS]
  | y :: l => by
    unfold insS
    split
    · simp
    · split
      · rename_i e
        subst e
        simp
      · rw [List.mem_cons, ins_mem x z l, List.mem_cons]
        constructor
        · rintro (h | h | h) <;> simp [h]
        · rintro (h | h | h) <;> simp [h]
theorem ins_ris (x : List Int) : ∀ l, Ris l → Ris (insS x l)
  | [], _ => List.pairwise_singleton ..
  | y :: l, h => by
    unfold insS
    obtain ⟨h1, h2⟩ := List.pairwise_cons.mp h
    split
    · rename_i hx
      refine List.pairwise_cons.mpr ⟨fun z hz => ?_, h⟩
      rcases List.mem_cons.mp hz with rfl | hz
      · exact hx
      · exact lex_trans _ _ _ hx (h1 z hz)
    · split
      · exact h
      · rename_i hx hn
        refine List.pairwise_cons.mpr ⟨fun z hz => ?_, ins_ris x l h2⟩
        rcases (ins_mem x z l).mp hz with rfl | hz
        · rcases lex_tot z y with q | q | q
          · exact absurd q hx
          · exact absurd q hn
          · exact q
        · exact h1 z hz
theorem ss_mem (z : List Int) : ∀ l, z ∈ ssI l ↔ z ∈ l
  | [] => Iff.rfl
  | x :: l => by rw [ssI, ins_mem, ss_mem z l, List.mem_cons]
theorem ss_ris : ∀ l, Ris (ssI l)
  | [] => List.Pairwise.nil
  | x :: l => ins_ris x _ (ss_ris l)
theorem ris_eq : ∀ {a b : List (List Int)}, Ris a → Ris b → (∀ z, z ∈ a ↔ z ∈ b) → a = b
  | [], [], _, _, _ => rfl
  | [], y :: b, _, _, h => by
    have := (h y).mpr (List.mem_cons_self ..)
    cases this
  | x :: a, [], _, _, h => by
    have := (h x).mp (List.mem_cons_self ..)
    cases this
  | x :: a, y :: b, ha, hb, h => by
    obtain ⟨a1, a2⟩ := List.pairwise_cons.mp ha
    obtain ⟨b1, b2⟩ := List.pairwise_cons.mp hb
    have e : x = y := by
      rcases List.mem_cons.mp ((h x).mp (List.mem_cons_self ..)) with q | q
      · exact q
      rcases List.mem_cons.mp ((h y).mpr (List.mem_cons_self ..)) with q2 | q2
      · exact q2.symm
      have k1 := b1 x q
      have k2 := a1 y q2
      have := lex_trans _ _ _ k1 k2
      rw [lex_irr] at this
      cases this
    subst e
    rw [ris_eq a2 b2 fun z => ?_]
    have hz := h z
    rw [List.mem_cons, List.mem_cons] at hz
    constructor
    · intro q
      rcases hz.mp (.inr q) with k | k
      · subst k
        have := a1 z q
        rw [lex_irr] at this
        cases this
      · exact k
    · intro q
      rcases hz.mpr (.inr q) with k | k
      · subst k
        have := b1 z q
        rw [lex_irr] at this
        cases this
      · exact k
theorem code_lex {B : Int} : ∀ a b : List Int, a.length = b.length → TS.Bd B a → TS.Bd B b → HT.lexLt a b = true → TS.code B a < TS.code B b
  | [], [], _, _, _, h => by cases h
  | x :: a, y :: b, hl, ha, hb, h => by
    have hm : a.length = b.length := Nat.succ.inj hl
    rw [HT.lexLt_cons] at h
    by_cases e : x = y
    · subst e
      rw [if_pos rfl] at h
      exact (TS.code_same hm).mpr (code_lex a b hm ha.tail hb.tail h)
    · rw [if_neg e] at h
      exact TS.code_lt hm ha.tail hb.tail (of_decide_eq_true h)
def tupsOf : List D → Option (List (List Int))
  | [] => some []
  | d :: l => match intsT d, tupsOf l with
    | some n, some r => some (n :: r)
    | _, _ => none
def tupD (n : List Int) : D := .tup (n.map D.int)
theorem tups_eq : ∀ {l : List D} {ks : List (List Int)}, tupsOf l = some ks → l = ks.map tupD
  | [], ks, h => by
    cases h
    rfl
  | d :: l, ks, h => by
    rw [tupsOf] at h
    split at h
    · rename_i n r h1 h2
      cases h
      rw [List.map_cons, ← tups_eq h2]
      cases d with
      | tup m =>
        have := intsOf_eq (l := m) (ns := n) h1
        rw [this]
        rfl
      | _ => cases h1
    · cases h
/-- greater than all of them -/
def capI (l : List (List Int)) : Int := (l.map fun n => n.foldl max 0).foldl max 0 + 1
theorem fm_le (l : List Int) : ∀ (a x : Int), (x ∈ l ∨ x ≤ a) → x ≤ l.foldl max a := by
  induction l with
  | nil =>
    intro a x h
    rcases h with h | h
    · cases h
    · exact h
  | cons y l ih =>
    intro a x h
    rw [List.foldl_cons]
    refine ih _ x ?_
    rcases h with h | h
    · rcases List.mem_cons.mp h with rfl | h
      · exact .inr (by omega)
      · exact .inl h
    · exact .inr (by omega)
theorem cap_bd {l : List (List Int)} (h0 : ∀ n ∈ l, ∀ x ∈ n, 0 ≤ x) : ∀ n ∈ l, TS.Bd (capI l) n := fun n hn x hx => by
  refine ⟨h0 n hn x hx, ?_⟩
  have h1 := fm_le n 0 x (.inl hx)
  have h2 := fm_le (l.map fun n => n.foldl max 0) 0 (n.foldl max 0) (.inl (List.mem_map.mpr ⟨n, hn, rfl⟩))
  unfold capI
  omega
def ssOk (d : Nat) (l : List (List Int)) : Bool := decide (1 ≤ d) && (decide (l.length < 64) && l.all fun n => decide (n.length = d) && n.all fun x => decide (0 ≤ x))
def fSSet (f : Ex) : Lx := fun ρ s => (f ρ s).bind fun d s => match seqL d s with
  | some l => match tupsOf l with
    | some ks => gd (ssOk (ks.headD []).length ks) (.ok ((ssI ks).map tupD) s)
    | none => .bad
  | none => .bad
theorem tup_refs {C : Cn} {W : Wd} {H : Hp} (hsub : ∀ a o, W.hs a = some o → H a = some o) : ∀ {ks : List (List Int)} {vs : List V}, RepL C W (ks.map tupD) vs → ∃ ps : List (Addr × List Int), vs = ps.map (fun p => V.ref p.1) ∧ ps.map (·.2) = ks ∧ (∀ p ∈ ps, SqT C.K H p.1 (p.2.map V.int)) ∧ ∀ p ∈ ps, Rep C W (tupD p.2) (.ref p.1)
  | [], vs, h => by
    rw [List.map_nil, RepL] at h
    subst h
    exact ⟨[], rfl, rfl, (fun p hp => by cases hp), (fun p hp => by cases hp)⟩
  | n :: ks, vs, h => by
    rw [List.map_cons, RepL] at h
    obtain ⟨v, r, rfl, h1, h2⟩ := h
    obtain ⟨ps, e1, e2, e3, e4⟩ := tup_refs hsub h2
    have h1' := h1
    rw [tupD, Rep] at h1
    obtain ⟨a, ws, rfl, q, t⟩ := h1
    have t := t.ofInts
    subst t
    refine ⟨(a, n) :: ps, by rw [e1]; rfl, by rw [List.map_cons, e2], fun p hp => ?_, fun p hp => ?_⟩
    · rcases List.mem_cons.mp hp with rfl | hp
      · exact sqt_mono hsub q
      · exact e3 p hp
    · rcases List.mem_cons.mp hp with rfl | hp
      · exact h1'
      · exact e4 p hp
theorem refs_rep {C : Cn} {W : Wd} : ∀ {ps : List (Addr × List Int)}, (∀ p ∈ ps, Rep C W (tupD p.2) (.ref p.1)) → RepL C W (ps.map fun p => tupD p.2) (ps.map fun p => V.ref p.1)
  | [], _ => RepL.nil
  | p :: ps, h => RepL.cons (h p (List.mem_cons_self ..)) (refs_rep fun q hq => h q (List.mem_cons_of_mem _ hq))
theorem zf_sset {X : Cx} {C : Cn} {Wx : WX} {k : Nat} {e : Expr} {f : Ex} {p1 p2 q1 q2 : Pos} (hK : X.K = C.K) (hc : X.calm = true) (hr : Room k X.A) (hg : Gl X "sorted") (hm : X.mg "sorted" = none) (hg2 : Gl X "set") (hm2 : X.mg "set" = none) (he : PE X e (tE C Wx f))
    (h1 : starEach [.Call (.Name "set" p2) [e] [] q2] X.env = (false, eval (.Call (.Name "set" p2) [e] [] q2) X.env) :: starEach [] X.env := by rfl) (h2 : starEach [e] X.env = (false, eval e X.env) :: starEach [] X.env := by rfl) (hpl1 : (backTo q1 (starEach [] X.env)).any (·.1) = false := by rfl) (hpl2 : (backTo q2 (starEach [] X.env)).any (·.1) = false := by rfl) :
    PE X (.Call (.Name "sorted" p1) [.Call (.Name "set" p2) [e] [] q2] [] q1) (tF C Wx (fSSet f)) :=
  pe_imp (pe_callB (cr_sortedT hc) hg hm (by decide +kernel) (pa_cons (pe_callTy (cr_setOfT hc (by have := hr.un; omega)) hg2 hm2 (by decide +kernel) (pa_cons he pa_nil h2) (he := h2) (hpl := hpl2)) pa_nil h1) (he := h1) (hpl := hpl1)) fun σ H Q ⟨ρ, W, s, er, sm, o⟩ =>
    ⟨ρ, W, s, er, sm, Out.mono (OutF.bind (P := Rep C) o) (by
      rintro v H1 ⟨W1, s1, d, e1, sm1, r1, o1⟩
      split at o1
      · rename_i l hl
        split at o1
        · rename_i ks hks
          obtain ⟨c, o1⟩ := gdF o1
          unfold ssOk at c
          rw [Bool.and_eq_true, Bool.and_eq_true] at c
          obtain ⟨c1, c2, c3⟩ := c
          have c1 := of_decide_eq_true c1
          have c2 := of_decide_eq_true c2
          have el := tups_eq hks
          subst el
          obtain ⟨a, vs, rfl, q, t⟩ := seqL_get sm1 r1 hl
          obtain ⟨ps, rfl, eks, hsq, hrp⟩ := tup_refs sm1.sub t
          have hlen : ps.length = ks.length := by rw [← eks, List.length_map]
          have hall : ∀ p ∈ ps, p.2.length = (ks.headD []).length ∧ ∀ x ∈ p.2, 0 ≤ x := fun p hp => by
            have hm' : p.2 ∈ ks := by
              rw [← eks]
              exact List.mem_map.mpr ⟨p, hp, rfl⟩
            have := List.all_eq_true.mp c3 p.2 hm'
            rw [Bool.and_eq_true] at this
            exact ⟨of_decide_eq_true this.1, fun x hx => of_decide_eq_true (List.all_eq_true.mp this.2 x hx)⟩
          have hbd : ∀ n ∈ ks, TS.Bd (capI ks) n := cap_bd fun n hn => by
            rw [← eks] at hn
            obtain ⟨p, hp, rfl⟩ := List.mem_map.mp hn
            exact (hall p hp).2
          refine ⟨a, ps, rfl, hK ▸ q, fun p hp => hK ▸ hsq p hp, by omega, fun A L hA hL1 hL2 => ?_⟩
          have fr : ∀ p ∈ L, SqT X.K (upd H1 A (SetTO X.prog X.w A L)) p.1 (p.2.map V.int) := fun p hp => by
            have := hsq p (hL1 p hp)
            rw [hK]
            exact sqt_mono0 (fun b u hb => by rw [upd_ne (ne_of_none hb hA)]; exact hb) this
          refine ⟨A, L, (ks.headD []).length, capI ks, rfl, upd_same, fr, c1, fun p hp => ⟨(hall p (hL1 p hp)).1, ?_⟩, fun L' P pm nd _ pw hP => ?_⟩
          · refine hbd p.2 ?_
            rw [← eks]
            exact List.mem_map.mpr ⟨p, hL1 p hp, rfl⟩
          have eL : L'.map (·.2) = ssI ks := by
            refine ris_eq ?_ (ss_ris ks) fun z => ?_
            · have nd' : L'.Pairwise fun p q => p.2 ≠ q.2 := List.pairwise_map.mp nd
              refine List.pairwise_map.mpr ((pw.and nd').imp_of_mem ?_)
              rintro p q' hp hq ⟨h1, h2⟩
              have hp' := hL1 p (pm.mem_iff.mp hp)
              have hq' := hL1 q' (pm.mem_iff.mp hq)
              have ml : p.2.length = q'.2.length := (hall p hp').1.trans (hall q' hq').1.symm
              have b1 : TS.Bd (capI ks) p.2 := hbd p.2 (by rw [← eks]; exact List.mem_map.mpr ⟨p, hp', rfl⟩)
              have b2 : TS.Bd (capI ks) q'.2 := hbd q'.2 (by rw [← eks]; exact List.mem_map.mpr ⟨q', hq', rfl⟩)
              rcases lex_tot p.2 q'.2 with k | k | k
              · exact k
              · exact absurd k h2
              · have := code_lex q'.2 p.2 ml.symm b2 b1 k
                omega
            · rw [ss_mem, ← eks]
              constructor
              · intro hz
                obtain ⟨p, hp, rfl⟩ := List.mem_map.mp hz
                exact List.mem_map.mpr ⟨p, hL1 p (pm.mem_iff.mp hp), rfl⟩
              · intro hz
                obtain ⟨p, hp, rfl⟩ := List.mem_map.mp hz
                obtain ⟨p', hp', e'⟩ := List.mem_map.mp (hL2 p hp)
                exact List.mem_map.mpr ⟨p', pm.mem_iff.mpr hp', e'⟩
          have e2 := Ext.alloc hA (SetTO X.prog X.w A L) sm1
          have o2 := OutF.ext e2 o1
          refine OutF.now o2 (Sim.alloc hA _ sm1) ?_ hP
          have rr : RepL C W1 (L'.map fun p => tupD p.2) (L'.map fun p => V.ref p.1) := refs_rep fun p hp => hrp p (hL1 p (pm.mem_iff.mp hp))
          have em : L'.map (fun p => tupD p.2) = (ssI ks).map tupD := by
            rw [← eL, List.map_map]
            rfl
          rw [em] at rr
          exact rr.mono e2.le
        · exact o1.elim
      · exact o1.elim)⟩
end Z

/-! Z35: rows of whole numbers; paints turned, by places. -/
namespace Z
open PySem L2
def bLed : Stm := sSeq (sSetL 2 (lF (fMul (eLst (aCons (eC (.int 0)) (aNil))) (eC (.int 6))))) (sSeq (sFor (.nm 3) (itR1 (aCons (eC (.int 6)) (aNil))) (sAsgP (pIxL 2 (eBin dIx (eVar 1) (eVar 3))) (eBin dIx (eVar 0) (eVar 3)))) (sRet (eCB fTuple (aCons (eVar 2) (aNil)))))
def zLed : FnZ := fnz 4 bLed
def natOf (d : D) : Nat := match d with
  | .int i => i.toNat
  | _ => 0
/-- from which side what is at each place comes -/
def idx (t : D) : List Nat := (perm t [.int 0, .int 1, .int 2, .int 3, .int 4, .int 5]).map natOf
def permI (t : D) (vs : List Int) : List Int := (idx t).map fun i => vs.getD i 0
theorem idx_lt {t : D} (ht : t ∈ tT) : (idx t).length = 6 ∧ ∀ i ∈ idx t, i < 6 := by
  have h : tT.map (fun t => decide ((idx t).length = 6) && (idx t).all fun i => decide (i < 6)) = tT.map fun _ => true := by kernel_rfl
  have := ones h ht
  rw [Bool.and_eq_true] at this
  exact ⟨of_decide_eq_true this.1, fun i hi => of_decide_eq_true (List.all_eq_true.mp this.2 i hi)⟩
theorem permI_len {t : D} (ht : t ∈ tT) (vs : List Int) : (permI t vs).length = 6 := by
  unfold permI
  rw [List.length_map]
  exact (idx_lt ht).1
theorem permI_mem {t : D} (ht : t ∈ tT) {vs : List Int} (hl : vs.length = 6) {x : Int} (hx : x ∈ permI t vs) : x ∈ vs := by
  unfold permI at hx
  obtain ⟨i, hi, rfl⟩ := List.mem_map.mp hx
  have h6 := (idx_lt ht).2 i hi
  have hi2 : i < vs.length := by omega
  rw [List.getD_eq_getElem?_getD, List.getElem?_eq_getElem hi2]
  exact List.getElem_mem hi2
theorem byI {t : D} (ht : t ∈ tT) {vs : List Int} (hl : vs.length = 6) (g : List GO) : zTurnedBy [tupD vs, t] g = .ok (tupD (permI t vs)) ⟨[], g⟩ := by
  match vs, hl with
  | [a, b, c, e, f, h], _ =>
    exact ones (lT := tT) (f := fun t => zTurnedBy [tupD [a, b, c, e, f, h], t] g) (g := fun t => .ok (tupD (permI t [a, b, c, e, f, h])) ⟨[], g⟩) (by kernel_rfl) ht
theorem ledI {t : D} (ht : t ∈ tT) {vs : List Int} (hl : vs.length = 6) (g : List GO) : zLed [tupD vs, t] g = .ok (tupD (permI t vs)) ⟨[], g⟩ := by
  match vs, hl with
  | [a, b, c, e, f, h], _ =>
    exact ones (lT := tT) (f := fun t => zLed [tupD [a, b, c, e, f, h], t] g) (g := fun t => .ok (tupD (permI t [a, b, c, e, f, h])) ⟨[], g⟩) (by kernel_rfl) ht
/-! rows of whole numbers -/
theorem tup_sh (n : List Int) : Sh (tupD n) := by
  have h := sh_all (n.map D.int) (ints_sh n)
  have hd : PyData.depthAll (toPs (n.map D.int)) ≤ 1 := by
    induction n with
    | nil => rw [List.map_nil, toPs, PyData.depthAll]; omega
    | cons x n ih =>
      have hx := sh_all (n.map D.int) (ints_sh n)
      rw [List.map_cons, toPs, PyData.depthAll]
      exact Nat.max_le.mpr ⟨by rw [toP, PyData.depth]; omega, ih hx⟩
  refine ⟨?_, ?_⟩
  · rw [tupD, toP, PyData.canLay0]
    exact h.1
  · rw [tupD, toP, PyData.depth]
    omega
theorem rows_sh (L : List (List Int)) : ∀ d ∈ L.map tupD, Sh d := fun d hd => by
  obtain ⟨n, _, rfl⟩ := List.mem_map.mp hd
  exact tup_sh n
theorem rows_shp (L : List (List Int)) : shp (.lst (L.map tupD)) = true := shp_lst (rows_sh L)
theorem eqv_rows : ∀ L : List (List Int), PyData.eqvAll (toPs (L.map tupD)) (toPs (L.map tupD)) = true
  | [] => by rw [List.map_nil, toPs, PyData.eqvAll]
  | n :: L => by
    have : PyData.eqv (toP (tupD n)) (toP (tupD n)) = true := eqD_ints n
    rw [List.map_cons, toPs, PyData.eqvAll, this, eqv_rows L]
    rfl
theorem eqD_rows (L : List (List Int)) : eqD (.lst (L.map tupD)) (.lst (L.map tupD)) = true := by
  unfold eqD
  rw [toP, PyData.eqv]
  exact eqv_rows L
theorem eqP : ∀ a b : List Int, PyData.eqvAll (toPs (a.map D.int)) (toPs (b.map D.int)) = decide (a = b)
  | [], [] => by rw [List.map_nil, toPs, PyData.eqvAll]; rfl
  | [], y :: b => by rw [List.map_nil, List.map_cons, toPs, toPs, PyData.eqvAll]; rfl
  | x :: a, [] => by rw [List.map_nil, List.map_cons, toPs, toPs, PyData.eqvAll]; rfl
  | x :: a, y :: b => by
    rw [List.map_cons, List.map_cons, toPs, toPs, PyData.eqvAll, eqP a b, toP, toP, PyData.eqv]
    by_cases h1 : x = y
    · subst h1
      by_cases h2 : a = b
      · subst h2
        simp
      · simp [h2]
    · simp [h1]
/-- two tuples of whole numbers are equal just where the numbers are -/
theorem eqD_tup (a b : List Int) : eqD (tupD a) (tupD b) = decide (a = b) := by
  unfold eqD
  rw [tupD, tupD, toP, toP, PyData.eqv]
  exact eqP a b
theorem alike_ints : ∀ a b : List Int, PySem.W.alikeAll (toPs (a.map D.int)) (toPs (b.map D.int)) = true
  | [], b => by rw [List.map_nil, toPs, PySem.W.alikeAll]
  | x :: a, [] => by rw [List.map_nil, List.map_cons, toPs, toPs, PySem.W.alikeAll]
  | x :: a, y :: b => by
    rw [List.map_cons, List.map_cons, toPs, toPs, PySem.W.alikeAll, alike_ints a b, toP, toP, PySem.W.alike]
    rfl
theorem alike_tup (a b : List Int) : PySem.W.alike (toP (tupD a)) (toP (tupD b)) = true := by
  rw [tupD, tupD, toP, toP, PySem.W.alike]
  exact alike_ints a b
theorem rows_min (L : List (List Int)) : minOk (L.map tupD) = true := by
  unfold minOk
  simp only [Bool.and_eq_true]
  refine ⟨List.all_eq_true.mpr fun x hx => List.all_eq_true.mpr fun y hy => ?_, List.all_eq_true.mpr fun x hx => ?_, List.all_eq_true.mpr fun x hx => ?_, List.all_eq_true.mpr fun x hx => ?_⟩
  · obtain ⟨a, _, rfl⟩ := List.mem_map.mp hx
    obtain ⟨b, _, rfl⟩ := List.mem_map.mp hy
    exact alike_tup a b
  · obtain ⟨a, _, rfl⟩ := List.mem_map.mp hx
    rfl
  · obtain ⟨a, _, rfl⟩ := List.mem_map.mp hx
    exact decide_eq_true (tup_sh a).2
  · exact shp_sh (rows_sh L x hx)
theorem minF_mem : ∀ (l : List D) (x : D), minF x l ∈ x :: l
  | [], x => List.mem_cons_self ..
  | y :: l, x => by
    have : minF x (y :: l) = minF (if ltP y x then y else x) l := rfl
    rw [this]
    rcases List.mem_cons.mp (minF_mem l (if ltP y x then y else x)) with h | h
    · rw [h]
      split <;> simp
    · simp [h]
theorem tups_of : ∀ L : List (List Int), tupsOf (L.map tupD) = some L
  | [] => rfl
  | n :: L => by
    have h : intsOf (n.map D.int) = some n := by
      induction n with
      | nil => rfl
      | cons x n ih => rw [List.map_cons, intsOf, ih]
    have h2 : intsT (tupD n) = some n := h
    rw [List.map_cons, tupsOf, h2, tups_of L]
theorem rows_ss {L : List (List Int)} {d : Nat} (h1 : 1 ≤ d) (h2 : L.length < 64) (h3 : ∀ n ∈ L, n.length = d ∧ ∀ x ∈ n, 0 ≤ x) (hne : L ≠ []) : ssOk (L.headD []).length L = true := by
  have hd : (L.headD []).length = d := by
    cases L with
    | nil => exact absurd rfl hne
    | cons n L => exact (h3 n (List.mem_cons_self ..)).1
  unfold ssOk
  rw [hd, decide_eq_true h1, decide_eq_true h2, Bool.true_and, Bool.true_and]
  refine List.all_eq_true.mpr fun n hn => ?_
  rw [Bool.and_eq_true]
  exact ⟨decide_eq_true (h3 n hn).1, List.all_eq_true.mpr fun x hx => decide_eq_true ((h3 n hn).2 x hx)⟩
theorem compGo_filt {T : Tg} {p : Bx} {e : Ex} {ρ : Rho} {f : D → D} {P : D → Bool} {s : S} : ∀ l : List D, (∀ d ∈ l, ∃ ρ', T.put d ρ = some ρ' ∧ p ρ' s = .ok (P d) s ∧ e ρ' s = .ok (f d) s) → compGo T p e ρ l s = .ok ((l.filter P).map f) s
  | [], _ => rfl
  | d :: l, h => by
    obtain ⟨ρ', h1, h2, h3⟩ := h d (List.mem_cons_self ..)
    have ih := compGo_filt l fun e he => h e (List.mem_cons_of_mem _ he)
    rw [compGo, h1]
    cases z : P d with
    | true =>
      rw [z] at h2
      rw [List.filter_cons_of_pos z, List.map_cons]
      simp only [h2, bind_ok, h3, ih]
    | false =>
      rw [z] at h2
      rw [List.filter_cons_of_neg (by rw [z]; exact Bool.false_ne_true)]
      simp only [h2, bind_ok, ih]
theorem dEq_tup (a b : List Int) (s : S) : dEq (tupD a) (tupD b) s = .ok (.bl (decide (a = b))) s := by
  have ha := shp_sh (tup_sh a)
  have hb := shp_sh (tup_sh b)
  have h := eqD_tup a b
  have e : dEq (tupD a) (tupD b) s = gd (shp (tupD a) && shp (tupD b)) (.ok (.bl (eqD (tupD a) (tupD b))) s) := rfl
  rw [e, ha, hb, h]
  rfl
theorem dNe_tup (a b : List Int) (s : S) : dNe (tupD a) (tupD b) s = .ok (.bl (!decide (a = b))) s := by
  have ha := shp_sh (tup_sh a)
  have hb := shp_sh (tup_sh b)
  have h := eqD_tup a b
  have e : dNe (tupD a) (tupD b) s = gd (shp (tupD a) && shp (tupD b)) (.ok (.bl (!eqD (tupD a) (tupD b))) s) := rfl
  rw [e, ha, hb, h]
  rfl
/-- all turns' sides, as whole numbers -/
def TI : List (List Int) := tT.map fun t => (intsT t).getD []
theorem tT_rows : tT = TI.map tupD := by kernel_rfl
end Z

/-! Z36: defs with defaults. -/
namespace Z
open PySem PySem.Spec PyProof.Rows L2
/-- data that are no objects, as values -/
def atomV : D → V
  | .bl b => .bl b
  | .int i => .int i
  | .str x => .str x
  | _ => .non
def isAt (d : D) : Bool := match d with
  | .non => true
  | .bl _ => true
  | .int _ => true
  | .str _ => true
  | _ => false
def atEq : D → Value → Bool
  | .non, .none => true
  | .bl b, .bool c => b == c
  | .int i, .int j _ => i == j
  | .str x, .str y _ => decide (x = y)
  | _, _ => false
def atAll : List D → List Value → Bool
  | [], [] => true
  | d :: l, u :: us => atEq d u && atAll l us
  | _, _ => false
theorem atEq_rel {d : D} {u : Value} (h : atEq d u = true) : RelV (atomV d) u := by
  cases d <;> cases u <;> simp [atEq] at h
  · rfl
  · subst h; rfl
  · subst h; exact ⟨_, rfl⟩
  · subst h; exact ⟨_, rfl⟩
theorem atAll_vals : ∀ {l : List D} {us : List Value}, atAll l us = true → Vals (l.map atomV) us
  | [], [], _ => .nil
  | [], _ :: _, h => by cases h
  | _ :: _, [], h => by cases h
  | d :: l, u :: us, h => by
    rw [atAll, Bool.and_eq_true] at h
    exact .cons (atEq_rel h.1) (atAll_vals h.2)
theorem at_rep {C : Cn} {W : Wd} : ∀ {l : List D}, l.all isAt = true → RepL C W l (l.map atomV)
  | [], _ => RepL.nil
  | d :: l, h => by
    rw [List.all_cons, Bool.and_eq_true] at h
    refine RepL.cons ?_ (at_rep h.2)
    cases d <;> first | (rw [Rep]; rfl) | (cases h.1)
/-- the defaults' tuple holds these -/
def chkDf (K : PySem.W.Frag) (T : Addr) (dd : List D) : Bool := match K.lookup T with
  | some o => match o.data with
    | .seq its _ => atAll dd its.toList
    | _ => false
  | none => false
structure FunE (K : PySem.W.Frag) (x qual : Str) (st : Stmt) (dd : List D) (f : Addr) (fd : FuncData) : Prop where
  ex : ∃ (oc : Value) (od : Option Addr) (T : Addr) (kV doc pm : Value) (an : Option Addr) (cdv ct : Value) (osl : Array (Option Value)),
    fd = PySem.W.fnOf x qual (defArgs st) (defBody st) (defScope st) (.ref T) kV doc pm an cdv ct ∧ K.lookup f = some ⟨oc, od, .func fd, osl⟩ ∧ PySem.W.codeIn K cdv qual = true ∧ chkDf K T dd = true
  kp : PySem.W.keepIn K (.ref f) = true
theorem funE_mk {K : PySem.W.Frag} {x qual : Str} {st : Stmt} {dd : List D} {f T : Addr} {oc : Value} {od an : Option Addr} {osl : Array (Option Value)} {kV doc pm cdv ct : Value} (l : K.lookup f = some ⟨oc, od, .func (PySem.W.fnOf x qual (defArgs st) (defBody st) (defScope st) (.ref T) kV doc pm an cdv ct), osl⟩)
    (c : PySem.W.codeIn K cdv qual = true) (k : PySem.W.keepIn K (.ref f) = true) (t : chkDf K T dd = true) : FunE K x qual st dd f (PySem.W.fnOf x qual (defArgs st) (defBody st) (defScope st) (.ref T) kV doc pm an cdv ct) :=
  ⟨⟨oc, od, T, kV, doc, pm, an, cdv, ct, osl, rfl, l, c, t⟩, k⟩
section
variable {P : Program} {w : World} {K : PySem.W.Frag} {mg : Str → Option Value} {base : Heap} {x qual : Str} {st : Stmt} {dd : List D} {f : Addr} {fd : FuncData} {N ps : List Str} {C : Cn}
/-- a call's binding, the defaults behind -/
theorem bindE_of {ks : List Str} {n : Nat} {sel : List Nat} (F : FunE K x qual st dd f fd)
    (h : ∀ (T : Addr) (kV doc pm : Value) (an : Option Addr) (cdv ct : Value) (us ws its : List Value), us.length = n → ws.length = ks.length → its.length = dd.length →
      ∃ k, bindArgs (PySem.W.fnOf x qual (defArgs st) (defBody st) (defScope st) (.ref T) kV doc pm an cdv ct) ⟨us, ks.zip ws⟩ = seqItems? (.ref T) >>= k ∧ k (some its.toArray) = pure (ps.zip (pick sel (us ++ (ws ++ its))))) :
    ∃ ds, Vals (dd.map atomV) ds ∧ BindZ K fd ps n ks sel ds := by
  obtain ⟨oc, od, T, kV, doc, pm, an, cdv, ct, osl, rfl, lk, hcd, hc⟩ := F.ex
  unfold chkDf at hc
  split at hc
  · rename_i o ho
    split at hc
    · rename_i its m hd
      have hv := atAll_vals hc
      refine ⟨its.toList, hv, fun s us ws X h1 h2 => ?_⟩
      have hl : its.toList.length = dd.length := by
        have := hv.length
        rw [List.length_map] at this
        exact this.symm
      obtain ⟨k, e1, e2⟩ := h T kV doc pm an cdv ct us ws its.toList h1 h2 hl
      refine BindsTo.of_looks fun M => ?_
      rw [e1]
      exact looks_items X ho hd (.of_pure (by simpa using e2))
    · cases hc
  · cases hc
theorem fnG_ofE {k : Nat} {sp : Sp} (F : FunE K x qual st dd f fd) (S : FnScope N ps (defScope st))
    (len : ∀ vs H Q E, sp vs H Q E → vs.length = ps.length)
    (hbody : ∀ (cdv : Value) (A : Around) (outer : List Env) (s : Shared) (H : Hp) (vs : List V) (Q : VK) (E : XK), Room k (A.deeper (envOfC qual (defScope st) s.heap.objs.size f cdv)) → (A.deeper (envOfC qual (defScope st) s.heap.objs.size f cdv)).guards = some [] → sp vs H Q E →
      ∃ t, PSs (cxOf (L2.CX P w) P w K mg base N qual (defScope st) f cdv A outer s H E) (defBody st) t ∧ t { nx := fun _ H' => Q .non H', rt := Q } (start N vs) H) : FnG P w K mg base (k + 1) f fd ps sp := by
  obtain ⟨oc, od, T, kV, doc, pm, an, cdv, ct, osl, rfl, lk, hcd, _⟩ := F.ex
  refine ⟨len, fun A outer s H args us vs Q E hr hgu e0 hb rv hsp => ?_⟩
  have hl := len _ _ _ _ hsp
  have kin : K.In s.heap := e0.mod.kin.keeps fun b o z => (e0.bs b o z).1
  have lim : s.heap.NoLimit := e0.mod.nolimit.keeps fun b o z => (e0.bs b o z).1
  refine Att.call_fn kin lim lk hcd hr.depth hb ?_ (fun s1 y => ?_) S.co S.gen S.kind
  · refine List.all_eq_true.mpr fun y hy => ?_
    have := S.par y.1 (List.of_mem_zip hy).1
    simpa using this
  · obtain ⟨t, ht, hq⟩ := hbody cdv A outer s H vs Q E (hr.deeper _) hgu hsp
    have I := inv_start (CX := L2.CX P w) (E := E) S hr.hd e0 hl rv y
    have back : ∀ {σ' : L2.St} {H' : Hp} {v : V} {u : Value} {s' : Shared}, L2.Inv (cxOf (L2.CX P w) P w K mg base N qual (defScope st) f cdv A outer s H E) [] σ' H' s' → RelV v u → Q v H' → CE outer P w H s Q u s' :=
      fun {σ' H' v u s'} J r q => ⟨v, H', J.os, J.bare, J.base, J.hok, r, q⟩
    refine wpAny_mono (ht.run [] s1 (start N vs) H _ I hq) (fun fl s' h => ?_) fun e s' h => h
    cases fl with
    | next => obtain ⟨σ', H', J, q⟩ := h; exact back (v := V.non) (u := Value.none) J rfl q
    | brk => exact False.elim (let ⟨_, _, _, q⟩ := h; q)
    | cont => exact False.elim (let ⟨_, _, _, q⟩ := h; q)
    | ret u => obtain ⟨v, σ', H', J, r, q⟩ := h; exact back J r q
theorem fnG_zE {k : Nat} {body : Stm} (F : FunE K x qual st dd f fd) (S : FnScope N ps (defScope st))
    (hbody : ∀ (cdv : Value) (A : Around) (outer : List Env) (s : Shared) (H : Hp) (E : XK), Room k (cxOf (L2.CX P w) P w K mg base N qual (defScope st) f cdv A outer s H E).A → (cxOf (L2.CX P w) P w K mg base N qual (defScope st) f cdv A outer s H E).A.guards = some [] →
      L2.Takes (cxOf (L2.CX P w) P w K mg base N qual (defScope st) f cdv A outer s H E) (fun c d _ h => E c d h) →
      PSs (cxOf (L2.CX P w) P w K mg base N qual (defScope st) f cdv A outer s H E) (defBody st) (tS C (fun c d _ h => E c d h) body)) : FnG P w K mg base (k + 1) f fd ps (spZ C (fnz N.length body) ps.length) := by
  refine fnG_ofE F S (fun vs H Q E h => ?_) fun cdv A outer s H vs Q E hr hg h => ?_
  · obtain ⟨W, g, ds, _, h1, h2, _⟩ := h
    rw [← h2.length, h1]
  · refine ⟨_, hbody cdv A outer s H E hr hg (takes_of rfl rfl rfl rfl), ?_⟩
    obtain ⟨W, g, ds, h0, h1, h2, sm, o⟩ := h
    refine ⟨_, W, ⟨[], g⟩, EnvR.start h2, sm, ?_⟩
    unfold fnz at o
    cases q : body (ds.map Sl.v ++ List.replicate (N.length - ds.length) Sl.un) ⟨[], g⟩ with
    | nx ρ s1 =>
      rw [q] at o
      exact fun W' σ' H' e' sm' er => o W'.noll _ H' (e'.toF.noll.ext h0 rfl) sm'.noll (by rw [Rep])
    | ret d s1 =>
      rw [q] at o
      exact fun W' v H' e' hl sm' r => o W' v H' (e'.ext h0 hl) sm' r
    | exc x ρ s1 =>
      rw [q] at o
      exact fun W' σ' H' c dx e' sm' er r => o W'.noll H' c dx (e'.toF.noll.ext h0 rfl) sm'.noll (r.mono le_noll)
    | excF x s1 =>
      rw [q] at o
      exact fun W' σ' H' c dx e' sm' r => o W'.noll H' c dx (e'.noll.ext h0 rfl) sm'.noll (r.mono le_noll)
    | brk ρ s1 => rw [q] at o; exact o.elim
    | cnt ρ s1 => rw [q] at o; exact o.elim
    | bad => rw [q] at o; exact o.elim
end
section
variable {X : Cx} {C : Cn} {Wx : WX} {k : Nat} {f : Addr} {fd : FuncData} {ps ks : List Str} {Fn : FnZ} {x : Str} {p pos : Pos} {e : Expr} {es : List Expr} {a b : Ax} {kws : List Keyword} {n m : Nat} {np nk : Nat} {sel : List Nat} {dd : List D}
theorem ze_callE (F : FnG X.prog X.w X.K X.mg X.base k f fd ps (spZ C Fn np)) (hr : Room k X.A) (hgu : X.A.guards = some []) (tk : L2.Takes X Wx) (hg : Gl X x) (hm : X.mg x = some (.ref f)) (hk : PySem.W.keepIn X.K (.ref f) = true)
    (hb : ∃ ds, Vals (dd.map atomV) ds ∧ BindZ X.K fd ps n ks sel ds) (hdd : dd.all isAt = true) (hsel : sel.length = ps.length) (hnp : ps.length = np) (hnk : ks.length = nk)
    (ha : PA X (e :: es) (tA C Wx a)) (hkw : PK X kws (tA C Wx b)) (hall : (backToKw pos (keywordEach kws X.env)).all (·.1.isSome) = true := by rfl) (hks : (backToKw pos (keywordEach kws X.env)).filterMap (·.1) = ks := by rfl)
    (hdb : (x == ("__debug__" : Str)) = false := by decide) (he : starEach (e :: es) X.env = (false, eval e X.env) :: starEach es X.env := by rfl)
    (hpl : ((backTo pos (starEach (e :: es) X.env)).any (·.1) || (backToKw pos (keywordEach kws X.env)).any (·.1.isNone)) = false := by rfl) :
    PE X (.Call (.Name x p) (e :: es) kws pos) (tE C Wx (eCallK n nk Fn sel dd a b)) :=
  let ⟨_, h1, h2⟩ := hb
  ze_callK F hr hgu tk hg hm hk h2 h1 (fun _ => at_rep hdd) hsel hnp hnk ha hkw hall hks hdb he hpl
theorem ze_callE0 (F : FnG X.prog X.w X.K X.mg X.base k f fd ps (spZ C Fn np)) (hr : Room k X.A) (hgu : X.A.guards = some []) (tk : L2.Takes X Wx) (hg : Gl X x) (hm : X.mg x = some (.ref f)) (hk : PySem.W.keepIn X.K (.ref f) = true)
    (hb : ∃ ds, Vals (dd.map atomV) ds ∧ BindZ X.K fd ps 0 ks sel ds) (hdd : dd.all isAt = true) (hsel : sel.length = ps.length) (hnp : ps.length = np) (hnk : ks.length = nk)
    (hkw : PK X kws (tA C Wx b)) (hall : (backToKw pos (keywordEach kws X.env)).all (·.1.isSome) = true := by rfl) (hks : (backToKw pos (keywordEach kws X.env)).filterMap (·.1) = ks := by rfl)
    (hdb : (x == ("__debug__" : Str)) = false := by decide)
    (hpl : ((backTo pos (starEach [] X.env)).any (·.1) || (backToKw pos (keywordEach kws X.env)).any (·.1.isNone)) = false := by rfl) :
    PE X (.Call (.Name x p) [] kws pos) (tE C Wx (eCallK 0 nk Fn sel dd aNil b)) :=
  let ⟨_, h1, h2⟩ := hb
  ze_callK0 F hr hgu tk hg hm hk h2 h1 (fun _ => at_rep hdd) hsel hnp hnk hkw hall hks hdb hpl
end
end Z

/-! Z37: a place of the script. -/
namespace Z
open PySem L2
def dIxS : F2 := fun d e s => match d, e with
  | .scr l, .int i => match L2.ixN l.length i with
    | some j => match l[j]? with
      | some x => .ok (.int x) s
      | none => .bad
    | none => .bad
  | d, e => dIx d e s
theorem ixdS {X : Cx} {C : Cn} (hK : X.K = C.K) : IxR X (rD C dIxS) := by
  intro value slice pins st σ H x y v u Q I rx ry h hs
  obtain ⟨Wx, σ', W, s, d, e, sm, r1, r2, o⟩ := h
  unfold dIxS at o
  split at o
  · rename_i l i
    split at o
    · rename_i j hj
      split at o
      · rename_i z hz
        rw [Rep] at r1
        rw [Rep] at r2
        obtain ⟨a1, rfl, q1⟩ := r1
        subst r2
        refine ix_list value slice pins st σ H _ _ v u Q I rx ry ⟨a1, l.map V.int, i, .int z, rfl, rfl, by rw [hK]; exact sql_mono sm.sub q1, ?_, o.now sm (by rw [Rep])⟩ hs
        unfold L2.atI
        rw [List.length_map, hj]
        simp [hz]
      · exact o.elim
    · exact o.elim
  · exact ixd hK value slice pins st σ H x y v u Q I rx ry ⟨Wx, σ', W, s, d, e, sm, r1, r2, o⟩ hs
end Z

/-! Z38: draws from one number of the script. -/
namespace Z
open PySem L2
def bDraws : Stm := sSeq (sSet 3 (eC (.int 0))) (sSeq (sIf (bC (eBin dGt (eCB fLen (aCons (eVar 0) (aNil))) (eC (.int 0)))) (sSet 3 (eBin dIxS (eVar 0) (eBin dMod (eVar 1) (eCB fMin2 (aCons (eC (.int 63)) (aCons (eCB fLen (aCons (eVar 0) (aNil))) (aNil))))))) (sNil)) (sSeq (sSet 4 (eAnd (eBin dLt (eVar 1) (eCB fLen (aCons (eVar 0) (aNil)))) (eBin dGe (eVar 3) (eBin dPow (eC (.int 10)) (eC (.int 18)))))) (sSeq (sIf (bT (eVar 4)) (sSet 3 (eBin dAnd (eVar 3) (eBin dSub (eBin dPow (eBin dPow (eBin dPow (eC (.int 2)) (eC (.int 60))) (eC (.int 60))) (eC (.int 6))) (eC (.int 1))))) (sNil)) (sSeq (sSet 5 (eBin dAdd (eBin dMod (eVar 3) (eC (.int 2147483629))) (eBin dMul (eC (.int 69621)) (eVar 1)))) (sSeq (sSetL 6 (lF (fDisp (aNil)))) (sSeq (sFor (.nm 7) (itR1 (aCons (eVar 2) (aNil))) (sIf (bT (eVar 4)) (sSeq (sEx (onL 6 (eML 6 mAppend (aCons (eBin dMod (eVar 3) (eBin dPow (eC (.int 10)) (eC (.int 9)))) (aNil))))) (sSet 3 (eBin dDiv (eVar 3) (eBin dPow (eC (.int 10)) (eC (.int 9)))))) (sSeq (sSet 8 (eBin dMod (eBin dAdd (eVar 5) (eBin dMul (eC (.int 48271)) (eBin dAdd (eVar 7) (eC (.int 1))))) (eC (.int 2147483629)))) (sSeq (sSet 8 (eBin dMod (eBin dAdd (eBin dMul (eVar 8) (eVar 8)) (eVar 7)) (eC (.int 2147483629)))) (sEx (onL 6 (eML 6 mAppend (aCons (eBin dMod (eBin dMod (eBin dMul (eVar 8) (eVar 8)) (eC (.int 2147483587))) (eBin dPow (eC (.int 10)) (eC (.int 9)))) (aNil))))))))) (sRet (eVar 6))))))))
def zDraws : FnZ := fnz 9 bDraws
def dsB : Stm := (sIf (bT (eVar 4)) (sSeq (sEx (onL 6 (eML 6 mAppend (aCons (eBin dMod (eVar 3) (eBin dPow (eC (.int 10)) (eC (.int 9)))) (aNil))))) (sSet 3 (eBin dDiv (eVar 3) (eBin dPow (eC (.int 10)) (eC (.int 9)))))) (sSeq (sSet 8 (eBin dMod (eBin dAdd (eVar 5) (eBin dMul (eC (.int 48271)) (eBin dAdd (eVar 7) (eC (.int 1))))) (eC (.int 2147483629)))) (sSeq (sSet 8 (eBin dMod (eBin dAdd (eBin dMul (eVar 8) (eVar 8)) (eVar 7)) (eC (.int 2147483629)))) (sEx (onL 6 (eML 6 mAppend (aCons (eBin dMod (eBin dMod (eBin dMul (eVar 8) (eVar 8)) (eC (.int 2147483587))) (eBin dPow (eC (.int 10)) (eC (.int 9)))) (aNil))))))))
theorem mulOk_48 (y : Int) : mulOk 48271 y = true := mulOk_l (by decide)
theorem mulOk_69 (y : Int) : mulOk 69621 y = true := mulOk_l (by decide)
theorem dsB_ok {a0 a1 a2 a8 : Sl} {c nm : Int} {b : Bool} {j : Nat} {ds : List Int} {g : List GO} (hl : ds.length < 1000) :
    ∃ (c' : Int) (x8 : Sl) (d : Int), 0 ≤ d ∧ d < 1000000000 ∧ dsB [a0, a1, a2, .v (.int c), .v (.bl b), .v (.int nm), .l 0, .v (.int (0 + (j : Nat))), a8] ⟨[.lst (ds.map D.int)], g⟩ = .nx [a0, a1, a2, .v (.int c'), .v (.bl b), .v (.int nm), .l 0, .v (.int (0 + (j : Nat))), x8] ⟨[.lst ((ds ++ [d]).map D.int)], g⟩ := by
  have z1 := sz_of (m := ds.length) (n := 1) (by omega)
  cases b with
  | true =>
    refine ⟨c / 1000000000, a8, c % 1000000000, Int.emod_nonneg _ (by decide), Int.emod_lt_of_pos _ (by decide), ?_⟩
    simp only [fnz, sNil, sSeq, sPass, sBrk, sCnt, sEx, sIf, sSet, sRet, sRetN, sAsgP, sAsg, sPar, sAug, sSetL, sFor, view, viewS, eVar, slot, eC, eBin, eUn, eIf, eAnd, eOr, eNot, isBl, eTup, eLst, aNil, aCons, sz1, eSl, oNo, oPart, eCB, eCall, eCallK, callF, pick, eIsi, fIsi, tyD, isiB, eF, eG, lF, fDisp, fCB, bT, bC, bNot, bAnd, bOr, tru, pTp, itemsG, psCons, psNil, pNm, pIxG, pIxL, atG, dAdd, dSub, dMul, dDiv, dMod, dNeg, dIx, ge_i, le_i, gt_i, dIAdd, fLen, fAbs, fMax2, fMin2, fInt, fBool, mulOk_a, mulOk_b, mulOk_c, mulOk_d, Int.reduceLT, Int.reduceLE, Nat.zero_le, Nat.reduceLeDiff, onL, isL, atL, eEqL_at, eWL, wL, hEq, hIn, hIx, eIxL_at, eInL_at, eLenL, eML, eMGo, nowG, mAppend, mPop, eLst, see, dEq, dNe, seqL, fListF, fSl, itR1, itR2, itA, sWh_at, List.getElem?_cons_zero, List.getElem?_cons_succ, List.getElem?_nil, Int.toNat_natCast, pow18, pow9, pow60, pow60_20, List.map_cons, List.map_nil, List.length_cons, List.length_nil, List.length_map, List.cons_append, List.nil_append, List.append_nil, List.replicate_succ, List.replicate_zero, List.set_cons_zero, List.set_cons_succ, List.set_nil, Nat.reduceAdd, Nat.reduceSub, Nat.zero_add, Nat.beq, Nat.sub_self, bind_ok, toS_ok, sure_ok, gd_t, nx_bind, ret_bind, brk_bind, cnt_bind, exc_bind, excF_bind, loop_nx, loop_ret, loop_brk, loop_cnt, String.reduceBEq, beq_self_eq_true, Bool.or_false, Bool.or_true, Bool.false_or, Bool.true_or, Bool.false_and, Bool.and_false, decide_true, decide_false, Bool.and_true, Bool.true_and, Bool.and_self, Bool.not_true, Bool.not_false, dsB, z1, List.map_append, (by decide : decide ((0 : Int) < 1000000000) = true), (by decide : decide ((1000000000 : Int).natAbs.log2 < 9000) = true)]
  | false =>
    refine ⟨c, .v (.int ((((nm + 48271 * ((0 + (j : Nat)) + 1)) % 2147483629) * ((nm + 48271 * ((0 + (j : Nat)) + 1)) % 2147483629) + (0 + (j : Nat))) % 2147483629)), ((((nm + 48271 * ((0 + (j : Nat)) + 1)) % 2147483629) * ((nm + 48271 * ((0 + (j : Nat)) + 1)) % 2147483629) + (0 + (j : Nat))) % 2147483629) * ((((nm + 48271 * ((0 + (j : Nat)) + 1)) % 2147483629) * ((nm + 48271 * ((0 + (j : Nat)) + 1)) % 2147483629) + (0 + (j : Nat))) % 2147483629) % 2147483587 % 1000000000, ?_, ?_, ?_⟩
    rotate_left 2
    · simp only [fnz, sNil, sSeq, sPass, sBrk, sCnt, sEx, sIf, sSet, sRet, sRetN, sAsgP, sAsg, sPar, sAug, sSetL, sFor, view, viewS, eVar, slot, eC, eBin, eUn, eIf, eAnd, eOr, eNot, isBl, eTup, eLst, aNil, aCons, sz1, eSl, oNo, oPart, eCB, eCall, eCallK, callF, pick, eIsi, fIsi, tyD, isiB, eF, eG, lF, fDisp, fCB, bT, bC, bNot, bAnd, bOr, tru, pTp, itemsG, psCons, psNil, pNm, pIxG, pIxL, atG, dAdd, dSub, dMul, dDiv, dMod, dNeg, dIx, ge_i, le_i, gt_i, dIAdd, fLen, fAbs, fMax2, fMin2, fInt, fBool, mulOk_a, mulOk_b, mulOk_c, mulOk_d, Int.reduceLT, Int.reduceLE, Nat.zero_le, Nat.reduceLeDiff, onL, isL, atL, eEqL_at, eWL, wL, hEq, hIn, hIx, eIxL_at, eInL_at, eLenL, eML, eMGo, nowG, mAppend, mPop, eLst, see, dEq, dNe, seqL, fListF, fSl, itR1, itR2, itA, sWh_at, List.getElem?_cons_zero, List.getElem?_cons_succ, List.getElem?_nil, Int.toNat_natCast, pow18, pow9, pow60, pow60_20, List.map_cons, List.map_nil, List.length_cons, List.length_nil, List.length_map, List.cons_append, List.nil_append, List.append_nil, List.replicate_succ, List.replicate_zero, List.set_cons_zero, List.set_cons_succ, List.set_nil, Nat.reduceAdd, Nat.reduceSub, Nat.zero_add, Nat.beq, Nat.sub_self, bind_ok, toS_ok, sure_ok, gd_t, nx_bind, ret_bind, brk_bind, cnt_bind, exc_bind, excF_bind, loop_nx, loop_ret, loop_brk, loop_cnt, String.reduceBEq, beq_self_eq_true, Bool.or_false, Bool.or_true, Bool.false_or, Bool.true_or, Bool.false_and, Bool.and_false, decide_true, decide_false, Bool.and_true, Bool.true_and, Bool.and_self, Bool.not_true, Bool.not_false, dsB, z1, List.map_append, mulOk_48, (by decide : decide ((0 : Int) < 1000000000) = true), (by decide : decide ((0 : Int) < 2147483629) = true), (by decide : decide ((0 : Int) < 2147483587) = true)]
    · exact Int.emod_nonneg _ (by decide)
    · exact Int.emod_lt_of_pos _ (by decide)
theorem pow_60 (s : S) : dPow (.int 2) (.int 60) s = .ok (.int (2 ^ 60)) s := by
  unfold dPow
  simp only
  rw [gd_of (by decide +kernel)]
  rfl
theorem pow_3600 (s : S) : dPow (.int (2 ^ 60)) (.int 60) s = .ok (.int ((2 ^ 60) ^ 60)) s := by
  unfold dPow
  simp only
  rw [gd_of (by decide +kernel)]
  rfl
theorem pow_21600 (s : S) : dPow (.int ((2 ^ 60) ^ 60)) (.int 6) s = .ok (.int (((2 ^ 60) ^ 60) ^ 6)) s := by
  unfold dPow
  simp only
  rw [gd_of (by decide +kernel)]
  rfl
theorem draws_ok (zs : List Int) (hz : zs.length ≤ 63) (j : Nat) (many : Nat) (hm : many ≤ 900) (g : List GO) : ∃ ds : List Int, zDraws [.scr zs, .int j, .int many] g = .ok (.lst (ds.map D.int)) ⟨[], g⟩ ∧ ds.length = many ∧ ∀ d ∈ ds, 0 ≤ d ∧ d < 1000000000 := by
  obtain ⟨c0, e1⟩ : ∃ c0 : Int, (sIf (bC (eBin dGt (eCB fLen (aCons (eVar 0) (aNil))) (eC (.int 0)))) (sSet 3 (eBin dIxS (eVar 0) (eBin dMod (eVar 1) (eCB fMin2 (aCons (eC (.int 63)) (aCons (eCB fLen (aCons (eVar 0) (aNil))) (aNil))))))) (sNil)) [.v (.scr zs), .v (.int j), .v (.int many), .v (.int 0), .un, .un, .un, .un, .un] ⟨[], g⟩ = .nx [.v (.scr zs), .v (.int j), .v (.int many), .v (.int c0), .un, .un, .un, .un, .un] ⟨[], g⟩ := by
    by_cases h : zs.length = 0
    · refine ⟨0, ?_⟩
      have h' : ¬ ((0 : Int) < (zs.length : Nat)) := by omega
      simp only [fnz, sNil, sSeq, sPass, sBrk, sCnt, sEx, sIf, sSet, sRet, sRetN, sAsgP, sAsg, sPar, sAug, sSetL, sFor, view, viewS, eVar, slot, eC, eBin, eUn, eIf, eAnd, eOr, eNot, isBl, eTup, eLst, aNil, aCons, sz1, eSl, oNo, oPart, eCB, eCall, eCallK, callF, pick, eIsi, fIsi, tyD, isiB, eF, eG, lF, fDisp, fCB, bT, bC, bNot, bAnd, bOr, tru, pTp, itemsG, psCons, psNil, pNm, pIxG, pIxL, atG, dAdd, dSub, dMul, dDiv, dMod, dNeg, dIx, ge_i, le_i, gt_i, dIAdd, fLen, fAbs, fMax2, fMin2, fInt, fBool, mulOk_a, mulOk_b, mulOk_c, mulOk_d, Int.reduceLT, Int.reduceLE, Nat.zero_le, Nat.reduceLeDiff, onL, isL, atL, eEqL_at, eWL, wL, hEq, hIn, hIx, eIxL_at, eInL_at, eLenL, eML, eMGo, nowG, mAppend, mPop, eLst, see, dEq, dNe, seqL, fListF, fSl, itR1, itR2, itA, sWh_at, List.getElem?_cons_zero, List.getElem?_cons_succ, List.getElem?_nil, Int.toNat_natCast, pow18, pow9, pow60, pow60_20, List.map_cons, List.map_nil, List.length_cons, List.length_nil, List.length_map, List.cons_append, List.nil_append, List.append_nil, List.replicate_succ, List.replicate_zero, List.set_cons_zero, List.set_cons_succ, List.set_nil, Nat.reduceAdd, Nat.reduceSub, Nat.zero_add, Nat.beq, Nat.sub_self, bind_ok, toS_ok, sure_ok, gd_t, nx_bind, ret_bind, brk_bind, cnt_bind, exc_bind, excF_bind, loop_nx, loop_ret, loop_brk, loop_cnt, String.reduceBEq, beq_self_eq_true, Bool.or_false, Bool.or_true, Bool.false_or, Bool.true_or, Bool.false_and, Bool.and_false, decide_true, decide_false, Bool.and_true, Bool.true_and, Bool.and_self, Bool.not_true, Bool.not_false, h']
    · have h' : (0 : Int) < (zs.length : Nat) := by omega
      have em : (if ((zs.length : Nat) : Int) < 63 then ((zs.length : Nat) : Int) else 63) = (zs.length : Nat) := by
        by_cases q : ((zs.length : Nat) : Int) < 63
        · rw [if_pos q]
        · rw [if_neg q]
          omega
      have i0 := Int.emod_nonneg (j : Int) (by omega : ((zs.length : Nat) : Int) ≠ 0)
      have i1 := Int.emod_lt_of_pos (j : Int) h'
      have hix : L2.ixN zs.length ((j : Int) % (zs.length : Nat)) = some ((j : Int) % (zs.length : Nat)).toNat := by
        unfold L2.ixN
        rw [if_pos i0, if_pos (by omega)]
      have hlt : ((j : Int) % (zs.length : Nat)).toNat < zs.length := by omega
      refine ⟨zs[((j : Int) % (zs.length : Nat)).toNat], ?_⟩
      have hg : zs[((j : Int) % (zs.length : Nat)).toNat]? = some zs[((j : Int) % (zs.length : Nat)).toNat] := List.getElem?_eq_getElem hlt
      have hd : decide ((0 : Int) < (zs.length : Nat)) = true := decide_eq_true h'
      have e2 : dIxS (.scr zs) (.int ((j : Int) % (zs.length : Nat))) ⟨[], g⟩ = .ok (.int zs[((j : Int) % (zs.length : Nat)).toNat]) ⟨[], g⟩ := by
        unfold dIxS
        simp only [hix, hg]
      simp only [fnz, sNil, sSeq, sPass, sBrk, sCnt, sEx, sIf, sSet, sRet, sRetN, sAsgP, sAsg, sPar, sAug, sSetL, sFor, view, viewS, eVar, slot, eC, eBin, eUn, eIf, eAnd, eOr, eNot, isBl, eTup, eLst, aNil, aCons, sz1, eSl, oNo, oPart, eCB, eCall, eCallK, callF, pick, eIsi, fIsi, tyD, isiB, eF, eG, lF, fDisp, fCB, bT, bC, bNot, bAnd, bOr, tru, pTp, itemsG, psCons, psNil, pNm, pIxG, pIxL, atG, dAdd, dSub, dMul, dDiv, dMod, dNeg, dIx, ge_i, le_i, gt_i, dIAdd, fLen, fAbs, fMax2, fMin2, fInt, fBool, mulOk_a, mulOk_b, mulOk_c, mulOk_d, Int.reduceLT, Int.reduceLE, Nat.zero_le, Nat.reduceLeDiff, onL, isL, atL, eEqL_at, eWL, wL, hEq, hIn, hIx, eIxL_at, eInL_at, eLenL, eML, eMGo, nowG, mAppend, mPop, eLst, see, dEq, dNe, seqL, fListF, fSl, itR1, itR2, itA, sWh_at, List.getElem?_cons_zero, List.getElem?_cons_succ, List.getElem?_nil, Int.toNat_natCast, pow18, pow9, pow60, pow60_20, List.map_cons, List.map_nil, List.length_cons, List.length_nil, List.length_map, List.cons_append, List.nil_append, List.append_nil, List.replicate_succ, List.replicate_zero, List.set_cons_zero, List.set_cons_succ, List.set_nil, Nat.reduceAdd, Nat.reduceSub, Nat.zero_add, Nat.beq, Nat.sub_self, bind_ok, toS_ok, sure_ok, gd_t, nx_bind, ret_bind, brk_bind, cnt_bind, exc_bind, excF_bind, loop_nx, loop_ret, loop_brk, loop_cnt, String.reduceBEq, beq_self_eq_true, Bool.or_false, Bool.or_true, Bool.false_or, Bool.true_or, Bool.false_and, Bool.and_false, decide_true, decide_false, Bool.and_true, Bool.true_and, Bool.and_self, Bool.not_true, Bool.not_false, h', fMin2, em, hd, e2]
  obtain ⟨b, e2⟩ : ∃ b : Bool, (sSet 4 (eAnd (eBin dLt (eVar 1) (eCB fLen (aCons (eVar 0) (aNil)))) (eBin dGe (eVar 3) (eBin dPow (eC (.int 10)) (eC (.int 18)))))) [.v (.scr zs), .v (.int j), .v (.int many), .v (.int c0), .un, .un, .un, .un, .un] ⟨[], g⟩ = .nx [.v (.scr zs), .v (.int j), .v (.int many), .v (.int c0), .v (.bl b), .un, .un, .un, .un] ⟨[], g⟩ := by
    have lt_i : ∀ (i j : Int) (s : S), dLt (.int i) (.int j) s = .ok (.bl (decide (i < j))) s := fun _ _ _ => rfl
    by_cases h : (j : Int) < (zs.length : Nat)
    · exact ⟨decide (1000000000000000000 ≤ c0), by simp only [fnz, sNil, sSeq, sPass, sBrk, sCnt, sEx, sIf, sSet, sRet, sRetN, sAsgP, sAsg, sPar, sAug, sSetL, sFor, view, viewS, eVar, slot, eC, eBin, eUn, eIf, eAnd, eOr, eNot, isBl, eTup, eLst, aNil, aCons, sz1, eSl, oNo, oPart, eCB, eCall, eCallK, callF, pick, eIsi, fIsi, tyD, isiB, eF, eG, lF, fDisp, fCB, bT, bC, bNot, bAnd, bOr, tru, pTp, itemsG, psCons, psNil, pNm, pIxG, pIxL, atG, dAdd, dSub, dMul, dDiv, dMod, dNeg, dIx, ge_i, le_i, gt_i, dIAdd, fLen, fAbs, fMax2, fMin2, fInt, fBool, mulOk_a, mulOk_b, mulOk_c, mulOk_d, Int.reduceLT, Int.reduceLE, Nat.zero_le, Nat.reduceLeDiff, onL, isL, atL, eEqL_at, eWL, wL, hEq, hIn, hIx, eIxL_at, eInL_at, eLenL, eML, eMGo, nowG, mAppend, mPop, eLst, see, dEq, dNe, seqL, fListF, fSl, itR1, itR2, itA, sWh_at, List.getElem?_cons_zero, List.getElem?_cons_succ, List.getElem?_nil, Int.toNat_natCast, pow18, pow9, pow60, pow60_20, List.map_cons, List.map_nil, List.length_cons, List.length_nil, List.length_map, List.cons_append, List.nil_append, List.append_nil, List.replicate_succ, List.replicate_zero, List.set_cons_zero, List.set_cons_succ, List.set_nil, Nat.reduceAdd, Nat.reduceSub, Nat.zero_add, Nat.beq, Nat.sub_self, bind_ok, toS_ok, sure_ok, gd_t, nx_bind, ret_bind, brk_bind, cnt_bind, exc_bind, excF_bind, loop_nx, loop_ret, loop_brk, loop_cnt, String.reduceBEq, beq_self_eq_true, Bool.or_false, Bool.or_true, Bool.false_or, Bool.true_or, Bool.false_and, Bool.and_false, decide_true, decide_false, Bool.and_true, Bool.true_and, Bool.and_self, Bool.not_true, Bool.not_false, lt_i, h]⟩
    · exact ⟨false, by simp only [fnz, sNil, sSeq, sPass, sBrk, sCnt, sEx, sIf, sSet, sRet, sRetN, sAsgP, sAsg, sPar, sAug, sSetL, sFor, view, viewS, eVar, slot, eC, eBin, eUn, eIf, eAnd, eOr, eNot, isBl, eTup, eLst, aNil, aCons, sz1, eSl, oNo, oPart, eCB, eCall, eCallK, callF, pick, eIsi, fIsi, tyD, isiB, eF, eG, lF, fDisp, fCB, bT, bC, bNot, bAnd, bOr, tru, pTp, itemsG, psCons, psNil, pNm, pIxG, pIxL, atG, dAdd, dSub, dMul, dDiv, dMod, dNeg, dIx, ge_i, le_i, gt_i, dIAdd, fLen, fAbs, fMax2, fMin2, fInt, fBool, mulOk_a, mulOk_b, mulOk_c, mulOk_d, Int.reduceLT, Int.reduceLE, Nat.zero_le, Nat.reduceLeDiff, onL, isL, atL, eEqL_at, eWL, wL, hEq, hIn, hIx, eIxL_at, eInL_at, eLenL, eML, eMGo, nowG, mAppend, mPop, eLst, see, dEq, dNe, seqL, fListF, fSl, itR1, itR2, itA, sWh_at, List.getElem?_cons_zero, List.getElem?_cons_succ, List.getElem?_nil, Int.toNat_natCast, pow18, pow9, pow60, pow60_20, List.map_cons, List.map_nil, List.length_cons, List.length_nil, List.length_map, List.cons_append, List.nil_append, List.append_nil, List.replicate_succ, List.replicate_zero, List.set_cons_zero, List.set_cons_succ, List.set_nil, Nat.reduceAdd, Nat.reduceSub, Nat.zero_add, Nat.beq, Nat.sub_self, bind_ok, toS_ok, sure_ok, gd_t, nx_bind, ret_bind, brk_bind, cnt_bind, exc_bind, excF_bind, loop_nx, loop_ret, loop_brk, loop_cnt, String.reduceBEq, beq_self_eq_true, Bool.or_false, Bool.or_true, Bool.false_or, Bool.true_or, Bool.false_and, Bool.and_false, decide_true, decide_false, Bool.and_true, Bool.true_and, Bool.and_self, Bool.not_true, Bool.not_false, lt_i, h]⟩
  obtain ⟨c1, e3⟩ : ∃ c1 : Int, (sIf (bT (eVar 4)) (sSet 3 (eBin dAnd (eVar 3) (eBin dSub (eBin dPow (eBin dPow (eBin dPow (eC (.int 2)) (eC (.int 60))) (eC (.int 60))) (eC (.int 6))) (eC (.int 1))))) (sNil)) [.v (.scr zs), .v (.int j), .v (.int many), .v (.int c0), .v (.bl b), .un, .un, .un, .un] ⟨[], g⟩ = .nx [.v (.scr zs), .v (.int j), .v (.int many), .v (.int c1), .v (.bl b), .un, .un, .un, .un] ⟨[], g⟩ := by
    cases b with
    | true => exact ⟨Builtin.bitAnd c0 (((2 ^ 60) ^ 60) ^ 6 - 1), by simp only [fnz, sNil, sSeq, sPass, sBrk, sCnt, sEx, sIf, sSet, sRet, sRetN, sAsgP, sAsg, sPar, sAug, sSetL, sFor, view, viewS, eVar, slot, eC, eBin, eUn, eIf, eAnd, eOr, eNot, isBl, eTup, eLst, aNil, aCons, sz1, eSl, oNo, oPart, eCB, eCall, eCallK, callF, pick, eIsi, fIsi, tyD, isiB, eF, eG, lF, fDisp, fCB, bT, bC, bNot, bAnd, bOr, tru, pTp, itemsG, psCons, psNil, pNm, pIxG, pIxL, atG, dAdd, dSub, dMul, dDiv, dMod, dNeg, dIx, ge_i, le_i, gt_i, dIAdd, fLen, fAbs, fMax2, fMin2, fInt, fBool, mulOk_a, mulOk_b, mulOk_c, mulOk_d, Int.reduceLT, Int.reduceLE, Nat.zero_le, Nat.reduceLeDiff, onL, isL, atL, eEqL_at, eWL, wL, hEq, hIn, hIx, eIxL_at, eInL_at, eLenL, eML, eMGo, nowG, mAppend, mPop, eLst, see, dEq, dNe, seqL, fListF, fSl, itR1, itR2, itA, sWh_at, List.getElem?_cons_zero, List.getElem?_cons_succ, List.getElem?_nil, Int.toNat_natCast, pow18, pow9, pow60, pow60_20, List.map_cons, List.map_nil, List.length_cons, List.length_nil, List.length_map, List.cons_append, List.nil_append, List.append_nil, List.replicate_succ, List.replicate_zero, List.set_cons_zero, List.set_cons_succ, List.set_nil, Nat.reduceAdd, Nat.reduceSub, Nat.zero_add, Nat.beq, Nat.sub_self, bind_ok, toS_ok, sure_ok, gd_t, nx_bind, ret_bind, brk_bind, cnt_bind, exc_bind, excF_bind, loop_nx, loop_ret, loop_brk, loop_cnt, String.reduceBEq, beq_self_eq_true, Bool.or_false, Bool.or_true, Bool.false_or, Bool.true_or, Bool.false_and, Bool.and_false, decide_true, decide_false, Bool.and_true, Bool.true_and, Bool.and_self, Bool.not_true, Bool.not_false, pow_60, pow_3600, pow_21600, dAnd]⟩
    | false => exact ⟨c0, by simp only [fnz, sNil, sSeq, sPass, sBrk, sCnt, sEx, sIf, sSet, sRet, sRetN, sAsgP, sAsg, sPar, sAug, sSetL, sFor, view, viewS, eVar, slot, eC, eBin, eUn, eIf, eAnd, eOr, eNot, isBl, eTup, eLst, aNil, aCons, sz1, eSl, oNo, oPart, eCB, eCall, eCallK, callF, pick, eIsi, fIsi, tyD, isiB, eF, eG, lF, fDisp, fCB, bT, bC, bNot, bAnd, bOr, tru, pTp, itemsG, psCons, psNil, pNm, pIxG, pIxL, atG, dAdd, dSub, dMul, dDiv, dMod, dNeg, dIx, ge_i, le_i, gt_i, dIAdd, fLen, fAbs, fMax2, fMin2, fInt, fBool, mulOk_a, mulOk_b, mulOk_c, mulOk_d, Int.reduceLT, Int.reduceLE, Nat.zero_le, Nat.reduceLeDiff, onL, isL, atL, eEqL_at, eWL, wL, hEq, hIn, hIx, eIxL_at, eInL_at, eLenL, eML, eMGo, nowG, mAppend, mPop, eLst, see, dEq, dNe, seqL, fListF, fSl, itR1, itR2, itA, sWh_at, List.getElem?_cons_zero, List.getElem?_cons_succ, List.getElem?_nil, Int.toNat_natCast, pow18, pow9, pow60, pow60_20, List.map_cons, List.map_nil, List.length_cons, List.length_nil, List.length_map, List.cons_append, List.nil_append, List.append_nil, List.replicate_succ, List.replicate_zero, List.set_cons_zero, List.set_cons_succ, List.set_nil, Nat.reduceAdd, Nat.reduceSub, Nat.zero_add, Nat.beq, Nat.sub_self, bind_ok, toS_ok, sure_ok, gd_t, nx_bind, ret_bind, brk_bind, cnt_bind, exc_bind, excF_bind, loop_nx, loop_ret, loop_brk, loop_cnt, String.reduceBEq, beq_self_eq_true, Bool.or_false, Bool.or_true, Bool.false_or, Bool.true_or, Bool.false_and, Bool.and_false, decide_true, decide_false, Bool.and_true, Bool.true_and, Bool.and_self, Bool.not_true, Bool.not_false]⟩
  let I : Nat → Rho → S → Prop := fun m ρ s => ∃ (c : Int) (x7 x8 : Sl) (ds : List Int), ρ = [.v (.scr zs), .v (.int j), .v (.int many), .v (.int c), .v (.bl b), .v (.int (c1 % 2147483629 + 69621 * j)), .l 0, x7, x8] ∧ s = ⟨[.lst (ds.map D.int)], g⟩ ∧ ds.length = m ∧ ∀ d ∈ ds, 0 ≤ d ∧ d < 1000000000
  have rl : (rngD 0 many).length = many := by
    unfold rngD
    simp
  obtain ⟨ρ', s', e4, c, x7, x8, ds, rfl, rfl, hdl, hdb⟩ := for_ind (T := .nm 7) (b := dsB) I (rngD 0 many) 0 [.v (.scr zs), .v (.int j), .v (.int many), .v (.int c1), .v (.bl b), .v (.int (c1 % 2147483629 + 69621 * j)), .l 0, .un, .un] ⟨[.lst []], g⟩ (by
    rintro n w hw ρ s ⟨c, x7, x8, ds, rfl, rfl, hdl, hdb⟩
    have hn : n < many := by
      have := (List.getElem?_eq_some_iff.mp hw).1
      rwa [rl] at this
    have ew : w = .int (0 + (n : Nat)) := by
      unfold rngD at hw
      rw [List.getElem?_map, List.getElem?_range hn] at hw
      cases hw
      rfl
    subst ew
    obtain ⟨c', y8, d, d0, d1, e⟩ := dsB_ok (a0 := .v (.scr zs)) (a1 := .v (.int j)) (a2 := .v (.int many)) (a8 := x8) (c := c) (nm := c1 % 2147483629 + 69621 * j) (b := b) (j := n) (ds := ds) (g := g) (by omega)
    exact ⟨_, rfl, _, _, e, c', _, y8, ds ++ [d], rfl, rfl, by simp; omega, fun x hx => by
      rcases List.mem_append.mp hx with h | h
      · exact hdb x h
      · rw [List.mem_singleton.mp h]
        exact ⟨d0, d1⟩⟩) ⟨c1, .un, .un, [], rfl, rfl, rfl, fun d h => by cases h⟩
  rw [rl, Nat.zero_add] at hdl
  refine ⟨ds, ?_, hdl, hdb⟩
  have hB : bDraws = sSeq (sSet 3 (eC (.int 0))) (sSeq (sIf (bC (eBin dGt (eCB fLen (aCons (eVar 0) (aNil))) (eC (.int 0)))) (sSet 3 (eBin dIxS (eVar 0) (eBin dMod (eVar 1) (eCB fMin2 (aCons (eC (.int 63)) (aCons (eCB fLen (aCons (eVar 0) (aNil))) (aNil))))))) (sNil)) (sSeq (sSet 4 (eAnd (eBin dLt (eVar 1) (eCB fLen (aCons (eVar 0) (aNil)))) (eBin dGe (eVar 3) (eBin dPow (eC (.int 10)) (eC (.int 18)))))) (sSeq (sIf (bT (eVar 4)) (sSet 3 (eBin dAnd (eVar 3) (eBin dSub (eBin dPow (eBin dPow (eBin dPow (eC (.int 2)) (eC (.int 60))) (eC (.int 60))) (eC (.int 6))) (eC (.int 1))))) (sNil)) (sSeq (sSet 5 (eBin dAdd (eBin dMod (eVar 3) (eC (.int 2147483629))) (eBin dMul (eC (.int 69621)) (eVar 1)))) (sSeq (sSetL 6 (lF (fDisp (aNil)))) (sSeq (sFor (.nm 7) (itR1 (aCons (eVar 2) (aNil))) dsB) (sRet (eVar 6)))))))) := rfl
  have m1 : ((many : Nat) : Int) ≤ 100000000 := by omega
  have m2 : (-100000000 : Int) ≤ (many : Nat) := by omega
  have q : bDraws [.v (.scr zs), .v (.int j), .v (.int many), .un, .un, .un, .un, .un, .un] ⟨[], g⟩ = .ret (.lst (ds.map D.int)) ⟨[], g⟩ := by
    rw [hB]
    refine (seq_nx (ρ1 := [.v (.scr zs), .v (.int j), .v (.int many), .v (.int 0), .un, .un, .un, .un, .un]) (s1 := ⟨[], g⟩) (by simp only [fnz, sNil, sSeq, sPass, sBrk, sCnt, sEx, sIf, sSet, sRet, sRetN, sAsgP, sAsg, sPar, sAug, sSetL, sFor, view, viewS, eVar, slot, eC, eBin, eUn, eIf, eAnd, eOr, eNot, isBl, eTup, eLst, aNil, aCons, sz1, eSl, oNo, oPart, eCB, eCall, eCallK, callF, pick, eIsi, fIsi, tyD, isiB, eF, eG, lF, fDisp, fCB, bT, bC, bNot, bAnd, bOr, tru, pTp, itemsG, psCons, psNil, pNm, pIxG, pIxL, atG, dAdd, dSub, dMul, dDiv, dMod, dNeg, dIx, ge_i, le_i, gt_i, dIAdd, fLen, fAbs, fMax2, fMin2, fInt, fBool, mulOk_a, mulOk_b, mulOk_c, mulOk_d, Int.reduceLT, Int.reduceLE, Nat.zero_le, Nat.reduceLeDiff, onL, isL, atL, eEqL_at, eWL, wL, hEq, hIn, hIx, eIxL_at, eInL_at, eLenL, eML, eMGo, nowG, mAppend, mPop, eLst, see, dEq, dNe, seqL, fListF, fSl, itR1, itR2, itA, sWh_at, List.getElem?_cons_zero, List.getElem?_cons_succ, List.getElem?_nil, Int.toNat_natCast, pow18, pow9, pow60, pow60_20, List.map_cons, List.map_nil, List.length_cons, List.length_nil, List.length_map, List.cons_append, List.nil_append, List.append_nil, List.replicate_succ, List.replicate_zero, List.set_cons_zero, List.set_cons_succ, List.set_nil, Nat.reduceAdd, Nat.reduceSub, Nat.zero_add, Nat.beq, Nat.sub_self, bind_ok, toS_ok, sure_ok, gd_t, nx_bind, ret_bind, brk_bind, cnt_bind, exc_bind, excF_bind, loop_nx, loop_ret, loop_brk, loop_cnt, String.reduceBEq, beq_self_eq_true, Bool.or_false, Bool.or_true, Bool.false_or, Bool.true_or, Bool.false_and, Bool.and_false, decide_true, decide_false, Bool.and_true, Bool.true_and, Bool.and_self, Bool.not_true, Bool.not_false])).trans ?_
    refine (seq_nx e1).trans ((seq_nx e2).trans ((seq_nx e3).trans ?_))
    refine (seq_nx (ρ1 := [.v (.scr zs), .v (.int j), .v (.int many), .v (.int c1), .v (.bl b), .v (.int (c1 % 2147483629 + 69621 * j)), .un, .un, .un]) (s1 := ⟨[], g⟩) (by simp only [fnz, sNil, sSeq, sPass, sBrk, sCnt, sEx, sIf, sSet, sRet, sRetN, sAsgP, sAsg, sPar, sAug, sSetL, sFor, view, viewS, eVar, slot, eC, eBin, eUn, eIf, eAnd, eOr, eNot, isBl, eTup, eLst, aNil, aCons, sz1, eSl, oNo, oPart, eCB, eCall, eCallK, callF, pick, eIsi, fIsi, tyD, isiB, eF, eG, lF, fDisp, fCB, bT, bC, bNot, bAnd, bOr, tru, pTp, itemsG, psCons, psNil, pNm, pIxG, pIxL, atG, dAdd, dSub, dMul, dDiv, dMod, dNeg, dIx, ge_i, le_i, gt_i, dIAdd, fLen, fAbs, fMax2, fMin2, fInt, fBool, mulOk_a, mulOk_b, mulOk_c, mulOk_d, Int.reduceLT, Int.reduceLE, Nat.zero_le, Nat.reduceLeDiff, onL, isL, atL, eEqL_at, eWL, wL, hEq, hIn, hIx, eIxL_at, eInL_at, eLenL, eML, eMGo, nowG, mAppend, mPop, eLst, see, dEq, dNe, seqL, fListF, fSl, itR1, itR2, itA, sWh_at, List.getElem?_cons_zero, List.getElem?_cons_succ, List.getElem?_nil, Int.toNat_natCast, pow18, pow9, pow60, pow60_20, List.map_cons, List.map_nil, List.length_cons, List.length_nil, List.length_map, List.cons_append, List.nil_append, List.append_nil, List.replicate_succ, List.replicate_zero, List.set_cons_zero, List.set_cons_succ, List.set_nil, Nat.reduceAdd, Nat.reduceSub, Nat.zero_add, Nat.beq, Nat.sub_self, bind_ok, toS_ok, sure_ok, gd_t, nx_bind, ret_bind, brk_bind, cnt_bind, exc_bind, excF_bind, loop_nx, loop_ret, loop_brk, loop_cnt, String.reduceBEq, beq_self_eq_true, Bool.or_false, Bool.or_true, Bool.false_or, Bool.true_or, Bool.false_and, Bool.and_false, decide_true, decide_false, Bool.and_true, Bool.true_and, Bool.and_self, Bool.not_true, Bool.not_false, mulOk_69, (by decide : decide ((0 : Int) < 2147483629) = true)])).trans ?_
    refine (seq_nx (ρ1 := [.v (.scr zs), .v (.int j), .v (.int many), .v (.int c1), .v (.bl b), .v (.int (c1 % 2147483629 + 69621 * j)), .l 0, .un, .un]) (s1 := ⟨[.lst []], g⟩) (by simp only [fnz, sNil, sSeq, sPass, sBrk, sCnt, sEx, sIf, sSet, sRet, sRetN, sAsgP, sAsg, sPar, sAug, sSetL, sFor, view, viewS, eVar, slot, eC, eBin, eUn, eIf, eAnd, eOr, eNot, isBl, eTup, eLst, aNil, aCons, sz1, eSl, oNo, oPart, eCB, eCall, eCallK, callF, pick, eIsi, fIsi, tyD, isiB, eF, eG, lF, fDisp, fCB, bT, bC, bNot, bAnd, bOr, tru, pTp, itemsG, psCons, psNil, pNm, pIxG, pIxL, atG, dAdd, dSub, dMul, dDiv, dMod, dNeg, dIx, ge_i, le_i, gt_i, dIAdd, fLen, fAbs, fMax2, fMin2, fInt, fBool, mulOk_a, mulOk_b, mulOk_c, mulOk_d, Int.reduceLT, Int.reduceLE, Nat.zero_le, Nat.reduceLeDiff, onL, isL, atL, eEqL_at, eWL, wL, hEq, hIn, hIx, eIxL_at, eInL_at, eLenL, eML, eMGo, nowG, mAppend, mPop, eLst, see, dEq, dNe, seqL, fListF, fSl, itR1, itR2, itA, sWh_at, List.getElem?_cons_zero, List.getElem?_cons_succ, List.getElem?_nil, Int.toNat_natCast, pow18, pow9, pow60, pow60_20, List.map_cons, List.map_nil, List.length_cons, List.length_nil, List.length_map, List.cons_append, List.nil_append, List.append_nil, List.replicate_succ, List.replicate_zero, List.set_cons_zero, List.set_cons_succ, List.set_nil, Nat.reduceAdd, Nat.reduceSub, Nat.zero_add, Nat.beq, Nat.sub_self, bind_ok, toS_ok, sure_ok, gd_t, nx_bind, ret_bind, brk_bind, cnt_bind, exc_bind, excF_bind, loop_nx, loop_ret, loop_brk, loop_cnt, String.reduceBEq, beq_self_eq_true, Bool.or_false, Bool.or_true, Bool.false_or, Bool.true_or, Bool.false_and, Bool.and_false, decide_true, decide_false, Bool.and_true, Bool.true_and, Bool.and_self, Bool.not_true, Bool.not_false]; rfl)).trans ?_
    refine (seq_nx (ρ1 := [.v (.scr zs), .v (.int j), .v (.int many), .v (.int c), .v (.bl b), .v (.int (c1 % 2147483629 + 69621 * j)), .l 0, x7, x8]) (s1 := ⟨[.lst (ds.map D.int)], g⟩) (by simp only [fnz, sNil, sSeq, sPass, sBrk, sCnt, sEx, sIf, sSet, sRet, sRetN, sAsgP, sAsg, sPar, sAug, sSetL, sFor, view, viewS, eVar, slot, eC, eBin, eUn, eIf, eAnd, eOr, eNot, isBl, eTup, eLst, aNil, aCons, sz1, eSl, oNo, oPart, eCB, eCall, eCallK, callF, pick, eIsi, fIsi, tyD, isiB, eF, eG, lF, fDisp, fCB, bT, bC, bNot, bAnd, bOr, tru, pTp, itemsG, psCons, psNil, pNm, pIxG, pIxL, atG, dAdd, dSub, dMul, dDiv, dMod, dNeg, dIx, ge_i, le_i, gt_i, dIAdd, fLen, fAbs, fMax2, fMin2, fInt, fBool, mulOk_a, mulOk_b, mulOk_c, mulOk_d, Int.reduceLT, Int.reduceLE, Nat.zero_le, Nat.reduceLeDiff, onL, isL, atL, eEqL_at, eWL, wL, hEq, hIn, hIx, eIxL_at, eInL_at, eLenL, eML, eMGo, nowG, mAppend, mPop, eLst, see, dEq, dNe, seqL, fListF, fSl, itR1, itR2, itA, sWh_at, List.getElem?_cons_zero, List.getElem?_cons_succ, List.getElem?_nil, Int.toNat_natCast, pow18, pow9, pow60, pow60_20, List.map_cons, List.map_nil, List.length_cons, List.length_nil, List.length_map, List.cons_append, List.nil_append, List.append_nil, List.replicate_succ, List.replicate_zero, List.set_cons_zero, List.set_cons_succ, List.set_nil, Nat.reduceAdd, Nat.reduceSub, Nat.zero_add, Nat.beq, Nat.sub_self, bind_ok, toS_ok, sure_ok, gd_t, nx_bind, ret_bind, brk_bind, cnt_bind, exc_bind, excF_bind, loop_nx, loop_ret, loop_brk, loop_cnt, String.reduceBEq, beq_self_eq_true, Bool.or_false, Bool.or_true, Bool.false_or, Bool.true_or, Bool.false_and, Bool.and_false, decide_true, decide_false, Bool.and_true, Bool.true_and, Bool.and_self, Bool.not_true, Bool.not_false, m1, m2, e4])).trans ?_
    simp only [fnz, sNil, sSeq, sPass, sBrk, sCnt, sEx, sIf, sSet, sRet, sRetN, sAsgP, sAsg, sPar, sAug, sSetL, sFor, view, viewS, eVar, slot, eC, eBin, eUn, eIf, eAnd, eOr, eNot, isBl, eTup, eLst, aNil, aCons, sz1, eSl, oNo, oPart, eCB, eCall, eCallK, callF, pick, eIsi, fIsi, tyD, isiB, eF, eG, lF, fDisp, fCB, bT, bC, bNot, bAnd, bOr, tru, pTp, itemsG, psCons, psNil, pNm, pIxG, pIxL, atG, dAdd, dSub, dMul, dDiv, dMod, dNeg, dIx, ge_i, le_i, gt_i, dIAdd, fLen, fAbs, fMax2, fMin2, fInt, fBool, mulOk_a, mulOk_b, mulOk_c, mulOk_d, Int.reduceLT, Int.reduceLE, Nat.zero_le, Nat.reduceLeDiff, onL, isL, atL, eEqL_at, eWL, wL, hEq, hIn, hIx, eIxL_at, eInL_at, eLenL, eML, eMGo, nowG, mAppend, mPop, eLst, see, dEq, dNe, seqL, fListF, fSl, itR1, itR2, itA, sWh_at, List.getElem?_cons_zero, List.getElem?_cons_succ, List.getElem?_nil, Int.toNat_natCast, pow18, pow9, pow60, pow60_20, List.map_cons, List.map_nil, List.length_cons, List.length_nil, List.length_map, List.cons_append, List.nil_append, List.append_nil, List.replicate_succ, List.replicate_zero, List.set_cons_zero, List.set_cons_succ, List.set_nil, Nat.reduceAdd, Nat.reduceSub, Nat.zero_add, Nat.beq, Nat.sub_self, bind_ok, toS_ok, sure_ok, gd_t, nx_bind, ret_bind, brk_bind, cnt_bind, exc_bind, excF_bind, loop_nx, loop_ret, loop_brk, loop_cnt, String.reduceBEq, beq_self_eq_true, Bool.or_false, Bool.or_true, Bool.false_or, Bool.true_or, Bool.false_and, Bool.and_false, decide_true, decide_false, Bool.and_true, Bool.true_and, Bool.and_self, Bool.not_true, Bool.not_false]
  simp only [fnz, sNil, sSeq, sPass, sBrk, sCnt, sEx, sIf, sSet, sRet, sRetN, sAsgP, sAsg, sPar, sAug, sSetL, sFor, view, viewS, eVar, slot, eC, eBin, eUn, eIf, eAnd, eOr, eNot, isBl, eTup, eLst, aNil, aCons, sz1, eSl, oNo, oPart, eCB, eCall, eCallK, callF, pick, eIsi, fIsi, tyD, isiB, eF, eG, lF, fDisp, fCB, bT, bC, bNot, bAnd, bOr, tru, pTp, itemsG, psCons, psNil, pNm, pIxG, pIxL, atG, dAdd, dSub, dMul, dDiv, dMod, dNeg, dIx, ge_i, le_i, gt_i, dIAdd, fLen, fAbs, fMax2, fMin2, fInt, fBool, mulOk_a, mulOk_b, mulOk_c, mulOk_d, Int.reduceLT, Int.reduceLE, Nat.zero_le, Nat.reduceLeDiff, onL, isL, atL, eEqL_at, eWL, wL, hEq, hIn, hIx, eIxL_at, eInL_at, eLenL, eML, eMGo, nowG, mAppend, mPop, eLst, see, dEq, dNe, seqL, fListF, fSl, itR1, itR2, itA, sWh_at, List.getElem?_cons_zero, List.getElem?_cons_succ, List.getElem?_nil, Int.toNat_natCast, pow18, pow9, pow60, pow60_20, List.map_cons, List.map_nil, List.length_cons, List.length_nil, List.length_map, List.cons_append, List.nil_append, List.append_nil, List.replicate_succ, List.replicate_zero, List.set_cons_zero, List.set_cons_succ, List.set_nil, Nat.reduceAdd, Nat.reduceSub, Nat.zero_add, Nat.beq, Nat.sub_self, bind_ok, toS_ok, sure_ok, gd_t, nx_bind, ret_bind, brk_bind, cnt_bind, exc_bind, excF_bind, loop_nx, loop_ret, loop_brk, loop_cnt, String.reduceBEq, beq_self_eq_true, Bool.or_false, Bool.or_true, Bool.false_or, Bool.true_or, Bool.false_and, Bool.and_false, decide_true, decide_false, Bool.and_true, Bool.true_and, Bool.and_self, Bool.not_true, Bool.not_false, zDraws, q]
end Z

/-! Z39: comprehensions over a list of the whole: it is looked up at each turn. -/
namespace Z
open PySem L2
def compGoW (look : S → Option (List D)) (T : Tg) (p : Bx) (e : Ex) (ρ : Rho) : Nat → Nat → S → R (List D)
  | 0, _, _ => .bad
  | k + 1, i, s => match look s with
    | some l => gd (sz2 l.length 0) (match l[i]? with
      | some d => match T.put d ρ with
        | some ρ' => (p ρ' s).bind fun b s => match b with
          | true => (e ρ' s).bind fun x s => (compGoW look T p e ρ k (i + 1) s).bind fun r s => .ok (x :: r) s
          | false => compGoW look T p e ρ k (i + 1) s
        | none => .bad
      | none => .ok [] s)
    | none => .bad
def fCompG (m j : Nat) (T : Tg) (p : Bx) (e : Ex) (vs : List Nat) : Lx := fun ρ s => match slot ρ j with
  | .v d => match lookG d s with
    | some _ => (compGoW (lookG d) T p e (wipeR ρ vs) m 0 s).sure
    | none => .bad
  | _ => .bad
section
variable {X : Cx} {C : Cn} {Wx : WX} {T : Tg} {p : Bx} {e : Ex} {vs : List Nat} {m j : Nat}
theorem lcG_key {K : PySem.W.Frag} (hT : ∀ i ∈ T.sl, i ∈ vs) {σ : L2.St} {H : Hp} {Q : VK} (h : tF C Wx (fCompG m j T p e vs) σ H Q) :
    tLc (iList K (tVar j)) (tG C T) (tB C (fun _ _ _ _ => False) p) (tE C (fun _ _ _ _ => False) e) vs σ H Q := by
  obtain ⟨ρ, W1, s1, er1, sm1, o⟩ := h
  unfold fCompG at o
  cases hj : slot ρ j with
  | un => rw [hj] at o; exact o.elim
  | l n => rw [hj] at o; exact o.elim
  | v d =>
    rw [hj] at o
    simp only at o
    cases hl0 : lookG d s1 with
    | none => rw [hl0] at o; exact o.elim
    | some l0 =>
      rw [hl0] at o
      simp only at o
      obtain ⟨ov, q1, v0, q2, ha1⟩ := er1.at_ j _ (slot_get ρ j _ hj (by intro z; cases z))
      obtain ⟨a, ws0, ev0, hu0, _⟩ := lookG_get sm1 ha1 hl0
      subst ev0
      refine ⟨.ref a, by rw [q1, q2], a, rfl, ⟨ws0, SqL.of hu0⟩, fun A hA => ?_⟩
      have ap1 := sm1.apart hA
      refine ⟨fun i k H' => ∃ W2 s2 acc l2 wr, Rep C W2 d (.ref a) ∧ EnvR C W2 ρ σ ∧ Sim C W2 s2 (Z.ers H' A) ∧ Apart W2 A ∧ H' A = some (.lst wr) ∧ RepL C W2 acc wr ∧ acc.length ≤ i ∧
          l2 = (compGoW (lookG d) T p e (wipeR ρ vs) k i s2) ∧ OutF C Wx σ W2 (Z.ers H' A) Q (l2.sure.bind fun r s => .ok (acc ++ r) s), ⟨m, W1, s1, [], _, [], ha1, er1, by rw [ers_upd, ers_none hA]; exact sm1, ap1, upd_same, RepL.nil, Nat.le_refl _, rfl, ?_⟩, ?_⟩
      · rw [ers_upd, ers_none hA]
        cases z : compGoW (lookG d) T p e (wipeR ρ vs) m 0 s1 with
        | bad => rw [z] at o; exact o.elim
        | exc x s => rw [z] at o; exact o.elim
        | ok r s => rw [z] at o; exact o
      · rintro i k H2 ⟨W2, s2, acc, l2, wr, ha2, er2, sm2, ap2, hw, ra, hal, rfl, o2⟩
        have smu := sm2.uners ap2
        cases k with
        | zero => exact o2.elim
        | succ k =>
          rw [compGoW] at o2
          cases hl : lookG d s2 with
          | none => simp only [hl] at o2; exact o2.elim
          | some l =>
            simp only [hl] at o2
            cases hz : sz2 l.length 0 with
            | false => rw [hz] at o2; exact o2.elim
            | true =>
              rw [hz] at o2
              simp only [gd] at o2
              have hlen := sz2_le hz
              obtain ⟨a', ws, ea', hu, rl⟩ := lookG_get smu ha2 hl
              cases ea'
              cases zi : l[i]? with
              | none =>
                simp only [zi] at o2
                left
                refine ⟨⟨ws, SqL.of hu, by rw [← rl.length]; exact List.getElem?_eq_none_iff.mp zi⟩, ?_⟩
                have o2 : OutF C Wx σ W2 (Z.ers H2 A) Q (.ok (acc ++ []) s2) := o2
                rw [List.append_nil] at o2
                have := o2 W2 wr (Z.ers H2 A) A (Ext.refl _ _) sm2 ra ers_same
                rw [ers_back hw] at this
                exact this
              | some d0 =>
                simp only [zi] at o2
                right
                have hil := (List.getElem?_eq_some_iff.mp zi).1
                obtain ⟨xv, hx1, hx2⟩ := rl.get zi
                refine ⟨⟨ws, xv, SqL.of hu, hx1⟩, _, fun H' nn => ⟨k, Nat.lt_succ_self _, nn⟩, fun x H3 y => ?_⟩
                obtain ⟨e3, y⟩ := y
                subst e3
                have := y ws (SqL.of hu)
                rw [hx1] at this
                cases this
                refine ⟨wipeR ρ vs, W2, s2, d0, er2.wipe vs, smu, hx2, ?_⟩
                cases z : T.put d0 (wipeR ρ vs) with
                | none => simp only [z] at o2; exact o2
                | some ρ' =>
                  simp only [z] at o2
                  intro σ4 er4 ag
                  refine ⟨ag.wipe hT, ρ', W2, s2, er4, smu, ?_⟩
                  cases z1 : p ρ' s2 with
                  | bad => rw [z1] at o2; exact o2.elim
                  | exc x s => rw [z1] at o2; exact o2.elim
                  | ok b s4 =>
                    rw [z1] at o2
                    rintro W4 b' H4 e4 sm4 rfl
                    have ap4 := ap2.ext e4 ⟨_, hw⟩
                    have hw4 : H4 A = some (.lst wr) := e4.fr A _ hw ap2.ll ap2.lg
                    have o4 := OutF.ext (Ext.ers e4 ap2 ⟨_, hw⟩) o2
                    cases b with
                    | false =>
                      rw [if_neg Bool.false_ne_true]
                      exact ⟨W4, s4, acc, _, wr, ha2.mono e4.le, er2.mono e4, sm4.ers ap4, ap4, hw4, ra.mono e4.le, by omega, rfl, o4⟩
                    | true =>
                      rw [if_pos rfl]
                      refine ⟨ρ', W4, s4, er4.mono e4, sm4, ?_⟩
                      have o4 : OutF C Wx σ W4 (Z.ers H4 A) Q (((e ρ' s4).bind fun x s => (compGoW (lookG d) T p e (wipeR ρ vs) k (i + 1) s).bind fun r s => .ok (x :: r) s).sure.bind fun r s => .ok (acc ++ r) s) := o4
                      cases z2 : e ρ' s4 with
                      | bad => rw [z2] at o4; exact o4.elim
                      | exc x s => rw [z2] at o4; exact o4.elim
                      | ok x5 s5 =>
                        rw [z2] at o4
                        intro W5 v5 H5 e5 sm5 r5
                        have ap5 := ap4.ext e5 ⟨_, hw4⟩
                        have hw5 : H5 A = some (.lst wr) := e5.fr A _ hw4 ap4.ll ap4.lg
                        have o5 := OutF.ext (Ext.ers e5 ap4 ⟨_, hw4⟩) o4
                        have ra5 := (ra.mono e4.le).mono e5.le
                        refine ⟨wr, hw5, by rw [← ra.length]; omega, W5, s5, acc ++ [x5], _, wr ++ [v5], (ha2.mono e4.le).mono e5.le, (er2.mono e4).mono e5, by rw [ers_upd]; exact sm5.ers ap5, ap5, upd_same, ra5.append (RepL.cons r5 RepL.nil), by simp; omega, rfl, ?_⟩
                        rw [ers_upd]
                        have o5 : OutF C Wx σ W5 (Z.ers H5 A) Q (((compGoW (lookG d) T p e (wipeR ρ vs) k (i + 1) s5).bind fun r s => .ok (x5 :: r) s).sure.bind fun r s => .ok (acc ++ r) s) := o5
                        cases z3 : compGoW (lookG d) T p e (wipeR ρ vs) k (i + 1) s5 with
                        | bad => rw [z3] at o5; exact o5.elim
                        | exc x s => rw [z3] at o5; exact o5.elim
                        | ok r s =>
                          rw [z3] at o5
                          have o5 : OutF C Wx σ W5 (Z.ers H5 A) Q (.ok (acc ++ x5 :: r) s) := o5
                          show OutF C Wx σ W5 (Z.ers H5 A) Q (.ok (acc ++ [x5] ++ r) s)
                          rw [List.append_assoc]
                          exact o5
theorem zf_lcG {x : Str} {px pos : Pos} {elt tg : Expr} {ifs : List Expr} {scope : Scope} {own : List (Str × Nat)} (m : Nat) (hc : X.calm = true) (hN : X.N.Nodup) (hx : PE X (.Name x px) (tVar j)) (ok : BlkOk X.N X.env.scope scope own) (hT : ∀ i ∈ T.sl, i ∈ own.map (·.2))
    (hg : ∀ (s : Shared) (H : Hp) (D : Addr) (cl : List (Str × Addr)) (fp : List Addr), PG (X.blk s H scope (compEnvC scope cl D X.env) fp) tg (tG C T)) (ht : ∀ (s : Shared) (H : Hp) (D : Addr) (cl : List (Str × Addr)) (fp : List Addr), PTs (X.blk s H scope (compEnvC scope cl D X.env) fp) ifs (tB C (fun _ _ _ _ => False) p))
    (he : ∀ (s : Shared) (H : Hp) (D : Addr) (cl : List (Str × Addr)) (fp : List Addr), PE (X.blk s H scope (compEnvC scope cl D X.env) fp) elt (tE C (fun _ _ _ _ => False) e)) (hs : ∀ y, foldedSetIterable (.Name x px) X.env y = pure y := by intro _; rfl) :
    PE X (.ListComp elt [⟨tg, .Name x px, ifs, 0⟩] scope pos) (tF C Wx (fCompG m j T p e (own.map (·.2)))) :=
  pe_imp (pe_lc hc hN (pi_list hx) ok hg ht he hs) fun _ _ _ h => lcG_key hT h
end
end Z

namespace K43
open PySem L2 Z
def top (i : Nat) : Stmt := PySem.Challenge.pw_thirtycubes_k43_cubes_listed.main.body.getD i (.Pass ⟨0, 0, 0, 0⟩)
def c_MOST_LISTED : D := (.int 4)
def c_TURNS : D := (.tup [(.tup [(.int 0), (.int 1), (.int 2), (.int 3), (.int 4), (.int 5)]), (.tup [(.int 0), (.int 1), (.int 3), (.int 2), (.int 5), (.int 4)]), (.tup [(.int 0), (.int 1), (.int 4), (.int 5), (.int 3), (.int 2)]), (.tup [(.int 0), (.int 1), (.int 5), (.int 4), (.int 2), (.int 3)]), (.tup [(.int 1), (.int 0), (.int 2), (.int 3), (.int 5), (.int 4)]), (.tup [(.int 1), (.int 0), (.int 3), (.int 2), (.int 4), (.int 5)]), (.tup [(.int 1), (.int 0), (.int 4), (.int 5), (.int 2), (.int 3)]), (.tup [(.int 1), (.int 0), (.int 5), (.int 4), (.int 3), (.int 2)]), (.tup [(.int 2), (.int 3), (.int 0), (.int 1), (.int 5), (.int 4)]), (.tup [(.int 2), (.int 3), (.int 1), (.int 0), (.int 4), (.int 5)]), (.tup [(.int 2), (.int 3), (.int 4), (.int 5), (.int 0), (.int 1)]), (.tup [(.int 2), (.int 3), (.int 5), (.int 4), (.int 1), (.int 0)]), (.tup [(.int 3), (.int 2), (.int 0), (.int 1), (.int 4), (.int 5)]), (.tup [(.int 3), (.int 2), (.int 1), (.int 0), (.int 5), (.int 4)]), (.tup [(.int 3), (.int 2), (.int 4), (.int 5), (.int 1), (.int 0)]), (.tup [(.int 3), (.int 2), (.int 5), (.int 4), (.int 0), (.int 1)]), (.tup [(.int 4), (.int 5), (.int 0), (.int 1), (.int 2), (.int 3)]), (.tup [(.int 4), (.int 5), (.int 1), (.int 0), (.int 3), (.int 2)]), (.tup [(.int 4), (.int 5), (.int 2), (.int 3), (.int 1), (.int 0)]), (.tup [(.int 4), (.int 5), (.int 3), (.int 2), (.int 0), (.int 1)]), (.tup [(.int 5), (.int 4), (.int 0), (.int 1), (.int 3), (.int 2)]), (.tup [(.int 5), (.int 4), (.int 1), (.int 0), (.int 2), (.int 3)]), (.tup [(.int 5), (.int 4), (.int 2), (.int 3), (.int 0), (.int 1)]), (.tup [(.int 5), (.int 4), (.int 3), (.int 2), (.int 1), (.int 0)])])
abbrev Ck : PySem.W.Frag → Cn := cnx ["NoPalette"]
def p_NoBack (c : Nat) : Bool := ([false] : List Bool).getD c false
def p_NoBase (c : Nat) : Bool := ([false] : List Bool).getD c false
def p_NoChange (c : Nat) : Bool := ([false] : List Bool).getD c false
def p_NoCounts (c : Nat) : Bool := ([false] : List Bool).getD c false
def p_NoCube (c : Nat) : Bool := ([false] : List Bool).getD c false
def p_NoCubes (c : Nat) : Bool := ([false] : List Bool).getD c false
def p_NoFit (c : Nat) : Bool := ([false] : List Bool).getD c false
def p_NoName (c : Nat) : Bool := ([false] : List Bool).getD c false
def p_NoNumber (c : Nat) : Bool := ([false] : List Bool).getD c false
def p_NoPaints (c : Nat) : Bool := ([false] : List Bool).getD c false
def p_NoPalette (c : Nat) : Bool := ([true] : List Bool).getD c false
def p_NoPaper (c : Nat) : Bool := ([false] : List Bool).getD c false
def p_NoPlace (c : Nat) : Bool := ([false] : List Bool).getD c false
def p_NoRow (c : Nat) : Bool := ([false] : List Bool).getD c false
def p_NoSix (c : Nat) : Bool := ([false] : List Bool).getD c false
def p_NoStock (c : Nat) : Bool := ([false] : List Bool).getD c false
def p_NoText (c : Nat) : Bool := ([false] : List Bool).getD c false
def p_NoTurn (c : Nat) : Bool := ([false] : List Bool).getD c false
def p_NoWord (c : Nat) : Bool := ([false] : List Bool).getD c false
def p_TooMany (c : Nat) : Bool := ([false] : List Bool).getD c false
def p_ValueError (c : Nat) : Bool := ([true] : List Bool).getD c false
def q_CubeError (c : Nat) : Bool := ([true] : List Bool).getD c false
abbrev s__law_draws : Stmt := top 35
abbrev n__law_draws : List Str := ["_law_script", "_law_j", "_law_many", "_law_cell", "_law_great", "_law_number", "_law_found", "_law_k", "_law_mixed"]
theorem sc__law_draws : FnScope n__law_draws ["_law_script", "_law_j", "_law_many"] (defScope s__law_draws) := ⟨rfl, rfl, rfl, by decide +kernel, rfl, by decide +kernel, by decide +kernel⟩
def b__law_draws : Stm := sSeq (sSet 3 (eC (.int 0))) (sSeq (sIf (bC (eBin dGt (eCB fLen (aCons (eVar 0) (aNil))) (eC (.int 0)))) (sSet 3 (eBin dIxS (eVar 0) (eBin dMod (eVar 1) (eCB fMin2 (aCons (eC (.int 63)) (aCons (eCB fLen (aCons (eVar 0) (aNil))) (aNil))))))) (sNil)) (sSeq (sSet 4 (eAnd (eBin dLt (eVar 1) (eCB fLen (aCons (eVar 0) (aNil)))) (eBin dGe (eVar 3) (eBin dPow (eC (.int 10)) (eC (.int 18)))))) (sSeq (sIf (bT (eVar 4)) (sSet 3 (eBin dAnd (eVar 3) (eBin dSub (eBin dPow (eBin dPow (eBin dPow (eC (.int 2)) (eC (.int 60))) (eC (.int 60))) (eC (.int 6))) (eC (.int 1))))) (sNil)) (sSeq (sSet 5 (eBin dAdd (eBin dMod (eVar 3) (eC (.int 2147483629))) (eBin dMul (eC (.int 69621)) (eVar 1)))) (sSeq (sSetL 6 (lF (fDisp (aNil)))) (sSeq (sFor (.nm 7) (itR1 (aCons (eVar 2) (aNil))) (sIf (bT (eVar 4)) (sSeq (sEx (onL 6 (eML 6 mAppend (aCons (eBin dMod (eVar 3) (eBin dPow (eC (.int 10)) (eC (.int 9)))) (aNil))))) (sSet 3 (eBin dDiv (eVar 3) (eBin dPow (eC (.int 10)) (eC (.int 9)))))) (sSeq (sSet 8 (eBin dMod (eBin dAdd (eVar 5) (eBin dMul (eC (.int 48271)) (eBin dAdd (eVar 7) (eC (.int 1))))) (eC (.int 2147483629)))) (sSeq (sSet 8 (eBin dMod (eBin dAdd (eBin dMul (eVar 8) (eVar 8)) (eVar 7)) (eC (.int 2147483629)))) (sEx (onL 6 (eML 6 mAppend (aCons (eBin dMod (eBin dMod (eBin dMul (eVar 8) (eVar 8)) (eC (.int 2147483587))) (eBin dPow (eC (.int 10)) (eC (.int 9)))) (aNil))))))))) (sRet (eVar 6))))))))
def z__law_draws : FnZ := fnz 9 b__law_draws
abbrev s__law_turns : Stmt := top 36
abbrev n__law_turns : List Str := ["_law_quarters", "_law_found", "_law_at", "_law_quarter", "_law_more", "_law_side"]
theorem sc__law_turns : FnScope n__law_turns [] (defScope s__law_turns) := ⟨rfl, rfl, rfl, by decide +kernel, rfl, by decide +kernel, by decide +kernel⟩
def b__law_turns : Stm := sSeq (sSet 0 (eLst (aCons (eTup (aCons (eC (.int 0)) (aCons (eC (.int 1)) (aCons (eC (.int 4)) (aCons (eC (.int 5)) (aCons (eC (.int 3)) (aCons (eC (.int 2)) (aNil)))))))) (aCons (eTup (aCons (eC (.int 5)) (aCons (eC (.int 4)) (aCons (eC (.int 2)) (aCons (eC (.int 3)) (aCons (eC (.int 0)) (aCons (eC (.int 1)) (aNil)))))))) (aCons (eTup (aCons (eC (.int 2)) (aCons (eC (.int 3)) (aCons (eC (.int 1)) (aCons (eC (.int 0)) (aCons (eC (.int 4)) (aCons (eC (.int 5)) (aNil)))))))) (aNil)))))) (sSeq (sSetL 1 (lF (fDisp (aCons (eTup (aCons (eC (.int 0)) (aCons (eC (.int 1)) (aCons (eC (.int 2)) (aCons (eC (.int 3)) (aCons (eC (.int 4)) (aCons (eC (.int 5)) (aNil)))))))) (aNil))))) (sSeq (sSet 2 (eC (.int 0))) (sSeq (sWh 1000 (bC (eBin dLt (eVar 2) (eLenL 1))) (sSeq (sFor (.nm 3) (itA (eVar 0)) (sSeq (sSet 4 (eCB fTuple (aCons (eF (fComp (.nm 5) (itA (onL 1 (eIxL 1 (eVar 2)))) (bYes) (eBin dIx (eVar 3) (eVar 5)) [5])) (aNil)))) (sIf (bC (eInL true (eVar 4) 1)) (sEx (onL 1 (eML 1 mAppend (aCons (eVar 4) (aNil))))) (sNil)))) (sSet 2 (eBin dAdd (eVar 2) (eC (.int 1)))))) (sRet (eF (fCB fSortF (aCons (eVar 1) (aNil))))))))
def z__law_turns : FnZ := fnz 6 b__law_turns
abbrev s__law_turned : Stmt := top 37
abbrev n__law_turned : List Str := ["_law_sides", "_law_turn", "_law_found", "_law_k"]
theorem sc__law_turned : FnScope n__law_turned ["_law_sides", "_law_turn"] (defScope s__law_turned) := ⟨rfl, rfl, rfl, by decide +kernel, rfl, by decide +kernel, by decide +kernel⟩
def b__law_turned : Stm := sSeq (sSetL 2 (lF (fMul (eLst (aCons (eC .non) (aNil))) (eC (.int 6))))) (sSeq (sFor (.nm 3) (itR1 (aCons (eC (.int 6)) (aNil))) (sAsgP (pIxL 2 (eBin dIx (eVar 1) (eVar 3))) (eBin dIx (eVar 0) (eVar 3)))) (sRet (eCB fTuple (aCons (eVar 2) (aNil)))))
def z__law_turned : FnZ := fnz 4 b__law_turned
abbrev s__law_due : Stmt := top 39
abbrev n__law_due : List Str := ["_law_many", "_law_turns_here", "_law_some", "_law_k", "_law_found", "_law_sides", "_law_longer", "_law_turn", "_law_paint"]
theorem sc__law_due : FnScope n__law_due ["_law_many"] (defScope s__law_due) := ⟨rfl, rfl, rfl, by decide +kernel, rfl, by decide +kernel, by decide +kernel⟩
def b__law_due : Stm := sSeq (sSet 1 (eCall 0 z__law_turns aNil)) (sSeq (sSet 2 (eLst (aCons (eTup (aNil)) (aNil)))) (sSeq (sFor (.nm 3) (itR1 (aCons (eC (.int 6)) (aNil))) (sSeq (sSetL 6 (lF (fDisp (aNil)))) (sSeq (sFor (.nm 5) (itA (eVar 2)) (sEx (onL 6 (eML 6 mExtend (aCons (eF (fComp (.nm 8) (itR1 (aCons (eVar 0) (aNil))) (bYes) (eBin dAdd (eVar 5) (eTup (aCons (eVar 8) (aNil)))) [8])) (aNil)))))) (sFrz 6 (sSet 2 (eVar 6)))))) (sSeq (sSetL 4 (lF (fDisp (aNil)))) (sSeq (sFor (.nm 5) (itA (eVar 2)) (sIf (bC (eBin dEq (eF (fComp (.nm 7) (itA (eVar 1)) (bC (eBin dLt (eBin dIx (eVar 5) (eBin dIx (eVar 7) (eC (.int 0)))) (eBin dIx (eVar 5) (eC (.int 0))))) (eVar 7) [7])) (eLst (aNil)))) (sIf (bC (eBin dEq (eF (fComp (.nm 7) (itA (eVar 1)) (bC (eBin dLt (eCall 2 z__law_turned (aCons (eVar 5) (aCons (eVar 7) (aNil)))) (eVar 5))) (eVar 7) [7])) (eLst (aNil)))) (sEx (onL 4 (eML 4 mAppend (aCons (eVar 5) (aNil))))) (sNil)) (sNil))) (sRet (eVar 4))))))
def z__law_due : FnZ := fnz 9 b__law_due
abbrev s_must_be_listed : Stmt := top 29
abbrev n_must_be_listed : List Str := ["palette"]
theorem sc_must_be_listed : FnScope n_must_be_listed ["palette"] (defScope s_must_be_listed) := ⟨rfl, rfl, rfl, by decide +kernel, rfl, by decide +kernel, by decide +kernel⟩
def b_must_be_listed : Stm := sIf (bOr (bC (eBin dLt (eVar 0) (eC (.int 0)))) (bC (eBin dGt (eVar 0) (eC c_MOST_LISTED)))) (sRaise 0) (sNil)
def z_must_be_listed : FnZ := fnz 1 b_must_be_listed
abbrev s_all_turns : Stmt := top 24
abbrev n_all_turns : List Str := []
theorem sc_all_turns : FnScope n_all_turns [] (defScope s_all_turns) := ⟨rfl, rfl, rfl, by decide +kernel, rfl, by decide +kernel, by decide +kernel⟩
def b_all_turns : Stm := sRet (eF (fCB fListF (aCons (eC c_TURNS) (aNil))))
def z_all_turns : FnZ := fnz 0 b_all_turns
abbrev s_all_of : Stmt := top 30
abbrev n_all_of : List Str := ["palette", "many", "found", "turn", "longer", "some", "paint"]
theorem sc_all_of : FnScope n_all_of ["palette", "many"] (defScope s_all_of) := ⟨rfl, rfl, rfl, by decide +kernel, rfl, by decide +kernel, by decide +kernel⟩
def b_all_of : Stm := sSeq (sSet 2 (eLst (aCons (eTup (aNil)) (aNil)))) (sSeq (sFor (.nm 3) (itR1 (aCons (eVar 1) (aNil))) (sSeq (sSetL 4 (lF (fDisp (aNil)))) (sSeq (sFor (.nm 5) (itA (eVar 2)) (sEx (onL 4 (eML 4 mExtend (aCons (eF (fComp (.nm 6) (itR1 (aCons (eVar 0) (aNil))) (bYes) (eBin dAdd (eVar 5) (eTup (aCons (eVar 6) (aNil)))) [6])) (aNil)))))) (sFrz 4 (sSet 2 (eVar 4)))))) (sRet (eVar 2)))
def z_all_of : FnZ := fnz 7 b_all_of
abbrev s_turned_by : Stmt := top 26
abbrev n_turned_by : List Str := ["paints", "turn", "found", "paint", "side"]
theorem sc_turned_by : FnScope n_turned_by ["paints", "turn"] (defScope s_turned_by) := ⟨rfl, rfl, rfl, by decide +kernel, rfl, by decide +kernel, by decide +kernel⟩
def b_turned_by : Stm := sSeq (sSetL 2 (lF (fCB fListF (aCons (eVar 0) (aNil))))) (sSeq (sFor (.tp [.nm 3, .nm 4]) (itZ (aCons (eVar 0) (aCons (eVar 1) (aNil)))) (sAsgP (pIxL 2 (eVar 4)) (eVar 3))) (sRet (eCB fTuple (aCons (eVar 2) (aNil)))))
def z_turned_by : FnZ := fnz 5 b_turned_by
abbrev s_listed : Stmt := top 31
abbrev n_listed : List Str := ["palette", "some", "paints", "turn"]
theorem sc_listed : FnScope n_listed ["palette"] (defScope s_listed) := ⟨rfl, rfl, rfl, by decide +kernel, rfl, by decide +kernel, by decide +kernel⟩
def b_listed : Stm := sSeq (sSet 1 (eCall 0 z_all_turns aNil)) (sRet (eG (fComp (.nm 2) (itA (eCall 2 z_all_of (aCons (eVar 0) (aCons (eC (.int 6)) (aNil))))) (bNot (bT (eCB fAny (aCons (eF (fComp (.nm 3) (itA (eVar 1)) (bYes) (eBin dLt (eCall 2 z_turned_by (aCons (eVar 2) (aCons (eVar 3) (aNil)))) (eVar 2)) [3])) (aNil))))) (eVar 2) [2])))
def z_listed : FnZ := fnz 4 b_listed
abbrev s_all_cubes : Stmt := top 32
abbrev n_all_cubes : List Str := ["palette"]
theorem sc_all_cubes : FnScope n_all_cubes ["palette"] (defScope s_all_cubes) := ⟨rfl, rfl, rfl, by decide +kernel, rfl, by decide +kernel, by decide +kernel⟩
def b_all_cubes : Stm := sSeq (sEx (eCall 1 z_must_be_listed (aCons (eVar 0) (aNil)))) (sRet (eCall 1 z_listed (aCons (eVar 0) (aNil))))
def z_all_cubes : FnZ := fnz 1 b_all_cubes
abbrev s__law_names_of : Stmt := top 38
abbrev n__law_names_of : List Str := ["_law_e", "_law_hits", "_law_words", "_law_word", "_law_hit"]
theorem sc__law_names_of : FnScope n__law_names_of ["_law_e"] (defScope s__law_names_of) := ⟨rfl, rfl, rfl, by decide +kernel, rfl, by decide +kernel, by decide +kernel⟩
def b__law_names_of : Stm := sSeq (sSet 1 (eLst (aCons (eIsX p_NoBack (eVar 0)) (aCons (eIsX p_NoBase (eVar 0)) (aCons (eIsX p_NoChange (eVar 0)) (aNil)))))) (sSeq (sSet 1 (eBin dAdd (eVar 1) (eLst (aCons (eIsX p_NoCounts (eVar 0)) (aCons (eIsX p_NoCube (eVar 0)) (aCons (eIsX p_NoCubes (eVar 0)) (aNil))))))) (sSeq (sSet 1 (eBin dAdd (eVar 1) (eLst (aCons (eIsX p_NoFit (eVar 0)) (aCons (eIsX p_NoName (eVar 0)) (aCons (eIsX p_NoNumber (eVar 0)) (aNil))))))) (sSeq (sSet 1 (eBin dAdd (eVar 1) (eLst (aCons (eIsX p_NoPaints (eVar 0)) (aCons (eIsX p_NoPalette (eVar 0)) (aCons (eIsX p_NoPaper (eVar 0)) (aNil))))))) (sSeq (sSet 1 (eBin dAdd (eVar 1) (eLst (aCons (eIsX p_NoPlace (eVar 0)) (aCons (eIsX p_NoRow (eVar 0)) (aCons (eIsX p_NoSix (eVar 0)) (aNil))))))) (sSeq (sSet 1 (eBin dAdd (eVar 1) (eLst (aCons (eIsX p_NoStock (eVar 0)) (aCons (eIsX p_NoText (eVar 0)) (aCons (eIsX p_NoTurn (eVar 0)) (aNil))))))) (sSeq (sSet 1 (eBin dAdd (eVar 1) (eLst (aCons (eIsX p_NoWord (eVar 0)) (aCons (eIsX p_TooMany (eVar 0)) (aNil)))))) (sSeq (sSet 2 (eLst (aCons (eC (.str "NoBack")) (aCons (eC (.str "NoBase")) (aCons (eC (.str "NoChange")) (aCons (eC (.str "NoCounts")) (aCons (eC (.str "NoCube")) (aCons (eC (.str "NoCubes")) (aCons (eC (.str "NoFit")) (aCons (eC (.str "NoName")) (aNil))))))))))) (sSeq (sSet 2 (eBin dAdd (eVar 2) (eLst (aCons (eC (.str "NoNumber")) (aCons (eC (.str "NoPaints")) (aCons (eC (.str "NoPalette")) (aCons (eC (.str "NoPaper")) (aCons (eC (.str "NoPlace")) (aCons (eC (.str "NoRow")) (aCons (eC (.str "NoSix")) (aCons (eC (.str "NoStock")) (aNil)))))))))))) (sSeq (sSet 2 (eBin dAdd (eVar 2) (eLst (aCons (eC (.str "NoText")) (aCons (eC (.str "NoTurn")) (aCons (eC (.str "NoWord")) (aCons (eC (.str "TooMany")) (aNil)))))))) (sRet (eF (fComp (.tp [.nm 3, .nm 4]) (itZ (aCons (eVar 2) (aCons (eVar 1) (aNil)))) (bT (eVar 4)) (eVar 3) [3, 4]))))))))))))
def z__law_names_of : FnZ := fnz 5 b__law_names_of
abbrev s__law_refused : Stmt := top 40
abbrev n__law_refused : List Str := ["_law_number", "_law_caught", "_law_e"]
theorem sc__law_refused : FnScope n__law_refused ["_law_number"] (defScope s__law_refused) := ⟨rfl, rfl, rfl, by decide +kernel, rfl, by decide +kernel, by decide +kernel⟩
def b__law_refused : Stm := sSeq (sSet 1 (eC .non)) (sSeq (sTry (sEx (eCallK 1 0 z_all_cubes [0] [(.int 2)] (aCons (eVar 0) (aNil)) (aNil))) q_CubeError 2 1) (sRet (eAnd (eIsX p_ValueError (eVar 1)) (eBin dEq (eCall 1 z__law_names_of (aCons (eVar 1) (aNil))) (eLst (aCons (eC (.str "NoPalette")) (aNil)))))))
def z__law_refused : FnZ := fnz 3 b__law_refused
abbrev s__law_whole : Stmt := top 34
abbrev n__law_whole : List Str := ["_law_found"]
theorem sc__law_whole : FnScope n__law_whole ["_law_found"] (defScope s__law_whole) := ⟨rfl, rfl, rfl, by decide +kernel, rfl, by decide +kernel, by decide +kernel⟩
def b__law_whole : Stm := sRet (eAnd (eIsi "int" (eVar 0)) (eNot (eIsi "bool" (eVar 0))))
def z__law_whole : FnZ := fnz 1 b__law_whole
abbrev s_law : Stmt := top 41
abbrev n_law : List Str := ["_law_script", "_law_draws_here", "_law_many", "_law_number", "_law_due_here", "_law_found", "_law_sides"]
theorem sc_law : FnScope n_law ["_law_script"] (defScope s_law) := ⟨rfl, rfl, rfl, by decide +kernel, rfl, by decide +kernel, by decide +kernel⟩
def b_law : Stm := sSeq (sSet 1 (eCall 3 z__law_draws (aCons (eVar 0) (aCons (eC (.int 0)) (aCons (eC (.int 4)) (aNil)))))) (sSeq (sFor (.nm 2) (itA (eLst (aCons (eBin dMod (eBin dIx (eVar 1) (eC (.int 0))) (eC (.int 5))) (aCons (eBin dMod (eBin dIx (eVar 1) (eC (.int 1))) (eC (.int 4))) (aNil))))) (sSeq (sSet 4 (eCall 1 z__law_due (aCons (eVar 2) (aNil)))) (sSeq (sSet 5 (eCallK 1 0 z_all_cubes [0] [(.int 2)] (aCons (eVar 2) (aNil)) (aNil))) (sSeq (sIf (bOr (bNot (bT (eIsiS "list" (eVar 5)))) (bC (eBin dNe (eVar 5) (eVar 4)))) (sRet (eC (.bl false))) (sNil)) (sSeq (sIf (bC (eBin dNe (eF (fCompG 5000 5 (.nm 6) (bOr (bNot (bT (eIsiS "tuple" (eVar 6)))) (bNot (bT (eCall 1 z__law_whole (aCons (eBin dIx (eVar 6) (eC (.int 0))) (aNil)))))) (eVar 6) [6])) (eLst (aNil)))) (sRet (eC (.bl false))) (sNil)) (sSeq (sEx (nowG (eVar 5) (eMGo mAppend (aCons (eC (.int 7)) (aNil))))) (sIf (bC (eBin dNe (eCallK 0 1 z_all_cubes [0] [(.int 2)] aNil (aCons (eVar 2) (aNil))) (eVar 4))) (sRet (eC (.bl false))) (sNil)))))))) (sSeq (sFor (.nm 3) (itA (eLst (aCons (eUn dNeg (eC (.int 1))) (aCons (eC (.int 5)) (aCons (eBin dAdd (eC (.int 5)) (eBin dIx (eVar 1) (eC (.int 2)))) (aCons (eBin dSub (eUn dNeg (eC (.int 1))) (eBin dMul (eBin dIx (eVar 1) (eC (.int 3))) (eBin dPow (eC (.int 10)) (eC (.int 20))))) (aNil))))))) (sIf (bNot (bT (eCall 1 z__law_refused (aCons (eVar 3) (aNil))))) (sRet (eC (.bl false))) (sNil))) (sRet (eAnd (eBin dEq (eCB fLen (aCons (eCallK 0 0 z_all_cubes [0] [(.int 2)] aNil (aNil)) (aNil))) (eC (.int 10))) (eBin dEq (eCallK 0 0 z_all_cubes [0] [(.int 2)] aNil (aNil)) (eCallK 1 0 z_all_cubes [0] [(.int 2)] (aCons (eC (.int 2)) (aNil)) (aNil)))))))
def z_law : FnZ := fnz 7 b_law
structure Fx (K : PySem.W.Frag) (mg : Str → Option Value) where
  a__law_draws : Addr
  d__law_draws : FuncData
  F__law_draws : Fun K "_law_draws" "_law_draws" s__law_draws a__law_draws d__law_draws
  m__law_draws : mg "_law_draws" = some (.ref a__law_draws)
  B__law_draws : BindP d__law_draws ["_law_script", "_law_j", "_law_many"]
  a__law_turns : Addr
  d__law_turns : FuncData
  F__law_turns : Fun K "_law_turns" "_law_turns" s__law_turns a__law_turns d__law_turns
  m__law_turns : mg "_law_turns" = some (.ref a__law_turns)
  B__law_turns : BindP d__law_turns []
  a__law_turned : Addr
  d__law_turned : FuncData
  F__law_turned : Fun K "_law_turned" "_law_turned" s__law_turned a__law_turned d__law_turned
  m__law_turned : mg "_law_turned" = some (.ref a__law_turned)
  B__law_turned : BindP d__law_turned ["_law_sides", "_law_turn"]
  a__law_due : Addr
  d__law_due : FuncData
  F__law_due : Fun K "_law_due" "_law_due" s__law_due a__law_due d__law_due
  m__law_due : mg "_law_due" = some (.ref a__law_due)
  B__law_due : BindP d__law_due ["_law_many"]
  a_must_be_listed : Addr
  d_must_be_listed : FuncData
  F_must_be_listed : Fun K "must_be_listed" "must_be_listed" s_must_be_listed a_must_be_listed d_must_be_listed
  m_must_be_listed : mg "must_be_listed" = some (.ref a_must_be_listed)
  B_must_be_listed : BindP d_must_be_listed ["palette"]
  a_all_turns : Addr
  d_all_turns : FuncData
  F_all_turns : Fun K "all_turns" "all_turns" s_all_turns a_all_turns d_all_turns
  m_all_turns : mg "all_turns" = some (.ref a_all_turns)
  B_all_turns : BindP d_all_turns []
  a_all_of : Addr
  d_all_of : FuncData
  F_all_of : Fun K "all_of" "all_of" s_all_of a_all_of d_all_of
  m_all_of : mg "all_of" = some (.ref a_all_of)
  B_all_of : BindP d_all_of ["palette", "many"]
  a_turned_by : Addr
  d_turned_by : FuncData
  F_turned_by : Fun K "turned_by" "turned_by" s_turned_by a_turned_by d_turned_by
  m_turned_by : mg "turned_by" = some (.ref a_turned_by)
  B_turned_by : BindP d_turned_by ["paints", "turn"]
  a_listed : Addr
  d_listed : FuncData
  F_listed : Fun K "listed" "listed" s_listed a_listed d_listed
  m_listed : mg "listed" = some (.ref a_listed)
  B_listed : BindP d_listed ["palette"]
  a_all_cubes : Addr
  d_all_cubes : FuncData
  F_all_cubes : FunE K "all_cubes" "all_cubes" s_all_cubes [(.int 2)] a_all_cubes d_all_cubes
  m_all_cubes : mg "all_cubes" = some (.ref a_all_cubes)
  a__law_names_of : Addr
  d__law_names_of : FuncData
  F__law_names_of : Fun K "_law_names_of" "_law_names_of" s__law_names_of a__law_names_of d__law_names_of
  m__law_names_of : mg "_law_names_of" = some (.ref a__law_names_of)
  B__law_names_of : BindP d__law_names_of ["_law_e"]
  a__law_refused : Addr
  d__law_refused : FuncData
  F__law_refused : Fun K "_law_refused" "_law_refused" s__law_refused a__law_refused d__law_refused
  m__law_refused : mg "_law_refused" = some (.ref a__law_refused)
  B__law_refused : BindP d__law_refused ["_law_number"]
  a__law_whole : Addr
  d__law_whole : FuncData
  F__law_whole : Fun K "_law_whole" "_law_whole" s__law_whole a__law_whole d__law_whole
  m__law_whole : mg "_law_whole" = some (.ref a__law_whole)
  B__law_whole : BindP d__law_whole ["_law_found"]
  a_law : Addr
  d_law : FuncData
  F_law : Fun K "law" "law" s_law a_law d_law
  m_law : mg "law" = some (.ref a_law)
  B_law : BindP d_law ["_law_script"]
  b_ValueError : mg "ValueError" = none
  b_any : mg "any" = none
  b_bool : mg "bool" = none
  b_int : mg "int" = none
  b_isinstance : mg "isinstance" = none
  b_len : mg "len" = none
  b_list : mg "list" = none
  b_min : mg "min" = none
  b_range : mg "range" = none
  b_sorted : mg "sorted" = none
  b_tuple : mg "tuple" = none
  b_zip : mg "zip" = none
  u_MOST_LISTED : Value
  m_MOST_LISTED : mg "MOST_LISTED" = some u_MOST_LISTED
  h_MOST_LISTED : chkV K c_MOST_LISTED u_MOST_LISTED = true
  u_TURNS : Value
  m_TURNS : mg "TURNS" = some u_TURNS
  h_TURNS : chkV K c_TURNS u_TURNS = true
  Z_all_cubes_0_ : ∃ ds, Vals (([(.int 2)] : List D).map atomV) ds ∧ BindZ K d_all_cubes ["palette"] 0 [] [0] ds
  Z_all_cubes_0_palette : ∃ ds, Vals (([(.int 2)] : List D).map atomV) ds ∧ BindZ K d_all_cubes ["palette"] 0 ["palette"] [0] ds
  Z_all_cubes_1_ : ∃ ds, Vals (([(.int 2)] : List D).map atomV) ds ∧ BindZ K d_all_cubes ["palette"] 1 [] [0] ds
  xr_NoPalette : XR K mg "NoPalette"
  gx_CubeError : mg "CubeError" = some (.ref (adr K "CubeError"))
  gx_NoBack : mg "NoBack" = some (.ref (adr K "NoBack"))
  gx_NoBase : mg "NoBase" = some (.ref (adr K "NoBase"))
  gx_NoChange : mg "NoChange" = some (.ref (adr K "NoChange"))
  gx_NoCounts : mg "NoCounts" = some (.ref (adr K "NoCounts"))
  gx_NoCube : mg "NoCube" = some (.ref (adr K "NoCube"))
  gx_NoCubes : mg "NoCubes" = some (.ref (adr K "NoCubes"))
  gx_NoFit : mg "NoFit" = some (.ref (adr K "NoFit"))
  gx_NoName : mg "NoName" = some (.ref (adr K "NoName"))
  gx_NoNumber : mg "NoNumber" = some (.ref (adr K "NoNumber"))
  gx_NoPaints : mg "NoPaints" = some (.ref (adr K "NoPaints"))
  gx_NoPalette : mg "NoPalette" = some (.ref (adr K "NoPalette"))
  gx_NoPaper : mg "NoPaper" = some (.ref (adr K "NoPaper"))
  gx_NoPlace : mg "NoPlace" = some (.ref (adr K "NoPlace"))
  gx_NoRow : mg "NoRow" = some (.ref (adr K "NoRow"))
  gx_NoSix : mg "NoSix" = some (.ref (adr K "NoSix"))
  gx_NoStock : mg "NoStock" = some (.ref (adr K "NoStock"))
  gx_NoText : mg "NoText" = some (.ref (adr K "NoText"))
  gx_NoTurn : mg "NoTurn" = some (.ref (adr K "NoTurn"))
  gx_NoWord : mg "NoWord" = some (.ref (adr K "NoWord"))
  gx_TooMany : mg "TooMany" = some (.ref (adr K "TooMany"))
  ix_NoBack : ∀ k A nm, (Ck K).cx k = some (A, nm) → ExcC K A ∧ PySem.W.kitOne K (.ref A) (.ref (adr K "NoBack")) = some (p_NoBack k)
  ix_NoBase : ∀ k A nm, (Ck K).cx k = some (A, nm) → ExcC K A ∧ PySem.W.kitOne K (.ref A) (.ref (adr K "NoBase")) = some (p_NoBase k)
  ix_NoChange : ∀ k A nm, (Ck K).cx k = some (A, nm) → ExcC K A ∧ PySem.W.kitOne K (.ref A) (.ref (adr K "NoChange")) = some (p_NoChange k)
  ix_NoCounts : ∀ k A nm, (Ck K).cx k = some (A, nm) → ExcC K A ∧ PySem.W.kitOne K (.ref A) (.ref (adr K "NoCounts")) = some (p_NoCounts k)
  ix_NoCube : ∀ k A nm, (Ck K).cx k = some (A, nm) → ExcC K A ∧ PySem.W.kitOne K (.ref A) (.ref (adr K "NoCube")) = some (p_NoCube k)
  ix_NoCubes : ∀ k A nm, (Ck K).cx k = some (A, nm) → ExcC K A ∧ PySem.W.kitOne K (.ref A) (.ref (adr K "NoCubes")) = some (p_NoCubes k)
  ix_NoFit : ∀ k A nm, (Ck K).cx k = some (A, nm) → ExcC K A ∧ PySem.W.kitOne K (.ref A) (.ref (adr K "NoFit")) = some (p_NoFit k)
  ix_NoName : ∀ k A nm, (Ck K).cx k = some (A, nm) → ExcC K A ∧ PySem.W.kitOne K (.ref A) (.ref (adr K "NoName")) = some (p_NoName k)
  ix_NoNumber : ∀ k A nm, (Ck K).cx k = some (A, nm) → ExcC K A ∧ PySem.W.kitOne K (.ref A) (.ref (adr K "NoNumber")) = some (p_NoNumber k)
  ix_NoPaints : ∀ k A nm, (Ck K).cx k = some (A, nm) → ExcC K A ∧ PySem.W.kitOne K (.ref A) (.ref (adr K "NoPaints")) = some (p_NoPaints k)
  ix_NoPalette : ∀ k A nm, (Ck K).cx k = some (A, nm) → ExcC K A ∧ PySem.W.kitOne K (.ref A) (.ref (adr K "NoPalette")) = some (p_NoPalette k)
  ix_NoPaper : ∀ k A nm, (Ck K).cx k = some (A, nm) → ExcC K A ∧ PySem.W.kitOne K (.ref A) (.ref (adr K "NoPaper")) = some (p_NoPaper k)
  ix_NoPlace : ∀ k A nm, (Ck K).cx k = some (A, nm) → ExcC K A ∧ PySem.W.kitOne K (.ref A) (.ref (adr K "NoPlace")) = some (p_NoPlace k)
  ix_NoRow : ∀ k A nm, (Ck K).cx k = some (A, nm) → ExcC K A ∧ PySem.W.kitOne K (.ref A) (.ref (adr K "NoRow")) = some (p_NoRow k)
  ix_NoSix : ∀ k A nm, (Ck K).cx k = some (A, nm) → ExcC K A ∧ PySem.W.kitOne K (.ref A) (.ref (adr K "NoSix")) = some (p_NoSix k)
  ix_NoStock : ∀ k A nm, (Ck K).cx k = some (A, nm) → ExcC K A ∧ PySem.W.kitOne K (.ref A) (.ref (adr K "NoStock")) = some (p_NoStock k)
  ix_NoText : ∀ k A nm, (Ck K).cx k = some (A, nm) → ExcC K A ∧ PySem.W.kitOne K (.ref A) (.ref (adr K "NoText")) = some (p_NoText k)
  ix_NoTurn : ∀ k A nm, (Ck K).cx k = some (A, nm) → ExcC K A ∧ PySem.W.kitOne K (.ref A) (.ref (adr K "NoTurn")) = some (p_NoTurn k)
  ix_NoWord : ∀ k A nm, (Ck K).cx k = some (A, nm) → ExcC K A ∧ PySem.W.kitOne K (.ref A) (.ref (adr K "NoWord")) = some (p_NoWord k)
  ix_TooMany : ∀ k A nm, (Ck K).cx k = some (A, nm) → ExcC K A ∧ PySem.W.kitOne K (.ref A) (.ref (adr K "TooMany")) = some (p_TooMany k)
  ix_ValueError : ∀ k A nm, (Ck K).cx k = some (A, nm) → ExcC K A ∧ PySem.W.kitOne K (.ref A) (.type "ValueError") = some (p_ValueError k)
  ex_CubeError : ∀ k A nm, (Ck K).cx k = some (A, nm) → PySem.W.exmOne K (.ref A) (.ref (adr K "CubeError")) = some (q_CubeError k)
section
variable {P : Program} {w : World} {K : PySem.W.Frag} {mg : Str → Option Value} {base : Heap}
theorem ok__law_draws (T : Fx K mg) : FnG P w K mg base 1 T.a__law_draws T.d__law_draws ["_law_script", "_law_j", "_law_many"] (spZ (Ck K) z__law_draws 3) := by
  have nd := sc__law_draws.nd
  refine fnG_z (C := Ck K) (N := n__law_draws) (ps := ["_law_script", "_law_j", "_law_many"]) (body := b__law_draws) (k := 0) T.F__law_draws sc__law_draws fun cdv A outer s H E hr hgu tk => ?_
  exact zss_cons (zs_set (ps_set (i := 3) nd rfl (Or.inl rfl) (ze_int))) (zss_cons (zs_if (zt_c (zc_cmp opd_gt (ze_cb (cd_len rfl) rfl T.b_len (by decide +kernel) (za_cons (ze_var (pv 0)) (za_nil))) (ze_int) (nomark _))) (zss_one (zs_set (ps_set (i := 3) nd rfl (Or.inl rfl) (ze_ix (ixdS rfl) (ze_var (pv 0)) (ze_op opd_mod (ze_var (pv 1)) (ze_cb (cd_min2 rfl) rfl T.b_min (by decide +kernel) (za_cons (ze_int) (za_cons (ze_cb (cd_len rfl) rfl T.b_len (by decide +kernel) (za_cons (ze_var (pv 0)) (za_nil))) (za_nil))))) (fun _ _ => rfl))))) (zss_nil)) (zss_cons (zs_set (ps_set (i := 4) nd rfl (Or.inl rfl) (ze_and (ze_c (zc_cmp (opd_lt rfl hr) (ze_var (pv 1)) (ze_cb (cd_len rfl) rfl T.b_len (by decide +kernel) (za_cons (ze_var (pv 0)) (za_nil))) (nomark _))) (ze_one (ze_c (zc_cmp opd_ge (ze_var (pv 3)) (ze_op opd_pow (ze_int) (ze_int)) (nomark _))))))) (zss_cons (zs_if (zt rfl (ze_var (pv 4)) (fun _ => rfl)) (zss_one (zs_set (ps_set (i := 3) nd rfl (Or.inl rfl) (ze_op opd_and (ze_var (pv 3)) (ze_op opd_sub (ze_op opd_pow (ze_op opd_pow (ze_op opd_pow (ze_int) (ze_int)) (ze_int)) (ze_int)) (ze_int)))))) (zss_nil)) (zss_cons (zs_set (ps_set (i := 5) nd rfl (Or.inl rfl) (ze_op (opd_add rfl) (ze_op opd_mod (ze_var (pv 3)) (ze_int)) (ze_op (opd_mul rfl) (ze_int) (ze_var (pv 1)))))) (zss_cons (zs_setL (ps_set (i := 6) nd rfl (Or.inl rfl) (zl_F (zf_lst (za_nil))))) (zss_cons (zs_for rfl (zi_rng1 rfl T.b_range (za_cons (ze_var (pv 2)) (za_nil))) (zg_nm (pg_name (i := 7) nd rfl (Or.inl rfl))) (zss_one (zs_if (zt rfl (ze_var (pv 4)) (fun _ => rfl)) (zss_cons (zs_expr (ze_mL PySem.F.slot_list_append PySem.F.type_list_append mt_append met_append (pv 6) (za_cons (ze_op opd_mod (ze_var (pv 3)) (ze_op opd_pow (ze_int) (ze_int))) (za_nil)))) (zss_one (zs_set (ps_set (i := 3) nd rfl (Or.inl rfl) (ze_op opd_div (ze_var (pv 3)) (ze_op opd_pow (ze_int) (ze_int))))))) (zss_cons (zs_set (ps_set (i := 8) nd rfl (Or.inl rfl) (ze_op opd_mod (ze_op (opd_add rfl) (ze_var (pv 5)) (ze_op (opd_mul rfl) (ze_int) (ze_op (opd_add rfl) (ze_var (pv 7)) (ze_int)))) (ze_int)))) (zss_cons (zs_set (ps_set (i := 8) nd rfl (Or.inl rfl) (ze_op opd_mod (ze_op (opd_add rfl) (ze_op (opd_mul rfl) (ze_var (pv 8)) (ze_var (pv 8))) (ze_var (pv 7))) (ze_int)))) (zss_one (zs_expr (ze_mL PySem.F.slot_list_append PySem.F.type_list_append mt_append met_append (pv 6) (za_cons (ze_op opd_mod (ze_op opd_mod (ze_op (opd_mul rfl) (ze_var (pv 8)) (ze_var (pv 8))) (ze_int)) (ze_op opd_pow (ze_int) (ze_int))) (za_nil))))))))) PassesOwn.leaving) (zss_one (zs_ret (ze_var (pv 6))))))))))
theorem ok__law_turns (T : Fx K mg) : FnG P w K mg base 1 T.a__law_turns T.d__law_turns [] (spZ (Ck K) z__law_turns 0) := by
  have nd := sc__law_turns.nd
  refine fnG_z (C := Ck K) (N := n__law_turns) (ps := []) (body := b__law_turns) (k := 0) T.F__law_turns sc__law_turns fun cdv A outer s H E hr hgu tk => ?_
  exact zss_cons (zs_set (ps_set (i := 0) nd rfl (Or.inl rfl) (ze_lst (za_cons (ze_tup (za_cons (ze_int) (za_cons (ze_int) (za_cons (ze_int) (za_cons (ze_int) (za_cons (ze_int) (za_cons (ze_int) (za_nil)))))))) (za_cons (ze_tup (za_cons (ze_int) (za_cons (ze_int) (za_cons (ze_int) (za_cons (ze_int) (za_cons (ze_int) (za_cons (ze_int) (za_nil)))))))) (za_cons (ze_tup (za_cons (ze_int) (za_cons (ze_int) (za_cons (ze_int) (za_cons (ze_int) (za_cons (ze_int) (za_cons (ze_int) (za_nil)))))))) (za_nil))))))) (zss_cons (zs_setL (ps_set (i := 1) nd rfl (Or.inl rfl) (zl_F (zf_lst (za_cons (ze_tup (za_cons (ze_int) (za_cons (ze_int) (za_cons (ze_int) (za_cons (ze_int) (za_cons (ze_int) (za_cons (ze_int) (za_nil)))))))) (za_nil)))))) (zss_cons (zs_set (ps_set (i := 2) nd rfl (Or.inl rfl) (ze_int))) (zss_cons (zs_wh 1000 (zt_c (zc_cmp (opd_lt rfl hr) (ze_var (pv 2)) (ze_lenL (pv 1) rfl T.b_len) (nomark _))) (zss_cons (zs_for rfl (zi_any rfl (ze_var (pv 0))) (zg_nm (pg_name (i := 3) nd rfl (Or.inr rfl))) (zss_cons (zs_set (ps_set (i := 4) nd rfl (Or.inl rfl) (ze_ct (cd_tuple rfl) rfl T.b_tuple (by decide +kernel) (za_cons (ze_F (zf_lc (own := [("_law_side", 5)]) rfl nd (zi_any rfl (ze_ixL (pv 1) (ze_var (pv 2)) (fun _ _ => rfl))) (blkOk_by (N := n__law_turns) (sc := defScope s__law_turns) (by decide +kernel)) (by decide) (fun _ _ _ _ _ => zg_nm (pg_name (i := 5) nd rfl (Or.inl rfl))) (fun _ _ _ _ _ => zts_nil) (fun _ _ _ _ _ => ze_ix (ixd rfl) (ze_var (pv 3)) (ze_var (pv 5)) (fun _ _ => rfl)))) (za_nil))))) (zss_one (zs_if (zt_c (zc_notInL rfl hr (ze_var (pv 4)) (pv 1))) (zss_one (zs_expr (ze_mL PySem.F.slot_list_append PySem.F.type_list_append mt_append met_append (pv 1) (za_cons (ze_var (pv 4)) (za_nil))))) (zss_nil)))) PassesOwn.leaving) (zss_one (zs_set (ps_set (i := 2) nd rfl (Or.inl rfl) (ze_op (opd_add rfl) (ze_var (pv 2)) (ze_int)))))) PassesOwn.leaving) (zss_one (zs_ret (ze_F (zf_cb (cf_sorted rfl hr) rfl T.b_sorted (by decide +kernel) (za_cons (ze_var (pv 1)) (za_nil)))))))))
theorem ok__law_turned (T : Fx K mg) : FnG P w K mg base 1 T.a__law_turned T.d__law_turned ["_law_sides", "_law_turn"] (spZ (Ck K) z__law_turned 2) := by
  have nd := sc__law_turned.nd
  refine fnG_z (C := Ck K) (N := n__law_turned) (ps := ["_law_sides", "_law_turn"]) (body := b__law_turned) (k := 0) T.F__law_turned sc__law_turned fun cdv A outer s H E hr hgu tk => ?_
  exact zss_cons (zs_setL (ps_set (i := 2) nd rfl (Or.inl rfl) (zl_F (zf_mul (ze_lst (za_cons (ze_non) (za_nil))) (ze_int))))) (zss_cons (zs_for rfl (zi_rng1 rfl T.b_range (za_cons (ze_int) (za_nil))) (zg_nm (pg_name (i := 3) nd rfl (Or.inl rfl))) (zss_one (zs_asgP (ze_ix (ixd rfl) (ze_var (pv 0)) (ze_var (pv 3)) (fun _ _ => rfl)) (zp_ixL (Wx := fun _ _ _ _ => False) (pg_sub (pv 2) (ze_ix (ixd rfl) (ze_var (pv 1)) (ze_var (pv 3)) (fun _ _ => rfl)) set_list)))) PassesOwn.leaving) (zss_one (zs_ret (ze_ct (cd_tuple rfl) rfl T.b_tuple (by decide +kernel) (za_cons (ze_var (pv 2)) (za_nil))))))
theorem ok__law_due (T : Fx K mg) : FnG P w K mg base 2 T.a__law_due T.d__law_due ["_law_many"] (spZ (Ck K) z__law_due 1) := by
  have nd := sc__law_due.nd
  have G__law_turned : FnG P w K mg base 1 T.a__law_turned T.d__law_turned _ (spZ (Ck K) z__law_turned 2) := ok__law_turned T
  have G__law_turns : FnG P w K mg base 1 T.a__law_turns T.d__law_turns _ (spZ (Ck K) z__law_turns 0) := ok__law_turns T
  refine fnG_z (C := Ck K) (N := n__law_due) (ps := ["_law_many"]) (body := b__law_due) (k := 1) T.F__law_due sc__law_due fun cdv A outer s H E hr hgu tk => ?_
  exact zss_cons (zs_set (ps_set (i := 1) nd rfl (Or.inl rfl) (ze_call0 (G__law_turns) (hr.mono (by decide)) hgu tk rfl T.m__law_turns T.F__law_turns.kp T.B__law_turns rfl))) (zss_cons (zs_set (ps_set (i := 2) nd rfl (Or.inl rfl) (ze_lst (za_cons (ze_tup (za_nil)) (za_nil))))) (zss_cons (zs_for rfl (zi_rng1 rfl T.b_range (za_cons (ze_int) (za_nil))) (zg_nm (pg_name (i := 3) nd rfl (Or.inl rfl))) (zss_cons (zs_setL (ps_set (i := 6) nd rfl (Or.inl rfl) (zl_F (zf_lst (za_nil))))) (zss_cons (zs_for rfl (zi_any rfl (ze_var (pv 2))) (zg_nm (pg_name (i := 5) nd rfl (Or.inr rfl))) (zss_one (zs_expr (ze_mL PySem.F.slot_list_extend PySem.F.type_list_extend mt_extend met_extend (pv 6) (za_cons (ze_F (zf_lc (own := [("_law_paint", 8)]) rfl nd (zi_rng1 rfl T.b_range (za_cons (ze_var (pv 0)) (za_nil))) (blkOk_by (N := n__law_due) (sc := defScope s__law_due) (by decide +kernel)) (by decide) (fun _ _ _ _ _ => zg_nm (pg_name (i := 8) nd rfl (Or.inl rfl))) (fun _ _ _ _ _ => zts_nil) (fun _ _ _ _ _ => ze_op (opd_add rfl) (ze_var (pv 5)) (ze_tup (za_cons (ze_var (pv 8)) (za_nil)))))) (za_nil))))) PassesOwn.leaving) (zss_one (zs_frz 6 (zs_set (ps_set (i := 2) nd rfl (Or.inl rfl) (ze_var (pv 6)))))))) PassesOwn.leaving) (zss_cons (zs_setL (ps_set (i := 4) nd rfl (Or.inl rfl) (zl_F (zf_lst (za_nil))))) (zss_cons (zs_for rfl (zi_any rfl (ze_var (pv 2))) (zg_nm (pg_name (i := 5) nd rfl (Or.inr rfl))) (zss_one (zs_if (zt_c (zc_cmp (opd_eq rfl hr) (ze_F (zf_lc (own := [("_law_turn", 7)]) rfl nd (zi_any rfl (ze_var (pv 1))) (blkOk_by (N := n__law_due) (sc := defScope s__law_due) (by decide +kernel)) (by decide) (fun _ _ _ _ _ => zg_nm (pg_name (i := 7) nd rfl (Or.inl rfl))) (fun _ _ _ _ _ => pts_one (zt_c (zc_cmp (opd_lt rfl hr) (ze_ix (ixd rfl) (ze_var (pv 5)) (ze_ix (ixd rfl) (ze_var (pv 7)) (ze_int) (fun _ _ => rfl)) (fun _ _ => rfl)) (ze_ix (ixd rfl) (ze_var (pv 5)) (ze_int) (fun _ _ => rfl)) (nomark _)))) (fun _ _ _ _ _ => ze_var (pv 7)))) (ze_lst (za_nil)) (nomark _))) (zss_one (zs_if (zt_c (zc_cmp (opd_eq rfl hr) (ze_F (zf_lc (own := [("_law_turn", 7)]) rfl nd (zi_any rfl (ze_var (pv 1))) (blkOk_by (N := n__law_due) (sc := defScope s__law_due) (by decide +kernel)) (by decide) (fun _ _ _ _ _ => zg_nm (pg_name (i := 7) nd rfl (Or.inl rfl))) (fun _ _ _ _ _ => pts_one (zt_c (zc_cmp (opd_lt rfl hr) (ze_call (G__law_turned) (hr.mono (by decide)) hgu takes0 rfl T.m__law_turned T.F__law_turned.kp T.B__law_turned rfl (za_cons (ze_var (pv 5)) (za_cons (ze_var (pv 7)) (za_nil)))) (ze_var (pv 5)) (nomark _)))) (fun _ _ _ _ _ => ze_var (pv 7)))) (ze_lst (za_nil)) (nomark _))) (zss_one (zs_expr (ze_mL PySem.F.slot_list_append PySem.F.type_list_append mt_append met_append (pv 4) (za_cons (ze_var (pv 5)) (za_nil))))) (zss_nil))) (zss_nil))) PassesOwn.leaving) (zss_one (zs_ret (ze_var (pv 4))))))))
theorem ok_must_be_listed (T : Fx K mg) : FnG P w K mg base 1 T.a_must_be_listed T.d_must_be_listed ["palette"] (spZ (Ck K) z_must_be_listed 1) := by
  have nd := sc_must_be_listed.nd
  refine fnG_z (C := Ck K) (N := n_must_be_listed) (ps := ["palette"]) (body := b_must_be_listed) (k := 0) T.F_must_be_listed sc_must_be_listed fun cdv A outer s H E hr hgu tk => ?_
  exact zss_one (zs_if (PW.pt (zw_or (zt_c (zc_cmp (opd_lt rfl hr) (ze_var (pv 0)) (ze_int) (nomark _))) (zw_or1 (zt_c (zc_cmp opd_gt (ze_var (pv 0)) (ze_cst rfl T.m_MOST_LISTED T.h_MOST_LISTED) (nomark _)))))) (zss_one (zs_raiseX rfl tk T.xr_NoPalette rfl rfl)) (zss_nil))
theorem ok_all_turns (T : Fx K mg) : FnG P w K mg base 1 T.a_all_turns T.d_all_turns [] (spZ (Ck K) z_all_turns 0) := by
  have nd := sc_all_turns.nd
  refine fnG_z (C := Ck K) (N := n_all_turns) (ps := []) (body := b_all_turns) (k := 0) T.F_all_turns sc_all_turns fun cdv A outer s H E hr hgu tk => ?_
  exact zss_one (zs_ret (ze_F (zf_ct (cf_list rfl) rfl T.b_list (by decide +kernel) (za_cons (ze_cst rfl T.m_TURNS T.h_TURNS) (za_nil)))))
theorem ok_all_of (T : Fx K mg) : FnG P w K mg base 1 T.a_all_of T.d_all_of ["palette", "many"] (spZ (Ck K) z_all_of 2) := by
  have nd := sc_all_of.nd
  refine fnG_z (C := Ck K) (N := n_all_of) (ps := ["palette", "many"]) (body := b_all_of) (k := 0) T.F_all_of sc_all_of fun cdv A outer s H E hr hgu tk => ?_
  exact zss_cons (zs_set (ps_set (i := 2) nd rfl (Or.inl rfl) (ze_lst (za_cons (ze_tup (za_nil)) (za_nil))))) (zss_cons (zs_for rfl (zi_rng1 rfl T.b_range (za_cons (ze_var (pv 1)) (za_nil))) (zg_nm (pg_name (i := 3) nd rfl (Or.inl rfl))) (zss_cons (zs_setL (ps_set (i := 4) nd rfl (Or.inl rfl) (zl_F (zf_lst (za_nil))))) (zss_cons (zs_for rfl (zi_any rfl (ze_var (pv 2))) (zg_nm (pg_name (i := 5) nd rfl (Or.inr rfl))) (zss_one (zs_expr (ze_mL PySem.F.slot_list_extend PySem.F.type_list_extend mt_extend met_extend (pv 4) (za_cons (ze_F (zf_lc (own := [("paint", 6)]) rfl nd (zi_rng1 rfl T.b_range (za_cons (ze_var (pv 0)) (za_nil))) (blkOk_by (N := n_all_of) (sc := defScope s_all_of) (by decide +kernel)) (by decide) (fun _ _ _ _ _ => zg_nm (pg_name (i := 6) nd rfl (Or.inl rfl))) (fun _ _ _ _ _ => zts_nil) (fun _ _ _ _ _ => ze_op (opd_add rfl) (ze_var (pv 5)) (ze_tup (za_cons (ze_var (pv 6)) (za_nil)))))) (za_nil))))) PassesOwn.leaving) (zss_one (zs_frz 4 (zs_set (ps_set (i := 2) nd rfl (Or.inl rfl) (ze_var (pv 4)))))))) PassesOwn.leaving) (zss_one (zs_ret (ze_var (pv 2)))))
theorem ok_turned_by (T : Fx K mg) : FnG P w K mg base 1 T.a_turned_by T.d_turned_by ["paints", "turn"] (spZ (Ck K) z_turned_by 2) := by
  have nd := sc_turned_by.nd
  refine fnG_z (C := Ck K) (N := n_turned_by) (ps := ["paints", "turn"]) (body := b_turned_by) (k := 0) T.F_turned_by sc_turned_by fun cdv A outer s H E hr hgu tk => ?_
  exact zss_cons (zs_setL (ps_set (i := 2) nd rfl (Or.inl rfl) (zl_F (zf_ct (cf_list rfl) rfl T.b_list (by decide +kernel) (za_cons (ze_var (pv 0)) (za_nil)))))) (zss_cons (zs_for rfl (zi_zip rfl rfl T.b_zip (za_cons (ze_var (pv 0)) (za_cons (ze_var (pv 1)) (za_nil)))) (zg_tp rfl rfl (zgs_cons (zg_nm (pg_name (i := 3) nd rfl (Or.inl rfl))) (zgs_cons (zg_nm (pg_name (i := 4) nd rfl (Or.inl rfl))) (zgs_nil)))) (zss_one (zs_asgP (ze_var (pv 3)) (zp_ixL (Wx := fun _ _ _ _ => False) (pg_sub (pv 2) (ze_var (pv 4)) set_list)))) PassesOwn.leaving) (zss_one (zs_ret (ze_ct (cd_tuple rfl) rfl T.b_tuple (by decide +kernel) (za_cons (ze_var (pv 2)) (za_nil))))))
theorem ok_listed (T : Fx K mg) : FnG P w K mg base 2 T.a_listed T.d_listed ["palette"] (spZ (Ck K) z_listed 1) := by
  have nd := sc_listed.nd
  have G_all_of : FnG P w K mg base 1 T.a_all_of T.d_all_of _ (spZ (Ck K) z_all_of 2) := ok_all_of T
  have G_all_turns : FnG P w K mg base 1 T.a_all_turns T.d_all_turns _ (spZ (Ck K) z_all_turns 0) := ok_all_turns T
  have G_turned_by : FnG P w K mg base 1 T.a_turned_by T.d_turned_by _ (spZ (Ck K) z_turned_by 2) := ok_turned_by T
  refine fnG_z (C := Ck K) (N := n_listed) (ps := ["palette"]) (body := b_listed) (k := 1) T.F_listed sc_listed fun cdv A outer s H E hr hgu tk => ?_
  exact zss_cons (zs_set (ps_set (i := 1) nd rfl (Or.inr rfl) (ze_call0 (G_all_turns) (hr.mono (by decide)) hgu tk rfl T.m_all_turns T.F_all_turns.kp T.B_all_turns rfl))) (zss_one (zs_ret (ze_G (zf_lc (own := [("paints", 2)]) rfl nd (zi_any rfl (ze_call (G_all_of) (hr.mono (by decide)) hgu tk rfl T.m_all_of T.F_all_of.kp T.B_all_of rfl (za_cons (ze_var (pv 0)) (za_cons (ze_int) (za_nil))))) (blkOk_by (N := n_listed) (sc := defScope s_listed) (by decide +kernel)) (by decide) (fun _ _ _ _ _ => zg_nm (pg_name (i := 2) nd rfl (Or.inr rfl))) (fun _ _ _ _ _ => pts_one (zt_not (zt rfl (ze_cb (cd_any rfl) rfl T.b_any (by decide +kernel) (za_cons (ze_F (zf_lc (own := [("turn", 3)]) rfl nd (zi_any rfl (ze_var (pv 1))) (blkOk_by (N := n_listed) (by kernel_rfl)) (by decide) (fun _ _ _ _ _ => zg_nm (pg_name (i := 3) nd rfl (Or.inl rfl))) (fun _ _ _ _ _ => zts_nil) (fun _ _ _ _ _ => ze_c (zc_cmp (opd_lt rfl hr) (ze_call (G_turned_by) (hr.mono (by decide)) hgu takes0 rfl T.m_turned_by T.F_turned_by.kp T.B_turned_by rfl (za_cons (ze_var (pv 2)) (za_cons (ze_var (pv 3)) (za_nil)))) (ze_var (pv 2)) (nomark _))))) (za_nil))) (fun _ => rfl)))) (fun _ _ _ _ _ => ze_var (pv 2))))))
theorem ok_all_cubes (T : Fx K mg) : FnG P w K mg base 3 T.a_all_cubes T.d_all_cubes ["palette"] (spZ (Ck K) z_all_cubes 1) := by
  have nd := sc_all_cubes.nd
  have G_listed : FnG P w K mg base 2 T.a_listed T.d_listed _ (spZ (Ck K) z_listed 1) := ok_listed T
  have G_must_be_listed : FnG P w K mg base 1 T.a_must_be_listed T.d_must_be_listed _ (spZ (Ck K) z_must_be_listed 1) := ok_must_be_listed T
  refine fnG_zE (C := Ck K) (N := n_all_cubes) (ps := ["palette"]) (body := b_all_cubes) (k := 2) T.F_all_cubes sc_all_cubes fun cdv A outer s H E hr hgu tk => ?_
  exact zss_cons (zs_expr (ze_call (G_must_be_listed) (hr.mono (by decide)) hgu tk rfl T.m_must_be_listed T.F_must_be_listed.kp T.B_must_be_listed rfl (za_cons (ze_var (pv 0)) (za_nil)))) (zss_one (zs_ret (ze_call (G_listed) (hr.mono (by decide)) hgu tk rfl T.m_listed T.F_listed.kp T.B_listed rfl (za_cons (ze_var (pv 0)) (za_nil)))))
theorem ok__law_names_of (T : Fx K mg) : FnG P w K mg base 1 T.a__law_names_of T.d__law_names_of ["_law_e"] (spZ (Ck K) z__law_names_of 1) := by
  have nd := sc__law_names_of.nd
  refine fnG_z (C := Ck K) (N := n__law_names_of) (ps := ["_law_e"]) (body := b__law_names_of) (k := 0) T.F__law_names_of sc__law_names_of fun cdv A outer s H E hr hgu tk => ?_
  exact zss_cons (zs_set (ps_set (i := 1) nd rfl (Or.inl rfl) (ze_lst (za_cons (ze_isX rfl T.ix_NoBack (ze_var (pv 0)) rfl T.b_isinstance (pe_cls rfl T.gx_NoBack) cls_eq) (za_cons (ze_isX rfl T.ix_NoBase (ze_var (pv 0)) rfl T.b_isinstance (pe_cls rfl T.gx_NoBase) cls_eq) (za_cons (ze_isX rfl T.ix_NoChange (ze_var (pv 0)) rfl T.b_isinstance (pe_cls rfl T.gx_NoChange) cls_eq) (za_nil))))))) (zss_cons (zs_set (ps_set (i := 1) nd rfl (Or.inl rfl) (ze_op (opd_add rfl) (ze_var (pv 1)) (ze_lst (za_cons (ze_isX rfl T.ix_NoCounts (ze_var (pv 0)) rfl T.b_isinstance (pe_cls rfl T.gx_NoCounts) cls_eq) (za_cons (ze_isX rfl T.ix_NoCube (ze_var (pv 0)) rfl T.b_isinstance (pe_cls rfl T.gx_NoCube) cls_eq) (za_cons (ze_isX rfl T.ix_NoCubes (ze_var (pv 0)) rfl T.b_isinstance (pe_cls rfl T.gx_NoCubes) cls_eq) (za_nil)))))))) (zss_cons (zs_set (ps_set (i := 1) nd rfl (Or.inl rfl) (ze_op (opd_add rfl) (ze_var (pv 1)) (ze_lst (za_cons (ze_isX rfl T.ix_NoFit (ze_var (pv 0)) rfl T.b_isinstance (pe_cls rfl T.gx_NoFit) cls_eq) (za_cons (ze_isX rfl T.ix_NoName (ze_var (pv 0)) rfl T.b_isinstance (pe_cls rfl T.gx_NoName) cls_eq) (za_cons (ze_isX rfl T.ix_NoNumber (ze_var (pv 0)) rfl T.b_isinstance (pe_cls rfl T.gx_NoNumber) cls_eq) (za_nil)))))))) (zss_cons (zs_set (ps_set (i := 1) nd rfl (Or.inl rfl) (ze_op (opd_add rfl) (ze_var (pv 1)) (ze_lst (za_cons (ze_isX rfl T.ix_NoPaints (ze_var (pv 0)) rfl T.b_isinstance (pe_cls rfl T.gx_NoPaints) cls_eq) (za_cons (ze_isX rfl T.ix_NoPalette (ze_var (pv 0)) rfl T.b_isinstance (pe_cls rfl T.gx_NoPalette) cls_eq) (za_cons (ze_isX rfl T.ix_NoPaper (ze_var (pv 0)) rfl T.b_isinstance (pe_cls rfl T.gx_NoPaper) cls_eq) (za_nil)))))))) (zss_cons (zs_set (ps_set (i := 1) nd rfl (Or.inl rfl) (ze_op (opd_add rfl) (ze_var (pv 1)) (ze_lst (za_cons (ze_isX rfl T.ix_NoPlace (ze_var (pv 0)) rfl T.b_isinstance (pe_cls rfl T.gx_NoPlace) cls_eq) (za_cons (ze_isX rfl T.ix_NoRow (ze_var (pv 0)) rfl T.b_isinstance (pe_cls rfl T.gx_NoRow) cls_eq) (za_cons (ze_isX rfl T.ix_NoSix (ze_var (pv 0)) rfl T.b_isinstance (pe_cls rfl T.gx_NoSix) cls_eq) (za_nil)))))))) (zss_cons (zs_set (ps_set (i := 1) nd rfl (Or.inl rfl) (ze_op (opd_add rfl) (ze_var (pv 1)) (ze_lst (za_cons (ze_isX rfl T.ix_NoStock (ze_var (pv 0)) rfl T.b_isinstance (pe_cls rfl T.gx_NoStock) cls_eq) (za_cons (ze_isX rfl T.ix_NoText (ze_var (pv 0)) rfl T.b_isinstance (pe_cls rfl T.gx_NoText) cls_eq) (za_cons (ze_isX rfl T.ix_NoTurn (ze_var (pv 0)) rfl T.b_isinstance (pe_cls rfl T.gx_NoTurn) cls_eq) (za_nil)))))))) (zss_cons (zs_set (ps_set (i := 1) nd rfl (Or.inl rfl) (ze_op (opd_add rfl) (ze_var (pv 1)) (ze_lst (za_cons (ze_isX rfl T.ix_NoWord (ze_var (pv 0)) rfl T.b_isinstance (pe_cls rfl T.gx_NoWord) cls_eq) (za_cons (ze_isX rfl T.ix_TooMany (ze_var (pv 0)) rfl T.b_isinstance (pe_cls rfl T.gx_TooMany) cls_eq) (za_nil))))))) (zss_cons (zs_set (ps_set (i := 2) nd rfl (Or.inl rfl) (ze_lst (za_cons (ze_str) (za_cons (ze_str) (za_cons (ze_str) (za_cons (ze_str) (za_cons (ze_str) (za_cons (ze_str) (za_cons (ze_str) (za_cons (ze_str) (za_nil)))))))))))) (zss_cons (zs_set (ps_set (i := 2) nd rfl (Or.inl rfl) (ze_op (opd_add rfl) (ze_var (pv 2)) (ze_lst (za_cons (ze_str) (za_cons (ze_str) (za_cons (ze_str) (za_cons (ze_str) (za_cons (ze_str) (za_cons (ze_str) (za_cons (ze_str) (za_cons (ze_str) (za_nil))))))))))))) (zss_cons (zs_set (ps_set (i := 2) nd rfl (Or.inl rfl) (ze_op (opd_add rfl) (ze_var (pv 2)) (ze_lst (za_cons (ze_str) (za_cons (ze_str) (za_cons (ze_str) (za_cons (ze_str) (za_nil))))))))) (zss_one (zs_ret (ze_F (zf_lc (own := [("_law_word", 3), ("_law_hit", 4)]) rfl nd (zi_zip rfl rfl T.b_zip (za_cons (ze_var (pv 2)) (za_cons (ze_var (pv 1)) (za_nil)))) (blkOk_by (N := n__law_names_of) (sc := defScope s__law_names_of) (by decide +kernel)) (by decide) (fun _ _ _ _ _ => zg_tp rfl rfl (zgs_cons (zg_nm (pg_name (i := 3) nd rfl (Or.inl rfl))) (zgs_cons (zg_nm (pg_name (i := 4) nd rfl (Or.inl rfl))) (zgs_nil)))) (fun _ _ _ _ _ => pts_one (zt rfl (ze_var (pv 4)) (fun _ => rfl))) (fun _ _ _ _ _ => ze_var (pv 3)))))))))))))))
theorem ok__law_refused (T : Fx K mg) : FnG P w K mg base 4 T.a__law_refused T.d__law_refused ["_law_number"] (spZ (Ck K) z__law_refused 1) := by
  have nd := sc__law_refused.nd
  have G__law_names_of : FnG P w K mg base 1 T.a__law_names_of T.d__law_names_of _ (spZ (Ck K) z__law_names_of 1) := ok__law_names_of T
  have G_all_cubes : FnG P w K mg base 3 T.a_all_cubes T.d_all_cubes _ (spZ (Ck K) z_all_cubes 1) := ok_all_cubes T
  refine fnG_z (C := Ck K) (N := n__law_refused) (ps := ["_law_number"]) (body := b__law_refused) (k := 3) T.F__law_refused sc__law_refused fun cdv A outer s H E hr hgu tk => ?_
  exact zss_cons (zs_set (ps_set (i := 1) nd rfl (Or.inl rfl) (ze_non))) (zss_cons (zs_try (i := 2) (j := 1) rfl rfl rfl nd rfl rfl ⟨rfl, by decide, .inl T.gx_CubeError⟩ tk T.ex_CubeError rfl (fun _ _ => ps_set (i := 1) nd rfl (Or.inl rfl) (pv 2)) (fun W pn xe tk => zss_one (zs_expr (ze_callE (G_all_cubes) (hr.mono (by decide)) hgu tk rfl T.m_all_cubes T.F_all_cubes.kp T.Z_all_cubes_1_ rfl rfl rfl rfl (za_cons (ze_var (pv 0)) (za_nil)) (zk_nil))))) (zss_one (zs_ret (ze_and (ze_isX rfl T.ix_ValueError (ze_var (pv 1)) rfl T.b_isinstance (pe_tyn (T := "ValueError") rfl T.b_ValueError (by decide +kernel)) ty_eq) (ze_one (ze_c (zc_cmp (opd_eq rfl hr) (ze_call (G__law_names_of) (hr.mono (by decide)) hgu tk rfl T.m__law_names_of T.F__law_names_of.kp T.B__law_names_of rfl (za_cons (ze_var (pv 1)) (za_nil))) (ze_lst (za_cons (ze_str) (za_nil))) (nomark _))))))))
theorem ok__law_whole (T : Fx K mg) : FnG P w K mg base 1 T.a__law_whole T.d__law_whole ["_law_found"] (spZ (Ck K) z__law_whole 1) := by
  have nd := sc__law_whole.nd
  refine fnG_z (C := Ck K) (N := n__law_whole) (ps := ["_law_found"]) (body := b__law_whole) (k := 0) T.F__law_whole sc__law_whole fun cdv A outer s H E hr hgu tk => ?_
  exact zss_one (zs_ret (ze_and (ze_isi rfl (by decide) (ze_var (pv 0)) rfl T.b_isinstance (pe_bltn rfl T.b_int (by decide +kernel) rfl)) (ze_one (ze_not (ze_isi rfl (by decide) (ze_var (pv 0)) rfl T.b_isinstance (pe_bltn rfl T.b_bool (by decide +kernel) rfl))))))
theorem ok_law (T : Fx K mg) : FnG P w K mg base 5 T.a_law T.d_law ["_law_script"] (spZ (Ck K) z_law 1) := by
  have nd := sc_law.nd
  have G__law_draws : FnG P w K mg base 1 T.a__law_draws T.d__law_draws _ (spZ (Ck K) z__law_draws 3) := ok__law_draws T
  have G__law_due : FnG P w K mg base 2 T.a__law_due T.d__law_due _ (spZ (Ck K) z__law_due 1) := ok__law_due T
  have G__law_refused : FnG P w K mg base 4 T.a__law_refused T.d__law_refused _ (spZ (Ck K) z__law_refused 1) := ok__law_refused T
  have G__law_whole : FnG P w K mg base 1 T.a__law_whole T.d__law_whole _ (spZ (Ck K) z__law_whole 1) := ok__law_whole T
  have G_all_cubes : FnG P w K mg base 3 T.a_all_cubes T.d_all_cubes _ (spZ (Ck K) z_all_cubes 1) := ok_all_cubes T
  refine fnG_z (C := Ck K) (N := n_law) (ps := ["_law_script"]) (body := b_law) (k := 4) T.F_law sc_law fun cdv A outer s H E hr hgu tk => ?_
  exact zss_cons (zs_set (ps_set (i := 1) nd rfl (Or.inl rfl) (ze_call (G__law_draws) (hr.mono (by decide)) hgu tk rfl T.m__law_draws T.F__law_draws.kp T.B__law_draws rfl (za_cons (ze_var (pv 0)) (za_cons (ze_int) (za_cons (ze_int) (za_nil))))))) (zss_cons (zs_for rfl (zi_any rfl (ze_lst (za_cons (ze_op opd_mod (ze_ix (ixd rfl) (ze_var (pv 1)) (ze_int) (fun _ _ => rfl)) (ze_int)) (za_cons (ze_op opd_mod (ze_ix (ixd rfl) (ze_var (pv 1)) (ze_int) (fun _ _ => rfl)) (ze_int)) (za_nil))))) (zg_nm (pg_name (i := 2) nd rfl (Or.inl rfl))) (zss_cons (zs_set (ps_set (i := 4) nd rfl (Or.inl rfl) (ze_call (G__law_due) (hr.mono (by decide)) hgu tk rfl T.m__law_due T.F__law_due.kp T.B__law_due rfl (za_cons (ze_var (pv 2)) (za_nil))))) (zss_cons (zs_set (ps_set (i := 5) nd rfl (Or.inl rfl) (ze_callE (G_all_cubes) (hr.mono (by decide)) hgu tk rfl T.m_all_cubes T.F_all_cubes.kp T.Z_all_cubes_1_ rfl rfl rfl rfl (za_cons (ze_var (pv 2)) (za_nil)) (zk_nil)))) (zss_cons (zs_if (PW.pt (zw_or (zt_not (zt rfl (ze_isiS rfl (by decide) (ze_var (pv 5)) rfl T.b_isinstance (pe_bltn rfl T.b_list (by decide +kernel) rfl)) (fun _ => rfl))) (zw_or1 (zt_c (zc_cmp (opd_ne rfl hr) (ze_var (pv 5)) (ze_var (pv 4)) (nomark _)))))) (zss_one (zs_ret (ze_bl))) (zss_nil)) (zss_cons (zs_if (zt_c (zc_cmp (opd_ne rfl hr) (ze_F (zf_lcG (own := [("_law_sides", 6)]) 5000 rfl nd (pv 5) (blkOk_by (N := n_law) (sc := defScope s_law) (by decide +kernel)) (by decide) (fun _ _ _ _ _ => zg_nm (pg_name (i := 6) nd rfl (Or.inl rfl))) (fun _ _ _ _ _ => pts_one (PW.pt (zw_or (zt_not (zt rfl (ze_isiS rfl (by decide) (ze_var (pv 6)) rfl T.b_isinstance (pe_bltn rfl T.b_tuple (by decide +kernel) rfl)) (fun _ => rfl))) (zw_or1 (zt_not (zt rfl (ze_call (G__law_whole) (hr.mono (by decide)) hgu takes0 rfl T.m__law_whole T.F__law_whole.kp T.B__law_whole rfl (za_cons (ze_ix (ixd rfl) (ze_var (pv 6)) (ze_int) (fun _ _ => rfl)) (za_nil))) (fun _ => rfl))))))) (fun _ _ _ _ _ => ze_var (pv 6)))) (ze_lst (za_nil)) (nomark _))) (zss_one (zs_ret (ze_bl))) (zss_nil)) (zss_cons (zs_expr (ze_mG PySem.F.slot_list_append PySem.F.type_list_append mt_append met_append (ze_var (pv 5)) (za_cons (ze_int) (za_nil)))) (zss_one (zs_if (zt_c (zc_cmp (opd_ne rfl hr) (ze_callE0 (G_all_cubes) (hr.mono (by decide)) hgu tk rfl T.m_all_cubes T.F_all_cubes.kp T.Z_all_cubes_0_palette rfl rfl rfl rfl (zk_cons (ze_var (pv 2)) (zk_nil))) (ze_var (pv 4)) (nomark _))) (zss_one (zs_ret (ze_bl))) (zss_nil)))))))) PassesOwn.leaving) (zss_cons (zs_for rfl (zi_any rfl (ze_lst (za_cons (ze_un und_neg (ze_int)) (za_cons (ze_int) (za_cons (ze_op (opd_add rfl) (ze_int) (ze_ix (ixd rfl) (ze_var (pv 1)) (ze_int) (fun _ _ => rfl))) (za_cons (ze_op opd_sub (ze_un und_neg (ze_int)) (ze_op (opd_mul rfl) (ze_ix (ixd rfl) (ze_var (pv 1)) (ze_int) (fun _ _ => rfl)) (ze_op opd_pow (ze_int) (ze_int)))) (za_nil))))))) (zg_nm (pg_name (i := 3) nd rfl (Or.inl rfl))) (zss_one (zs_if (zt_not (zt rfl (ze_call (G__law_refused) (hr.mono (by decide)) hgu tk rfl T.m__law_refused T.F__law_refused.kp T.B__law_refused rfl (za_cons (ze_var (pv 3)) (za_nil))) (fun _ => rfl))) (zss_one (zs_ret (ze_bl))) (zss_nil))) PassesOwn.leaving) (zss_one (zs_ret (ze_and (ze_c (zc_cmp (opd_eq rfl hr) (ze_cb (cd_len rfl) rfl T.b_len (by decide +kernel) (za_cons (ze_callE0 (G_all_cubes) (hr.mono (by decide)) hgu tk rfl T.m_all_cubes T.F_all_cubes.kp T.Z_all_cubes_0_ rfl rfl rfl rfl (zk_nil)) (za_nil))) (ze_int) (nomark _))) (ze_one (ze_c (zc_cmp (opd_eq rfl hr) (ze_callE0 (G_all_cubes) (hr.mono (by decide)) hgu tk rfl T.m_all_cubes T.F_all_cubes.kp T.Z_all_cubes_0_ rfl rfl rfl rfl (zk_nil)) (ze_callE (G_all_cubes) (hr.mono (by decide)) hgu tk rfl T.m_all_cubes T.F_all_cubes.kp T.Z_all_cubes_1_ rfl rfl rfl rfl (za_cons (ze_int) (za_nil)) (zk_nil)) (nomark _)))))))))
end
section
variable {K : PySem.W.Frag} {h : Heap} {mg : Str → Option Value} {f__law_draws f__law_turns f__law_turned f__law_due f_must_be_listed f_all_turns f_all_of f_turned_by f_listed f_all_cubes f__law_names_of f__law_refused f__law_whole f_law dt_all_cubes : Addr} {od__law_draws an__law_draws od__law_turns an__law_turns od__law_turned an__law_turned od__law_due an__law_due od_must_be_listed an_must_be_listed od_all_turns an_all_turns od_all_of an_all_of od_turned_by an_turned_by od_listed an_listed od_all_cubes an_all_cubes od__law_names_of an__law_names_of od__law_refused an__law_refused od__law_whole an__law_whole od_law an_law : Option Addr} {sl__law_draws sl__law_turns sl__law_turned sl__law_due sl_must_be_listed sl_all_turns sl_all_of sl_turned_by sl_listed sl_all_cubes sl__law_names_of sl__law_refused sl__law_whole sl_law : Array (Option Value)} {oc__law_draws kV__law_draws dc__law_draws pm__law_draws cd__law_draws ct__law_draws oc__law_turns kV__law_turns dc__law_turns pm__law_turns cd__law_turns ct__law_turns oc__law_turned kV__law_turned dc__law_turned pm__law_turned cd__law_turned ct__law_turned oc__law_due kV__law_due dc__law_due pm__law_due cd__law_due ct__law_due oc_must_be_listed kV_must_be_listed dc_must_be_listed pm_must_be_listed cd_must_be_listed ct_must_be_listed oc_all_turns kV_all_turns dc_all_turns pm_all_turns cd_all_turns ct_all_turns oc_all_of kV_all_of dc_all_of pm_all_of cd_all_of ct_all_of oc_turned_by kV_turned_by dc_turned_by pm_turned_by cd_turned_by ct_turned_by oc_listed kV_listed dc_listed pm_listed cd_listed ct_listed oc_all_cubes kV_all_cubes dc_all_cubes pm_all_cubes cd_all_cubes ct_all_cubes oc__law_names_of kV__law_names_of dc__law_names_of pm__law_names_of cd__law_names_of ct__law_names_of oc__law_refused kV__law_refused dc__law_refused pm__law_refused cd__law_refused ct__law_refused oc__law_whole kV__law_whole dc__law_whole pm__law_whole cd__law_whole ct__law_whole oc_law kV_law dc_law pm_law cd_law ct_law u_MOST_LISTED u_TURNS : Value}
variable {x_CubeError x_NoBack x_NoBase x_NoChange x_NoCounts x_NoCube x_NoCubes x_NoFit x_NoName x_NoNumber x_NoPaints x_NoPalette x_NoPaper x_NoPlace x_NoRow x_NoSix x_NoStock x_NoText x_NoTurn x_NoWord x_TooMany : Addr}
theorem law_mk {l : PySem.W.OpenLaw} {w : World} {fa : Addr} (X : K.In h) (G : h.Ns mainGlobals mg) (hfa : mg "law" = some (.ref fa))
    (a__law_draws : PySem.W.nsIn K mainGlobals "_law_draws" = some (some (.ref f__law_draws))) (l__law_draws : K.lookup f__law_draws = some ⟨oc__law_draws, od__law_draws, .func (PySem.W.fnOf "_law_draws" "_law_draws" (defArgs s__law_draws) (defBody s__law_draws) (defScope s__law_draws) .none kV__law_draws dc__law_draws pm__law_draws an__law_draws cd__law_draws ct__law_draws), sl__law_draws⟩) (c__law_draws : PySem.W.codeIn K cd__law_draws "_law_draws" = true) (k__law_draws : PySem.W.keepIn K (.ref f__law_draws) = true)
    (a__law_turns : PySem.W.nsIn K mainGlobals "_law_turns" = some (some (.ref f__law_turns))) (l__law_turns : K.lookup f__law_turns = some ⟨oc__law_turns, od__law_turns, .func (PySem.W.fnOf "_law_turns" "_law_turns" (defArgs s__law_turns) (defBody s__law_turns) (defScope s__law_turns) .none kV__law_turns dc__law_turns pm__law_turns an__law_turns cd__law_turns ct__law_turns), sl__law_turns⟩) (c__law_turns : PySem.W.codeIn K cd__law_turns "_law_turns" = true) (k__law_turns : PySem.W.keepIn K (.ref f__law_turns) = true)
    (a__law_turned : PySem.W.nsIn K mainGlobals "_law_turned" = some (some (.ref f__law_turned))) (l__law_turned : K.lookup f__law_turned = some ⟨oc__law_turned, od__law_turned, .func (PySem.W.fnOf "_law_turned" "_law_turned" (defArgs s__law_turned) (defBody s__law_turned) (defScope s__law_turned) .none kV__law_turned dc__law_turned pm__law_turned an__law_turned cd__law_turned ct__law_turned), sl__law_turned⟩) (c__law_turned : PySem.W.codeIn K cd__law_turned "_law_turned" = true) (k__law_turned : PySem.W.keepIn K (.ref f__law_turned) = true)
    (a__law_due : PySem.W.nsIn K mainGlobals "_law_due" = some (some (.ref f__law_due))) (l__law_due : K.lookup f__law_due = some ⟨oc__law_due, od__law_due, .func (PySem.W.fnOf "_law_due" "_law_due" (defArgs s__law_due) (defBody s__law_due) (defScope s__law_due) .none kV__law_due dc__law_due pm__law_due an__law_due cd__law_due ct__law_due), sl__law_due⟩) (c__law_due : PySem.W.codeIn K cd__law_due "_law_due" = true) (k__law_due : PySem.W.keepIn K (.ref f__law_due) = true)
    (a_must_be_listed : PySem.W.nsIn K mainGlobals "must_be_listed" = some (some (.ref f_must_be_listed))) (l_must_be_listed : K.lookup f_must_be_listed = some ⟨oc_must_be_listed, od_must_be_listed, .func (PySem.W.fnOf "must_be_listed" "must_be_listed" (defArgs s_must_be_listed) (defBody s_must_be_listed) (defScope s_must_be_listed) .none kV_must_be_listed dc_must_be_listed pm_must_be_listed an_must_be_listed cd_must_be_listed ct_must_be_listed), sl_must_be_listed⟩) (c_must_be_listed : PySem.W.codeIn K cd_must_be_listed "must_be_listed" = true) (k_must_be_listed : PySem.W.keepIn K (.ref f_must_be_listed) = true)
    (a_all_turns : PySem.W.nsIn K mainGlobals "all_turns" = some (some (.ref f_all_turns))) (l_all_turns : K.lookup f_all_turns = some ⟨oc_all_turns, od_all_turns, .func (PySem.W.fnOf "all_turns" "all_turns" (defArgs s_all_turns) (defBody s_all_turns) (defScope s_all_turns) .none kV_all_turns dc_all_turns pm_all_turns an_all_turns cd_all_turns ct_all_turns), sl_all_turns⟩) (c_all_turns : PySem.W.codeIn K cd_all_turns "all_turns" = true) (k_all_turns : PySem.W.keepIn K (.ref f_all_turns) = true)
    (a_all_of : PySem.W.nsIn K mainGlobals "all_of" = some (some (.ref f_all_of))) (l_all_of : K.lookup f_all_of = some ⟨oc_all_of, od_all_of, .func (PySem.W.fnOf "all_of" "all_of" (defArgs s_all_of) (defBody s_all_of) (defScope s_all_of) .none kV_all_of dc_all_of pm_all_of an_all_of cd_all_of ct_all_of), sl_all_of⟩) (c_all_of : PySem.W.codeIn K cd_all_of "all_of" = true) (k_all_of : PySem.W.keepIn K (.ref f_all_of) = true)
    (a_turned_by : PySem.W.nsIn K mainGlobals "turned_by" = some (some (.ref f_turned_by))) (l_turned_by : K.lookup f_turned_by = some ⟨oc_turned_by, od_turned_by, .func (PySem.W.fnOf "turned_by" "turned_by" (defArgs s_turned_by) (defBody s_turned_by) (defScope s_turned_by) .none kV_turned_by dc_turned_by pm_turned_by an_turned_by cd_turned_by ct_turned_by), sl_turned_by⟩) (c_turned_by : PySem.W.codeIn K cd_turned_by "turned_by" = true) (k_turned_by : PySem.W.keepIn K (.ref f_turned_by) = true)
    (a_listed : PySem.W.nsIn K mainGlobals "listed" = some (some (.ref f_listed))) (l_listed : K.lookup f_listed = some ⟨oc_listed, od_listed, .func (PySem.W.fnOf "listed" "listed" (defArgs s_listed) (defBody s_listed) (defScope s_listed) .none kV_listed dc_listed pm_listed an_listed cd_listed ct_listed), sl_listed⟩) (c_listed : PySem.W.codeIn K cd_listed "listed" = true) (k_listed : PySem.W.keepIn K (.ref f_listed) = true)
    (a_all_cubes : PySem.W.nsIn K mainGlobals "all_cubes" = some (some (.ref f_all_cubes))) (l_all_cubes : K.lookup f_all_cubes = some ⟨oc_all_cubes, od_all_cubes, .func (PySem.W.fnOf "all_cubes" "all_cubes" (defArgs s_all_cubes) (defBody s_all_cubes) (defScope s_all_cubes) (.ref dt_all_cubes) kV_all_cubes dc_all_cubes pm_all_cubes an_all_cubes cd_all_cubes ct_all_cubes), sl_all_cubes⟩) (c_all_cubes : PySem.W.codeIn K cd_all_cubes "all_cubes" = true) (k_all_cubes : PySem.W.keepIn K (.ref f_all_cubes) = true) (t_all_cubes : chkDf K dt_all_cubes [(.int 2)] = true)
    (a__law_names_of : PySem.W.nsIn K mainGlobals "_law_names_of" = some (some (.ref f__law_names_of))) (l__law_names_of : K.lookup f__law_names_of = some ⟨oc__law_names_of, od__law_names_of, .func (PySem.W.fnOf "_law_names_of" "_law_names_of" (defArgs s__law_names_of) (defBody s__law_names_of) (defScope s__law_names_of) .none kV__law_names_of dc__law_names_of pm__law_names_of an__law_names_of cd__law_names_of ct__law_names_of), sl__law_names_of⟩) (c__law_names_of : PySem.W.codeIn K cd__law_names_of "_law_names_of" = true) (k__law_names_of : PySem.W.keepIn K (.ref f__law_names_of) = true)
    (a__law_refused : PySem.W.nsIn K mainGlobals "_law_refused" = some (some (.ref f__law_refused))) (l__law_refused : K.lookup f__law_refused = some ⟨oc__law_refused, od__law_refused, .func (PySem.W.fnOf "_law_refused" "_law_refused" (defArgs s__law_refused) (defBody s__law_refused) (defScope s__law_refused) .none kV__law_refused dc__law_refused pm__law_refused an__law_refused cd__law_refused ct__law_refused), sl__law_refused⟩) (c__law_refused : PySem.W.codeIn K cd__law_refused "_law_refused" = true) (k__law_refused : PySem.W.keepIn K (.ref f__law_refused) = true)
    (a__law_whole : PySem.W.nsIn K mainGlobals "_law_whole" = some (some (.ref f__law_whole))) (l__law_whole : K.lookup f__law_whole = some ⟨oc__law_whole, od__law_whole, .func (PySem.W.fnOf "_law_whole" "_law_whole" (defArgs s__law_whole) (defBody s__law_whole) (defScope s__law_whole) .none kV__law_whole dc__law_whole pm__law_whole an__law_whole cd__law_whole ct__law_whole), sl__law_whole⟩) (c__law_whole : PySem.W.codeIn K cd__law_whole "_law_whole" = true) (k__law_whole : PySem.W.keepIn K (.ref f__law_whole) = true)
    (a_law : PySem.W.nsIn K mainGlobals "law" = some (some (.ref f_law))) (l_law : K.lookup f_law = some ⟨oc_law, od_law, .func (PySem.W.fnOf "law" "law" (defArgs s_law) (defBody s_law) (defScope s_law) .none kV_law dc_law pm_law an_law cd_law ct_law), sl_law⟩) (c_law : PySem.W.codeIn K cd_law "law" = true) (k_law : PySem.W.keepIn K (.ref f_law) = true)
    (b_ValueError : PySem.W.nsIn K mainGlobals "ValueError" = some none)
    (b_any : PySem.W.nsIn K mainGlobals "any" = some none)
    (b_bool : PySem.W.nsIn K mainGlobals "bool" = some none)
    (b_int : PySem.W.nsIn K mainGlobals "int" = some none)
    (b_isinstance : PySem.W.nsIn K mainGlobals "isinstance" = some none)
    (b_len : PySem.W.nsIn K mainGlobals "len" = some none)
    (b_list : PySem.W.nsIn K mainGlobals "list" = some none)
    (b_min : PySem.W.nsIn K mainGlobals "min" = some none)
    (b_range : PySem.W.nsIn K mainGlobals "range" = some none)
    (b_sorted : PySem.W.nsIn K mainGlobals "sorted" = some none)
    (b_tuple : PySem.W.nsIn K mainGlobals "tuple" = some none)
    (b_zip : PySem.W.nsIn K mainGlobals "zip" = some none)
    (m_MOST_LISTED : PySem.W.nsIn K mainGlobals "MOST_LISTED" = some (some u_MOST_LISTED)) (h_MOST_LISTED : chkV K c_MOST_LISTED u_MOST_LISTED = true)
    (m_TURNS : PySem.W.nsIn K mainGlobals "TURNS" = some (some u_TURNS)) (h_TURNS : chkV K c_TURNS u_TURNS = true)
    (ax_CubeError : PySem.W.nsIn K mainGlobals "CubeError" = some (some (.ref x_CubeError)))
    (ax_NoBack : PySem.W.nsIn K mainGlobals "NoBack" = some (some (.ref x_NoBack)))
    (ax_NoBase : PySem.W.nsIn K mainGlobals "NoBase" = some (some (.ref x_NoBase)))
    (ax_NoChange : PySem.W.nsIn K mainGlobals "NoChange" = some (some (.ref x_NoChange)))
    (ax_NoCounts : PySem.W.nsIn K mainGlobals "NoCounts" = some (some (.ref x_NoCounts)))
    (ax_NoCube : PySem.W.nsIn K mainGlobals "NoCube" = some (some (.ref x_NoCube)))
    (ax_NoCubes : PySem.W.nsIn K mainGlobals "NoCubes" = some (some (.ref x_NoCubes)))
    (ax_NoFit : PySem.W.nsIn K mainGlobals "NoFit" = some (some (.ref x_NoFit)))
    (ax_NoName : PySem.W.nsIn K mainGlobals "NoName" = some (some (.ref x_NoName)))
    (ax_NoNumber : PySem.W.nsIn K mainGlobals "NoNumber" = some (some (.ref x_NoNumber)))
    (ax_NoPaints : PySem.W.nsIn K mainGlobals "NoPaints" = some (some (.ref x_NoPaints)))
    (ax_NoPalette : PySem.W.nsIn K mainGlobals "NoPalette" = some (some (.ref x_NoPalette)))
    (ax_NoPaper : PySem.W.nsIn K mainGlobals "NoPaper" = some (some (.ref x_NoPaper)))
    (ax_NoPlace : PySem.W.nsIn K mainGlobals "NoPlace" = some (some (.ref x_NoPlace)))
    (ax_NoRow : PySem.W.nsIn K mainGlobals "NoRow" = some (some (.ref x_NoRow)))
    (ax_NoSix : PySem.W.nsIn K mainGlobals "NoSix" = some (some (.ref x_NoSix)))
    (ax_NoStock : PySem.W.nsIn K mainGlobals "NoStock" = some (some (.ref x_NoStock)))
    (ax_NoText : PySem.W.nsIn K mainGlobals "NoText" = some (some (.ref x_NoText)))
    (ax_NoTurn : PySem.W.nsIn K mainGlobals "NoTurn" = some (some (.ref x_NoTurn)))
    (ax_NoWord : PySem.W.nsIn K mainGlobals "NoWord" = some (some (.ref x_NoWord)))
    (ax_TooMany : PySem.W.nsIn K mainGlobals "TooMany" = some (some (.ref x_TooMany)))
    (xp_NoPalette : PySem.W.excIn K x_NoPalette [.type "ValueError", .type "Exception", .type "BaseException", .type "object"] "ValueError.__new__" = true) (kp_NoPalette : PySem.W.keepIn K (.ref x_NoPalette) = true) (sb_NoPalette : PySem.W.subIn K (.ref x_NoPalette) (.type "BaseException") = some true) (ty_NoPalette : PySem.W.typeIn K (.ref x_NoPalette) = some (.type "type"))
    (ga_NoPalette : PySem.W.findIn K (.ref x_NoPalette) "__getattribute__" = some (some (.builtin "BaseException.__getattribute__"))) (gt_NoPalette : PySem.W.findIn K (.ref x_NoPalette) "__getattr__" = some none) (hd_NoPalette : PySem.W.hasDictIn K x_NoPalette = true) (hc_NoPalette : PySem.W.findIn K (.ref x_NoPalette) "__class__" = some (some (.builtin "object.__class__"))) (hm_NoPalette : PySem.W.mroIn K x_NoPalette (.type "object") = some true)
    (xn_ : PySem.W.specialIn K (.builtin "object.__class__") "__get__" = some (some (.builtin "getset_descriptor.__get__"))) (xt_ : PySem.W.takesIn K (.builtin "object.__class__") = some true)
    (ki_NoPalette_NoBack : PySem.W.kitOne K (.ref x_NoPalette) (.ref x_NoBack) = some false)
    (ki_NoPalette_NoBase : PySem.W.kitOne K (.ref x_NoPalette) (.ref x_NoBase) = some false)
    (ki_NoPalette_NoChange : PySem.W.kitOne K (.ref x_NoPalette) (.ref x_NoChange) = some false)
    (ki_NoPalette_NoCounts : PySem.W.kitOne K (.ref x_NoPalette) (.ref x_NoCounts) = some false)
    (ki_NoPalette_NoCube : PySem.W.kitOne K (.ref x_NoPalette) (.ref x_NoCube) = some false)
    (ki_NoPalette_NoCubes : PySem.W.kitOne K (.ref x_NoPalette) (.ref x_NoCubes) = some false)
    (ki_NoPalette_NoFit : PySem.W.kitOne K (.ref x_NoPalette) (.ref x_NoFit) = some false)
    (ki_NoPalette_NoName : PySem.W.kitOne K (.ref x_NoPalette) (.ref x_NoName) = some false)
    (ki_NoPalette_NoNumber : PySem.W.kitOne K (.ref x_NoPalette) (.ref x_NoNumber) = some false)
    (ki_NoPalette_NoPaints : PySem.W.kitOne K (.ref x_NoPalette) (.ref x_NoPaints) = some false)
    (ki_NoPalette_NoPalette : PySem.W.kitOne K (.ref x_NoPalette) (.ref x_NoPalette) = some true)
    (ki_NoPalette_NoPaper : PySem.W.kitOne K (.ref x_NoPalette) (.ref x_NoPaper) = some false)
    (ki_NoPalette_NoPlace : PySem.W.kitOne K (.ref x_NoPalette) (.ref x_NoPlace) = some false)
    (ki_NoPalette_NoRow : PySem.W.kitOne K (.ref x_NoPalette) (.ref x_NoRow) = some false)
    (ki_NoPalette_NoSix : PySem.W.kitOne K (.ref x_NoPalette) (.ref x_NoSix) = some false)
    (ki_NoPalette_NoStock : PySem.W.kitOne K (.ref x_NoPalette) (.ref x_NoStock) = some false)
    (ki_NoPalette_NoText : PySem.W.kitOne K (.ref x_NoPalette) (.ref x_NoText) = some false)
    (ki_NoPalette_NoTurn : PySem.W.kitOne K (.ref x_NoPalette) (.ref x_NoTurn) = some false)
    (ki_NoPalette_NoWord : PySem.W.kitOne K (.ref x_NoPalette) (.ref x_NoWord) = some false)
    (ki_NoPalette_TooMany : PySem.W.kitOne K (.ref x_NoPalette) (.ref x_TooMany) = some false)
    (ki_NoPalette_ValueError : PySem.W.kitOne K (.ref x_NoPalette) (.type "ValueError") = some true)
    (ke_NoPalette_CubeError : PySem.W.exmOne K (.ref x_NoPalette) (.ref x_CubeError) = some true) :
    ∃ fd : FuncData, (∀ (s : Shared) (v : Value), BindsTo s fd ⟨[v], []⟩ [("_law_script", v)]) ∧ ∀ base : Heap, K.In base → base.Ns mainGlobals mg → FnG l.prog w K mg base 5 fa fd ["_law_script"] (spZ (Ck K) z_law 1) := by
  have e := hfa.symm.trans (PySem.W.mg_of X G a_law)
  cases e
  have F__law_draws := fun_mk (st := s__law_draws) l__law_draws c__law_draws k__law_draws
  have B__law_draws := bindP_of (ps := ["_law_script", "_law_j", "_law_many"]) F__law_draws fun _ _ _ _ _ _ us hl => match us, hl with | [_, _, _], _ => rfl
  have F__law_turns := fun_mk (st := s__law_turns) l__law_turns c__law_turns k__law_turns
  have B__law_turns := bindP_of (ps := []) F__law_turns fun _ _ _ _ _ _ us hl => match us, hl with | [], _ => rfl
  have F__law_turned := fun_mk (st := s__law_turned) l__law_turned c__law_turned k__law_turned
  have B__law_turned := bindP_of (ps := ["_law_sides", "_law_turn"]) F__law_turned fun _ _ _ _ _ _ us hl => match us, hl with | [_, _], _ => rfl
  have F__law_due := fun_mk (st := s__law_due) l__law_due c__law_due k__law_due
  have B__law_due := bindP_of (ps := ["_law_many"]) F__law_due fun _ _ _ _ _ _ us hl => match us, hl with | [_], _ => rfl
  have F_must_be_listed := fun_mk (st := s_must_be_listed) l_must_be_listed c_must_be_listed k_must_be_listed
  have B_must_be_listed := bindP_of (ps := ["palette"]) F_must_be_listed fun _ _ _ _ _ _ us hl => match us, hl with | [_], _ => rfl
  have F_all_turns := fun_mk (st := s_all_turns) l_all_turns c_all_turns k_all_turns
  have B_all_turns := bindP_of (ps := []) F_all_turns fun _ _ _ _ _ _ us hl => match us, hl with | [], _ => rfl
  have F_all_of := fun_mk (st := s_all_of) l_all_of c_all_of k_all_of
  have B_all_of := bindP_of (ps := ["palette", "many"]) F_all_of fun _ _ _ _ _ _ us hl => match us, hl with | [_, _], _ => rfl
  have F_turned_by := fun_mk (st := s_turned_by) l_turned_by c_turned_by k_turned_by
  have B_turned_by := bindP_of (ps := ["paints", "turn"]) F_turned_by fun _ _ _ _ _ _ us hl => match us, hl with | [_, _], _ => rfl
  have F_listed := fun_mk (st := s_listed) l_listed c_listed k_listed
  have B_listed := bindP_of (ps := ["palette"]) F_listed fun _ _ _ _ _ _ us hl => match us, hl with | [_], _ => rfl
  have F_all_cubes := funE_mk (st := s_all_cubes) (dd := [(.int 2)]) l_all_cubes c_all_cubes k_all_cubes t_all_cubes
  have F__law_names_of := fun_mk (st := s__law_names_of) l__law_names_of c__law_names_of k__law_names_of
  have B__law_names_of := bindP_of (ps := ["_law_e"]) F__law_names_of fun _ _ _ _ _ _ us hl => match us, hl with | [_], _ => rfl
  have F__law_refused := fun_mk (st := s__law_refused) l__law_refused c__law_refused k__law_refused
  have B__law_refused := bindP_of (ps := ["_law_number"]) F__law_refused fun _ _ _ _ _ _ us hl => match us, hl with | [_], _ => rfl
  have F__law_whole := fun_mk (st := s__law_whole) l__law_whole c__law_whole k__law_whole
  have B__law_whole := bindP_of (ps := ["_law_found"]) F__law_whole fun _ _ _ _ _ _ us hl => match us, hl with | [_], _ => rfl
  have F_law := fun_mk (st := s_law) l_law c_law k_law
  have B_law := bindP_of (ps := ["_law_script"]) F_law fun _ _ _ _ _ _ us hl => match us, hl with | [_], _ => rfl
  have Z_all_cubes_0_ := bindE_of (ps := ["palette"]) (ks := []) (n := 0) (sel := [0]) F_all_cubes fun _ _ _ _ _ _ _ us ws its h1 h2 h3 => match us, h1, ws, h2, its, h3 with | [], _, [], _, [_], _ => ⟨_, rfl, rfl⟩
  have Z_all_cubes_0_palette := bindE_of (ps := ["palette"]) (ks := ["palette"]) (n := 0) (sel := [0]) F_all_cubes fun _ _ _ _ _ _ _ us ws its h1 h2 h3 => match us, h1, ws, h2, its, h3 with | [], _, [_], _, [_], _ => ⟨_, rfl, rfl⟩
  have Z_all_cubes_1_ := bindE_of (ps := ["palette"]) (ks := []) (n := 1) (sel := [0]) F_all_cubes fun _ _ _ _ _ _ _ us ws its h1 h2 h3 => match us, h1, ws, h2, its, h3 with | [_], _, [], _, [_], _ => ⟨_, rfl, rfl⟩
  have T : Fx K mg := ⟨f__law_draws, _, F__law_draws, PySem.W.mg_of X G a__law_draws, B__law_draws, f__law_turns, _, F__law_turns, PySem.W.mg_of X G a__law_turns, B__law_turns, f__law_turned, _, F__law_turned, PySem.W.mg_of X G a__law_turned, B__law_turned, f__law_due, _, F__law_due, PySem.W.mg_of X G a__law_due, B__law_due, f_must_be_listed, _, F_must_be_listed, PySem.W.mg_of X G a_must_be_listed, B_must_be_listed, f_all_turns, _, F_all_turns, PySem.W.mg_of X G a_all_turns, B_all_turns, f_all_of, _, F_all_of, PySem.W.mg_of X G a_all_of, B_all_of, f_turned_by, _, F_turned_by, PySem.W.mg_of X G a_turned_by, B_turned_by, f_listed, _, F_listed, PySem.W.mg_of X G a_listed, B_listed, f_all_cubes, _, F_all_cubes, PySem.W.mg_of X G a_all_cubes, f__law_names_of, _, F__law_names_of, PySem.W.mg_of X G a__law_names_of, B__law_names_of, f__law_refused, _, F__law_refused, PySem.W.mg_of X G a__law_refused, B__law_refused, f__law_whole, _, F__law_whole, PySem.W.mg_of X G a__law_whole, B__law_whole, f_law, _, F_law, PySem.W.mg_of X G a_law, B_law, PySem.W.mg_none_of X G b_ValueError, PySem.W.mg_none_of X G b_any, PySem.W.mg_none_of X G b_bool, PySem.W.mg_none_of X G b_int, PySem.W.mg_none_of X G b_isinstance, PySem.W.mg_none_of X G b_len, PySem.W.mg_none_of X G b_list, PySem.W.mg_none_of X G b_min, PySem.W.mg_none_of X G b_range, PySem.W.mg_none_of X G b_sorted, PySem.W.mg_none_of X G b_tuple, PySem.W.mg_none_of X G b_zip, u_MOST_LISTED, PySem.W.mg_of X G m_MOST_LISTED, h_MOST_LISTED, u_TURNS, PySem.W.mg_of X G m_TURNS, h_TURNS, Z_all_cubes_0_, Z_all_cubes_0_palette, Z_all_cubes_1_, xr_mk X G ax_NoPalette xp_NoPalette kp_NoPalette sb_NoPalette ty_NoPalette, (by rw [adr_eq ax_CubeError]; exact PySem.W.mg_of X G ax_CubeError), (by rw [adr_eq ax_NoBack]; exact PySem.W.mg_of X G ax_NoBack), (by rw [adr_eq ax_NoBase]; exact PySem.W.mg_of X G ax_NoBase), (by rw [adr_eq ax_NoChange]; exact PySem.W.mg_of X G ax_NoChange), (by rw [adr_eq ax_NoCounts]; exact PySem.W.mg_of X G ax_NoCounts), (by rw [adr_eq ax_NoCube]; exact PySem.W.mg_of X G ax_NoCube), (by rw [adr_eq ax_NoCubes]; exact PySem.W.mg_of X G ax_NoCubes), (by rw [adr_eq ax_NoFit]; exact PySem.W.mg_of X G ax_NoFit), (by rw [adr_eq ax_NoName]; exact PySem.W.mg_of X G ax_NoName), (by rw [adr_eq ax_NoNumber]; exact PySem.W.mg_of X G ax_NoNumber), (by rw [adr_eq ax_NoPaints]; exact PySem.W.mg_of X G ax_NoPaints), (by rw [adr_eq ax_NoPalette]; exact PySem.W.mg_of X G ax_NoPalette), (by rw [adr_eq ax_NoPaper]; exact PySem.W.mg_of X G ax_NoPaper), (by rw [adr_eq ax_NoPlace]; exact PySem.W.mg_of X G ax_NoPlace), (by rw [adr_eq ax_NoRow]; exact PySem.W.mg_of X G ax_NoRow), (by rw [adr_eq ax_NoSix]; exact PySem.W.mg_of X G ax_NoSix), (by rw [adr_eq ax_NoStock]; exact PySem.W.mg_of X G ax_NoStock), (by rw [adr_eq ax_NoText]; exact PySem.W.mg_of X G ax_NoText), (by rw [adr_eq ax_NoTurn]; exact PySem.W.mg_of X G ax_NoTurn), (by rw [adr_eq ax_NoWord]; exact PySem.W.mg_of X G ax_NoWord), (by rw [adr_eq ax_TooMany]; exact PySem.W.mg_of X G ax_TooMany), cx_cons ax_NoPalette (⟨⟨ga_NoPalette, gt_NoPalette, sb_NoPalette, hd_NoPalette, hc_NoPalette, xn_, xt_, hm_NoPalette⟩, (by rw [adr_eq ax_NoBack]; exact ki_NoPalette_NoBack)⟩) (cx_nil), cx_cons ax_NoPalette (⟨⟨ga_NoPalette, gt_NoPalette, sb_NoPalette, hd_NoPalette, hc_NoPalette, xn_, xt_, hm_NoPalette⟩, (by rw [adr_eq ax_NoBase]; exact ki_NoPalette_NoBase)⟩) (cx_nil), cx_cons ax_NoPalette (⟨⟨ga_NoPalette, gt_NoPalette, sb_NoPalette, hd_NoPalette, hc_NoPalette, xn_, xt_, hm_NoPalette⟩, (by rw [adr_eq ax_NoChange]; exact ki_NoPalette_NoChange)⟩) (cx_nil), cx_cons ax_NoPalette (⟨⟨ga_NoPalette, gt_NoPalette, sb_NoPalette, hd_NoPalette, hc_NoPalette, xn_, xt_, hm_NoPalette⟩, (by rw [adr_eq ax_NoCounts]; exact ki_NoPalette_NoCounts)⟩) (cx_nil), cx_cons ax_NoPalette (⟨⟨ga_NoPalette, gt_NoPalette, sb_NoPalette, hd_NoPalette, hc_NoPalette, xn_, xt_, hm_NoPalette⟩, (by rw [adr_eq ax_NoCube]; exact ki_NoPalette_NoCube)⟩) (cx_nil), cx_cons ax_NoPalette (⟨⟨ga_NoPalette, gt_NoPalette, sb_NoPalette, hd_NoPalette, hc_NoPalette, xn_, xt_, hm_NoPalette⟩, (by rw [adr_eq ax_NoCubes]; exact ki_NoPalette_NoCubes)⟩) (cx_nil), cx_cons ax_NoPalette (⟨⟨ga_NoPalette, gt_NoPalette, sb_NoPalette, hd_NoPalette, hc_NoPalette, xn_, xt_, hm_NoPalette⟩, (by rw [adr_eq ax_NoFit]; exact ki_NoPalette_NoFit)⟩) (cx_nil), cx_cons ax_NoPalette (⟨⟨ga_NoPalette, gt_NoPalette, sb_NoPalette, hd_NoPalette, hc_NoPalette, xn_, xt_, hm_NoPalette⟩, (by rw [adr_eq ax_NoName]; exact ki_NoPalette_NoName)⟩) (cx_nil), cx_cons ax_NoPalette (⟨⟨ga_NoPalette, gt_NoPalette, sb_NoPalette, hd_NoPalette, hc_NoPalette, xn_, xt_, hm_NoPalette⟩, (by rw [adr_eq ax_NoNumber]; exact ki_NoPalette_NoNumber)⟩) (cx_nil), cx_cons ax_NoPalette (⟨⟨ga_NoPalette, gt_NoPalette, sb_NoPalette, hd_NoPalette, hc_NoPalette, xn_, xt_, hm_NoPalette⟩, (by rw [adr_eq ax_NoPaints]; exact ki_NoPalette_NoPaints)⟩) (cx_nil), cx_cons ax_NoPalette (⟨⟨ga_NoPalette, gt_NoPalette, sb_NoPalette, hd_NoPalette, hc_NoPalette, xn_, xt_, hm_NoPalette⟩, (by rw [adr_eq ax_NoPalette]; exact ki_NoPalette_NoPalette)⟩) (cx_nil), cx_cons ax_NoPalette (⟨⟨ga_NoPalette, gt_NoPalette, sb_NoPalette, hd_NoPalette, hc_NoPalette, xn_, xt_, hm_NoPalette⟩, (by rw [adr_eq ax_NoPaper]; exact ki_NoPalette_NoPaper)⟩) (cx_nil), cx_cons ax_NoPalette (⟨⟨ga_NoPalette, gt_NoPalette, sb_NoPalette, hd_NoPalette, hc_NoPalette, xn_, xt_, hm_NoPalette⟩, (by rw [adr_eq ax_NoPlace]; exact ki_NoPalette_NoPlace)⟩) (cx_nil), cx_cons ax_NoPalette (⟨⟨ga_NoPalette, gt_NoPalette, sb_NoPalette, hd_NoPalette, hc_NoPalette, xn_, xt_, hm_NoPalette⟩, (by rw [adr_eq ax_NoRow]; exact ki_NoPalette_NoRow)⟩) (cx_nil), cx_cons ax_NoPalette (⟨⟨ga_NoPalette, gt_NoPalette, sb_NoPalette, hd_NoPalette, hc_NoPalette, xn_, xt_, hm_NoPalette⟩, (by rw [adr_eq ax_NoSix]; exact ki_NoPalette_NoSix)⟩) (cx_nil), cx_cons ax_NoPalette (⟨⟨ga_NoPalette, gt_NoPalette, sb_NoPalette, hd_NoPalette, hc_NoPalette, xn_, xt_, hm_NoPalette⟩, (by rw [adr_eq ax_NoStock]; exact ki_NoPalette_NoStock)⟩) (cx_nil), cx_cons ax_NoPalette (⟨⟨ga_NoPalette, gt_NoPalette, sb_NoPalette, hd_NoPalette, hc_NoPalette, xn_, xt_, hm_NoPalette⟩, (by rw [adr_eq ax_NoText]; exact ki_NoPalette_NoText)⟩) (cx_nil), cx_cons ax_NoPalette (⟨⟨ga_NoPalette, gt_NoPalette, sb_NoPalette, hd_NoPalette, hc_NoPalette, xn_, xt_, hm_NoPalette⟩, (by rw [adr_eq ax_NoTurn]; exact ki_NoPalette_NoTurn)⟩) (cx_nil), cx_cons ax_NoPalette (⟨⟨ga_NoPalette, gt_NoPalette, sb_NoPalette, hd_NoPalette, hc_NoPalette, xn_, xt_, hm_NoPalette⟩, (by rw [adr_eq ax_NoWord]; exact ki_NoPalette_NoWord)⟩) (cx_nil), cx_cons ax_NoPalette (⟨⟨ga_NoPalette, gt_NoPalette, sb_NoPalette, hd_NoPalette, hc_NoPalette, xn_, xt_, hm_NoPalette⟩, (by rw [adr_eq ax_TooMany]; exact ki_NoPalette_TooMany)⟩) (cx_nil), cx_cons ax_NoPalette (⟨⟨ga_NoPalette, gt_NoPalette, sb_NoPalette, hd_NoPalette, hc_NoPalette, xn_, xt_, hm_NoPalette⟩, ki_NoPalette_ValueError⟩) (cx_nil), cx_cons ax_NoPalette ((by rw [adr_eq ax_CubeError]; exact ke_NoPalette_CubeError)) (cx_nil)⟩
  exact ⟨_, fun s v => .of_eq rfl, fun base _ _ => ok_law (P := l.prog) (w := w) (base := base) ⟨f__law_draws, _, F__law_draws, PySem.W.mg_of X G a__law_draws, B__law_draws, f__law_turns, _, F__law_turns, PySem.W.mg_of X G a__law_turns, B__law_turns, f__law_turned, _, F__law_turned, PySem.W.mg_of X G a__law_turned, B__law_turned, f__law_due, _, F__law_due, PySem.W.mg_of X G a__law_due, B__law_due, f_must_be_listed, _, F_must_be_listed, PySem.W.mg_of X G a_must_be_listed, B_must_be_listed, f_all_turns, _, F_all_turns, PySem.W.mg_of X G a_all_turns, B_all_turns, f_all_of, _, F_all_of, PySem.W.mg_of X G a_all_of, B_all_of, f_turned_by, _, F_turned_by, PySem.W.mg_of X G a_turned_by, B_turned_by, f_listed, _, F_listed, PySem.W.mg_of X G a_listed, B_listed, f_all_cubes, _, F_all_cubes, PySem.W.mg_of X G a_all_cubes, f__law_names_of, _, F__law_names_of, PySem.W.mg_of X G a__law_names_of, B__law_names_of, f__law_refused, _, F__law_refused, PySem.W.mg_of X G a__law_refused, B__law_refused, f__law_whole, _, F__law_whole, PySem.W.mg_of X G a__law_whole, B__law_whole, f_law, _, F_law, PySem.W.mg_of X G a_law, B_law, PySem.W.mg_none_of X G b_ValueError, PySem.W.mg_none_of X G b_any, PySem.W.mg_none_of X G b_bool, PySem.W.mg_none_of X G b_int, PySem.W.mg_none_of X G b_isinstance, PySem.W.mg_none_of X G b_len, PySem.W.mg_none_of X G b_list, PySem.W.mg_none_of X G b_min, PySem.W.mg_none_of X G b_range, PySem.W.mg_none_of X G b_sorted, PySem.W.mg_none_of X G b_tuple, PySem.W.mg_none_of X G b_zip, u_MOST_LISTED, PySem.W.mg_of X G m_MOST_LISTED, h_MOST_LISTED, u_TURNS, PySem.W.mg_of X G m_TURNS, h_TURNS, Z_all_cubes_0_, Z_all_cubes_0_palette, Z_all_cubes_1_, xr_mk X G ax_NoPalette xp_NoPalette kp_NoPalette sb_NoPalette ty_NoPalette, (by rw [adr_eq ax_CubeError]; exact PySem.W.mg_of X G ax_CubeError), (by rw [adr_eq ax_NoBack]; exact PySem.W.mg_of X G ax_NoBack), (by rw [adr_eq ax_NoBase]; exact PySem.W.mg_of X G ax_NoBase), (by rw [adr_eq ax_NoChange]; exact PySem.W.mg_of X G ax_NoChange), (by rw [adr_eq ax_NoCounts]; exact PySem.W.mg_of X G ax_NoCounts), (by rw [adr_eq ax_NoCube]; exact PySem.W.mg_of X G ax_NoCube), (by rw [adr_eq ax_NoCubes]; exact PySem.W.mg_of X G ax_NoCubes), (by rw [adr_eq ax_NoFit]; exact PySem.W.mg_of X G ax_NoFit), (by rw [adr_eq ax_NoName]; exact PySem.W.mg_of X G ax_NoName), (by rw [adr_eq ax_NoNumber]; exact PySem.W.mg_of X G ax_NoNumber), (by rw [adr_eq ax_NoPaints]; exact PySem.W.mg_of X G ax_NoPaints), (by rw [adr_eq ax_NoPalette]; exact PySem.W.mg_of X G ax_NoPalette), (by rw [adr_eq ax_NoPaper]; exact PySem.W.mg_of X G ax_NoPaper), (by rw [adr_eq ax_NoPlace]; exact PySem.W.mg_of X G ax_NoPlace), (by rw [adr_eq ax_NoRow]; exact PySem.W.mg_of X G ax_NoRow), (by rw [adr_eq ax_NoSix]; exact PySem.W.mg_of X G ax_NoSix), (by rw [adr_eq ax_NoStock]; exact PySem.W.mg_of X G ax_NoStock), (by rw [adr_eq ax_NoText]; exact PySem.W.mg_of X G ax_NoText), (by rw [adr_eq ax_NoTurn]; exact PySem.W.mg_of X G ax_NoTurn), (by rw [adr_eq ax_NoWord]; exact PySem.W.mg_of X G ax_NoWord), (by rw [adr_eq ax_TooMany]; exact PySem.W.mg_of X G ax_TooMany), cx_cons ax_NoPalette (⟨⟨ga_NoPalette, gt_NoPalette, sb_NoPalette, hd_NoPalette, hc_NoPalette, xn_, xt_, hm_NoPalette⟩, (by rw [adr_eq ax_NoBack]; exact ki_NoPalette_NoBack)⟩) (cx_nil), cx_cons ax_NoPalette (⟨⟨ga_NoPalette, gt_NoPalette, sb_NoPalette, hd_NoPalette, hc_NoPalette, xn_, xt_, hm_NoPalette⟩, (by rw [adr_eq ax_NoBase]; exact ki_NoPalette_NoBase)⟩) (cx_nil), cx_cons ax_NoPalette (⟨⟨ga_NoPalette, gt_NoPalette, sb_NoPalette, hd_NoPalette, hc_NoPalette, xn_, xt_, hm_NoPalette⟩, (by rw [adr_eq ax_NoChange]; exact ki_NoPalette_NoChange)⟩) (cx_nil), cx_cons ax_NoPalette (⟨⟨ga_NoPalette, gt_NoPalette, sb_NoPalette, hd_NoPalette, hc_NoPalette, xn_, xt_, hm_NoPalette⟩, (by rw [adr_eq ax_NoCounts]; exact ki_NoPalette_NoCounts)⟩) (cx_nil), cx_cons ax_NoPalette (⟨⟨ga_NoPalette, gt_NoPalette, sb_NoPalette, hd_NoPalette, hc_NoPalette, xn_, xt_, hm_NoPalette⟩, (by rw [adr_eq ax_NoCube]; exact ki_NoPalette_NoCube)⟩) (cx_nil), cx_cons ax_NoPalette (⟨⟨ga_NoPalette, gt_NoPalette, sb_NoPalette, hd_NoPalette, hc_NoPalette, xn_, xt_, hm_NoPalette⟩, (by rw [adr_eq ax_NoCubes]; exact ki_NoPalette_NoCubes)⟩) (cx_nil), cx_cons ax_NoPalette (⟨⟨ga_NoPalette, gt_NoPalette, sb_NoPalette, hd_NoPalette, hc_NoPalette, xn_, xt_, hm_NoPalette⟩, (by rw [adr_eq ax_NoFit]; exact ki_NoPalette_NoFit)⟩) (cx_nil), cx_cons ax_NoPalette (⟨⟨ga_NoPalette, gt_NoPalette, sb_NoPalette, hd_NoPalette, hc_NoPalette, xn_, xt_, hm_NoPalette⟩, (by rw [adr_eq ax_NoName]; exact ki_NoPalette_NoName)⟩) (cx_nil), cx_cons ax_NoPalette (⟨⟨ga_NoPalette, gt_NoPalette, sb_NoPalette, hd_NoPalette, hc_NoPalette, xn_, xt_, hm_NoPalette⟩, (by rw [adr_eq ax_NoNumber]; exact ki_NoPalette_NoNumber)⟩) (cx_nil), cx_cons ax_NoPalette (⟨⟨ga_NoPalette, gt_NoPalette, sb_NoPalette, hd_NoPalette, hc_NoPalette, xn_, xt_, hm_NoPalette⟩, (by rw [adr_eq ax_NoPaints]; exact ki_NoPalette_NoPaints)⟩) (cx_nil), cx_cons ax_NoPalette (⟨⟨ga_NoPalette, gt_NoPalette, sb_NoPalette, hd_NoPalette, hc_NoPalette, xn_, xt_, hm_NoPalette⟩, (by rw [adr_eq ax_NoPalette]; exact ki_NoPalette_NoPalette)⟩) (cx_nil), cx_cons ax_NoPalette (⟨⟨ga_NoPalette, gt_NoPalette, sb_NoPalette, hd_NoPalette, hc_NoPalette, xn_, xt_, hm_NoPalette⟩, (by rw [adr_eq ax_NoPaper]; exact ki_NoPalette_NoPaper)⟩) (cx_nil), cx_cons ax_NoPalette (⟨⟨ga_NoPalette, gt_NoPalette, sb_NoPalette, hd_NoPalette, hc_NoPalette, xn_, xt_, hm_NoPalette⟩, (by rw [adr_eq ax_NoPlace]; exact ki_NoPalette_NoPlace)⟩) (cx_nil), cx_cons ax_NoPalette (⟨⟨ga_NoPalette, gt_NoPalette, sb_NoPalette, hd_NoPalette, hc_NoPalette, xn_, xt_, hm_NoPalette⟩, (by rw [adr_eq ax_NoRow]; exact ki_NoPalette_NoRow)⟩) (cx_nil), cx_cons ax_NoPalette (⟨⟨ga_NoPalette, gt_NoPalette, sb_NoPalette, hd_NoPalette, hc_NoPalette, xn_, xt_, hm_NoPalette⟩, (by rw [adr_eq ax_NoSix]; exact ki_NoPalette_NoSix)⟩) (cx_nil), cx_cons ax_NoPalette (⟨⟨ga_NoPalette, gt_NoPalette, sb_NoPalette, hd_NoPalette, hc_NoPalette, xn_, xt_, hm_NoPalette⟩, (by rw [adr_eq ax_NoStock]; exact ki_NoPalette_NoStock)⟩) (cx_nil), cx_cons ax_NoPalette (⟨⟨ga_NoPalette, gt_NoPalette, sb_NoPalette, hd_NoPalette, hc_NoPalette, xn_, xt_, hm_NoPalette⟩, (by rw [adr_eq ax_NoText]; exact ki_NoPalette_NoText)⟩) (cx_nil), cx_cons ax_NoPalette (⟨⟨ga_NoPalette, gt_NoPalette, sb_NoPalette, hd_NoPalette, hc_NoPalette, xn_, xt_, hm_NoPalette⟩, (by rw [adr_eq ax_NoTurn]; exact ki_NoPalette_NoTurn)⟩) (cx_nil), cx_cons ax_NoPalette (⟨⟨ga_NoPalette, gt_NoPalette, sb_NoPalette, hd_NoPalette, hc_NoPalette, xn_, xt_, hm_NoPalette⟩, (by rw [adr_eq ax_NoWord]; exact ki_NoPalette_NoWord)⟩) (cx_nil), cx_cons ax_NoPalette (⟨⟨ga_NoPalette, gt_NoPalette, sb_NoPalette, hd_NoPalette, hc_NoPalette, xn_, xt_, hm_NoPalette⟩, (by rw [adr_eq ax_TooMany]; exact ki_NoPalette_TooMany)⟩) (cx_nil), cx_cons ax_NoPalette (⟨⟨ga_NoPalette, gt_NoPalette, sb_NoPalette, hd_NoPalette, hc_NoPalette, xn_, xt_, hm_NoPalette⟩, ki_NoPalette_ValueError⟩) (cx_nil), cx_cons ax_NoPalette ((by rw [adr_eq ax_CubeError]; exact ke_NoPalette_CubeError)) (cx_nil)⟩⟩
end
end K43

namespace K43
open PySem L2 Z
theorem draws_eq : z__law_draws = zDraws := rfl
theorem whole_eq : z__law_whole = zNum := rfl
theorem by_eq : z_turned_by = zTurnedBy := rfl
theorem bind_exc {α β : Type} (x : Xc) (s : S) (k : α → S → R β) : (R.exc x s : R α).bind k = .exc x s := rfl
theorem toS_exc {α : Type} (x : Xc) (s : S) (ρ : Rho) (k : α → S → RS) : (R.exc x s : R α).toS ρ k = .exc x ρ s := rfl
/-- one paint more -/
def nxt (n : Nat) (v : List Int) : List (List Int) := (List.range n).map fun p => v ++ [Int.ofNat p]
def stg (n : Nat) : Nat → List (List Int)
  | 0 => [[]]
  | m + 1 => ((stg n m).map (nxt n)).flatten
theorem nxt_len (n : Nat) (v : List Int) : (nxt n v).length = n := by
  unfold nxt
  rw [List.length_map, List.length_range]
theorem flat_len (n : Nat) : ∀ l : List (List Int), ((l.map (nxt n)).flatten).length = l.length * n
  | [] => by simp
  | v :: l => by
    rw [List.map_cons, List.flatten_cons, List.length_append, nxt_len, flat_len n l, List.length_cons, Nat.add_mul, Nat.one_mul, Nat.add_comm]
theorem stg_len (n : Nat) : ∀ m, (stg n m).length = n ^ m
  | 0 => rfl
  | m + 1 => by
    rw [stg, flat_len, stg_len n m, Nat.pow_succ]
theorem stg_row (n : Nat) : ∀ m, ∀ v ∈ stg n m, v.length = m ∧ ∀ x ∈ v, 0 ≤ x
  | 0, v, h => by
    rw [stg, List.mem_singleton] at h
    subst h
    exact ⟨rfl, fun x hx => by cases hx⟩
  | m + 1, v, h => by
    rw [stg] at h
    obtain ⟨l, hl, hv⟩ := List.mem_flatten.mp h
    obtain ⟨u, hu, rfl⟩ := List.mem_map.mp hl
    obtain ⟨h1, h2⟩ := stg_row n m u hu
    unfold nxt at hv
    obtain ⟨p, _, rfl⟩ := List.mem_map.mp hv
    refine ⟨by simp [h1], fun x hx => ?_⟩
    rcases List.mem_append.mp hx with hx | hx
    · exact h2 x hx
    · rw [List.mem_singleton.mp hx]
      exact Int.natCast_nonneg p
theorem rng_map (n : Nat) (v : List Int) : (rngD 0 n).map (fun d => match d with | .int i => tupD (v ++ [i]) | d => d) = (nxt n v).map tupD := by
  unfold rngD nxt
  rw [List.map_map, List.map_map]
  refine List.map_congr_left fun p _ => ?_
  show tupD (v ++ [0 + (p : Int)]) = tupD (v ++ [Int.ofNat p])
  rw [Int.zero_add]
  rfl
/-- slots that no freezing changes -/
def NL (x : Sl) : Prop := ∀ n l, frzS n l x = x
theorem nl_v (d : D) : NL (.v d) := fun _ _ => rfl
theorem nl_un : NL .un := fun _ _ => rfl
def eB : Stm := sEx (onL 4 (eML 4 mExtend (aCons (eF (fComp (.nm 6) (itR1 (aCons (eVar 0) (aNil))) (bYes) (eBin dAdd (eVar 5) (eTup (aCons (eVar 6) (aNil)))) [6])) (aNil))))
theorem eB_ok {n : Nat} (hn : n ≤ 10) {a1 a2 a3 : Sl} {k : Nat} {dd : List LO} (hk : dd.length = k) {v : List Int} (hv : v.length ≤ 10) {acc : List D} (ha : acc.length ≤ 100000) (g : List GO) :
    eB [.v (.int n), a1, a2, a3, .l k, .v (tupD v), .un] ⟨dd ++ [.lst acc], g⟩ = .nx [.v (.int n), a1, a2, a3, .l k, .v (tupD v), .un] ⟨dd ++ [.lst (acc ++ (nxt n v).map tupD)], g⟩ := by
  have m1 : ((n : Nat) : Int) ≤ 100000000 := by omega
  have m2 : (-100000000 : Int) ≤ (n : Nat) := by omega
  have rl : (rngD 0 n).length = n := by
    unfold rngD
    simp
  have z1 := sz_of (m := n) (n := 0) (by omega)
  have hat : (dd ++ [LO.lst acc])[k]? = some (.lst acc) := by
    rw [List.getElem?_append_right (by omega), hk, Nat.sub_self]
    rfl
  have hset : (dd ++ [LO.lst acc]).set k (.lst (acc ++ (nxt n v).map tupD)) = dd ++ [.lst (acc ++ (nxt n v).map tupD)] := by
    rw [List.set_append_right _ _ (by omega), hk, Nat.sub_self]
    rfl
  have z2 := sz_of (m := acc.length) (n := 1) (by omega)
  have z3 := sz_of (m := acc.length) (n := (nxt n v).length) (by rw [nxt_len]; omega)
  have zv := sz_of (m := v.length) (n := 1) (by omega)
  have hc : compGo (.nm 6) bYes (eBin dAdd (eVar 5) (eTup (aCons (eVar 6) (aNil)))) [.v (.int n), a1, a2, a3, .l k, .v (tupD v), .un] (rngD 0 n) ⟨dd ++ [.lst acc], g⟩ = .ok ((rngD 0 n).map (fun d => match d with | .int i => tupD (v ++ [i]) | d => d)) ⟨dd ++ [.lst acc], g⟩ := by
    refine compGo_map _ fun d hd => ?_
    unfold rngD at hd
    obtain ⟨p, _, rfl⟩ := List.mem_map.mp hd
    refine ⟨[.v (.int n), a1, a2, a3, .l k, .v (tupD v), .v (.int (0 + (p : Nat)))], rfl, rfl, ?_⟩
    have e : tupD v = .tup (v.map D.int) := rfl
    rw [e]
    simp only [fnz, sNil, sSeq, sPass, sBrk, sCnt, sEx, sIf, sSet, sRet, sRetN, sAsgP, sAsg, sPar, sAug, sSetL, sFor, view, viewS, eVar, slot, eC, eBin, eUn, eIf, eAnd, eOr, eNot, isBl, eTup, eLst, aNil, aCons, sz1, eSl, oNo, oPart, eCB, eCall, eCallK, callF, pick, eIsi, fIsi, tyD, isiB, eF, eG, lF, fDisp, fCB, bT, bC, bNot, bAnd, bOr, tru, pTp, itemsG, psCons, psNil, pNm, pIxG, pIxL, atG, dAdd, dSub, dMul, dDiv, dMod, dNeg, dIx, ge_i, le_i, gt_i, dIAdd, fLen, fAbs, fMax2, fMin2, fInt, fBool, mulOk_a, mulOk_b, mulOk_c, mulOk_d, Int.reduceLT, Int.reduceLE, Nat.zero_le, Nat.reduceLeDiff, onL, isL, atL, eEqL_at, eWL, wL, hEq, hIn, hIx, eIxL_at, eInL_at, eLenL, eML, eMGo, nowG, mAppend, mPop, eLst, see, dEq, dNe, seqL, fListF, fSl, itR1, itR2, itA, sWh_at, List.getElem?_cons_zero, List.getElem?_cons_succ, List.getElem?_nil, Int.toNat_natCast, pow18, pow9, pow60, pow60_20, List.map_cons, List.map_nil, List.length_cons, List.length_nil, List.length_map, List.cons_append, List.nil_append, List.append_nil, List.replicate_succ, List.replicate_zero, List.set_cons_zero, List.set_cons_succ, List.set_nil, Nat.reduceAdd, Nat.reduceSub, Nat.zero_add, Nat.beq, Nat.sub_self, bind_ok, toS_ok, sure_ok, gd_t, nx_bind, ret_bind, brk_bind, cnt_bind, exc_bind, excF_bind, loop_nx, loop_ret, loop_brk, loop_cnt, String.reduceBEq, beq_self_eq_true, Bool.or_false, Bool.or_true, Bool.false_or, Bool.true_or, Bool.false_and, Bool.and_false, decide_true, decide_false, Bool.and_true, Bool.true_and, Bool.and_self, Bool.not_true, Bool.not_false, zv, (rfl : decide (1 ≤ 16777216) = true)]
    show R.ok (D.tup (v.map D.int ++ [D.int (0 + ((p : Nat) : Int))])) _ = R.ok (D.tup ((v ++ [0 + ((p : Nat) : Int)]).map D.int)) _
    rw [List.map_append]
    rfl
  rw [rng_map] at hc
  simp only [fnz, sNil, sSeq, sPass, sBrk, sCnt, sEx, sIf, sSet, sRet, sRetN, sAsgP, sAsg, sPar, sAug, sSetL, sFor, view, viewS, eVar, slot, eC, eBin, eUn, eIf, eAnd, eOr, eNot, isBl, eTup, eLst, aNil, aCons, sz1, eSl, oNo, oPart, eCB, eCall, eCallK, callF, pick, eIsi, fIsi, tyD, isiB, eF, eG, lF, fDisp, fCB, bT, bC, bNot, bAnd, bOr, tru, pTp, itemsG, psCons, psNil, pNm, pIxG, pIxL, atG, dAdd, dSub, dMul, dDiv, dMod, dNeg, dIx, ge_i, le_i, gt_i, dIAdd, fLen, fAbs, fMax2, fMin2, fInt, fBool, mulOk_a, mulOk_b, mulOk_c, mulOk_d, Int.reduceLT, Int.reduceLE, Nat.zero_le, Nat.reduceLeDiff, onL, isL, atL, eEqL_at, eWL, wL, hEq, hIn, hIx, eIxL_at, eInL_at, eLenL, eML, eMGo, nowG, mAppend, mPop, eLst, see, dEq, dNe, seqL, fListF, fSl, itR1, itR2, itA, sWh_at, List.getElem?_cons_zero, List.getElem?_cons_succ, List.getElem?_nil, Int.toNat_natCast, pow18, pow9, pow60, pow60_20, List.map_cons, List.map_nil, List.length_cons, List.length_nil, List.length_map, List.cons_append, List.nil_append, List.append_nil, List.replicate_succ, List.replicate_zero, List.set_cons_zero, List.set_cons_succ, List.set_nil, Nat.reduceAdd, Nat.reduceSub, Nat.zero_add, Nat.beq, Nat.sub_self, bind_ok, toS_ok, sure_ok, gd_t, nx_bind, ret_bind, brk_bind, cnt_bind, exc_bind, excF_bind, loop_nx, loop_ret, loop_brk, loop_cnt, String.reduceBEq, beq_self_eq_true, Bool.or_false, Bool.or_true, Bool.false_or, Bool.true_or, Bool.false_and, Bool.and_false, decide_true, decide_false, Bool.and_true, Bool.true_and, Bool.and_self, Bool.not_true, Bool.not_false, eB, fComp, wipeR, m1, m2, rl, z1, hc, hat, z2, mExtend, z3, hset]
theorem inner {n : Nat} (hn : n ≤ 10) {a1 a2 a3 : Sl} {k : Nat} {dd : List LO} (hk : dd.length = k) (g : List GO) : ∀ (l : List (List Int)) (acc : List D) (x5 : Sl), NL x5 → (∀ v ∈ l, v.length ≤ 10) → acc.length + l.length * n ≤ 100000 →
    ∃ y5, NL y5 ∧ forGo (.nm 5) eB (l.map tupD) [.v (.int n), a1, a2, a3, .l k, x5, .un] ⟨dd ++ [.lst acc], g⟩ = .nx [.v (.int n), a1, a2, a3, .l k, y5, .un] ⟨dd ++ [.lst (acc ++ ((l.map (nxt n)).flatten).map tupD)], g⟩
  | [], acc, x5, h5, _, _ => ⟨x5, h5, by simp [forGo]⟩
  | v :: l, acc, x5, h5, hl, hb => by
    rw [List.length_cons, Nat.add_mul, Nat.one_mul] at hb
    obtain ⟨y5, hy, e⟩ := inner hn hk g l (acc ++ (nxt n v).map tupD) (.v (tupD v)) (nl_v _) (fun u hu => hl u (List.mem_cons_of_mem _ hu)) (by rw [List.length_append, List.length_map, nxt_len]; omega)
    refine ⟨y5, hy, ?_⟩
    rw [List.map_cons, forGo]
    show ((eB [.v (.int n), a1, a2, a3, .l k, .v (tupD v), .un] ⟨dd ++ [.lst acc], g⟩).loop _) = _
    rw [eB_ok hn hk (hl v (List.mem_cons_self ..)) (by omega) g, loop_nx, e, List.map_cons, List.flatten_cons, List.map_append, List.append_assoc]
def oB : Stm := sSeq (sSetL 4 (lF (fDisp (aNil)))) (sSeq (sFor (.nm 5) (itA (eVar 2)) eB) (sFrz 4 (sSet 2 (eVar 4))))
theorem oB_ok {n : Nat} (hn : n ≤ 10) {a1 x3 x4 x5 : Sl} (h1 : NL a1) (h3 : NL x3) (h5 : NL x5) {dd : List LO} {l : List (List Int)} (hl : ∀ v ∈ l, v.length ≤ 10) (hb : l.length * n ≤ 100000) (g : List GO) :
    ∃ y4 y5, NL y4 ∧ NL y5 ∧ oB [.v (.int n), a1, .v (.lst (l.map tupD)), x3, x4, x5, .un] ⟨dd, g⟩ = .nx [.v (.int n), a1, .v (.lst (((l.map (nxt n)).flatten).map tupD)), x3, y4, y5, .un] ⟨dd ++ [.dead], g⟩ := by
  obtain ⟨y5, hy, e⟩ := inner hn (a1 := a1) (a2 := .v (.lst (l.map tupD))) (a3 := x3) (dd := dd) rfl g l [] x5 h5 hl (by simpa using hb)
  rw [List.nil_append] at e
  generalize ((l.map (nxt n)).flatten).map tupD = F at e ⊢
  refine ⟨.v (.lst (F)), y5, nl_v _, hy, ?_⟩
  have hat : (dd ++ [LO.lst (F)])[dd.length]? = some (.lst (F)) := by simp
  have hset : (dd ++ [LO.lst (F)]).set dd.length .dead = dd ++ [.dead] := by simp
  refine (seq_nx (ρ1 := [.v (.int n), a1, .v (.lst (l.map tupD)), x3, .l dd.length, x5, .un]) (s1 := ⟨dd ++ [.lst []], g⟩) (by simp only [fnz, sNil, sSeq, sPass, sBrk, sCnt, sEx, sIf, sSet, sRet, sRetN, sAsgP, sAsg, sPar, sAug, sSetL, sFor, view, viewS, eVar, slot, eC, eBin, eUn, eIf, eAnd, eOr, eNot, isBl, eTup, eLst, aNil, aCons, sz1, eSl, oNo, oPart, eCB, eCall, eCallK, callF, pick, eIsi, fIsi, tyD, isiB, eF, eG, lF, fDisp, fCB, bT, bC, bNot, bAnd, bOr, tru, pTp, itemsG, psCons, psNil, pNm, pIxG, pIxL, atG, dAdd, dSub, dMul, dDiv, dMod, dNeg, dIx, ge_i, le_i, gt_i, dIAdd, fLen, fAbs, fMax2, fMin2, fInt, fBool, mulOk_a, mulOk_b, mulOk_c, mulOk_d, Int.reduceLT, Int.reduceLE, Nat.zero_le, Nat.reduceLeDiff, onL, isL, atL, eEqL_at, eWL, wL, hEq, hIn, hIx, eIxL_at, eInL_at, eLenL, eML, eMGo, nowG, mAppend, mPop, eLst, see, dEq, dNe, seqL, fListF, fSl, itR1, itR2, itA, sWh_at, List.getElem?_cons_zero, List.getElem?_cons_succ, List.getElem?_nil, Int.toNat_natCast, pow18, pow9, pow60, pow60_20, List.map_cons, List.map_nil, List.length_cons, List.length_nil, List.length_map, List.cons_append, List.nil_append, List.append_nil, List.replicate_succ, List.replicate_zero, List.set_cons_zero, List.set_cons_succ, List.set_nil, Nat.reduceAdd, Nat.reduceSub, Nat.zero_add, Nat.beq, Nat.sub_self, bind_ok, toS_ok, sure_ok, gd_t, nx_bind, ret_bind, brk_bind, cnt_bind, exc_bind, excF_bind, loop_nx, loop_ret, loop_brk, loop_cnt, String.reduceBEq, beq_self_eq_true, Bool.or_false, Bool.or_true, Bool.false_or, Bool.true_or, Bool.false_and, Bool.and_false, decide_true, decide_false, Bool.and_true, Bool.true_and, Bool.and_self, Bool.not_true, Bool.not_false]; rfl)).trans ?_
  refine (seq_nx (ρ1 := [.v (.int n), a1, .v (.lst (l.map tupD)), x3, .l dd.length, y5, .un]) (s1 := ⟨dd ++ [.lst (F)], g⟩) ?_).trans ?_
  · have ei : itA (eVar 2) [.v (.int n), a1, .v (.lst (l.map tupD)), x3, .l dd.length, x5, .un] ⟨dd ++ [.lst []], g⟩ = .ok (l.map tupD) ⟨dd ++ [.lst []], g⟩ := rfl
    unfold sFor
    rw [ei, toS_ok]
    exact e
  · have f0 : ∀ d, frzS dd.length (dd ++ [LO.lst (F)]) (.v d) = .v d := fun _ => rfl
    have f4 : frzS dd.length (dd ++ [LO.lst (F)]) (.l dd.length) = .v (.lst (F)) := by
      have hbq : Nat.beq dd.length dd.length = true := Nat.beq_refl _
      unfold frzS viewS
      simp only [hat, hbq]
    have fu : frzS dd.length (dd ++ [LO.lst (F)]) .un = .un := rfl
    have g1 := h1 dd.length (dd ++ [LO.lst (F)])
    have g3 := h3 dd.length (dd ++ [LO.lst (F)])
    have g5 := hy dd.length (dd ++ [LO.lst (F)])
    simp only [fnz, sNil, sSeq, sPass, sBrk, sCnt, sEx, sIf, sSet, sRet, sRetN, sAsgP, sAsg, sPar, sAug, sSetL, sFor, view, viewS, eVar, slot, eC, eBin, eUn, eIf, eAnd, eOr, eNot, isBl, eTup, eLst, aNil, aCons, sz1, eSl, oNo, oPart, eCB, eCall, eCallK, callF, pick, eIsi, fIsi, tyD, isiB, eF, eG, lF, fDisp, fCB, bT, bC, bNot, bAnd, bOr, tru, pTp, itemsG, psCons, psNil, pNm, pIxG, pIxL, atG, dAdd, dSub, dMul, dDiv, dMod, dNeg, dIx, ge_i, le_i, gt_i, dIAdd, fLen, fAbs, fMax2, fMin2, fInt, fBool, mulOk_a, mulOk_b, mulOk_c, mulOk_d, Int.reduceLT, Int.reduceLE, Nat.zero_le, Nat.reduceLeDiff, onL, isL, atL, eEqL_at, eWL, wL, hEq, hIn, hIx, eIxL_at, eInL_at, eLenL, eML, eMGo, nowG, mAppend, mPop, eLst, see, dEq, dNe, seqL, fListF, fSl, itR1, itR2, itA, sWh_at, List.getElem?_cons_zero, List.getElem?_cons_succ, List.getElem?_nil, Int.toNat_natCast, pow18, pow9, pow60, pow60_20, List.map_cons, List.map_nil, List.length_cons, List.length_nil, List.length_map, List.cons_append, List.nil_append, List.append_nil, List.replicate_succ, List.replicate_zero, List.set_cons_zero, List.set_cons_succ, List.set_nil, Nat.reduceAdd, Nat.reduceSub, Nat.zero_add, Nat.beq, Nat.sub_self, bind_ok, toS_ok, sure_ok, gd_t, nx_bind, ret_bind, brk_bind, cnt_bind, exc_bind, excF_bind, loop_nx, loop_ret, loop_brk, loop_cnt, String.reduceBEq, beq_self_eq_true, Bool.or_false, Bool.or_true, Bool.false_or, Bool.true_or, Bool.false_and, Bool.and_false, decide_true, decide_false, Bool.and_true, Bool.true_and, Bool.and_self, Bool.not_true, Bool.not_false, sFrz, hat, hset, f0, f4, fu, g1, g3, g5]
theorem pow_bd {n m : Nat} (hn : n ≤ 4) (hm : m ≤ 6) : n ^ m ≤ 4096 := by
  have h1 : n ^ m ≤ 4 ^ m := Nat.pow_le_pow_left hn m
  have h2 : 4 ^ m ≤ 4 ^ 6 := Nat.pow_le_pow_right (by decide) hm
  have h3 : 4 ^ 6 = 4096 := by decide
  omega
theorem all_of_ok {n : Nat} (hn : n ≤ 4) (g : List GO) : z_all_of [.int n, .int 6] g = .ok (.lst ((stg n 6).map tupD)) ⟨[], g⟩ := by
  let I : Nat → Rho → S → Prop := fun m ρ s => ∃ x3 x4 x5, NL x3 ∧ NL x4 ∧ NL x5 ∧ ρ = [.v (.int n), .v (.int 6), .v (.lst ((stg n m).map tupD)), x3, x4, x5, .un] ∧ s = ⟨List.replicate m .dead, g⟩
  obtain ⟨ρ', s', e, x3, x4, x5, _, _, _, rfl, rfl⟩ := for_ind (T := .nm 3) (b := oB) I (rngD 0 6) 0 [.v (.int n), .v (.int 6), .v (.lst ((stg n 0).map tupD)), .un, .un, .un, .un] ⟨[], g⟩ (by
    rintro m w hw ρ s ⟨x3, x4, x5, h3, h4, h5, rfl, rfl⟩
    have hm : m < 6 := by
      have := (List.getElem?_eq_some_iff.mp hw).1
      simpa [rngD] using this
    have pb := pow_bd (n := n) (m := m + 1) hn (by omega)
    obtain ⟨y4, y5, k4, k5, e⟩ := oB_ok (n := n) (by omega) (a1 := .v (.int 6)) (x3 := .v w) (x4 := x4) (x5 := x5) (nl_v _) (nl_v _) h5 (dd := List.replicate (0 + m) .dead) (l := stg n (0 + m)) (fun v hv => by
      have := (stg_row n (0 + m) v hv).1
      omega) (by rw [stg_len, Nat.zero_add, ← Nat.pow_succ]; exact Nat.le_trans pb (by decide)) g
    refine ⟨_, rfl, _, _, e, .v w, y4, y5, nl_v _, k4, k5, rfl, ?_⟩
    rw [List.replicate_succ']) ⟨.un, .un, .un, nl_un, nl_un, nl_un, rfl, rfl⟩
  have hB : b_all_of = sSeq (sSet 2 (eLst (aCons (eTup (aNil)) (aNil)))) (sSeq (sFor (.nm 3) (itR1 (aCons (eVar 1) (aNil))) oB) (sRet (eVar 2))) := rfl
  have e6 : Int.toNat 6 = 6 := rfl
  have q : b_all_of [.v (.int n), .v (.int 6), .un, .un, .un, .un, .un] ⟨[], g⟩ = .ret (.lst ((stg n 6).map tupD)) ⟨[], g⟩ := by
    rw [hB]
    refine (seq_nx (ρ1 := [.v (.int n), .v (.int 6), .v (.lst ((stg n 0).map tupD)), .un, .un, .un, .un]) (s1 := ⟨[], g⟩) (by simp only [fnz, sNil, sSeq, sPass, sBrk, sCnt, sEx, sIf, sSet, sRet, sRetN, sAsgP, sAsg, sPar, sAug, sSetL, sFor, view, viewS, eVar, slot, eC, eBin, eUn, eIf, eAnd, eOr, eNot, isBl, eTup, eLst, aNil, aCons, sz1, eSl, oNo, oPart, eCB, eCall, eCallK, callF, pick, eIsi, fIsi, tyD, isiB, eF, eG, lF, fDisp, fCB, bT, bC, bNot, bAnd, bOr, tru, pTp, itemsG, psCons, psNil, pNm, pIxG, pIxL, atG, dAdd, dSub, dMul, dDiv, dMod, dNeg, dIx, ge_i, le_i, gt_i, dIAdd, fLen, fAbs, fMax2, fMin2, fInt, fBool, mulOk_a, mulOk_b, mulOk_c, mulOk_d, Int.reduceLT, Int.reduceLE, Nat.zero_le, Nat.reduceLeDiff, onL, isL, atL, eEqL_at, eWL, wL, hEq, hIn, hIx, eIxL_at, eInL_at, eLenL, eML, eMGo, nowG, mAppend, mPop, eLst, see, dEq, dNe, seqL, fListF, fSl, itR1, itR2, itA, sWh_at, List.getElem?_cons_zero, List.getElem?_cons_succ, List.getElem?_nil, Int.toNat_natCast, pow18, pow9, pow60, pow60_20, List.map_cons, List.map_nil, List.length_cons, List.length_nil, List.length_map, List.cons_append, List.nil_append, List.append_nil, List.replicate_succ, List.replicate_zero, List.set_cons_zero, List.set_cons_succ, List.set_nil, Nat.reduceAdd, Nat.reduceSub, Nat.zero_add, Nat.beq, Nat.sub_self, bind_ok, toS_ok, sure_ok, gd_t, nx_bind, ret_bind, brk_bind, cnt_bind, exc_bind, excF_bind, loop_nx, loop_ret, loop_brk, loop_cnt, String.reduceBEq, beq_self_eq_true, Bool.or_false, Bool.or_true, Bool.false_or, Bool.true_or, Bool.false_and, Bool.and_false, decide_true, decide_false, Bool.and_true, Bool.true_and, Bool.and_self, Bool.not_true, Bool.not_false, (rfl : decide (1 ≤ 16777216) = true), (rfl : decide (0 ≤ 16777216) = true)]; rfl)).trans ?_
    refine (seq_nx (ρ1 := [.v (.int n), .v (.int 6), .v (.lst ((stg n 6).map tupD)), x3, x4, x5, .un]) (s1 := ⟨List.replicate 6 .dead, g⟩) ?_).trans ?_
    · have ei : itR1 (aCons (eVar 1) (aNil)) [.v (.int n), .v (.int 6), .v (.lst ((stg n 0).map tupD)), .un, .un, .un, .un] ⟨[], g⟩ = .ok (rngD 0 6) ⟨[], g⟩ := rfl
      unfold sFor
      rw [ei, toS_ok]
      exact e
    · rfl
  simp only [fnz, sNil, sSeq, sPass, sBrk, sCnt, sEx, sIf, sSet, sRet, sRetN, sAsgP, sAsg, sPar, sAug, sSetL, sFor, view, viewS, eVar, slot, eC, eBin, eUn, eIf, eAnd, eOr, eNot, isBl, eTup, eLst, aNil, aCons, sz1, eSl, oNo, oPart, eCB, eCall, eCallK, callF, pick, eIsi, fIsi, tyD, isiB, eF, eG, lF, fDisp, fCB, bT, bC, bNot, bAnd, bOr, tru, pTp, itemsG, psCons, psNil, pNm, pIxG, pIxL, atG, dAdd, dSub, dMul, dDiv, dMod, dNeg, dIx, ge_i, le_i, gt_i, dIAdd, fLen, fAbs, fMax2, fMin2, fInt, fBool, mulOk_a, mulOk_b, mulOk_c, mulOk_d, Int.reduceLT, Int.reduceLE, Nat.zero_le, Nat.reduceLeDiff, onL, isL, atL, eEqL_at, eWL, wL, hEq, hIn, hIx, eIxL_at, eInL_at, eLenL, eML, eMGo, nowG, mAppend, mPop, eLst, see, dEq, dNe, seqL, fListF, fSl, itR1, itR2, itA, sWh_at, List.getElem?_cons_zero, List.getElem?_cons_succ, List.getElem?_nil, Int.toNat_natCast, pow18, pow9, pow60, pow60_20, List.map_cons, List.map_nil, List.length_cons, List.length_nil, List.length_map, List.cons_append, List.nil_append, List.append_nil, List.replicate_succ, List.replicate_zero, List.set_cons_zero, List.set_cons_succ, List.set_nil, Nat.reduceAdd, Nat.reduceSub, Nat.zero_add, Nat.beq, Nat.sub_self, bind_ok, toS_ok, sure_ok, gd_t, nx_bind, ret_bind, brk_bind, cnt_bind, exc_bind, excF_bind, loop_nx, loop_ret, loop_brk, loop_cnt, String.reduceBEq, beq_self_eq_true, Bool.or_false, Bool.or_true, Bool.false_or, Bool.true_or, Bool.false_and, Bool.and_false, decide_true, decide_false, Bool.and_true, Bool.true_and, Bool.and_self, Bool.not_true, Bool.not_false, z_all_of, q]
end K43

namespace K43
open PySem L2 Z
def dB : Stm := sEx (onL 6 (eML 6 mExtend (aCons (eF (fComp (.nm 8) (itR1 (aCons (eVar 0) (aNil))) (bYes) (eBin dAdd (eVar 5) (eTup (aCons (eVar 8) (aNil)))) [8])) (aNil))))
theorem dB_ok {n : Nat} (hn : n ≤ 10) {a1 a2 a3 : Sl} {k : Nat} {dd : List LO} (hk : dd.length = k) {v : List Int} (hv : v.length ≤ 10) {acc : List D} (ha : acc.length ≤ 100000) (g : List GO) :
    dB [.v (.int n), a1, a2, a3, .un, .v (tupD v), .l k, .un, .un] ⟨dd ++ [.lst acc], g⟩ = .nx [.v (.int n), a1, a2, a3, .un, .v (tupD v), .l k, .un, .un] ⟨dd ++ [.lst (acc ++ (nxt n v).map tupD)], g⟩ := by
  have m1 : ((n : Nat) : Int) ≤ 100000000 := by omega
  have m2 : (-100000000 : Int) ≤ (n : Nat) := by omega
  have rl : (rngD 0 n).length = n := by
    unfold rngD
    simp
  have z1 := sz_of (m := n) (n := 0) (by omega)
  have hat : (dd ++ [LO.lst acc])[k]? = some (.lst acc) := by
    rw [List.getElem?_append_right (by omega), hk, Nat.sub_self]
    rfl
  have hset : (dd ++ [LO.lst acc]).set k (.lst (acc ++ (nxt n v).map tupD)) = dd ++ [.lst (acc ++ (nxt n v).map tupD)] := by
    rw [List.set_append_right _ _ (by omega), hk, Nat.sub_self]
    rfl
  have z2 := sz_of (m := acc.length) (n := 1) (by omega)
  have z3 := sz_of (m := acc.length) (n := (nxt n v).length) (by rw [nxt_len]; omega)
  have zv := sz_of (m := v.length) (n := 1) (by omega)
  have hc : compGo (.nm 8) bYes (eBin dAdd (eVar 5) (eTup (aCons (eVar 8) (aNil)))) [.v (.int n), a1, a2, a3, .un, .v (tupD v), .l k, .un, .un] (rngD 0 n) ⟨dd ++ [.lst acc], g⟩ = .ok ((rngD 0 n).map (fun d => match d with | .int i => tupD (v ++ [i]) | d => d)) ⟨dd ++ [.lst acc], g⟩ := by
    refine compGo_map _ fun d hd => ?_
    unfold rngD at hd
    obtain ⟨p, _, rfl⟩ := List.mem_map.mp hd
    refine ⟨[.v (.int n), a1, a2, a3, .un, .v (tupD v), .l k, .un, .v (.int (0 + (p : Nat)))], rfl, rfl, ?_⟩
    have e : tupD v = .tup (v.map D.int) := rfl
    rw [e]
    simp only [fnz, sNil, sSeq, sPass, sBrk, sCnt, sEx, sIf, sSet, sRet, sRetN, sAsgP, sAsg, sPar, sAug, sSetL, sFor, view, viewS, eVar, slot, eC, eBin, eUn, eIf, eAnd, eOr, eNot, isBl, eTup, eLst, aNil, aCons, sz1, eSl, oNo, oPart, eCB, eCall, eCallK, callF, pick, eIsi, fIsi, tyD, isiB, eF, eG, lF, fDisp, fCB, bT, bC, bNot, bAnd, bOr, tru, pTp, itemsG, psCons, psNil, pNm, pIxG, pIxL, atG, dAdd, dSub, dMul, dDiv, dMod, dNeg, dIx, ge_i, le_i, gt_i, dIAdd, fLen, fAbs, fMax2, fMin2, fInt, fBool, mulOk_a, mulOk_b, mulOk_c, mulOk_d, Int.reduceLT, Int.reduceLE, Nat.zero_le, Nat.reduceLeDiff, onL, isL, atL, eEqL_at, eWL, wL, hEq, hIn, hIx, eIxL_at, eInL_at, eLenL, eML, eMGo, nowG, mAppend, mPop, eLst, see, dEq, dNe, seqL, fListF, fSl, itR1, itR2, itA, sWh_at, List.getElem?_cons_zero, List.getElem?_cons_succ, List.getElem?_nil, Int.toNat_natCast, pow18, pow9, pow60, pow60_20, List.map_cons, List.map_nil, List.length_cons, List.length_nil, List.length_map, List.cons_append, List.nil_append, List.append_nil, List.replicate_succ, List.replicate_zero, List.set_cons_zero, List.set_cons_succ, List.set_nil, Nat.reduceAdd, Nat.reduceSub, Nat.zero_add, Nat.beq, Nat.sub_self, bind_ok, toS_ok, sure_ok, gd_t, nx_bind, ret_bind, brk_bind, cnt_bind, exc_bind, excF_bind, loop_nx, loop_ret, loop_brk, loop_cnt, String.reduceBEq, beq_self_eq_true, Bool.or_false, Bool.or_true, Bool.false_or, Bool.true_or, Bool.false_and, Bool.and_false, decide_true, decide_false, Bool.and_true, Bool.true_and, Bool.and_self, Bool.not_true, Bool.not_false, zv, (rfl : decide (1 ≤ 16777216) = true)]
    show R.ok (D.tup (v.map D.int ++ [D.int (0 + ((p : Nat) : Int))])) _ = R.ok (D.tup ((v ++ [0 + ((p : Nat) : Int)]).map D.int)) _
    rw [List.map_append]
    rfl
  have hc := hc.trans (congrArg (fun l => (R.ok l ⟨dd ++ [.lst acc], g⟩ : R (List D))) (rng_map n v))
  simp only [fnz, sNil, sSeq, sPass, sBrk, sCnt, sEx, sIf, sSet, sRet, sRetN, sAsgP, sAsg, sPar, sAug, sSetL, sFor, view, viewS, eVar, slot, eC, eBin, eUn, eIf, eAnd, eOr, eNot, isBl, eTup, eLst, aNil, aCons, sz1, eSl, oNo, oPart, eCB, eCall, eCallK, callF, pick, eIsi, fIsi, tyD, isiB, eF, eG, lF, fDisp, fCB, bT, bC, bNot, bAnd, bOr, tru, pTp, itemsG, psCons, psNil, pNm, pIxG, pIxL, atG, dAdd, dSub, dMul, dDiv, dMod, dNeg, dIx, ge_i, le_i, gt_i, dIAdd, fLen, fAbs, fMax2, fMin2, fInt, fBool, mulOk_a, mulOk_b, mulOk_c, mulOk_d, Int.reduceLT, Int.reduceLE, Nat.zero_le, Nat.reduceLeDiff, onL, isL, atL, eEqL_at, eWL, wL, hEq, hIn, hIx, eIxL_at, eInL_at, eLenL, eML, eMGo, nowG, mAppend, mPop, eLst, see, dEq, dNe, seqL, fListF, fSl, itR1, itR2, itA, sWh_at, List.getElem?_cons_zero, List.getElem?_cons_succ, List.getElem?_nil, Int.toNat_natCast, pow18, pow9, pow60, pow60_20, List.map_cons, List.map_nil, List.length_cons, List.length_nil, List.length_map, List.cons_append, List.nil_append, List.append_nil, List.replicate_succ, List.replicate_zero, List.set_cons_zero, List.set_cons_succ, List.set_nil, Nat.reduceAdd, Nat.reduceSub, Nat.zero_add, Nat.beq, Nat.sub_self, bind_ok, toS_ok, sure_ok, gd_t, nx_bind, ret_bind, brk_bind, cnt_bind, exc_bind, excF_bind, loop_nx, loop_ret, loop_brk, loop_cnt, String.reduceBEq, beq_self_eq_true, Bool.or_false, Bool.or_true, Bool.false_or, Bool.true_or, Bool.false_and, Bool.and_false, decide_true, decide_false, Bool.and_true, Bool.true_and, Bool.and_self, Bool.not_true, Bool.not_false, dB, fComp, wipeR, m1, m2, rl, z1, hc, hat, z2, mExtend, z3, hset]
theorem dinner {n : Nat} (hn : n ≤ 10) {a1 a2 a3 : Sl} {k : Nat} {dd : List LO} (hk : dd.length = k) (g : List GO) : ∀ (l : List (List Int)) (acc : List D) (x5 : Sl), NL x5 → (∀ v ∈ l, v.length ≤ 10) → acc.length + l.length * n ≤ 100000 →
    ∃ y5, NL y5 ∧ forGo (.nm 5) dB (l.map tupD) [.v (.int n), a1, a2, a3, .un, x5, .l k, .un, .un] ⟨dd ++ [.lst acc], g⟩ = .nx [.v (.int n), a1, a2, a3, .un, y5, .l k, .un, .un] ⟨dd ++ [.lst (acc ++ ((l.map (nxt n)).flatten).map tupD)], g⟩
  | [], acc, x5, h5, _, _ => ⟨x5, h5, by simp [forGo]⟩
  | v :: l, acc, x5, h5, hl, hb => by
    rw [List.length_cons, Nat.add_mul, Nat.one_mul] at hb
    obtain ⟨y5, hy, e⟩ := dinner hn hk g l (acc ++ (nxt n v).map tupD) (.v (tupD v)) (nl_v _) (fun u hu => hl u (List.mem_cons_of_mem _ hu)) (by rw [List.length_append, List.length_map, nxt_len]; omega)
    refine ⟨y5, hy, ?_⟩
    rw [List.map_cons, forGo]
    show ((dB [.v (.int n), a1, a2, a3, .un, .v (tupD v), .l k, .un, .un] ⟨dd ++ [.lst acc], g⟩).loop _) = _
    rw [dB_ok hn hk (hl v (List.mem_cons_self ..)) (by omega) g, loop_nx, e, List.map_cons, List.flatten_cons, List.map_append, List.append_assoc]
def dO : Stm := sSeq (sSetL 6 (lF (fDisp (aNil)))) (sSeq (sFor (.nm 5) (itA (eVar 2)) dB) (sFrz 6 (sSet 2 (eVar 6))))
theorem dO_ok {n : Nat} (hn : n ≤ 10) {a1 x3 x4 x5 : Sl} (h1 : NL a1) (h3 : NL x3) (h5 : NL x5) {dd : List LO} {l : List (List Int)} (hl : ∀ v ∈ l, v.length ≤ 10) (hb : l.length * n ≤ 100000) (g : List GO) :
    ∃ y4 y5, NL y4 ∧ NL y5 ∧ dO [.v (.int n), a1, .v (.lst (l.map tupD)), x3, .un, x5, x4, .un, .un] ⟨dd, g⟩ = .nx [.v (.int n), a1, .v (.lst (((l.map (nxt n)).flatten).map tupD)), x3, .un, y5, y4, .un, .un] ⟨dd ++ [.dead], g⟩ := by
  obtain ⟨y5, hy, e⟩ := dinner hn (a1 := a1) (a2 := .v (.lst (l.map tupD))) (a3 := x3) (dd := dd) rfl g l [] x5 h5 hl (by simpa using hb)
  rw [List.nil_append] at e
  generalize ((l.map (nxt n)).flatten).map tupD = F at e ⊢
  refine ⟨.v (.lst (F)), y5, nl_v _, hy, ?_⟩
  have hat : (dd ++ [LO.lst (F)])[dd.length]? = some (.lst (F)) := by simp
  have hset : (dd ++ [LO.lst (F)]).set dd.length .dead = dd ++ [.dead] := by simp
  refine (seq_nx (ρ1 := [.v (.int n), a1, .v (.lst (l.map tupD)), x3, .un, x5, .l dd.length, .un, .un]) (s1 := ⟨dd ++ [.lst []], g⟩) (by simp only [fnz, sNil, sSeq, sPass, sBrk, sCnt, sEx, sIf, sSet, sRet, sRetN, sAsgP, sAsg, sPar, sAug, sSetL, sFor, view, viewS, eVar, slot, eC, eBin, eUn, eIf, eAnd, eOr, eNot, isBl, eTup, eLst, aNil, aCons, sz1, eSl, oNo, oPart, eCB, eCall, eCallK, callF, pick, eIsi, fIsi, tyD, isiB, eF, eG, lF, fDisp, fCB, bT, bC, bNot, bAnd, bOr, tru, pTp, itemsG, psCons, psNil, pNm, pIxG, pIxL, atG, dAdd, dSub, dMul, dDiv, dMod, dNeg, dIx, ge_i, le_i, gt_i, dIAdd, fLen, fAbs, fMax2, fMin2, fInt, fBool, mulOk_a, mulOk_b, mulOk_c, mulOk_d, Int.reduceLT, Int.reduceLE, Nat.zero_le, Nat.reduceLeDiff, onL, isL, atL, eEqL_at, eWL, wL, hEq, hIn, hIx, eIxL_at, eInL_at, eLenL, eML, eMGo, nowG, mAppend, mPop, eLst, see, dEq, dNe, seqL, fListF, fSl, itR1, itR2, itA, sWh_at, List.getElem?_cons_zero, List.getElem?_cons_succ, List.getElem?_nil, Int.toNat_natCast, pow18, pow9, pow60, pow60_20, List.map_cons, List.map_nil, List.length_cons, List.length_nil, List.length_map, List.cons_append, List.nil_append, List.append_nil, List.replicate_succ, List.replicate_zero, List.set_cons_zero, List.set_cons_succ, List.set_nil, Nat.reduceAdd, Nat.reduceSub, Nat.zero_add, Nat.beq, Nat.sub_self, bind_ok, toS_ok, sure_ok, gd_t, nx_bind, ret_bind, brk_bind, cnt_bind, exc_bind, excF_bind, loop_nx, loop_ret, loop_brk, loop_cnt, String.reduceBEq, beq_self_eq_true, Bool.or_false, Bool.or_true, Bool.false_or, Bool.true_or, Bool.false_and, Bool.and_false, decide_true, decide_false, Bool.and_true, Bool.true_and, Bool.and_self, Bool.not_true, Bool.not_false]; rfl)).trans ?_
  refine (seq_nx (ρ1 := [.v (.int n), a1, .v (.lst (l.map tupD)), x3, .un, y5, .l dd.length, .un, .un]) (s1 := ⟨dd ++ [.lst (F)], g⟩) ?_).trans ?_
  · have ei : itA (eVar 2) [.v (.int n), a1, .v (.lst (l.map tupD)), x3, .un, x5, .l dd.length, .un, .un] ⟨dd ++ [.lst []], g⟩ = .ok (l.map tupD) ⟨dd ++ [.lst []], g⟩ := rfl
    unfold sFor
    rw [ei, toS_ok]
    exact e
  · have f0 : ∀ d, frzS dd.length (dd ++ [LO.lst (F)]) (.v d) = .v d := fun _ => rfl
    have f4 : frzS dd.length (dd ++ [LO.lst (F)]) (.l dd.length) = .v (.lst (F)) := by
      have hbq : Nat.beq dd.length dd.length = true := Nat.beq_refl _
      unfold frzS viewS
      simp only [hat, hbq]
    have fu : frzS dd.length (dd ++ [LO.lst (F)]) .un = .un := rfl
    have g1 := h1 dd.length (dd ++ [LO.lst (F)])
    have g3 := h3 dd.length (dd ++ [LO.lst (F)])
    have g5 := hy dd.length (dd ++ [LO.lst (F)])
    simp only [fnz, sNil, sSeq, sPass, sBrk, sCnt, sEx, sIf, sSet, sRet, sRetN, sAsgP, sAsg, sPar, sAug, sSetL, sFor, view, viewS, eVar, slot, eC, eBin, eUn, eIf, eAnd, eOr, eNot, isBl, eTup, eLst, aNil, aCons, sz1, eSl, oNo, oPart, eCB, eCall, eCallK, callF, pick, eIsi, fIsi, tyD, isiB, eF, eG, lF, fDisp, fCB, bT, bC, bNot, bAnd, bOr, tru, pTp, itemsG, psCons, psNil, pNm, pIxG, pIxL, atG, dAdd, dSub, dMul, dDiv, dMod, dNeg, dIx, ge_i, le_i, gt_i, dIAdd, fLen, fAbs, fMax2, fMin2, fInt, fBool, mulOk_a, mulOk_b, mulOk_c, mulOk_d, Int.reduceLT, Int.reduceLE, Nat.zero_le, Nat.reduceLeDiff, onL, isL, atL, eEqL_at, eWL, wL, hEq, hIn, hIx, eIxL_at, eInL_at, eLenL, eML, eMGo, nowG, mAppend, mPop, eLst, see, dEq, dNe, seqL, fListF, fSl, itR1, itR2, itA, sWh_at, List.getElem?_cons_zero, List.getElem?_cons_succ, List.getElem?_nil, Int.toNat_natCast, pow18, pow9, pow60, pow60_20, List.map_cons, List.map_nil, List.length_cons, List.length_nil, List.length_map, List.cons_append, List.nil_append, List.append_nil, List.replicate_succ, List.replicate_zero, List.set_cons_zero, List.set_cons_succ, List.set_nil, Nat.reduceAdd, Nat.reduceSub, Nat.zero_add, Nat.beq, Nat.sub_self, bind_ok, toS_ok, sure_ok, gd_t, nx_bind, ret_bind, brk_bind, cnt_bind, exc_bind, excF_bind, loop_nx, loop_ret, loop_brk, loop_cnt, String.reduceBEq, beq_self_eq_true, Bool.or_false, Bool.or_true, Bool.false_or, Bool.true_or, Bool.false_and, Bool.and_false, decide_true, decide_false, Bool.and_true, Bool.true_and, Bool.and_self, Bool.not_true, Bool.not_false, sFrz, hat, hset, f0, f4, fu, g1, g3, g5]
theorem turns_ok (g : List GO) : z__law_turns [] g = .ok (.lst tT) ⟨[], g⟩ := by kernel_rfl
theorem all_turns (g : List GO) : z_all_turns [] g = .ok (.lst tT) ⟨[], g⟩ := by kernel_rfl
theorem turnedI {t : D} (ht : t ∈ tT) {vs : List Int} (hl : vs.length = 6) (g : List GO) : z__law_turned [tupD vs, t] g = .ok (tupD (permI t vs)) ⟨[], g⟩ := by
  match vs, hl with
  | [a, b, c, e, f, h], _ =>
    exact ones (lT := tT) (f := fun t => z__law_turned [tupD [a, b, c, e, f, h], t] g) (g := fun t => .ok (tupD (permI t [a, b, c, e, f, h])) ⟨[], g⟩) (by kernel_rfl) ht
theorem intsOf_map : ∀ n : List Int, intsOf (n.map D.int) = some n
  | [] => rfl
  | x :: n => by rw [List.map_cons, intsOf, intsOf_map n]
theorem dLt_tup (a b : List Int) (s : S) : dLt (tupD a) (tupD b) s = .ok (.bl (HT.lexLt a b)) s := by
  have e : dLt (tupD a) (tupD b) s = (match intsOf (a.map D.int), intsOf (b.map D.int) with
    | some ns, some ms => .ok (.bl (HT.lexLt ns ms)) s
    | _, _ => .bad) := rfl
  rw [e, intsOf_map, intsOf_map]
/-- no turned ones are less -/
def Pl (vs : List Int) : Bool := !(tT.any fun t => HT.lexLt (permI t vs) vs)
theorem any_id (f : D → Bool) (l : List D) : (l.map f).any id = l.any f := by
  induction l with
  | nil => rfl
  | cons d l ih => simp [ih]
theorem must_ok {n : Nat} (hn : n ≤ 4) (g : List GO) : z_must_be_listed [.int n] g = .ok .non ⟨[], g⟩ := by
  have : n = 0 ∨ n = 1 ∨ n = 2 ∨ n = 3 ∨ n = 4 := by omega
  rcases this with rfl | rfl | rfl | rfl | rfl <;> kernel_rfl
theorem must_no {n : Int} (hn : n < 0 ∨ 4 < n) (g : List GO) : z_must_be_listed [.int n] g = .exc ⟨0, []⟩ ⟨[], g⟩ := by
  have lt_i : ∀ (i j : Int) (s : S), dLt (.int i) (.int j) s = .ok (.bl (decide (i < j))) s := fun _ _ _ => rfl
  by_cases h : n < 0
  · simp only [fnz, sNil, sSeq, sPass, sBrk, sCnt, sEx, sIf, sSet, sRet, sRetN, sAsgP, sAsg, sPar, sAug, sSetL, sFor, view, viewS, eVar, slot, eC, eBin, eUn, eIf, eAnd, eOr, eNot, isBl, eTup, eLst, aNil, aCons, sz1, eSl, oNo, oPart, eCB, eCall, eCallK, callF, pick, eIsi, fIsi, tyD, isiB, eF, eG, lF, fDisp, fCB, bT, bC, bNot, bAnd, bOr, tru, pTp, itemsG, psCons, psNil, pNm, pIxG, pIxL, atG, dAdd, dSub, dMul, dDiv, dMod, dNeg, dIx, ge_i, le_i, gt_i, dIAdd, fLen, fAbs, fMax2, fMin2, fInt, fBool, mulOk_a, mulOk_b, mulOk_c, mulOk_d, Int.reduceLT, Int.reduceLE, Nat.zero_le, Nat.reduceLeDiff, onL, isL, atL, eEqL_at, eWL, wL, hEq, hIn, hIx, eIxL_at, eInL_at, eLenL, eML, eMGo, nowG, mAppend, mPop, eLst, see, dEq, dNe, seqL, fListF, fSl, itR1, itR2, itA, sWh_at, List.getElem?_cons_zero, List.getElem?_cons_succ, List.getElem?_nil, Int.toNat_natCast, pow18, pow9, pow60, pow60_20, List.map_cons, List.map_nil, List.length_cons, List.length_nil, List.length_map, List.cons_append, List.nil_append, List.append_nil, List.replicate_succ, List.replicate_zero, List.set_cons_zero, List.set_cons_succ, List.set_nil, Nat.reduceAdd, Nat.reduceSub, Nat.zero_add, Nat.beq, Nat.sub_self, bind_ok, toS_ok, sure_ok, gd_t, nx_bind, ret_bind, brk_bind, cnt_bind, exc_bind, excF_bind, loop_nx, loop_ret, loop_brk, loop_cnt, String.reduceBEq, beq_self_eq_true, Bool.or_false, Bool.or_true, Bool.false_or, Bool.true_or, Bool.false_and, Bool.and_false, decide_true, decide_false, Bool.and_true, Bool.true_and, Bool.and_self, Bool.not_true, Bool.not_false, z_must_be_listed, b_must_be_listed, lt_i, h, sRaise]
  · have h4 : 4 < n := by omega
    simp only [fnz, sNil, sSeq, sPass, sBrk, sCnt, sEx, sIf, sSet, sRet, sRetN, sAsgP, sAsg, sPar, sAug, sSetL, sFor, view, viewS, eVar, slot, eC, eBin, eUn, eIf, eAnd, eOr, eNot, isBl, eTup, eLst, aNil, aCons, sz1, eSl, oNo, oPart, eCB, eCall, eCallK, callF, pick, eIsi, fIsi, tyD, isiB, eF, eG, lF, fDisp, fCB, bT, bC, bNot, bAnd, bOr, tru, pTp, itemsG, psCons, psNil, pNm, pIxG, pIxL, atG, dAdd, dSub, dMul, dDiv, dMod, dNeg, dIx, ge_i, le_i, gt_i, dIAdd, fLen, fAbs, fMax2, fMin2, fInt, fBool, mulOk_a, mulOk_b, mulOk_c, mulOk_d, Int.reduceLT, Int.reduceLE, Nat.zero_le, Nat.reduceLeDiff, onL, isL, atL, eEqL_at, eWL, wL, hEq, hIn, hIx, eIxL_at, eInL_at, eLenL, eML, eMGo, nowG, mAppend, mPop, eLst, see, dEq, dNe, seqL, fListF, fSl, itR1, itR2, itA, sWh_at, List.getElem?_cons_zero, List.getElem?_cons_succ, List.getElem?_nil, Int.toNat_natCast, pow18, pow9, pow60, pow60_20, List.map_cons, List.map_nil, List.length_cons, List.length_nil, List.length_map, List.cons_append, List.nil_append, List.append_nil, List.replicate_succ, List.replicate_zero, List.set_cons_zero, List.set_cons_succ, List.set_nil, Nat.reduceAdd, Nat.reduceSub, Nat.zero_add, Nat.beq, Nat.sub_self, bind_ok, toS_ok, sure_ok, gd_t, nx_bind, ret_bind, brk_bind, cnt_bind, exc_bind, excF_bind, loop_nx, loop_ret, loop_brk, loop_cnt, String.reduceBEq, beq_self_eq_true, Bool.or_false, Bool.or_true, Bool.false_or, Bool.true_or, Bool.false_and, Bool.and_false, decide_true, decide_false, Bool.and_true, Bool.true_and, Bool.and_self, Bool.not_true, Bool.not_false, z_must_be_listed, b_must_be_listed, lt_i, h, c_MOST_LISTED, h4, sRaise]
/-- what is told of a palette -/
def LP (n : Nat) : List (List Int) := (stg n 6).filter Pl
theorem listed_ok {n : Nat} (hn : n ≤ 4) (g : List GO) : z_listed [.int n] g = .ok (.glb g.length) ⟨[], g ++ [.lst ((LP n).map tupD)]⟩ := by
  let P : D → Bool := fun d => match intsT d with
    | some vs => Pl vs
    | none => false
  have hP : ∀ vs, P (tupD vs) = Pl vs := fun vs => by
    show (match intsT (tupD vs) with | some vs => Pl vs | none => false) = _
    have : intsT (tupD vs) = some vs := intsOf_map vs
    rw [this]
  have z24 : sz2 tT.length 0 = true := by decide +kernel
  have hc : compGo (.nm 2) (bNot (bT (eCB fAny (aCons (eF (fComp (.nm 3) (itA (eVar 1)) (bYes) (eBin dLt (eCall 2 z_turned_by (aCons (eVar 2) (aCons (eVar 3) (aNil)))) (eVar 2)) [3])) (aNil))))) (eVar 2) [.v (.int n), .v (.lst tT), .un, .un] ((stg n 6).map tupD) ⟨[], g⟩ = .ok ((((stg n 6).map tupD).filter P).map fun d => d) ⟨[], g⟩ := by
    refine compGo_filt (f := fun d => d) (P := P) _ fun x hx => ?_
    obtain ⟨vs, hvs, rfl⟩ := List.mem_map.mp hx
    have hl := (stg_row n 6 vs hvs).1
    refine ⟨[.v (.int n), .v (.lst tT), .v (tupD vs), .un], rfl, ?_, rfl⟩
    have hi : compGo (.nm 3) bYes (eBin dLt (eCall 2 z_turned_by (aCons (eVar 2) (aCons (eVar 3) (aNil)))) (eVar 2)) [.v (.int n), .v (.lst tT), .v (tupD vs), .un] tT ⟨[], g⟩ = .ok (tT.map fun t => .bl (HT.lexLt (permI t vs) vs)) ⟨[], g⟩ := by
      refine compGo_map (f := fun t => .bl (HT.lexLt (permI t vs) vs)) tT fun t ht => ⟨[.v (.int n), .v (.lst tT), .v (tupD vs), .v t], rfl, rfl, ?_⟩
      have hb := byI ht hl g
      rw [← by_eq] at hb
      have hd := dLt_tup (permI t vs) vs ⟨[], g⟩
      simp only [eBin, eVar, slot, eCall, callF, aCons, aNil, List.getElem?_cons_succ, List.getElem?_cons_zero, bind_ok, hb, gd_t, List.length_cons, List.length_nil, Nat.beq, Nat.zero_add, Nat.reduceAdd, hd]
    have hbo := boolsOf_map (fun t => HT.lexLt (permI t vs) vs) tT
    have ai := any_id (fun t => HT.lexLt (permI t vs) vs) tT
    rw [hP]
    unfold Pl
    simp only [fnz, sNil, sSeq, sPass, sBrk, sCnt, sEx, sIf, sSet, sRet, sRetN, sAsgP, sAsg, sPar, sAug, sSetL, sFor, view, viewS, eVar, slot, eC, eBin, eUn, eIf, eAnd, eOr, eNot, isBl, eTup, eLst, aNil, aCons, sz1, eSl, oNo, oPart, eCB, eCall, eCallK, callF, pick, eIsi, fIsi, tyD, isiB, eF, eG, lF, fDisp, fCB, bT, bC, bNot, bAnd, bOr, tru, pTp, itemsG, psCons, psNil, pNm, pIxG, pIxL, atG, dAdd, dSub, dMul, dDiv, dMod, dNeg, dIx, ge_i, le_i, gt_i, dIAdd, fLen, fAbs, fMax2, fMin2, fInt, fBool, mulOk_a, mulOk_b, mulOk_c, mulOk_d, Int.reduceLT, Int.reduceLE, Nat.zero_le, Nat.reduceLeDiff, onL, isL, atL, eEqL_at, eWL, wL, hEq, hIn, hIx, eIxL_at, eInL_at, eLenL, eML, eMGo, nowG, mAppend, mPop, eLst, see, dEq, dNe, seqL, fListF, fSl, itR1, itR2, itA, sWh_at, List.getElem?_cons_zero, List.getElem?_cons_succ, List.getElem?_nil, Int.toNat_natCast, pow18, pow9, pow60, pow60_20, List.map_cons, List.map_nil, List.length_cons, List.length_nil, List.length_map, List.cons_append, List.nil_append, List.append_nil, List.replicate_succ, List.replicate_zero, List.set_cons_zero, List.set_cons_succ, List.set_nil, Nat.reduceAdd, Nat.reduceSub, Nat.zero_add, Nat.beq, Nat.sub_self, bind_ok, toS_ok, sure_ok, gd_t, nx_bind, ret_bind, brk_bind, cnt_bind, exc_bind, excF_bind, loop_nx, loop_ret, loop_brk, loop_cnt, String.reduceBEq, beq_self_eq_true, Bool.or_false, Bool.or_true, Bool.false_or, Bool.true_or, Bool.false_and, Bool.and_false, decide_true, decide_false, Bool.and_true, Bool.true_and, Bool.and_self, Bool.not_true, Bool.not_false, fComp, wipeR, z24, hi, fAny, hbo, ai]
  rw [List.map_id'] at hc
  have ef : ((stg n 6).map tupD).filter P = (LP n).map tupD := by
    have ec : (P ∘ tupD) = Pl := funext hP
    unfold LP
    rw [List.filter_map, ec]
  rw [ef] at hc
  have pb := pow_bd (n := n) (m := 6) hn (by omega)
  have z1 := sz_of (m := (stg n 6).length) (n := 0) (by rw [stg_len]; omega)
  simp only [fnz, sNil, sSeq, sPass, sBrk, sCnt, sEx, sIf, sSet, sRet, sRetN, sAsgP, sAsg, sPar, sAug, sSetL, sFor, view, viewS, eVar, slot, eC, eBin, eUn, eIf, eAnd, eOr, eNot, isBl, eTup, eLst, aNil, aCons, sz1, eSl, oNo, oPart, eCB, eCall, eCallK, callF, pick, eIsi, fIsi, tyD, isiB, eF, eG, lF, fDisp, fCB, bT, bC, bNot, bAnd, bOr, tru, pTp, itemsG, psCons, psNil, pNm, pIxG, pIxL, atG, dAdd, dSub, dMul, dDiv, dMod, dNeg, dIx, ge_i, le_i, gt_i, dIAdd, fLen, fAbs, fMax2, fMin2, fInt, fBool, mulOk_a, mulOk_b, mulOk_c, mulOk_d, Int.reduceLT, Int.reduceLE, Nat.zero_le, Nat.reduceLeDiff, onL, isL, atL, eEqL_at, eWL, wL, hEq, hIn, hIx, eIxL_at, eInL_at, eLenL, eML, eMGo, nowG, mAppend, mPop, eLst, see, dEq, dNe, seqL, fListF, fSl, itR1, itR2, itA, sWh_at, List.getElem?_cons_zero, List.getElem?_cons_succ, List.getElem?_nil, Int.toNat_natCast, pow18, pow9, pow60, pow60_20, List.map_cons, List.map_nil, List.length_cons, List.length_nil, List.length_map, List.cons_append, List.nil_append, List.append_nil, List.replicate_succ, List.replicate_zero, List.set_cons_zero, List.set_cons_succ, List.set_nil, Nat.reduceAdd, Nat.reduceSub, Nat.zero_add, Nat.beq, Nat.sub_self, bind_ok, toS_ok, sure_ok, gd_t, nx_bind, ret_bind, brk_bind, cnt_bind, exc_bind, excF_bind, loop_nx, loop_ret, loop_brk, loop_cnt, String.reduceBEq, beq_self_eq_true, Bool.or_false, Bool.or_true, Bool.false_or, Bool.true_or, Bool.false_and, Bool.and_false, decide_true, decide_false, Bool.and_true, Bool.true_and, Bool.and_self, Bool.not_true, Bool.not_false, z_listed, b_listed, all_turns, all_of_ok hn, fComp, wipeR, z1, hc]
theorem cubes_ok {n : Nat} (hn : n ≤ 4) (g : List GO) : z_all_cubes [.int n] g = .ok (.glb g.length) ⟨[], g ++ [.lst ((LP n).map tupD)]⟩ := by
  simp only [fnz, sNil, sSeq, sPass, sBrk, sCnt, sEx, sIf, sSet, sRet, sRetN, sAsgP, sAsg, sPar, sAug, sSetL, sFor, view, viewS, eVar, slot, eC, eBin, eUn, eIf, eAnd, eOr, eNot, isBl, eTup, eLst, aNil, aCons, sz1, eSl, oNo, oPart, eCB, eCall, eCallK, callF, pick, eIsi, fIsi, tyD, isiB, eF, eG, lF, fDisp, fCB, bT, bC, bNot, bAnd, bOr, tru, pTp, itemsG, psCons, psNil, pNm, pIxG, pIxL, atG, dAdd, dSub, dMul, dDiv, dMod, dNeg, dIx, ge_i, le_i, gt_i, dIAdd, fLen, fAbs, fMax2, fMin2, fInt, fBool, mulOk_a, mulOk_b, mulOk_c, mulOk_d, Int.reduceLT, Int.reduceLE, Nat.zero_le, Nat.reduceLeDiff, onL, isL, atL, eEqL_at, eWL, wL, hEq, hIn, hIx, eIxL_at, eInL_at, eLenL, eML, eMGo, nowG, mAppend, mPop, eLst, see, dEq, dNe, seqL, fListF, fSl, itR1, itR2, itA, sWh_at, List.getElem?_cons_zero, List.getElem?_cons_succ, List.getElem?_nil, Int.toNat_natCast, pow18, pow9, pow60, pow60_20, List.map_cons, List.map_nil, List.length_cons, List.length_nil, List.length_map, List.cons_append, List.nil_append, List.append_nil, List.replicate_succ, List.replicate_zero, List.set_cons_zero, List.set_cons_succ, List.set_nil, Nat.reduceAdd, Nat.reduceSub, Nat.zero_add, Nat.beq, Nat.sub_self, bind_ok, toS_ok, sure_ok, gd_t, nx_bind, ret_bind, brk_bind, cnt_bind, exc_bind, excF_bind, loop_nx, loop_ret, loop_brk, loop_cnt, String.reduceBEq, beq_self_eq_true, Bool.or_false, Bool.or_true, Bool.false_or, Bool.true_or, Bool.false_and, Bool.and_false, decide_true, decide_false, Bool.and_true, Bool.true_and, Bool.and_self, Bool.not_true, Bool.not_false, z_all_cubes, b_all_cubes, must_ok hn, listed_ok hn]
theorem cubes_no {n : Int} (hn : n < 0 ∨ 4 < n) (g : List GO) : z_all_cubes [.int n] g = .exc ⟨0, []⟩ ⟨[], g⟩ := by
  simp only [fnz, sNil, sSeq, sPass, sBrk, sCnt, sEx, sIf, sSet, sRet, sRetN, sAsgP, sAsg, sPar, sAug, sSetL, sFor, view, viewS, eVar, slot, eC, eBin, eUn, eIf, eAnd, eOr, eNot, isBl, eTup, eLst, aNil, aCons, sz1, eSl, oNo, oPart, eCB, eCall, eCallK, callF, pick, eIsi, fIsi, tyD, isiB, eF, eG, lF, fDisp, fCB, bT, bC, bNot, bAnd, bOr, tru, pTp, itemsG, psCons, psNil, pNm, pIxG, pIxL, atG, dAdd, dSub, dMul, dDiv, dMod, dNeg, dIx, ge_i, le_i, gt_i, dIAdd, fLen, fAbs, fMax2, fMin2, fInt, fBool, mulOk_a, mulOk_b, mulOk_c, mulOk_d, Int.reduceLT, Int.reduceLE, Nat.zero_le, Nat.reduceLeDiff, onL, isL, atL, eEqL_at, eWL, wL, hEq, hIn, hIx, eIxL_at, eInL_at, eLenL, eML, eMGo, nowG, mAppend, mPop, eLst, see, dEq, dNe, seqL, fListF, fSl, itR1, itR2, itA, sWh_at, List.getElem?_cons_zero, List.getElem?_cons_succ, List.getElem?_nil, Int.toNat_natCast, pow18, pow9, pow60, pow60_20, List.map_cons, List.map_nil, List.length_cons, List.length_nil, List.length_map, List.cons_append, List.nil_append, List.append_nil, List.replicate_succ, List.replicate_zero, List.set_cons_zero, List.set_cons_succ, List.set_nil, Nat.reduceAdd, Nat.reduceSub, Nat.zero_add, Nat.beq, Nat.sub_self, bind_ok, toS_ok, sure_ok, gd_t, nx_bind, ret_bind, brk_bind, cnt_bind, exc_bind, excF_bind, loop_nx, loop_ret, loop_brk, loop_cnt, String.reduceBEq, beq_self_eq_true, Bool.or_false, Bool.or_true, Bool.false_or, Bool.true_or, Bool.false_and, Bool.and_false, decide_true, decide_false, Bool.and_true, Bool.true_and, Bool.and_self, Bool.not_true, Bool.not_false, z_all_cubes, b_all_cubes, must_no hn, bind_exc, toS_exc]
end K43

namespace K43
open PySem L2 Z
theorem emp_ok (P : D → Bool) (s : S) : dEq (.lst (tT.filter P)) (.lst []) s = .ok (.bl (!(tT.any P))) s := by
  have h1 : shp (.lst (tT.filter P)) = true := shp_lst fun d hd => tT_sh d (List.mem_filter.mp hd).1
  have h2 : shp (.lst []) = true := by decide +kernel
  have h3 := eqD_nil (tT.filter P)
  have h4 : (tT.filter P).isEmpty = !(tT.any P) := by
    generalize tT = l
    induction l with
    | nil => rfl
    | cons d l ih =>
      rw [List.any_cons]
      cases h : P d with
      | true =>
        rw [List.filter_cons_of_pos h]
        rfl
      | false =>
        rw [List.filter_cons_of_neg (by rw [h]; exact Bool.false_ne_true), ih]
        rfl
  have e : dEq (.lst (tT.filter P)) (.lst []) s = gd (shp (.lst (tT.filter P)) && shp (.lst [])) (.ok (.bl (eqD (.lst (tT.filter P)) (.lst []))) s) := rfl
  rw [e, h1, h2, h3, h4]
  rfl
def t0 (t : D) : Nat := match t with
  | .tup (d :: _) => natOf d
  | _ => 0
theorem t0_ix {t : D} (ht : t ∈ tT) (s : S) : dIx t (.int 0) s = .ok (.int (t0 t)) s :=
  ones (lT := tT) (f := fun t => dIx t (.int 0) s) (g := fun t => .ok (.int (t0 t)) s) (by kernel_rfl) ht
theorem t0_lt {t : D} (ht : t ∈ tT) : t0 t < 6 ∧ ∃ t' ∈ tT, (idx t').head? = some (t0 t) := by
  have h : tT.map (fun t => decide (t0 t < 6) && tT.any fun t' => (idx t').head? == some (t0 t)) = tT.map fun _ => true := by kernel_rfl
  have := ones h ht
  rw [Bool.and_eq_true] at this
  obtain ⟨t', h1, h2⟩ := List.any_eq_true.mp this.2
  exact ⟨of_decide_eq_true this.1, t', h1, eq_of_beq h2⟩
theorem ix_tup {vs : List Int} (hl : vs.length = 6) {i : Nat} (hi : i < 6) (s : S) : dIx (tupD vs) (.int i) s = .ok (.int (vs.getD i 0)) s := by
  have hix : L2.ixN (vs.map D.int).length (i : Int) = some i := by
    unfold L2.ixN
    rw [if_pos (Int.natCast_nonneg i), if_pos (by rw [List.length_map]; omega)]
    rfl
  have hat : L2.atI (vs.map D.int) (i : Int) = some (.int (vs.getD i 0)) := by
    unfold L2.atI
    rw [hix]
    have : i < vs.length := by omega
    simp [this]
  show (match L2.atI (vs.map D.int) (i : Int) with
    | some x => R.ok x s
    | none => .bad) = _
  rw [hat]
/-- the first sides alone -/
def P1 (vs : List Int) (t : D) : Bool := decide (vs.getD (t0 t) 0 < vs.getD 0 0)
def P2 (vs : List Int) (t : D) : Bool := HT.lexLt (permI t vs) vs
theorem first_less {vs : List Int} (hl : vs.length = 6) (h : tT.any (P1 vs) = true) : tT.any (P2 vs) = true := by
  obtain ⟨t, ht, hp⟩ := List.any_eq_true.mp h
  obtain ⟨_, t', ht', hh⟩ := t0_lt ht
  refine List.any_eq_true.mpr ⟨t', ht', ?_⟩
  have hp : vs.getD (t0 t) 0 < vs.getD 0 0 := of_decide_eq_true hp
  unfold P2 permI
  cases hi : idx t' with
  | nil => rw [hi] at hh; cases hh
  | cons i r =>
    rw [hi] at hh
    cases hh
    cases vs with
    | nil => cases hl
    | cons x vs =>
      rw [List.map_cons, HT.lexLt_cons, if_neg (by
        intro z
        rw [z] at hp
        exact absurd hp (Int.lt_irrefl _))]
      exact decide_eq_true hp
def c1 : Ex := eBin dEq (eF (fComp (.nm 7) (itA (eVar 1)) (bC (eBin dLt (eBin dIx (eVar 5) (eBin dIx (eVar 7) (eC (.int 0)))) (eBin dIx (eVar 5) (eC (.int 0))))) (eVar 7) [7])) (eLst (aNil))
def c2 : Ex := eBin dEq (eF (fComp (.nm 7) (itA (eVar 1)) (bC (eBin dLt (eCall 2 z__law_turned (aCons (eVar 5) (aCons (eVar 7) (aNil)))) (eVar 5))) (eVar 7) [7])) (eLst (aNil))
def fB : Stm := sIf (bC c1) (sIf (bC c2) (sEx (onL 4 (eML 4 mAppend (aCons (eVar 5) (aNil))))) (sNil)) (sNil)
theorem lt_i (i j : Int) (s : S) : dLt (.int i) (.int j) s = .ok (.bl (decide (i < j))) s := rfl
theorem z24 : sz2 tT.length 0 = true := by decide +kernel
theorem bin_ok {op : D → D → S → R D} {f h : Ex} {ρ : Rho} {s1 s2 s3 : S} {a b : D} {r : R D} (h1 : f ρ s1 = .ok a s2) (h2 : h ρ s2 = .ok b s3) (h3 : op a b s3 = r) : eBin op f h ρ s1 = r := by
  unfold eBin
  rw [h1, bind_ok, h2, bind_ok]
  exact h3
theorem c1_ok {vs : List Int} (hl : vs.length = 6) {a0 a2 a3 a4 a6 : Sl} (s : S) : c1 [a0, .v (.lst tT), a2, a3, a4, .v (tupD vs), a6, .un, .un] s = .ok (.bl (!(tT.any (P1 vs)))) s := by
  have hc : compGo (.nm 7) (bC (eBin dLt (eBin dIx (eVar 5) (eBin dIx (eVar 7) (eC (.int 0)))) (eBin dIx (eVar 5) (eC (.int 0))))) (eVar 7) [a0, .v (.lst tT), a2, a3, a4, .v (tupD vs), a6, .un, .un] tT s = .ok ((tT.filter (P1 vs)).map fun d => d) s := by
    refine compGo_filt (f := fun d => d) (P := P1 vs) tT fun t ht => ⟨[a0, .v (.lst tT), a2, a3, a4, .v (tupD vs), a6, .v t, .un], rfl, ?_, rfl⟩
    have e1 := t0_ix ht s
    have e2 := ix_tup hl (t0_lt ht).1 s
    have e3 : dIx (tupD vs) (.int 0) s = .ok (.int (vs.getD 0 0)) s := ix_tup hl (i := 0) (by decide) s
    simp only [bC, eBin, eVar, slot, eC, List.getElem?_cons_succ, List.getElem?_cons_zero, bind_ok, e1, e2, e3, lt_i]
    rfl
  rw [List.map_id'] at hc
  have he := emp_ok (P1 vs) s
  have e0 : (eF (fComp (.nm 7) (itA (eVar 1)) (bC (eBin dLt (eBin dIx (eVar 5) (eBin dIx (eVar 7) (eC (.int 0)))) (eBin dIx (eVar 5) (eC (.int 0))))) (eVar 7) [7])) [a0, .v (.lst tT), a2, a3, a4, .v (tupD vs), a6, .un, .un] s = .ok (.lst (tT.filter (P1 vs))) s := by
    simp only [fnz, sNil, sSeq, sPass, sBrk, sCnt, sEx, sIf, sSet, sRet, sRetN, sAsgP, sAsg, sPar, sAug, sSetL, sFor, view, viewS, eVar, slot, eC, eBin, eUn, eIf, eAnd, eOr, eNot, isBl, eTup, eLst, aNil, aCons, sz1, eSl, oNo, oPart, eCB, eCall, eCallK, callF, pick, eIsi, fIsi, tyD, isiB, eF, eG, lF, fDisp, fCB, bT, bC, bNot, bAnd, bOr, tru, pTp, itemsG, psCons, psNil, pNm, pIxG, pIxL, atG, dAdd, dSub, dMul, dDiv, dMod, dNeg, dIx, ge_i, le_i, gt_i, dIAdd, fLen, fAbs, fMax2, fMin2, fInt, fBool, mulOk_a, mulOk_b, mulOk_c, mulOk_d, Int.reduceLT, Int.reduceLE, Nat.zero_le, Nat.reduceLeDiff, onL, isL, atL, eEqL_at, eWL, wL, hEq, hIn, hIx, eIxL_at, eInL_at, eLenL, eML, eMGo, nowG, mAppend, mPop, eLst, see, dEq, dNe, seqL, fListF, fSl, itR1, itR2, itA, sWh_at, List.getElem?_cons_zero, List.getElem?_cons_succ, List.getElem?_nil, Int.toNat_natCast, pow18, pow9, pow60, pow60_20, List.map_cons, List.map_nil, List.length_cons, List.length_nil, List.length_map, List.cons_append, List.nil_append, List.append_nil, List.replicate_succ, List.replicate_zero, List.set_cons_zero, List.set_cons_succ, List.set_nil, Nat.reduceAdd, Nat.reduceSub, Nat.zero_add, Nat.beq, Nat.sub_self, bind_ok, toS_ok, sure_ok, gd_t, nx_bind, ret_bind, brk_bind, cnt_bind, exc_bind, excF_bind, loop_nx, loop_ret, loop_brk, loop_cnt, String.reduceBEq, beq_self_eq_true, Bool.or_false, Bool.or_true, Bool.false_or, Bool.true_or, Bool.false_and, Bool.and_false, decide_true, decide_false, Bool.and_true, Bool.true_and, Bool.and_self, Bool.not_true, Bool.not_false, fComp, wipeR, z24, hc]
  have e1 : (eLst (aNil)) [a0, .v (.lst tT), a2, a3, a4, .v (tupD vs), a6, .un, .un] s = .ok (.lst []) s := rfl
  exact bin_ok e0 e1 he
theorem c2_ok {vs : List Int} (hl : vs.length = 6) {a0 a2 a3 a4 a6 : Sl} {ll : List LO} (g : List GO) : c2 [a0, .v (.lst tT), a2, a3, a4, .v (tupD vs), a6, .un, .un] ⟨ll, g⟩ = .ok (.bl (!(tT.any (P2 vs)))) ⟨ll, g⟩ := by
  have hc : compGo (.nm 7) (bC (eBin dLt (eCall 2 z__law_turned (aCons (eVar 5) (aCons (eVar 7) (aNil)))) (eVar 5))) (eVar 7) [a0, .v (.lst tT), a2, a3, a4, .v (tupD vs), a6, .un, .un] tT ⟨ll, g⟩ = .ok ((tT.filter (P2 vs)).map fun d => d) ⟨ll, g⟩ := by
    refine compGo_filt (f := fun d => d) (P := P2 vs) tT fun t ht => ⟨[a0, .v (.lst tT), a2, a3, a4, .v (tupD vs), a6, .v t, .un], rfl, ?_, rfl⟩
    have e1 := turnedI ht hl g
    have e2 := dLt_tup (permI t vs) vs ⟨ll, g⟩
    simp only [bC, eBin, eVar, slot, eCall, callF, aCons, aNil, List.getElem?_cons_succ, List.getElem?_cons_zero, bind_ok, e1, gd_t, List.length_cons, List.length_nil, Nat.beq, Nat.zero_add, Nat.reduceAdd, e2]
    rfl
  rw [List.map_id'] at hc
  have he := emp_ok (P2 vs) ⟨ll, g⟩
  have e0 : (eF (fComp (.nm 7) (itA (eVar 1)) (bC (eBin dLt (eCall 2 z__law_turned (aCons (eVar 5) (aCons (eVar 7) (aNil)))) (eVar 5))) (eVar 7) [7])) [a0, .v (.lst tT), a2, a3, a4, .v (tupD vs), a6, .un, .un] ⟨ll, g⟩ = .ok (.lst (tT.filter (P2 vs))) ⟨ll, g⟩ := by
    simp only [fnz, sNil, sSeq, sPass, sBrk, sCnt, sEx, sIf, sSet, sRet, sRetN, sAsgP, sAsg, sPar, sAug, sSetL, sFor, view, viewS, eVar, slot, eC, eBin, eUn, eIf, eAnd, eOr, eNot, isBl, eTup, eLst, aNil, aCons, sz1, eSl, oNo, oPart, eCB, eCall, eCallK, callF, pick, eIsi, fIsi, tyD, isiB, eF, eG, lF, fDisp, fCB, bT, bC, bNot, bAnd, bOr, tru, pTp, itemsG, psCons, psNil, pNm, pIxG, pIxL, atG, dAdd, dSub, dMul, dDiv, dMod, dNeg, dIx, ge_i, le_i, gt_i, dIAdd, fLen, fAbs, fMax2, fMin2, fInt, fBool, mulOk_a, mulOk_b, mulOk_c, mulOk_d, Int.reduceLT, Int.reduceLE, Nat.zero_le, Nat.reduceLeDiff, onL, isL, atL, eEqL_at, eWL, wL, hEq, hIn, hIx, eIxL_at, eInL_at, eLenL, eML, eMGo, nowG, mAppend, mPop, eLst, see, dEq, dNe, seqL, fListF, fSl, itR1, itR2, itA, sWh_at, List.getElem?_cons_zero, List.getElem?_cons_succ, List.getElem?_nil, Int.toNat_natCast, pow18, pow9, pow60, pow60_20, List.map_cons, List.map_nil, List.length_cons, List.length_nil, List.length_map, List.cons_append, List.nil_append, List.append_nil, List.replicate_succ, List.replicate_zero, List.set_cons_zero, List.set_cons_succ, List.set_nil, Nat.reduceAdd, Nat.reduceSub, Nat.zero_add, Nat.beq, Nat.sub_self, bind_ok, toS_ok, sure_ok, gd_t, nx_bind, ret_bind, brk_bind, cnt_bind, exc_bind, excF_bind, loop_nx, loop_ret, loop_brk, loop_cnt, String.reduceBEq, beq_self_eq_true, Bool.or_false, Bool.or_true, Bool.false_or, Bool.true_or, Bool.false_and, Bool.and_false, decide_true, decide_false, Bool.and_true, Bool.true_and, Bool.and_self, Bool.not_true, Bool.not_false, fComp, wipeR, z24, hc]
  have e1 : (eLst (aNil)) [a0, .v (.lst tT), a2, a3, a4, .v (tupD vs), a6, .un, .un] ⟨ll, g⟩ = .ok (.lst []) ⟨ll, g⟩ := rfl
  exact bin_ok e0 e1 he
theorem fB_ok {vs : List Int} (hl : vs.length = 6) {a0 a2 a3 a6 : Sl} {k : Nat} {dd : List LO} (hk : dd.length = k) {acc : List D} (ha : acc.length ≤ 100000) (g : List GO) :
    fB [a0, .v (.lst tT), a2, a3, .l k, .v (tupD vs), a6, .un, .un] ⟨dd ++ [.lst acc], g⟩ = .nx [a0, .v (.lst tT), a2, a3, .l k, .v (tupD vs), a6, .un, .un] ⟨dd ++ [.lst (acc ++ (if Pl vs then [tupD vs] else []))], g⟩ := by
  have e1 := c1_ok hl (a0 := a0) (a2 := a2) (a3 := a3) (a4 := .l k) (a6 := a6) ⟨dd ++ [.lst acc], g⟩
  have e2 := c2_ok hl (a0 := a0) (a2 := a2) (a3 := a3) (a4 := .l k) (a6 := a6) (ll := dd ++ [.lst acc]) g
  have hat : (dd ++ [LO.lst acc])[k]? = some (.lst acc) := by
    rw [List.getElem?_append_right (by omega), hk, Nat.sub_self]
    rfl
  have hset : (dd ++ [LO.lst acc]).set k (.lst (acc ++ [tupD vs])) = dd ++ [.lst (acc ++ [tupD vs])] := by
    rw [List.set_append_right _ _ (by omega), hk, Nat.sub_self]
    rfl
  have z2 := sz_of (m := acc.length) (n := 1) (by omega)
  have hPl : Pl vs = !(tT.any (P2 vs)) := rfl
  have fl := first_less hl
  have bCe : ∀ (f : Ex) (ρ : Rho) (s s' : S) (b : Bool), f ρ s = .ok (.bl b) s' → bC f ρ s = .ok b s' := fun f ρ s s' b h => by
    unfold bC
    rw [h]
    rfl
  have f1 := bCe _ _ _ _ _ e1
  have f2 := bCe _ _ _ _ _ e2
  cases h2 : tT.any (P2 vs) with
  | true =>
    rw [hPl, h2]
    have er : acc ++ (if (!true) = true then [tupD vs] else []) = acc := by simp
    rw [er]
    cases h1 : tT.any (P1 vs) with
    | true =>
      rw [h1] at f1
      exact (if_f f1).trans rfl
    | false =>
      rw [h1] at f1
      rw [h2] at f2
      unfold fB sIf
      rw [f1, toS_ok]
      show (bC c2 _ _).toS _ _ = _
      rw [f2]
      rfl
  | false =>
    have h1 : tT.any (P1 vs) = false := by
      cases h : tT.any (P1 vs) with
      | false => rfl
      | true => rw [fl h] at h2; cases h2
    rw [h1] at f1
    rw [h2] at f2
    rw [hPl, h2]
    have er : acc ++ (if (!false) = true then [tupD vs] else []) = acc ++ [tupD vs] := by simp
    rw [er]
    have ex : sEx (onL 4 (eML 4 mAppend (aCons (eVar 5) (aNil)))) [a0, .v (.lst tT), a2, a3, .l k, .v (tupD vs), a6, .un, .un] ⟨dd ++ [.lst acc], g⟩ = .nx [a0, .v (.lst tT), a2, a3, .l k, .v (tupD vs), a6, .un, .un] ⟨dd ++ [.lst (acc ++ [tupD vs])], g⟩ := by
      simp only [fnz, sNil, sSeq, sPass, sBrk, sCnt, sEx, sIf, sSet, sRet, sRetN, sAsgP, sAsg, sPar, sAug, sSetL, sFor, view, viewS, eVar, slot, eC, eBin, eUn, eIf, eAnd, eOr, eNot, isBl, eTup, eLst, aNil, aCons, sz1, eSl, oNo, oPart, eCB, eCall, eCallK, callF, pick, eIsi, fIsi, tyD, isiB, eF, eG, lF, fDisp, fCB, bT, bC, bNot, bAnd, bOr, tru, pTp, itemsG, psCons, psNil, pNm, pIxG, pIxL, atG, dAdd, dSub, dMul, dDiv, dMod, dNeg, dIx, ge_i, le_i, gt_i, dIAdd, fLen, fAbs, fMax2, fMin2, fInt, fBool, mulOk_a, mulOk_b, mulOk_c, mulOk_d, Int.reduceLT, Int.reduceLE, Nat.zero_le, Nat.reduceLeDiff, onL, isL, atL, eEqL_at, eWL, wL, hEq, hIn, hIx, eIxL_at, eInL_at, eLenL, eML, eMGo, nowG, mAppend, mPop, eLst, see, dEq, dNe, seqL, fListF, fSl, itR1, itR2, itA, sWh_at, List.getElem?_cons_zero, List.getElem?_cons_succ, List.getElem?_nil, Int.toNat_natCast, pow18, pow9, pow60, pow60_20, List.map_cons, List.map_nil, List.length_cons, List.length_nil, List.length_map, List.cons_append, List.nil_append, List.append_nil, List.replicate_succ, List.replicate_zero, List.set_cons_zero, List.set_cons_succ, List.set_nil, Nat.reduceAdd, Nat.reduceSub, Nat.zero_add, Nat.beq, Nat.sub_self, bind_ok, toS_ok, sure_ok, gd_t, nx_bind, ret_bind, brk_bind, cnt_bind, exc_bind, excF_bind, loop_nx, loop_ret, loop_brk, loop_cnt, String.reduceBEq, beq_self_eq_true, Bool.or_false, Bool.or_true, Bool.false_or, Bool.true_or, Bool.false_and, Bool.and_false, decide_true, decide_false, Bool.and_true, Bool.true_and, Bool.and_self, Bool.not_true, Bool.not_false, hat, z2, hset]
    unfold fB sIf
    rw [f1, toS_ok]
    show (bC c2 _ _).toS _ _ = _
    rw [f2]
    exact ex
theorem fl_eq (v : List Int) (l : List (List Int)) : (if Pl v then [tupD v] else []) ++ (l.filter Pl).map tupD = ((v :: l).filter Pl).map tupD := by
  cases h : Pl v with
  | true => rw [List.filter_cons_of_pos h]; rfl
  | false => rw [List.filter_cons_of_neg (by rw [h]; exact Bool.false_ne_true)]; rfl
theorem fgo {a0 a2 a3 a6 : Sl} {k : Nat} {dd : List LO} (hk : dd.length = k) (g : List GO) (l : List (List Int)) : ∀ (acc : List D) (x5 : Sl), (∀ v ∈ l, v.length = 6) → acc.length + l.length ≤ 100000 →
    ∃ y5, forGo (.nm 5) fB (l.map tupD) [a0, .v (.lst tT), a2, a3, .l k, x5, a6, .un, .un] ⟨dd ++ [.lst acc], g⟩ = .nx [a0, .v (.lst tT), a2, a3, .l k, y5, a6, .un, .un] ⟨dd ++ [.lst (acc ++ (l.filter Pl).map tupD)], g⟩ := by
  induction l with
  | nil => exact fun acc x5 _ _ => ⟨x5, by simp [forGo]⟩
  | cons v l ih =>
    intro acc x5 hl hb
    rw [List.length_cons] at hb
    obtain ⟨y5, e⟩ := ih (acc ++ (if Pl v then [tupD v] else [])) (.v (tupD v)) (fun u hu => hl u (List.mem_cons_of_mem _ hu)) (by
      rw [List.length_append]
      split <;> simp <;> omega)
    refine ⟨y5, ?_⟩
    have f1 := fB_ok (hl v (List.mem_cons_self ..)) hk (a0 := a0) (a2 := a2) (a3 := a3) (a6 := a6) (acc := acc) (by omega) g
    have ea : (Tg.nm 5).put (tupD v) [a0, .v (.lst tT), a2, a3, .l k, x5, a6, .un, .un] = some [a0, .v (.lst tT), a2, a3, .l k, .v (tupD v), a6, .un, .un] := rfl
    rw [List.map_cons, forGo, ea]
    dsimp only
    rw [f1, loop_nx, e, List.append_assoc, fl_eq]
theorem due_ok {n : Nat} (hn : n ≤ 4) (g : List GO) : z__law_due [.int n] g = .ok (.lst ((LP n).map tupD)) ⟨[], g⟩ := by
  let I : Nat → Rho → S → Prop := fun m ρ s => ∃ x3 x5 x6, NL x3 ∧ NL x5 ∧ NL x6 ∧ ρ = [.v (.int n), .v (.lst tT), .v (.lst ((stg n m).map tupD)), x3, .un, x5, x6, .un, .un] ∧ s = ⟨List.replicate m .dead, g⟩
  obtain ⟨ρ', s', e, x3, x5, x6, _, h5, _, rfl, rfl⟩ := for_ind (T := .nm 3) (b := dO) I (rngD 0 6) 0 [.v (.int n), .v (.lst tT), .v (.lst ((stg n 0).map tupD)), .un, .un, .un, .un, .un, .un] ⟨[], g⟩ (by
    rintro m w hw ρ s ⟨x3, x5, x6, h3, h5, h6, rfl, rfl⟩
    have hm : m < 6 := by
      have := (List.getElem?_eq_some_iff.mp hw).1
      simpa [rngD] using this
    have pb := pow_bd (n := n) (m := m + 1) hn (by omega)
    obtain ⟨y6, y5, k6, k5, e⟩ := dO_ok (n := n) (by omega) (a1 := .v (.lst tT)) (x3 := .v w) (x4 := x6) (x5 := x5) (nl_v _) (nl_v _) h5 (dd := List.replicate (0 + m) .dead) (l := stg n (0 + m)) (fun v hv => by
      have := (stg_row n (0 + m) v hv).1
      omega) (by rw [stg_len, Nat.zero_add, ← Nat.pow_succ]; exact Nat.le_trans pb (by decide)) g
    refine ⟨_, rfl, _, _, e, .v w, y5, y6, nl_v _, k5, k6, rfl, ?_⟩
    rw [List.replicate_succ']) ⟨.un, .un, .un, nl_un, nl_un, nl_un, rfl, rfl⟩
  have pb := pow_bd (n := n) (m := 6) hn (by omega)
  obtain ⟨y5, e2⟩ := fgo (a0 := .v (.int n)) (a2 := .v (.lst ((stg n 6).map tupD))) (a3 := x3) (a6 := x6) (k := 6) (dd := List.replicate 6 .dead) rfl g (stg n 6) [] x5 (fun v hv => (stg_row n 6 v hv).1) (by rw [stg_len]; show 0 + n ^ 6 ≤ _; omega)
  rw [List.nil_append] at e2
  have hB : b__law_due = sSeq (sSet 1 (eCall 0 z__law_turns aNil)) (sSeq (sSet 2 (eLst (aCons (eTup (aNil)) (aNil)))) (sSeq (sFor (.nm 3) (itR1 (aCons (eC (.int 6)) (aNil))) dO) (sSeq (sSetL 4 (lF (fDisp (aNil)))) (sSeq (sFor (.nm 5) (itA (eVar 2)) fB) (sRet (eVar 4)))))) := rfl
  have q : b__law_due [.v (.int n), .un, .un, .un, .un, .un, .un, .un, .un] ⟨[], g⟩ = .ret (.lst ((LP n).map tupD)) ⟨[], g⟩ := by
    rw [hB]
    refine (seq_nx (ρ1 := [.v (.int n), .v (.lst tT), .un, .un, .un, .un, .un, .un, .un]) (s1 := ⟨[], g⟩) (by simp only [fnz, sNil, sSeq, sPass, sBrk, sCnt, sEx, sIf, sSet, sRet, sRetN, sAsgP, sAsg, sPar, sAug, sSetL, sFor, view, viewS, eVar, slot, eC, eBin, eUn, eIf, eAnd, eOr, eNot, isBl, eTup, eLst, aNil, aCons, sz1, eSl, oNo, oPart, eCB, eCall, eCallK, callF, pick, eIsi, fIsi, tyD, isiB, eF, eG, lF, fDisp, fCB, bT, bC, bNot, bAnd, bOr, tru, pTp, itemsG, psCons, psNil, pNm, pIxG, pIxL, atG, dAdd, dSub, dMul, dDiv, dMod, dNeg, dIx, ge_i, le_i, gt_i, dIAdd, fLen, fAbs, fMax2, fMin2, fInt, fBool, mulOk_a, mulOk_b, mulOk_c, mulOk_d, Int.reduceLT, Int.reduceLE, Nat.zero_le, Nat.reduceLeDiff, onL, isL, atL, eEqL_at, eWL, wL, hEq, hIn, hIx, eIxL_at, eInL_at, eLenL, eML, eMGo, nowG, mAppend, mPop, eLst, see, dEq, dNe, seqL, fListF, fSl, itR1, itR2, itA, sWh_at, List.getElem?_cons_zero, List.getElem?_cons_succ, List.getElem?_nil, Int.toNat_natCast, pow18, pow9, pow60, pow60_20, List.map_cons, List.map_nil, List.length_cons, List.length_nil, List.length_map, List.cons_append, List.nil_append, List.append_nil, List.replicate_succ, List.replicate_zero, List.set_cons_zero, List.set_cons_succ, List.set_nil, Nat.reduceAdd, Nat.reduceSub, Nat.zero_add, Nat.beq, Nat.sub_self, bind_ok, toS_ok, sure_ok, gd_t, nx_bind, ret_bind, brk_bind, cnt_bind, exc_bind, excF_bind, loop_nx, loop_ret, loop_brk, loop_cnt, String.reduceBEq, beq_self_eq_true, Bool.or_false, Bool.or_true, Bool.false_or, Bool.true_or, Bool.false_and, Bool.and_false, decide_true, decide_false, Bool.and_true, Bool.true_and, Bool.and_self, Bool.not_true, Bool.not_false, turns_ok])).trans ?_
    refine (seq_nx (ρ1 := [.v (.int n), .v (.lst tT), .v (.lst ((stg n 0).map tupD)), .un, .un, .un, .un, .un, .un]) (s1 := ⟨[], g⟩) (by simp only [fnz, sNil, sSeq, sPass, sBrk, sCnt, sEx, sIf, sSet, sRet, sRetN, sAsgP, sAsg, sPar, sAug, sSetL, sFor, view, viewS, eVar, slot, eC, eBin, eUn, eIf, eAnd, eOr, eNot, isBl, eTup, eLst, aNil, aCons, sz1, eSl, oNo, oPart, eCB, eCall, eCallK, callF, pick, eIsi, fIsi, tyD, isiB, eF, eG, lF, fDisp, fCB, bT, bC, bNot, bAnd, bOr, tru, pTp, itemsG, psCons, psNil, pNm, pIxG, pIxL, atG, dAdd, dSub, dMul, dDiv, dMod, dNeg, dIx, ge_i, le_i, gt_i, dIAdd, fLen, fAbs, fMax2, fMin2, fInt, fBool, mulOk_a, mulOk_b, mulOk_c, mulOk_d, Int.reduceLT, Int.reduceLE, Nat.zero_le, Nat.reduceLeDiff, onL, isL, atL, eEqL_at, eWL, wL, hEq, hIn, hIx, eIxL_at, eInL_at, eLenL, eML, eMGo, nowG, mAppend, mPop, eLst, see, dEq, dNe, seqL, fListF, fSl, itR1, itR2, itA, sWh_at, List.getElem?_cons_zero, List.getElem?_cons_succ, List.getElem?_nil, Int.toNat_natCast, pow18, pow9, pow60, pow60_20, List.map_cons, List.map_nil, List.length_cons, List.length_nil, List.length_map, List.cons_append, List.nil_append, List.append_nil, List.replicate_succ, List.replicate_zero, List.set_cons_zero, List.set_cons_succ, List.set_nil, Nat.reduceAdd, Nat.reduceSub, Nat.zero_add, Nat.beq, Nat.sub_self, bind_ok, toS_ok, sure_ok, gd_t, nx_bind, ret_bind, brk_bind, cnt_bind, exc_bind, excF_bind, loop_nx, loop_ret, loop_brk, loop_cnt, String.reduceBEq, beq_self_eq_true, Bool.or_false, Bool.or_true, Bool.false_or, Bool.true_or, Bool.false_and, Bool.and_false, decide_true, decide_false, Bool.and_true, Bool.true_and, Bool.and_self, Bool.not_true, Bool.not_false, (rfl : decide (1 ≤ 16777216) = true), (rfl : decide (0 ≤ 16777216) = true)]; rfl)).trans ?_
    refine (seq_nx (ρ1 := [.v (.int n), .v (.lst tT), .v (.lst ((stg n 6).map tupD)), x3, .un, x5, x6, .un, .un]) (s1 := ⟨List.replicate 6 .dead, g⟩) ?_).trans ?_
    · have ei : itR1 (aCons (eC (.int 6)) (aNil)) [.v (.int n), .v (.lst tT), .v (.lst ((stg n 0).map tupD)), .un, .un, .un, .un, .un, .un] ⟨[], g⟩ = .ok (rngD 0 6) ⟨[], g⟩ := rfl
      unfold sFor
      rw [ei, toS_ok]
      exact e
    refine (seq_nx (ρ1 := [.v (.int n), .v (.lst tT), .v (.lst ((stg n 6).map tupD)), x3, .l 6, x5, x6, .un, .un]) (s1 := ⟨List.replicate 6 .dead ++ [.lst []], g⟩) (by simp only [fnz, sNil, sSeq, sPass, sBrk, sCnt, sEx, sIf, sSet, sRet, sRetN, sAsgP, sAsg, sPar, sAug, sSetL, sFor, view, viewS, eVar, slot, eC, eBin, eUn, eIf, eAnd, eOr, eNot, isBl, eTup, eLst, aNil, aCons, sz1, eSl, oNo, oPart, eCB, eCall, eCallK, callF, pick, eIsi, fIsi, tyD, isiB, eF, eG, lF, fDisp, fCB, bT, bC, bNot, bAnd, bOr, tru, pTp, itemsG, psCons, psNil, pNm, pIxG, pIxL, atG, dAdd, dSub, dMul, dDiv, dMod, dNeg, dIx, ge_i, le_i, gt_i, dIAdd, fLen, fAbs, fMax2, fMin2, fInt, fBool, mulOk_a, mulOk_b, mulOk_c, mulOk_d, Int.reduceLT, Int.reduceLE, Nat.zero_le, Nat.reduceLeDiff, onL, isL, atL, eEqL_at, eWL, wL, hEq, hIn, hIx, eIxL_at, eInL_at, eLenL, eML, eMGo, nowG, mAppend, mPop, eLst, see, dEq, dNe, seqL, fListF, fSl, itR1, itR2, itA, sWh_at, List.getElem?_cons_zero, List.getElem?_cons_succ, List.getElem?_nil, Int.toNat_natCast, pow18, pow9, pow60, pow60_20, List.map_cons, List.map_nil, List.length_cons, List.length_nil, List.length_map, List.cons_append, List.nil_append, List.append_nil, List.replicate_succ, List.replicate_zero, List.set_cons_zero, List.set_cons_succ, List.set_nil, Nat.reduceAdd, Nat.reduceSub, Nat.zero_add, Nat.beq, Nat.sub_self, bind_ok, toS_ok, sure_ok, gd_t, nx_bind, ret_bind, brk_bind, cnt_bind, exc_bind, excF_bind, loop_nx, loop_ret, loop_brk, loop_cnt, String.reduceBEq, beq_self_eq_true, Bool.or_false, Bool.or_true, Bool.false_or, Bool.true_or, Bool.false_and, Bool.and_false, decide_true, decide_false, Bool.and_true, Bool.true_and, Bool.and_self, Bool.not_true, Bool.not_false]; rfl)).trans ?_
    refine (seq_nx (ρ1 := [.v (.int n), .v (.lst tT), .v (.lst ((stg n 6).map tupD)), x3, .l 6, y5, x6, .un, .un]) (s1 := ⟨List.replicate 6 .dead ++ [.lst ((LP n).map tupD)], g⟩) ?_).trans ?_
    · have ei : itA (eVar 2) [.v (.int n), .v (.lst tT), .v (.lst ((stg n 6).map tupD)), x3, .l 6, x5, x6, .un, .un] ⟨List.replicate 6 .dead ++ [.lst []], g⟩ = .ok ((stg n 6).map tupD) ⟨List.replicate 6 .dead ++ [.lst []], g⟩ := rfl
      unfold sFor
      rw [ei, toS_ok]
      exact e2
    · rfl
  simp only [fnz, sNil, sSeq, sPass, sBrk, sCnt, sEx, sIf, sSet, sRet, sRetN, sAsgP, sAsg, sPar, sAug, sSetL, sFor, view, viewS, eVar, slot, eC, eBin, eUn, eIf, eAnd, eOr, eNot, isBl, eTup, eLst, aNil, aCons, sz1, eSl, oNo, oPart, eCB, eCall, eCallK, callF, pick, eIsi, fIsi, tyD, isiB, eF, eG, lF, fDisp, fCB, bT, bC, bNot, bAnd, bOr, tru, pTp, itemsG, psCons, psNil, pNm, pIxG, pIxL, atG, dAdd, dSub, dMul, dDiv, dMod, dNeg, dIx, ge_i, le_i, gt_i, dIAdd, fLen, fAbs, fMax2, fMin2, fInt, fBool, mulOk_a, mulOk_b, mulOk_c, mulOk_d, Int.reduceLT, Int.reduceLE, Nat.zero_le, Nat.reduceLeDiff, onL, isL, atL, eEqL_at, eWL, wL, hEq, hIn, hIx, eIxL_at, eInL_at, eLenL, eML, eMGo, nowG, mAppend, mPop, eLst, see, dEq, dNe, seqL, fListF, fSl, itR1, itR2, itA, sWh_at, List.getElem?_cons_zero, List.getElem?_cons_succ, List.getElem?_nil, Int.toNat_natCast, pow18, pow9, pow60, pow60_20, List.map_cons, List.map_nil, List.length_cons, List.length_nil, List.length_map, List.cons_append, List.nil_append, List.append_nil, List.replicate_succ, List.replicate_zero, List.set_cons_zero, List.set_cons_succ, List.set_nil, Nat.reduceAdd, Nat.reduceSub, Nat.zero_add, Nat.beq, Nat.sub_self, bind_ok, toS_ok, sure_ok, gd_t, nx_bind, ret_bind, brk_bind, cnt_bind, exc_bind, excF_bind, loop_nx, loop_ret, loop_brk, loop_cnt, String.reduceBEq, beq_self_eq_true, Bool.or_false, Bool.or_true, Bool.false_or, Bool.true_or, Bool.false_and, Bool.and_false, decide_true, decide_false, Bool.and_true, Bool.true_and, Bool.and_self, Bool.not_true, Bool.not_false, z__law_due, q]
end K43

namespace K43
open PySem L2 Z
theorem ne_int (i j : Int) (s : S) : dNe (.int i) (.int j) s = .ok (.bl (!decide (i = j))) s := rfl
theorem pow20 (s : S) : dPow (.int 10) (.int 20) s = .ok (.int (10 ^ 20)) s := by
  unfold dPow
  simp only
  rw [gd_of (by decide)]
  rfl
theorem ne_glb {g : List GO} {n : Nat} {L : List (List Int)} {ll : List LO} (h : g[n]? = some (.lst (L.map tupD))) : dNe (.glb n) (.lst (L.map tupD)) ⟨ll, g⟩ = .ok (.bl false) ⟨ll, g⟩ := by
  have h1 := rows_shp L
  have h2 := eqD_rows L
  have e0 : see ⟨ll, g⟩ (.glb n) = .lst (L.map tupD) := by
    unfold see
    simp only [h]
  have e : dNe (.glb n) (.lst (L.map tupD)) ⟨ll, g⟩ = gd (shp (see ⟨ll, g⟩ (.glb n)) && shp (.lst (L.map tupD))) (.ok (.bl (!eqD (see ⟨ll, g⟩ (.glb n)) (.lst (L.map tupD)))) ⟨ll, g⟩) := rfl
  rw [e, e0, h1, h2]
  rfl
theorem eq_glb {g : List GO} {n m : Nat} {L : List (List Int)} {ll : List LO} (h : g[n]? = some (.lst (L.map tupD))) (h' : g[m]? = some (.lst (L.map tupD))) : dEq (.glb n) (.glb m) ⟨ll, g⟩ = .ok (.bl true) ⟨ll, g⟩ := by
  have h1 := rows_shp L
  have h2 := eqD_rows L
  have e0 : see ⟨ll, g⟩ (.glb n) = .lst (L.map tupD) := by
    unfold see
    simp only [h]
  have e1 : see ⟨ll, g⟩ (.glb m) = .lst (L.map tupD) := by
    unfold see
    simp only [h']
  have e : dEq (.glb n) (.glb m) ⟨ll, g⟩ = gd (shp (see ⟨ll, g⟩ (.glb n)) && shp (see ⟨ll, g⟩ (.glb m))) (.ok (.bl (eqD (see ⟨ll, g⟩ (.glb n)) (see ⟨ll, g⟩ (.glb m)))) ⟨ll, g⟩) := rfl
  rw [e, e0, e1, h1, h2]
  rfl
theorem goW_none {look : S → Option (List D)} {T : Tg} {p : Bx} {e : Ex} {ρ : Rho} {s : S} {l : List D} (hlook : look s = some l) (hz : sz2 l.length 0 = true) (hp : ∀ d ∈ l, ∃ ρ', T.put d ρ = some ρ' ∧ p ρ' s = .ok false s) :
    ∀ (k i : Nat), l.length - i < k → compGoW look T p e ρ k i s = .ok [] s
  | 0, i, h => absurd h (by omega)
  | k + 1, i, h => by
    rw [compGoW, hlook]
    simp only [hz, gd_t]
    cases hi : l[i]? with
    | none => rfl
    | some d =>
      obtain ⟨hlt, hd⟩ := List.getElem?_eq_some_iff.mp hi
      obtain ⟨ρ', e1, e2⟩ := hp d (hd ▸ List.getElem_mem hlt)
      simp only [e1, e2, bind_ok]
      exact goW_none hlook hz hp k (i + 1) (by omega)
theorem bC_ok {f : Ex} {ρ : Rho} {s s' : S} {b : Bool} (h : f ρ s = .ok (.bl b) s') : bC f ρ s = .ok b s' := by
  unfold bC
  rw [h]
  rfl
theorem bOr_ff {f h : Bx} {ρ : Rho} {s s1 : S} (h1 : f ρ s = .ok false s1) : bOr f h ρ s = h ρ s1 := by
  unfold bOr
  rw [h1]
  rfl
theorem names0 (g : List GO) : z__law_names_of [.xcp 0 []] g = .ok (.lst [.str "NoPalette"]) ⟨[], g⟩ := by kernel_rfl
theorem refused_ok {n : Int} (h0 : n < 0 ∨ 4 < n) (g : List GO) : z__law_refused [.int n] g = .ok (.bl true) ⟨[], g⟩ := by
  have e : decide (2 < 3) = true := rfl
  have hq : q_CubeError 0 = true := rfl
  have hp : p_ValueError 0 = true := rfl
  have zz : decide (1 ≤ 16777216) = true := rfl
  have he : eqD (.lst [.str "NoPalette"]) (.lst [.str "NoPalette"]) = true := by kernel_rfl
  have hs : shp (.lst [.str "NoPalette"]) = true := by kernel_rfl
  simp only [fnz, sNil, sSeq, sPass, sBrk, sCnt, sEx, sIf, sSet, sRet, sRetN, sAsgP, sAsg, sPar, sAug, sSetL, sFor, view, viewS, eVar, slot, eC, eBin, eUn, eIf, eAnd, eOr, eNot, isBl, eTup, eLst, aNil, aCons, sz1, eSl, oNo, oPart, eCB, eCall, eCallK, callF, pick, eIsi, fIsi, tyD, isiB, eF, eG, lF, fDisp, fCB, bT, bC, bNot, bAnd, bOr, tru, pTp, itemsG, psCons, psNil, pNm, pIxG, pIxL, atG, dAdd, dSub, dMul, dDiv, dMod, dNeg, dIx, ge_i, le_i, gt_i, dIAdd, fLen, fAbs, fMax2, fMin2, fInt, fBool, mulOk_a, mulOk_b, mulOk_c, mulOk_d, Int.reduceLT, Int.reduceLE, Nat.zero_le, Nat.reduceLeDiff, onL, isL, atL, eEqL_at, eWL, wL, hEq, hIn, hIx, eIxL_at, eInL_at, eLenL, eML, eMGo, nowG, mAppend, mPop, eLst, see, dEq, dNe, seqL, fListF, fSl, itR1, itR2, itA, sWh_at, List.getElem?_cons_zero, List.getElem?_cons_succ, List.getElem?_nil, Int.toNat_natCast, pow18, pow9, pow60, pow60_20, List.map_cons, List.map_nil, List.length_cons, List.length_nil, List.length_map, List.cons_append, List.nil_append, List.append_nil, List.replicate_succ, List.replicate_zero, List.set_cons_zero, List.set_cons_succ, List.set_nil, Nat.reduceAdd, Nat.reduceSub, Nat.zero_add, Nat.beq, Nat.sub_self, bind_ok, toS_ok, sure_ok, gd_t, nx_bind, ret_bind, brk_bind, cnt_bind, exc_bind, excF_bind, loop_nx, loop_ret, loop_brk, loop_cnt, String.reduceBEq, beq_self_eq_true, Bool.or_false, Bool.or_true, Bool.false_or, Bool.true_or, Bool.false_and, Bool.and_false, decide_true, decide_false, Bool.and_true, Bool.true_and, Bool.and_self, Bool.not_true, Bool.not_false, z__law_refused, b__law_refused, sTry, cubes_no h0 g, toS_exc, bind_exc, e, hq, eIsX, hp, names0 g, zz, dEq, see, hs, he]
theorem LP_len {n : Nat} (hn : n ≤ 4) : (LP n).length ≤ 4096 := by
  have h := pow_bd (n := n) (m := 6) hn (by omega)
  rw [← stg_len] at h
  unfold LP
  exact Nat.le_trans (List.length_filter_le ..) h
theorem LP_row {n : Nat} : ∀ v ∈ LP n, v.length = 6 := fun v hv => (stg_row n 6 v (List.mem_filter.mp hv).1).1
def s1 : Stm := sSet 4 (eCall 1 z__law_due (aCons (eVar 2) (aNil)))
def s2 : Stm := sSet 5 (eCallK 1 0 z_all_cubes [0] [(.int 2)] (aCons (eVar 2) (aNil)) (aNil))
def s3 : Stm := sIf (bOr (bNot (bT (eIsiS "list" (eVar 5)))) (bC (eBin dNe (eVar 5) (eVar 4)))) (sRet (eC (.bl false))) (sNil)
def pW : Bx := bOr (bNot (bT (eIsiS "tuple" (eVar 6)))) (bNot (bT (eCall 1 z__law_whole (aCons (eBin dIx (eVar 6) (eC (.int 0))) (aNil)))))
def cW : Ex := eBin dNe (eF (fCompG 5000 5 (.nm 6) pW (eVar 6) [6])) (eLst (aNil))
def s4 : Stm := sIf (bC cW) (sRet (eC (.bl false))) (sNil)
def s5 : Stm := sEx (nowG (eVar 5) (eMGo mAppend (aCons (eC (.int 7)) (aNil))))
def s6 : Stm := sIf (bC (eBin dNe (eCallK 0 1 z_all_cubes [0] [(.int 2)] aNil (aCons (eVar 2) (aNil))) (eVar 4))) (sRet (eC (.bl false))) (sNil)
def bA : Stm := sSeq s1 (sSeq s2 (sSeq s3 (sSeq s4 (sSeq s5 s6))))
theorem pW_ok {v : List Int} (hv : v.length = 6) {a0 a1 a2 a3 a4 a5 : Sl} (g : List GO) : pW [a0, a1, a2, a3, a4, a5, .v (tupD v)] ⟨[], g⟩ = .ok false ⟨[], g⟩ := by
  have e0 := ix_tup hv (i := 0) (by decide) ⟨[], g⟩
  have q3 := num_ok (d := .int (v.getD 0 0)) ⟨_, rfl⟩ g
  rw [← whole_eq] at q3
  have q4 : isI (.int (v.getD 0 0)) = true := rfl
  rw [q4] at q3
  have ty : eIsiS "tuple" (eVar 6) [a0, a1, a2, a3, a4, a5, .v (tupD v)] ⟨[], g⟩ = .ok (.bl true) ⟨[], g⟩ := rfl
  have e1 : eBin dIx (eVar 6) (eC (.int 0)) [a0, a1, a2, a3, a4, a5, .v (tupD v)] ⟨[], g⟩ = .ok (.int (v.getD 0 0)) ⟨[], g⟩ := e0
  have f1 : bNot (bT (eIsiS "tuple" (eVar 6))) [a0, a1, a2, a3, a4, a5, .v (tupD v)] ⟨[], g⟩ = .ok false ⟨[], g⟩ := by
    unfold bNot bT
    rw [ty]
    rfl
  have c1 : eCall 1 z__law_whole (aCons (eBin dIx (eVar 6) (eC (.int 0))) (aNil)) [a0, a1, a2, a3, a4, a5, .v (tupD v)] ⟨[], g⟩ = .ok (.bl true) ⟨[], g⟩ := by
    unfold eCall aCons
    rw [e1, bind_ok]
    simp only [fnz, sNil, sSeq, sPass, sBrk, sCnt, sEx, sIf, sSet, sRet, sRetN, sAsgP, sAsg, sPar, sAug, sSetL, sFor, view, viewS, eVar, slot, eC, eBin, eUn, eIf, eAnd, eOr, eNot, isBl, eTup, eLst, aNil, aCons, sz1, eSl, oNo, oPart, eCB, eCall, eCallK, callF, pick, eIsi, fIsi, tyD, isiB, eF, eG, lF, fDisp, fCB, bT, bC, bNot, bAnd, bOr, tru, pTp, itemsG, psCons, psNil, pNm, pIxG, pIxL, atG, dAdd, dSub, dMul, dDiv, dMod, dNeg, dIx, ge_i, le_i, gt_i, dIAdd, fLen, fAbs, fMax2, fMin2, fInt, fBool, mulOk_a, mulOk_b, mulOk_c, mulOk_d, Int.reduceLT, Int.reduceLE, Nat.zero_le, Nat.reduceLeDiff, onL, isL, atL, eEqL_at, eWL, wL, hEq, hIn, hIx, eIxL_at, eInL_at, eLenL, eML, eMGo, nowG, mAppend, mPop, eLst, see, dEq, dNe, seqL, fListF, fSl, itR1, itR2, itA, sWh_at, List.getElem?_cons_zero, List.getElem?_cons_succ, List.getElem?_nil, Int.toNat_natCast, pow18, pow9, pow60, pow60_20, List.map_cons, List.map_nil, List.length_cons, List.length_nil, List.length_map, List.cons_append, List.nil_append, List.append_nil, List.replicate_succ, List.replicate_zero, List.set_cons_zero, List.set_cons_succ, List.set_nil, Nat.reduceAdd, Nat.reduceSub, Nat.zero_add, Nat.beq, Nat.sub_self, bind_ok, toS_ok, sure_ok, gd_t, nx_bind, ret_bind, brk_bind, cnt_bind, exc_bind, excF_bind, loop_nx, loop_ret, loop_brk, loop_cnt, String.reduceBEq, beq_self_eq_true, Bool.or_false, Bool.or_true, Bool.false_or, Bool.true_or, Bool.false_and, Bool.and_false, decide_true, decide_false, Bool.and_true, Bool.true_and, Bool.and_self, Bool.not_true, Bool.not_false, q3]
  unfold pW
  rw [bOr_ff f1]
  unfold bNot bT
  rw [c1]
  rfl
theorem cW_ok {L : List (List Int)} (hL : ∀ v ∈ L, v.length = 6) (hb : L.length ≤ 4096) {a0 a1 a2 a3 a4 : Sl} {g : List GO} {n : Nat} (h : g[n]? = some (.lst (L.map tupD))) :
    cW [a0, a1, a2, a3, a4, .v (.glb n), .un] ⟨[], g⟩ = .ok (.bl false) ⟨[], g⟩ := by
  have hlook : lookG (.glb n) ⟨[], g⟩ = some (L.map tupD) := by
    unfold lookG atG
    simp only [h]
  have hg := goW_none (look := lookG (.glb n)) (T := .nm 6) (p := pW) (e := eVar 6) (ρ := [a0, a1, a2, a3, a4, .v (.glb n), .un]) (s := ⟨[], g⟩) (l := L.map tupD) hlook (sz_of (by rw [List.length_map]; omega)) (fun d hd => by
    obtain ⟨v, hv, rfl⟩ := List.mem_map.mp hd
    exact ⟨[a0, a1, a2, a3, a4, .v (.glb n), .v (tupD v)], rfl, pW_ok (hL v hv) g⟩) 5000 0 (by rw [List.length_map]; omega)
  have e0 : eF (fCompG 5000 5 (.nm 6) pW (eVar 6) [6]) [a0, a1, a2, a3, a4, .v (.glb n), .un] ⟨[], g⟩ = .ok (.lst []) ⟨[], g⟩ := by
    have e1 : wipeR [a0, a1, a2, a3, a4, .v (.glb n), .un] [6] = [a0, a1, a2, a3, a4, .v (.glb n), .un] := rfl
    have e2 : slot [a0, a1, a2, a3, a4, .v (.glb n), .un] 5 = .v (.glb n) := rfl
    unfold eF fCompG
    simp only [e1, e2, hlook]
    rw [hg]
    rfl
  have e1 : (eLst (aNil)) [a0, a1, a2, a3, a4, .v (.glb n), .un] ⟨[], g⟩ = .ok (.lst []) ⟨[], g⟩ := rfl
  have e2 : dNe (.lst []) (.lst []) ⟨[], g⟩ = .ok (.bl false) ⟨[], g⟩ := by kernel_rfl
  exact bin_ok e0 e1 e2
end K43

namespace K43
open PySem L2 Z
theorem if_ff {c : Bx} {a b : Stm} {ρ : Rho} {s s' : S} (h : c ρ s = .ok false s') : sIf c a b ρ s = b ρ s' := by
  unfold sIf
  rw [h]
  rfl
theorem bA_ok {L : List (List Int)} {n : Int} (hL : ∀ v ∈ L, v.length = 6) (hb : L.length ≤ 4096) (hdue : ∀ g, z__law_due [.int n] g = .ok (.lst (L.map tupD)) ⟨[], g⟩)
    (hcub : ∀ g : List GO, z_all_cubes [.int n] g = .ok (.glb g.length) ⟨[], g ++ [.lst (L.map tupD)]⟩) {a0 a1 a3 a4 a5 : Sl} (g : List GO) :
    ∃ g', bA [a0, a1, .v (.int n), a3, a4, a5, .un] ⟨[], g⟩ = .nx [a0, a1, .v (.int n), a3, .v (.lst (L.map tupD)), .v (.glb g.length), .un] ⟨[], g'⟩ := by
  obtain ⟨X, hX⟩ : ∃ X : List D, X = L.map tupD := ⟨_, rfl⟩
  obtain ⟨g1, hg1⟩ : ∃ g1 : List GO, g1 = g ++ [.lst X] := ⟨_, rfl⟩
  have at1 : g1[g.length]? = some (.lst X) := by
    rw [hg1, List.getElem?_append_right (Nat.le_refl _), Nat.sub_self]
    rfl
  obtain ⟨g2, hg2⟩ : ∃ g2 : List GO, g2 = g1.set g.length (.lst (X ++ [.int 7])) := ⟨_, rfl⟩
  obtain ⟨g3, hg3⟩ : ∃ g3 : List GO, g3 = g2 ++ [.lst X] := ⟨_, rfl⟩
  have at3 : g3[g2.length]? = some (.lst X) := by
    rw [hg3, List.getElem?_append_right (Nat.le_refl _), Nat.sub_self]
    rfl
  have hd := hdue g
  have hc := hcub g
  have hc2 := hcub g2
  rw [← hX] at hd hc hc2
  rw [← hg1] at hc
  rw [← hg3] at hc2
  have z1 := sz_of (m := X.length) (n := 1) (by rw [hX, List.length_map]; omega)
  have q1 : s1 [a0, a1, .v (.int n), a3, a4, a5, .un] ⟨[], g⟩ = .nx [a0, a1, .v (.int n), a3, .v (.lst X), a5, .un] ⟨[], g⟩ := by simp only [fnz, sNil, sSeq, sPass, sBrk, sCnt, sEx, sIf, sSet, sRet, sRetN, sAsgP, sAsg, sPar, sAug, sSetL, sFor, view, viewS, eVar, slot, eC, eBin, eUn, eIf, eAnd, eOr, eNot, isBl, eTup, eLst, aNil, aCons, sz1, eSl, oNo, oPart, eCB, eCall, eCallK, callF, pick, eIsi, fIsi, tyD, isiB, eF, eG, lF, fDisp, fCB, bT, bC, bNot, bAnd, bOr, tru, pTp, itemsG, psCons, psNil, pNm, pIxG, pIxL, atG, dAdd, dSub, dMul, dDiv, dMod, dNeg, dIx, ge_i, le_i, gt_i, dIAdd, fLen, fAbs, fMax2, fMin2, fInt, fBool, mulOk_a, mulOk_b, mulOk_c, mulOk_d, Int.reduceLT, Int.reduceLE, Nat.zero_le, Nat.reduceLeDiff, onL, isL, atL, eEqL_at, eWL, wL, hEq, hIn, hIx, eIxL_at, eInL_at, eLenL, eML, eMGo, nowG, mAppend, mPop, eLst, see, dEq, dNe, seqL, fListF, fSl, itR1, itR2, itA, sWh_at, List.getElem?_cons_zero, List.getElem?_cons_succ, List.getElem?_nil, Int.toNat_natCast, pow18, pow9, pow60, pow60_20, List.map_cons, List.map_nil, List.length_cons, List.length_nil, List.length_map, List.cons_append, List.nil_append, List.append_nil, List.replicate_succ, List.replicate_zero, List.set_cons_zero, List.set_cons_succ, List.set_nil, Nat.reduceAdd, Nat.reduceSub, Nat.zero_add, Nat.beq, Nat.sub_self, bind_ok, toS_ok, sure_ok, gd_t, nx_bind, ret_bind, brk_bind, cnt_bind, exc_bind, excF_bind, loop_nx, loop_ret, loop_brk, loop_cnt, String.reduceBEq, beq_self_eq_true, Bool.or_false, Bool.or_true, Bool.false_or, Bool.true_or, Bool.false_and, Bool.and_false, decide_true, decide_false, Bool.and_true, Bool.true_and, Bool.and_self, Bool.not_true, Bool.not_false, s1, hd]
  have q2 : s2 [a0, a1, .v (.int n), a3, .v (.lst X), a5, .un] ⟨[], g⟩ = .nx [a0, a1, .v (.int n), a3, .v (.lst X), .v (.glb g.length), .un] ⟨[], g1⟩ := by simp only [fnz, sNil, sSeq, sPass, sBrk, sCnt, sEx, sIf, sSet, sRet, sRetN, sAsgP, sAsg, sPar, sAug, sSetL, sFor, view, viewS, eVar, slot, eC, eBin, eUn, eIf, eAnd, eOr, eNot, isBl, eTup, eLst, aNil, aCons, sz1, eSl, oNo, oPart, eCB, eCall, eCallK, callF, pick, eIsi, fIsi, tyD, isiB, eF, eG, lF, fDisp, fCB, bT, bC, bNot, bAnd, bOr, tru, pTp, itemsG, psCons, psNil, pNm, pIxG, pIxL, atG, dAdd, dSub, dMul, dDiv, dMod, dNeg, dIx, ge_i, le_i, gt_i, dIAdd, fLen, fAbs, fMax2, fMin2, fInt, fBool, mulOk_a, mulOk_b, mulOk_c, mulOk_d, Int.reduceLT, Int.reduceLE, Nat.zero_le, Nat.reduceLeDiff, onL, isL, atL, eEqL_at, eWL, wL, hEq, hIn, hIx, eIxL_at, eInL_at, eLenL, eML, eMGo, nowG, mAppend, mPop, eLst, see, dEq, dNe, seqL, fListF, fSl, itR1, itR2, itA, sWh_at, List.getElem?_cons_zero, List.getElem?_cons_succ, List.getElem?_nil, Int.toNat_natCast, pow18, pow9, pow60, pow60_20, List.map_cons, List.map_nil, List.length_cons, List.length_nil, List.length_map, List.cons_append, List.nil_append, List.append_nil, List.replicate_succ, List.replicate_zero, List.set_cons_zero, List.set_cons_succ, List.set_nil, Nat.reduceAdd, Nat.reduceSub, Nat.zero_add, Nat.beq, Nat.sub_self, bind_ok, toS_ok, sure_ok, gd_t, nx_bind, ret_bind, brk_bind, cnt_bind, exc_bind, excF_bind, loop_nx, loop_ret, loop_brk, loop_cnt, String.reduceBEq, beq_self_eq_true, Bool.or_false, Bool.or_true, Bool.false_or, Bool.true_or, Bool.false_and, Bool.and_false, decide_true, decide_false, Bool.and_true, Bool.true_and, Bool.and_self, Bool.not_true, Bool.not_false, s2, hc]
  have ty : eIsiS "list" (eVar 5) [a0, a1, .v (.int n), a3, .v (.lst X), .v (.glb g.length), .un] ⟨[], g1⟩ = .ok (.bl true) ⟨[], g1⟩ := by
    have e : tyS ⟨[], g1⟩ (.glb g.length) = some "list" := by
      unfold tyS
      simp only [at1]
    simp only [fnz, sNil, sSeq, sPass, sBrk, sCnt, sEx, sIf, sSet, sRet, sRetN, sAsgP, sAsg, sPar, sAug, sSetL, sFor, view, viewS, eVar, slot, eC, eBin, eUn, eIf, eAnd, eOr, eNot, isBl, eTup, eLst, aNil, aCons, sz1, eSl, oNo, oPart, eCB, eCall, eCallK, callF, pick, eIsi, fIsi, tyD, isiB, eF, eG, lF, fDisp, fCB, bT, bC, bNot, bAnd, bOr, tru, pTp, itemsG, psCons, psNil, pNm, pIxG, pIxL, atG, dAdd, dSub, dMul, dDiv, dMod, dNeg, dIx, ge_i, le_i, gt_i, dIAdd, fLen, fAbs, fMax2, fMin2, fInt, fBool, mulOk_a, mulOk_b, mulOk_c, mulOk_d, Int.reduceLT, Int.reduceLE, Nat.zero_le, Nat.reduceLeDiff, onL, isL, atL, eEqL_at, eWL, wL, hEq, hIn, hIx, eIxL_at, eInL_at, eLenL, eML, eMGo, nowG, mAppend, mPop, eLst, see, dEq, dNe, seqL, fListF, fSl, itR1, itR2, itA, sWh_at, List.getElem?_cons_zero, List.getElem?_cons_succ, List.getElem?_nil, Int.toNat_natCast, pow18, pow9, pow60, pow60_20, List.map_cons, List.map_nil, List.length_cons, List.length_nil, List.length_map, List.cons_append, List.nil_append, List.append_nil, List.replicate_succ, List.replicate_zero, List.set_cons_zero, List.set_cons_succ, List.set_nil, Nat.reduceAdd, Nat.reduceSub, Nat.zero_add, Nat.beq, Nat.sub_self, bind_ok, toS_ok, sure_ok, gd_t, nx_bind, ret_bind, brk_bind, cnt_bind, exc_bind, excF_bind, loop_nx, loop_ret, loop_brk, loop_cnt, String.reduceBEq, beq_self_eq_true, Bool.or_false, Bool.or_true, Bool.false_or, Bool.true_or, Bool.false_and, Bool.and_false, decide_true, decide_false, Bool.and_true, Bool.true_and, Bool.and_self, Bool.not_true, Bool.not_false, eIsiS, e]
  have t1 : bNot (bT (eIsiS "list" (eVar 5))) [a0, a1, .v (.int n), a3, .v (.lst X), .v (.glb g.length), .un] ⟨[], g1⟩ = .ok false ⟨[], g1⟩ := by
    unfold bNot bT
    rw [ty]
    rfl
  have v5 : eVar 5 [a0, a1, .v (.int n), a3, .v (.lst X), .v (.glb g.length), .un] ⟨[], g1⟩ = .ok (.glb g.length) ⟨[], g1⟩ := rfl
  have v4 : ∀ g : List GO, ∀ d, eVar 4 [a0, a1, .v (.int n), a3, .v (.lst X), .v d, .un] ⟨[], g⟩ = .ok (.lst X) ⟨[], g⟩ := fun _ _ => rfl
  have n1 : dNe (.glb g.length) (.lst X) ⟨[], g1⟩ = .ok (.bl false) ⟨[], g1⟩ := by
    rw [hX] at at1 ⊢
    exact ne_glb at1
  have t2 : bC (eBin dNe (eVar 5) (eVar 4)) [a0, a1, .v (.int n), a3, .v (.lst X), .v (.glb g.length), .un] ⟨[], g1⟩ = .ok false ⟨[], g1⟩ := bC_ok (bin_ok v5 (v4 _ _) n1)
  have q3 : s3 [a0, a1, .v (.int n), a3, .v (.lst X), .v (.glb g.length), .un] ⟨[], g1⟩ = .nx [a0, a1, .v (.int n), a3, .v (.lst X), .v (.glb g.length), .un] ⟨[], g1⟩ :=
    (if_ff ((bOr_ff t1).trans t2)).trans rfl
  have q4 : s4 [a0, a1, .v (.int n), a3, .v (.lst X), .v (.glb g.length), .un] ⟨[], g1⟩ = .nx [a0, a1, .v (.int n), a3, .v (.lst X), .v (.glb g.length), .un] ⟨[], g1⟩ :=
    (if_ff (bC_ok (cW_ok hL hb (hX ▸ at1)))).trans rfl
  have q5 : s5 [a0, a1, .v (.int n), a3, .v (.lst X), .v (.glb g.length), .un] ⟨[], g1⟩ = .nx [a0, a1, .v (.int n), a3, .v (.lst X), .v (.glb g.length), .un] ⟨[], g2⟩ := by
    simp only [fnz, sNil, sSeq, sPass, sBrk, sCnt, sEx, sIf, sSet, sRet, sRetN, sAsgP, sAsg, sPar, sAug, sSetL, sFor, view, viewS, eVar, slot, eC, eBin, eUn, eIf, eAnd, eOr, eNot, isBl, eTup, eLst, aNil, aCons, sz1, eSl, oNo, oPart, eCB, eCall, eCallK, callF, pick, eIsi, fIsi, tyD, isiB, eF, eG, lF, fDisp, fCB, bT, bC, bNot, bAnd, bOr, tru, pTp, itemsG, psCons, psNil, pNm, pIxG, pIxL, atG, dAdd, dSub, dMul, dDiv, dMod, dNeg, dIx, ge_i, le_i, gt_i, dIAdd, fLen, fAbs, fMax2, fMin2, fInt, fBool, mulOk_a, mulOk_b, mulOk_c, mulOk_d, Int.reduceLT, Int.reduceLE, Nat.zero_le, Nat.reduceLeDiff, onL, isL, atL, eEqL_at, eWL, wL, hEq, hIn, hIx, eIxL_at, eInL_at, eLenL, eML, eMGo, nowG, mAppend, mPop, eLst, see, dEq, dNe, seqL, fListF, fSl, itR1, itR2, itA, sWh_at, List.getElem?_cons_zero, List.getElem?_cons_succ, List.getElem?_nil, Int.toNat_natCast, pow18, pow9, pow60, pow60_20, List.map_cons, List.map_nil, List.length_cons, List.length_nil, List.length_map, List.cons_append, List.nil_append, List.append_nil, List.replicate_succ, List.replicate_zero, List.set_cons_zero, List.set_cons_succ, List.set_nil, Nat.reduceAdd, Nat.reduceSub, Nat.zero_add, Nat.beq, Nat.sub_self, bind_ok, toS_ok, sure_ok, gd_t, nx_bind, ret_bind, brk_bind, cnt_bind, exc_bind, excF_bind, loop_nx, loop_ret, loop_brk, loop_cnt, String.reduceBEq, beq_self_eq_true, Bool.or_false, Bool.or_true, Bool.false_or, Bool.true_or, Bool.false_and, Bool.and_false, decide_true, decide_false, Bool.and_true, Bool.true_and, Bool.and_self, Bool.not_true, Bool.not_false, s5, at1, z1, ← hg2]
  have c6 : eCallK 0 1 z_all_cubes [0] [(.int 2)] aNil (aCons (eVar 2) (aNil)) [a0, a1, .v (.int n), a3, .v (.lst X), .v (.glb g.length), .un] ⟨[], g2⟩ = .ok (.glb g2.length) ⟨[], g3⟩ := by
    simp only [fnz, sNil, sSeq, sPass, sBrk, sCnt, sEx, sIf, sSet, sRet, sRetN, sAsgP, sAsg, sPar, sAug, sSetL, sFor, view, viewS, eVar, slot, eC, eBin, eUn, eIf, eAnd, eOr, eNot, isBl, eTup, eLst, aNil, aCons, sz1, eSl, oNo, oPart, eCB, eCall, eCallK, callF, pick, eIsi, fIsi, tyD, isiB, eF, eG, lF, fDisp, fCB, bT, bC, bNot, bAnd, bOr, tru, pTp, itemsG, psCons, psNil, pNm, pIxG, pIxL, atG, dAdd, dSub, dMul, dDiv, dMod, dNeg, dIx, ge_i, le_i, gt_i, dIAdd, fLen, fAbs, fMax2, fMin2, fInt, fBool, mulOk_a, mulOk_b, mulOk_c, mulOk_d, Int.reduceLT, Int.reduceLE, Nat.zero_le, Nat.reduceLeDiff, onL, isL, atL, eEqL_at, eWL, wL, hEq, hIn, hIx, eIxL_at, eInL_at, eLenL, eML, eMGo, nowG, mAppend, mPop, eLst, see, dEq, dNe, seqL, fListF, fSl, itR1, itR2, itA, sWh_at, List.getElem?_cons_zero, List.getElem?_cons_succ, List.getElem?_nil, Int.toNat_natCast, pow18, pow9, pow60, pow60_20, List.map_cons, List.map_nil, List.length_cons, List.length_nil, List.length_map, List.cons_append, List.nil_append, List.append_nil, List.replicate_succ, List.replicate_zero, List.set_cons_zero, List.set_cons_succ, List.set_nil, Nat.reduceAdd, Nat.reduceSub, Nat.zero_add, Nat.beq, Nat.sub_self, bind_ok, toS_ok, sure_ok, gd_t, nx_bind, ret_bind, brk_bind, cnt_bind, exc_bind, excF_bind, loop_nx, loop_ret, loop_brk, loop_cnt, String.reduceBEq, beq_self_eq_true, Bool.or_false, Bool.or_true, Bool.false_or, Bool.true_or, Bool.false_and, Bool.and_false, decide_true, decide_false, Bool.and_true, Bool.true_and, Bool.and_self, Bool.not_true, Bool.not_false, hc2]
  have n2 : dNe (.glb g2.length) (.lst X) ⟨[], g3⟩ = .ok (.bl false) ⟨[], g3⟩ := by
    rw [hX] at at3 ⊢
    exact ne_glb at3
  have q6 : s6 [a0, a1, .v (.int n), a3, .v (.lst X), .v (.glb g.length), .un] ⟨[], g2⟩ = .nx [a0, a1, .v (.int n), a3, .v (.lst X), .v (.glb g.length), .un] ⟨[], g3⟩ :=
    (if_ff (bC_ok (bin_ok c6 (v4 _ _) n2))).trans rfl
  rw [← hX]
  refine ⟨g3, ?_⟩
  unfold bA
  exact (seq_nx q1).trans ((seq_nx q2).trans ((seq_nx q3).trans ((seq_nx q4).trans ((seq_nx q5).trans q6))))
def bB : Stm := sIf (bNot (bT (eCall 1 z__law_refused (aCons (eVar 3) (aNil))))) (sRet (eC (.bl false))) (sNil)
theorem bB_ok {a0 a1 a2 a4 a5 : Sl} {n : Int} (h0 : n < 0 ∨ 4 < n) (g : List GO) : bB [a0, a1, a2, .v (.int n), a4, a5, .un] ⟨[], g⟩ = .nx [a0, a1, a2, .v (.int n), a4, a5, .un] ⟨[], g⟩ := by
  simp only [fnz, sNil, sSeq, sPass, sBrk, sCnt, sEx, sIf, sSet, sRet, sRetN, sAsgP, sAsg, sPar, sAug, sSetL, sFor, view, viewS, eVar, slot, eC, eBin, eUn, eIf, eAnd, eOr, eNot, isBl, eTup, eLst, aNil, aCons, sz1, eSl, oNo, oPart, eCB, eCall, eCallK, callF, pick, eIsi, fIsi, tyD, isiB, eF, eG, lF, fDisp, fCB, bT, bC, bNot, bAnd, bOr, tru, pTp, itemsG, psCons, psNil, pNm, pIxG, pIxL, atG, dAdd, dSub, dMul, dDiv, dMod, dNeg, dIx, ge_i, le_i, gt_i, dIAdd, fLen, fAbs, fMax2, fMin2, fInt, fBool, mulOk_a, mulOk_b, mulOk_c, mulOk_d, Int.reduceLT, Int.reduceLE, Nat.zero_le, Nat.reduceLeDiff, onL, isL, atL, eEqL_at, eWL, wL, hEq, hIn, hIx, eIxL_at, eInL_at, eLenL, eML, eMGo, nowG, mAppend, mPop, eLst, see, dEq, dNe, seqL, fListF, fSl, itR1, itR2, itA, sWh_at, List.getElem?_cons_zero, List.getElem?_cons_succ, List.getElem?_nil, Int.toNat_natCast, pow18, pow9, pow60, pow60_20, List.map_cons, List.map_nil, List.length_cons, List.length_nil, List.length_map, List.cons_append, List.nil_append, List.append_nil, List.replicate_succ, List.replicate_zero, List.set_cons_zero, List.set_cons_succ, List.set_nil, Nat.reduceAdd, Nat.reduceSub, Nat.zero_add, Nat.beq, Nat.sub_self, bind_ok, toS_ok, sure_ok, gd_t, nx_bind, ret_bind, brk_bind, cnt_bind, exc_bind, excF_bind, loop_nx, loop_ret, loop_brk, loop_cnt, String.reduceBEq, beq_self_eq_true, Bool.or_false, Bool.or_true, Bool.false_or, Bool.true_or, Bool.false_and, Bool.and_false, decide_true, decide_false, Bool.and_true, Bool.true_and, Bool.and_self, Bool.not_true, Bool.not_false, bB, refused_ok h0 g]
theorem forB {a0 a1 a2 a4 a5 : Sl} {g : List GO} : ∀ (ns : List Int) (x3 : Sl), (∀ n ∈ ns, n < 0 ∨ 4 < n) →
    ∃ y3, forGo (.nm 3) bB (ns.map D.int) [a0, a1, a2, x3, a4, a5, .un] ⟨[], g⟩ = .nx [a0, a1, a2, y3, a4, a5, .un] ⟨[], g⟩
  | [], x3, _ => ⟨x3, rfl⟩
  | n :: ns, x3, h => by
    obtain ⟨z3, e2⟩ := forB ns (.v (.int n)) fun m hm => h m (List.mem_cons_of_mem _ hm)
    refine ⟨z3, ?_⟩
    rw [List.map_cons, forGo]
    show ((bB [a0, a1, a2, .v (.int n), a4, a5, .un] ⟨[], g⟩).loop _) = _
    rw [bB_ok (h n (List.mem_cons_self ..)), loop_nx]
    exact e2
theorem forA {a0 a1 a3 : Sl} : ∀ (ns : List Nat) (x2 a4 a5 : Sl) (g : List GO), (∀ n ∈ ns, n ≤ 4) →
    ∃ y2 y4 y5 g', forGo (.nm 2) bA (ns.map fun n : Nat => D.int n) [a0, a1, x2, a3, a4, a5, .un] ⟨[], g⟩ = .nx [a0, a1, y2, a3, y4, y5, .un] ⟨[], g'⟩
  | [], x2, a4, a5, g, _ => ⟨x2, a4, a5, g, rfl⟩
  | n :: ns, x2, a4, a5, g, h => by
    have hn := h n (List.mem_cons_self ..)
    obtain ⟨g1, e1⟩ := bA_ok (L := LP n) (n := n) LP_row (LP_len hn) (due_ok hn) (cubes_ok hn) (a0 := a0) (a1 := a1) (a3 := a3) (a4 := a4) (a5 := a5) g
    obtain ⟨y2, y4, y5, g', e2⟩ := forA ns (.v (.int n)) (.v (.lst ((LP n).map tupD))) (.v (.glb g.length)) g1 fun m hm => h m (List.mem_cons_of_mem _ hm)
    refine ⟨y2, y4, y5, g', ?_⟩
    have ea : (Tg.nm 2).put (.int n) [a0, a1, x2, a3, a4, a5, .un] = some [a0, a1, .v (.int n), a3, a4, a5, .un] := rfl
    rw [List.map_cons, forGo, ea]
    dsimp only
    rw [e1, loop_nx, e2]
theorem LP2 : (LP 2).length = 10 := by decide +kernel
def eR1 : Ex := eBin dEq (eCB fLen (aCons (eCallK 0 0 z_all_cubes [0] [(.int 2)] aNil (aNil)) (aNil))) (eC (.int 10))
def eR2 : Ex := eBin dEq (eCallK 0 0 z_all_cubes [0] [(.int 2)] aNil (aNil)) (eCallK 1 0 z_all_cubes [0] [(.int 2)] (aCons (eC (.int 2)) (aNil)) (aNil))
theorem call00 {F : FnZ} {d r : D} {g g' : List GO} (h : F [d] g = .ok r ⟨[], g'⟩) (ρ : Rho) : eCallK 0 0 F [0] [d] aNil aNil ρ ⟨[], g⟩ = .ok r ⟨[], g'⟩ := by
  simp only [fnz, sNil, sSeq, sPass, sBrk, sCnt, sEx, sIf, sSet, sRet, sRetN, sAsgP, sAsg, sPar, sAug, sSetL, sFor, view, viewS, eVar, slot, eC, eBin, eUn, eIf, eAnd, eOr, eNot, isBl, eTup, eLst, aNil, aCons, sz1, eSl, oNo, oPart, eCB, eCall, eCallK, callF, pick, eIsi, fIsi, tyD, isiB, eF, eG, lF, fDisp, fCB, bT, bC, bNot, bAnd, bOr, tru, pTp, itemsG, psCons, psNil, pNm, pIxG, pIxL, atG, dAdd, dSub, dMul, dDiv, dMod, dNeg, dIx, ge_i, le_i, gt_i, dIAdd, fLen, fAbs, fMax2, fMin2, fInt, fBool, mulOk_a, mulOk_b, mulOk_c, mulOk_d, Int.reduceLT, Int.reduceLE, Nat.zero_le, Nat.reduceLeDiff, onL, isL, atL, eEqL_at, eWL, wL, hEq, hIn, hIx, eIxL_at, eInL_at, eLenL, eML, eMGo, nowG, mAppend, mPop, eLst, see, dEq, dNe, seqL, fListF, fSl, itR1, itR2, itA, sWh_at, List.getElem?_cons_zero, List.getElem?_cons_succ, List.getElem?_nil, Int.toNat_natCast, pow18, pow9, pow60, pow60_20, List.map_cons, List.map_nil, List.length_cons, List.length_nil, List.length_map, List.cons_append, List.nil_append, List.append_nil, List.replicate_succ, List.replicate_zero, List.set_cons_zero, List.set_cons_succ, List.set_nil, Nat.reduceAdd, Nat.reduceSub, Nat.zero_add, Nat.beq, Nat.sub_self, bind_ok, toS_ok, sure_ok, gd_t, nx_bind, ret_bind, brk_bind, cnt_bind, exc_bind, excF_bind, loop_nx, loop_ret, loop_brk, loop_cnt, String.reduceBEq, beq_self_eq_true, Bool.or_false, Bool.or_true, Bool.false_or, Bool.true_or, Bool.false_and, Bool.and_false, decide_true, decide_false, Bool.and_true, Bool.true_and, Bool.and_self, Bool.not_true, Bool.not_false, h]
theorem call10 {F : FnZ} {d e r : D} {g g' : List GO} (h : F [d] g = .ok r ⟨[], g'⟩) (ρ : Rho) : eCallK 1 0 F [0] [e] (aCons (eC d) aNil) aNil ρ ⟨[], g⟩ = .ok r ⟨[], g'⟩ := by
  simp only [fnz, sNil, sSeq, sPass, sBrk, sCnt, sEx, sIf, sSet, sRet, sRetN, sAsgP, sAsg, sPar, sAug, sSetL, sFor, view, viewS, eVar, slot, eC, eBin, eUn, eIf, eAnd, eOr, eNot, isBl, eTup, eLst, aNil, aCons, sz1, eSl, oNo, oPart, eCB, eCall, eCallK, callF, pick, eIsi, fIsi, tyD, isiB, eF, eG, lF, fDisp, fCB, bT, bC, bNot, bAnd, bOr, tru, pTp, itemsG, psCons, psNil, pNm, pIxG, pIxL, atG, dAdd, dSub, dMul, dDiv, dMod, dNeg, dIx, ge_i, le_i, gt_i, dIAdd, fLen, fAbs, fMax2, fMin2, fInt, fBool, mulOk_a, mulOk_b, mulOk_c, mulOk_d, Int.reduceLT, Int.reduceLE, Nat.zero_le, Nat.reduceLeDiff, onL, isL, atL, eEqL_at, eWL, wL, hEq, hIn, hIx, eIxL_at, eInL_at, eLenL, eML, eMGo, nowG, mAppend, mPop, eLst, see, dEq, dNe, seqL, fListF, fSl, itR1, itR2, itA, sWh_at, List.getElem?_cons_zero, List.getElem?_cons_succ, List.getElem?_nil, Int.toNat_natCast, pow18, pow9, pow60, pow60_20, List.map_cons, List.map_nil, List.length_cons, List.length_nil, List.length_map, List.cons_append, List.nil_append, List.append_nil, List.replicate_succ, List.replicate_zero, List.set_cons_zero, List.set_cons_succ, List.set_nil, Nat.reduceAdd, Nat.reduceSub, Nat.zero_add, Nat.beq, Nat.sub_self, bind_ok, toS_ok, sure_ok, gd_t, nx_bind, ret_bind, brk_bind, cnt_bind, exc_bind, excF_bind, loop_nx, loop_ret, loop_brk, loop_cnt, String.reduceBEq, beq_self_eq_true, Bool.or_false, Bool.or_true, Bool.false_or, Bool.true_or, Bool.false_and, Bool.and_false, decide_true, decide_false, Bool.and_true, Bool.true_and, Bool.and_self, Bool.not_true, Bool.not_false, h]
theorem r1_ok {L : List (List Int)} (hlen : L.length = 10) (hcub : ∀ g : List GO, z_all_cubes [.int 2] g = .ok (.glb g.length) ⟨[], g ++ [.lst (L.map tupD)]⟩) (ρ : Rho) (g : List GO) :
    eR1 ρ ⟨[], g⟩ = .ok (.bl true) ⟨[], g ++ [.lst (L.map tupD)]⟩ := by
  obtain ⟨X, hX⟩ : ∃ X : List D, X = L.map tupD := ⟨_, rfl⟩
  have hc := hcub g
  rw [← hX] at hc ⊢
  obtain ⟨g1, hg1⟩ : ∃ g1 : List GO, g1 = g ++ [.lst X] := ⟨_, rfl⟩
  have at1 : g1[g.length]? = some (.lst X) := by
    rw [hg1, List.getElem?_append_right (Nat.le_refl _), Nat.sub_self]
    rfl
  rw [← hg1] at hc ⊢
  have c1 : eCallK 0 0 z_all_cubes [0] [(.int 2)] aNil (aNil) ρ ⟨[], g⟩ = .ok (.glb g.length) ⟨[], g1⟩ := call00 hc ρ
  have hl : X.length = 10 := by rw [hX, List.length_map, hlen]
  have fl : fLen [.glb g.length] ⟨[], g1⟩ = .ok (.int 10) ⟨[], g1⟩ := by
    simp only [fnz, sNil, sSeq, sPass, sBrk, sCnt, sEx, sIf, sSet, sRet, sRetN, sAsgP, sAsg, sPar, sAug, sSetL, sFor, view, viewS, eVar, slot, eC, eBin, eUn, eIf, eAnd, eOr, eNot, isBl, eTup, eLst, aNil, aCons, sz1, eSl, oNo, oPart, eCB, eCall, eCallK, callF, pick, eIsi, fIsi, tyD, isiB, eF, eG, lF, fDisp, fCB, bT, bC, bNot, bAnd, bOr, tru, pTp, itemsG, psCons, psNil, pNm, pIxG, pIxL, atG, dAdd, dSub, dMul, dDiv, dMod, dNeg, dIx, ge_i, le_i, gt_i, dIAdd, fLen, fAbs, fMax2, fMin2, fInt, fBool, mulOk_a, mulOk_b, mulOk_c, mulOk_d, Int.reduceLT, Int.reduceLE, Nat.zero_le, Nat.reduceLeDiff, onL, isL, atL, eEqL_at, eWL, wL, hEq, hIn, hIx, eIxL_at, eInL_at, eLenL, eML, eMGo, nowG, mAppend, mPop, eLst, see, dEq, dNe, seqL, fListF, fSl, itR1, itR2, itA, sWh_at, List.getElem?_cons_zero, List.getElem?_cons_succ, List.getElem?_nil, Int.toNat_natCast, pow18, pow9, pow60, pow60_20, List.map_cons, List.map_nil, List.length_cons, List.length_nil, List.length_map, List.cons_append, List.nil_append, List.append_nil, List.replicate_succ, List.replicate_zero, List.set_cons_zero, List.set_cons_succ, List.set_nil, Nat.reduceAdd, Nat.reduceSub, Nat.zero_add, Nat.beq, Nat.sub_self, bind_ok, toS_ok, sure_ok, gd_t, nx_bind, ret_bind, brk_bind, cnt_bind, exc_bind, excF_bind, loop_nx, loop_ret, loop_brk, loop_cnt, String.reduceBEq, beq_self_eq_true, Bool.or_false, Bool.or_true, Bool.false_or, Bool.true_or, Bool.false_and, Bool.and_false, decide_true, decide_false, Bool.and_true, Bool.true_and, Bool.and_self, Bool.not_true, Bool.not_false, at1, hl]
    rfl
  have c2 : eCB fLen (aCons (eCallK 0 0 z_all_cubes [0] [(.int 2)] aNil (aNil)) (aNil)) ρ ⟨[], g⟩ = .ok (.int 10) ⟨[], g1⟩ := by
    unfold eCB aCons
    rw [c1, bind_ok]
    exact fl
  have c3 : eC (.int 10) ρ ⟨[], g1⟩ = .ok (.int 10) ⟨[], g1⟩ := rfl
  exact bin_ok c2 c3 rfl
theorem r2_ok {L : List (List Int)} (hcub : ∀ g : List GO, z_all_cubes [.int 2] g = .ok (.glb g.length) ⟨[], g ++ [.lst (L.map tupD)]⟩) (ρ : Rho) (g : List GO) :
    ∃ g', eR2 ρ ⟨[], g⟩ = .ok (.bl true) ⟨[], g'⟩ := by
  obtain ⟨X, hX⟩ : ∃ X : List D, X = L.map tupD := ⟨_, rfl⟩
  obtain ⟨g1, hg1⟩ : ∃ g1 : List GO, g1 = g ++ [.lst X] := ⟨_, rfl⟩
  obtain ⟨g2, hg2⟩ : ∃ g2 : List GO, g2 = g1 ++ [.lst X] := ⟨_, rfl⟩
  have l1 : g.length < g1.length := by
    rw [hg1, List.length_append]
    exact Nat.lt_succ_self _
  have at1 : g2[g.length]? = some (.lst X) := by
    rw [hg2, List.getElem?_append_left l1, hg1, List.getElem?_append_right (Nat.le_refl _), Nat.sub_self]
    rfl
  have at2 : g2[g1.length]? = some (.lst X) := by
    rw [hg2, List.getElem?_append_right (Nat.le_refl _), Nat.sub_self]
    rfl
  have hc := hcub g
  have hc2 := hcub g1
  rw [← hX] at hc hc2
  rw [← hg1] at hc
  rw [← hg2] at hc2
  have c1 : eCallK 0 0 z_all_cubes [0] [(.int 2)] aNil (aNil) ρ ⟨[], g⟩ = .ok (.glb g.length) ⟨[], g1⟩ := call00 hc ρ
  have c2 : eCallK 1 0 z_all_cubes [0] [(.int 2)] (aCons (eC (.int 2)) (aNil)) (aNil) ρ ⟨[], g1⟩ = .ok (.glb g1.length) ⟨[], g2⟩ := call10 hc2 ρ
  have e : dEq (.glb g.length) (.glb g1.length) ⟨[], g2⟩ = .ok (.bl true) ⟨[], g2⟩ := by
    rw [hX] at at1 at2
    exact eq_glb at1 at2
  exact ⟨g2, bin_ok c1 c2 e⟩
theorem ret_and {f h : Ex} {ρ : Rho} {ll : List LO} {g g1 g2 : List GO} (h1 : f (view ll ρ) ⟨[], g⟩ = .ok (.bl true) ⟨[], g1⟩) (h2 : h (view ll ρ) ⟨[], g1⟩ = .ok (.bl true) ⟨[], g2⟩) : sRet (eAnd f h) ρ ⟨ll, g⟩ = .ret (.bl true) ⟨[], g2⟩ := by
  unfold sRet eAnd
  simp only [h1, bind_ok, isBl]
  rw [h2]
theorem law_eq : b_law = sSeq (sSet 1 (eCall 3 z__law_draws (aCons (eVar 0) (aCons (eC (.int 0)) (aCons (eC (.int 4)) (aNil)))))) (sSeq (sFor (.nm 2) (itA (eLst (aCons (eBin dMod (eBin dIx (eVar 1) (eC (.int 0))) (eC (.int 5))) (aCons (eBin dMod (eBin dIx (eVar 1) (eC (.int 1))) (eC (.int 4))) (aNil))))) bA)
    (sSeq (sFor (.nm 3) (itA (eLst (aCons (eUn dNeg (eC (.int 1))) (aCons (eC (.int 5)) (aCons (eBin dAdd (eC (.int 5)) (eBin dIx (eVar 1) (eC (.int 2)))) (aCons (eBin dSub (eUn dNeg (eC (.int 1))) (eBin dMul (eBin dIx (eVar 1) (eC (.int 3))) (eBin dPow (eC (.int 10)) (eC (.int 20))))) (aNil))))))) bB) (sRet (eAnd eR1 eR2)))) := rfl
theorem tail_ok {L : List (List Int)} (hlen : L.length = 10) (hcub : ∀ g : List GO, z_all_cubes [.int 2] g = .ok (.glb g.length) ⟨[], g ++ [.lst (L.map tupD)]⟩) (ρ : Rho) (g : List GO) :
    ∃ g', sRet (eAnd eR1 eR2) ρ ⟨[], g⟩ = .ret (.bl true) ⟨[], g'⟩ := by
  obtain ⟨g', e⟩ := r2_ok hcub (view [] ρ) (g ++ [.lst (L.map tupD)])
  exact ⟨g', ret_and (r1_ok hlen hcub (view [] ρ) g) e⟩
theorem cubes2 : ∃ L : List (List Int), L.length = 10 ∧ ∀ g : List GO, z_all_cubes [.int 2] g = .ok (.glb g.length) ⟨[], g ++ [.lst (L.map tupD)]⟩ :=
  ⟨LP 2, LP2, fun g => cubes_ok (n := 2) (by decide) g⟩
end K43

namespace K43
open PySem L2 Z
theorem law_true (zs : List Int) (hl : zs.length ≤ 63) (hb : ∀ z ∈ zs, Builtin.Int.intBits z ≤ 1048576) : ∃ s, z_law [.scr zs] [] = .ok (.bl true) s := by
  obtain ⟨ds, hd, hdl, hdb⟩ := draws_ok zs hl 0 4 (by decide) []
  rw [← draws_eq] at hd
  match ds, hdl, hdb, hd with
  | [a, b, c, d], _, hdb, hd =>
    obtain ⟨ha0, ha1⟩ := hdb a (by simp)
    obtain ⟨hb0, hb1⟩ := hdb b (by simp)
    obtain ⟨hc0, hc1⟩ := hdb c (by simp)
    obtain ⟨hd0, hd1⟩ := hdb d (by simp)
    obtain ⟨m1, em1, hm1⟩ : ∃ m : Nat, a % 5 = (m : Int) ∧ m ≤ 4 := ⟨(a % 5).toNat, by omega, by omega⟩
    obtain ⟨m2, em2, hm2⟩ : ∃ m : Nat, b % 4 = (m : Int) ∧ m ≤ 4 := ⟨(b % 4).toNat, by omega, by omega⟩
    obtain ⟨negs, enegs⟩ : ∃ l : List Int, l = [-1, 5, 5 + c, -1 - d * 10 ^ 20] := ⟨_, rfl⟩
    have hn2 : ∀ n ∈ negs, n < 0 ∨ 4 < n := by
      intro n hn
      simp only [enegs, List.mem_cons, List.not_mem_nil, or_false] at hn
      rcases hn with rfl | rfl | rfl | rfl <;> omega
    have mo : mulOk d (10 ^ 20) = true := mulOk_l (by omega)
    obtain ⟨L2', hL2, hcub⟩ := cubes2
    obtain ⟨y2, y4, y5, g1, f1⟩ := forA (a0 := .v (.scr zs)) (a1 := .v (.lst [.int a, .int b, .int c, .int d])) (a3 := .un) [m1, m2] .un .un .un [] (by simp only [List.mem_cons, List.not_mem_nil, or_false]; rintro n (rfl | rfl) <;> assumption)
    obtain ⟨z3, f2⟩ := forB (a0 := .v (.scr zs)) (a1 := .v (.lst [.int a, .int b, .int c, .int d])) (a2 := y2) (a4 := y4) (a5 := y5) (g := g1) negs .un hn2
    obtain ⟨g2, f3⟩ := tail_ok hL2 hcub [.v (.scr zs), .v (.lst [.int a, .int b, .int c, .int d]), y2, z3, y4, y5, .un] g1
    have at0 : atI [D.int a, .int b, .int c, .int d] 0 = some (.int a) := rfl
    have at1 : atI [D.int a, .int b, .int c, .int d] 1 = some (.int b) := rfl
    have at2 : atI [D.int a, .int b, .int c, .int d] 2 = some (.int c) := rfl
    have at3 : atI [D.int a, .int b, .int c, .int d] 3 = some (.int d) := rfl
    have d5 : decide ((0 : Int) < 5) = true := rfl
    have d4 : decide ((0 : Int) < 4) = true := rfl
    have q1 : sSet 1 (eCall 3 z__law_draws (aCons (eVar 0) (aCons (eC (.int 0)) (aCons (eC (.int 4)) (aNil))))) [.v (.scr zs), .un, .un, .un, .un, .un, .un] ⟨[], []⟩ = .nx [.v (.scr zs), .v (.lst [.int a, .int b, .int c, .int d]), .un, .un, .un, .un, .un] ⟨[], []⟩ := by
      have hd' : z__law_draws [.scr zs, .int 0, .int 4] [] = .ok (.lst [.int a, .int b, .int c, .int d]) ⟨[], []⟩ := hd
      simp only [fnz, sNil, sSeq, sPass, sBrk, sCnt, sEx, sIf, sSet, sRet, sRetN, sAsgP, sAsg, sPar, sAug, sSetL, sFor, view, viewS, eVar, slot, eC, eBin, eUn, eIf, eAnd, eOr, eNot, isBl, eTup, eLst, aNil, aCons, sz1, eSl, oNo, oPart, eCB, eCall, eCallK, callF, pick, eIsi, fIsi, tyD, isiB, eF, eG, lF, fDisp, fCB, bT, bC, bNot, bAnd, bOr, tru, pTp, itemsG, psCons, psNil, pNm, pIxG, pIxL, atG, dAdd, dSub, dMul, dDiv, dMod, dNeg, dIx, ge_i, le_i, gt_i, dIAdd, fLen, fAbs, fMax2, fMin2, fInt, fBool, mulOk_a, mulOk_b, mulOk_c, mulOk_d, Int.reduceLT, Int.reduceLE, Nat.zero_le, Nat.reduceLeDiff, onL, isL, atL, eEqL_at, eWL, wL, hEq, hIn, hIx, eIxL_at, eInL_at, eLenL, eML, eMGo, nowG, mAppend, mPop, eLst, see, dEq, dNe, seqL, fListF, fSl, itR1, itR2, itA, sWh_at, List.getElem?_cons_zero, List.getElem?_cons_succ, List.getElem?_nil, Int.toNat_natCast, pow18, pow9, pow60, pow60_20, List.map_cons, List.map_nil, List.length_cons, List.length_nil, List.length_map, List.cons_append, List.nil_append, List.append_nil, List.replicate_succ, List.replicate_zero, List.set_cons_zero, List.set_cons_succ, List.set_nil, Nat.reduceAdd, Nat.reduceSub, Nat.zero_add, Nat.beq, Nat.sub_self, bind_ok, toS_ok, sure_ok, gd_t, nx_bind, ret_bind, brk_bind, cnt_bind, exc_bind, excF_bind, loop_nx, loop_ret, loop_brk, loop_cnt, String.reduceBEq, beq_self_eq_true, Bool.or_false, Bool.or_true, Bool.false_or, Bool.true_or, Bool.false_and, Bool.and_false, decide_true, decide_false, Bool.and_true, Bool.true_and, Bool.and_self, Bool.not_true, Bool.not_false, hd']
    have e1 : itA (eLst (aCons (eBin dMod (eBin dIx (eVar 1) (eC (.int 0))) (eC (.int 5))) (aCons (eBin dMod (eBin dIx (eVar 1) (eC (.int 1))) (eC (.int 4))) (aNil)))) [.v (.scr zs), .v (.lst [.int a, .int b, .int c, .int d]), .un, .un, .un, .un, .un] ⟨[], []⟩ = .ok ([m1, m2].map fun n : Nat => D.int n) ⟨[], []⟩ := by
      simp only [fnz, sNil, sSeq, sPass, sBrk, sCnt, sEx, sIf, sSet, sRet, sRetN, sAsgP, sAsg, sPar, sAug, sSetL, sFor, view, viewS, eVar, slot, eC, eBin, eUn, eIf, eAnd, eOr, eNot, isBl, eTup, eLst, aNil, aCons, sz1, eSl, oNo, oPart, eCB, eCall, eCallK, callF, pick, eIsi, fIsi, tyD, isiB, eF, eG, lF, fDisp, fCB, bT, bC, bNot, bAnd, bOr, tru, pTp, itemsG, psCons, psNil, pNm, pIxG, pIxL, atG, dAdd, dSub, dMul, dDiv, dMod, dNeg, dIx, ge_i, le_i, gt_i, dIAdd, fLen, fAbs, fMax2, fMin2, fInt, fBool, mulOk_a, mulOk_b, mulOk_c, mulOk_d, Int.reduceLT, Int.reduceLE, Nat.zero_le, Nat.reduceLeDiff, onL, isL, atL, eEqL_at, eWL, wL, hEq, hIn, hIx, eIxL_at, eInL_at, eLenL, eML, eMGo, nowG, mAppend, mPop, eLst, see, dEq, dNe, seqL, fListF, fSl, itR1, itR2, itA, sWh_at, List.getElem?_cons_zero, List.getElem?_cons_succ, List.getElem?_nil, Int.toNat_natCast, pow18, pow9, pow60, pow60_20, List.map_cons, List.map_nil, List.length_cons, List.length_nil, List.length_map, List.cons_append, List.nil_append, List.append_nil, List.replicate_succ, List.replicate_zero, List.set_cons_zero, List.set_cons_succ, List.set_nil, Nat.reduceAdd, Nat.reduceSub, Nat.zero_add, Nat.beq, Nat.sub_self, bind_ok, toS_ok, sure_ok, gd_t, nx_bind, ret_bind, brk_bind, cnt_bind, exc_bind, excF_bind, loop_nx, loop_ret, loop_brk, loop_cnt, String.reduceBEq, beq_self_eq_true, Bool.or_false, Bool.or_true, Bool.false_or, Bool.true_or, Bool.false_and, Bool.and_false, decide_true, decide_false, Bool.and_true, Bool.true_and, Bool.and_self, Bool.not_true, Bool.not_false, at0, at1, d5, d4, em1, em2, (rfl : decide (2 ≤ 16777216) = true)]
    have q2 : sFor (.nm 2) (itA (eLst (aCons (eBin dMod (eBin dIx (eVar 1) (eC (.int 0))) (eC (.int 5))) (aCons (eBin dMod (eBin dIx (eVar 1) (eC (.int 1))) (eC (.int 4))) (aNil))))) bA [.v (.scr zs), .v (.lst [.int a, .int b, .int c, .int d]), .un, .un, .un, .un, .un] ⟨[], []⟩ = .nx [.v (.scr zs), .v (.lst [.int a, .int b, .int c, .int d]), y2, .un, y4, y5, .un] ⟨[], g1⟩ := by
      unfold sFor
      rw [e1, toS_ok]
      exact f1
    have neg1 : dNeg (.int 1) ⟨[], g1⟩ = .ok (.int (-1)) ⟨[], g1⟩ := rfl
    have e2 : itA (eLst (aCons (eUn dNeg (eC (.int 1))) (aCons (eC (.int 5)) (aCons (eBin dAdd (eC (.int 5)) (eBin dIx (eVar 1) (eC (.int 2)))) (aCons (eBin dSub (eUn dNeg (eC (.int 1))) (eBin dMul (eBin dIx (eVar 1) (eC (.int 3))) (eBin dPow (eC (.int 10)) (eC (.int 20))))) (aNil)))))) [.v (.scr zs), .v (.lst [.int a, .int b, .int c, .int d]), y2, .un, y4, y5, .un] ⟨[], g1⟩ = .ok (negs.map D.int) ⟨[], g1⟩ := by
      simp only [fnz, sNil, sSeq, sPass, sBrk, sCnt, sEx, sIf, sSet, sRet, sRetN, sAsgP, sAsg, sPar, sAug, sSetL, sFor, view, viewS, eVar, slot, eC, eBin, eUn, eIf, eAnd, eOr, eNot, isBl, eTup, eLst, aNil, aCons, sz1, eSl, oNo, oPart, eCB, eCall, eCallK, callF, pick, eIsi, fIsi, tyD, isiB, eF, eG, lF, fDisp, fCB, bT, bC, bNot, bAnd, bOr, tru, pTp, itemsG, psCons, psNil, pNm, pIxG, pIxL, atG, dAdd, dSub, dMul, dDiv, dMod, dNeg, dIx, ge_i, le_i, gt_i, dIAdd, fLen, fAbs, fMax2, fMin2, fInt, fBool, mulOk_a, mulOk_b, mulOk_c, mulOk_d, Int.reduceLT, Int.reduceLE, Nat.zero_le, Nat.reduceLeDiff, onL, isL, atL, eEqL_at, eWL, wL, hEq, hIn, hIx, eIxL_at, eInL_at, eLenL, eML, eMGo, nowG, mAppend, mPop, eLst, see, dEq, dNe, seqL, fListF, fSl, itR1, itR2, itA, sWh_at, List.getElem?_cons_zero, List.getElem?_cons_succ, List.getElem?_nil, Int.toNat_natCast, pow18, pow9, pow60, pow60_20, List.map_cons, List.map_nil, List.length_cons, List.length_nil, List.length_map, List.cons_append, List.nil_append, List.append_nil, List.replicate_succ, List.replicate_zero, List.set_cons_zero, List.set_cons_succ, List.set_nil, Nat.reduceAdd, Nat.reduceSub, Nat.zero_add, Nat.beq, Nat.sub_self, bind_ok, toS_ok, sure_ok, gd_t, nx_bind, ret_bind, brk_bind, cnt_bind, exc_bind, excF_bind, loop_nx, loop_ret, loop_brk, loop_cnt, String.reduceBEq, beq_self_eq_true, Bool.or_false, Bool.or_true, Bool.false_or, Bool.true_or, Bool.false_and, Bool.and_false, decide_true, decide_false, Bool.and_true, Bool.true_and, Bool.and_self, Bool.not_true, Bool.not_false, at2, at3, pow20, mo, (rfl : decide (4 ≤ 16777216) = true), enegs]
    have q3 : sFor (.nm 3) (itA (eLst (aCons (eUn dNeg (eC (.int 1))) (aCons (eC (.int 5)) (aCons (eBin dAdd (eC (.int 5)) (eBin dIx (eVar 1) (eC (.int 2)))) (aCons (eBin dSub (eUn dNeg (eC (.int 1))) (eBin dMul (eBin dIx (eVar 1) (eC (.int 3))) (eBin dPow (eC (.int 10)) (eC (.int 20))))) (aNil))))))) bB [.v (.scr zs), .v (.lst [.int a, .int b, .int c, .int d]), y2, .un, y4, y5, .un] ⟨[], g1⟩ = .nx [.v (.scr zs), .v (.lst [.int a, .int b, .int c, .int d]), y2, z3, y4, y5, .un] ⟨[], g1⟩ := by
      unfold sFor
      rw [e2, toS_ok]
      exact f2
    refine ⟨⟨[], g2⟩, ?_⟩
    have q : b_law [.v (.scr zs), .un, .un, .un, .un, .un, .un] ⟨[], []⟩ = .ret (.bl true) ⟨[], g2⟩ := by
      rw [law_eq]
      exact (seq_nx q1).trans ((seq_nx q2).trans ((seq_nx q3).trans f3))
    simp only [fnz, sNil, sSeq, sPass, sBrk, sCnt, sEx, sIf, sSet, sRet, sRetN, sAsgP, sAsg, sPar, sAug, sSetL, sFor, view, viewS, eVar, slot, eC, eBin, eUn, eIf, eAnd, eOr, eNot, isBl, eTup, eLst, aNil, aCons, sz1, eSl, oNo, oPart, eCB, eCall, eCallK, callF, pick, eIsi, fIsi, tyD, isiB, eF, eG, lF, fDisp, fCB, bT, bC, bNot, bAnd, bOr, tru, pTp, itemsG, psCons, psNil, pNm, pIxG, pIxL, atG, dAdd, dSub, dMul, dDiv, dMod, dNeg, dIx, ge_i, le_i, gt_i, dIAdd, fLen, fAbs, fMax2, fMin2, fInt, fBool, mulOk_a, mulOk_b, mulOk_c, mulOk_d, Int.reduceLT, Int.reduceLE, Nat.zero_le, Nat.reduceLeDiff, onL, isL, atL, eEqL_at, eWL, wL, hEq, hIn, hIx, eIxL_at, eInL_at, eLenL, eML, eMGo, nowG, mAppend, mPop, eLst, see, dEq, dNe, seqL, fListF, fSl, itR1, itR2, itA, sWh_at, List.getElem?_cons_zero, List.getElem?_cons_succ, List.getElem?_nil, Int.toNat_natCast, pow18, pow9, pow60, pow60_20, List.map_cons, List.map_nil, List.length_cons, List.length_nil, List.length_map, List.cons_append, List.nil_append, List.append_nil, List.replicate_succ, List.replicate_zero, List.set_cons_zero, List.set_cons_succ, List.set_nil, Nat.reduceAdd, Nat.reduceSub, Nat.zero_add, Nat.beq, Nat.sub_self, bind_ok, toS_ok, sure_ok, gd_t, nx_bind, ret_bind, brk_bind, cnt_bind, exc_bind, excF_bind, loop_nx, loop_ret, loop_brk, loop_cnt, String.reduceBEq, beq_self_eq_true, Bool.or_false, Bool.or_true, Bool.false_or, Bool.true_or, Bool.false_and, Bool.and_false, decide_true, decide_false, Bool.and_true, Bool.true_and, Bool.and_self, Bool.not_true, Bool.not_false, z_law, q]
  | [], h, _, _ => cases h
  | [_], h, _, _ => cases h
  | [_, _], h, _, _ => cases h
  | [_, _, _], h, _, _ => cases h
  | _ :: _ :: _ :: _ :: _ :: _, h, _, _ => cases h
end K43

open PySem PySem.W PyProof.Rows
set_option maxRecDepth 100000 in
set_option maxHeartbeats 0 in
theorem PySem.Challenge.cw_thirtycubes_k43_cubes_listed_holds : PySem.Challenge.rw_thirtycubes_k43_cubes_listed.Holds := by
  w_on; o_law; k_head; (case hw => w_witness2)
  k_fill
  refine Z.walk_z (l := PySem.Challenge.rw_thirtycubes_k43_cubes_listed) (n := 63) (k := 5) (x := "_law_script") (Ck := K43.Ck) (Fn := K43.z_law) rfl (by decide) rfl ⟨rfl, by decide, by decide⟩ (fun w h Y => PySem.W.kIn_of Y) (fun _ => rfl) ?zF (fun zs hl hb => K43.law_true zs hl hb)
  case zF =>
    intro w mg fa h KX G hmg
    refine' K43.law_mk KX G hmg ?a__law_draws ?l__law_draws ?c__law_draws ?k__law_draws ?a__law_turns ?l__law_turns ?c__law_turns ?k__law_turns ?a__law_turned ?l__law_turned ?c__law_turned ?k__law_turned ?a__law_due ?l__law_due ?c__law_due ?k__law_due ?a_must_be_listed ?l_must_be_listed ?c_must_be_listed ?k_must_be_listed ?a_all_turns ?l_all_turns ?c_all_turns ?k_all_turns ?a_all_of ?l_all_of ?c_all_of ?k_all_of ?a_turned_by ?l_turned_by ?c_turned_by ?k_turned_by ?a_listed ?l_listed ?c_listed ?k_listed ?a_all_cubes ?l_all_cubes ?c_all_cubes ?k_all_cubes ?t_all_cubes ?a__law_names_of ?l__law_names_of ?c__law_names_of ?k__law_names_of ?a__law_refused ?l__law_refused ?c__law_refused ?k__law_refused ?a__law_whole ?l__law_whole ?c__law_whole ?k__law_whole ?a_law ?l_law ?c_law ?k_law ?b_ValueError ?b_any ?b_bool ?b_int ?b_isinstance ?b_len ?b_list ?b_min ?b_range ?b_sorted ?b_tuple ?b_zip ?m_MOST_LISTED ?h_MOST_LISTED ?m_TURNS ?h_TURNS ?ax_CubeError ?ax_NoBack ?ax_NoBase ?ax_NoChange ?ax_NoCounts ?ax_NoCube ?ax_NoCubes ?ax_NoFit ?ax_NoName ?ax_NoNumber ?ax_NoPaints ?ax_NoPalette ?ax_NoPaper ?ax_NoPlace ?ax_NoRow ?ax_NoSix ?ax_NoStock ?ax_NoText ?ax_NoTurn ?ax_NoWord ?ax_TooMany ?xp_NoPalette ?kp_NoPalette ?sb_NoPalette ?ty_NoPalette ?ga_NoPalette ?gt_NoPalette ?hd_NoPalette ?hc_NoPalette ?hm_NoPalette ?xn_ ?xt_ ?ki_NoPalette_NoBack ?ki_NoPalette_NoBase ?ki_NoPalette_NoChange ?ki_NoPalette_NoCounts ?ki_NoPalette_NoCube ?ki_NoPalette_NoCubes ?ki_NoPalette_NoFit ?ki_NoPalette_NoName ?ki_NoPalette_NoNumber ?ki_NoPalette_NoPaints ?ki_NoPalette_NoPalette ?ki_NoPalette_NoPaper ?ki_NoPalette_NoPlace ?ki_NoPalette_NoRow ?ki_NoPalette_NoSix ?ki_NoPalette_NoStock ?ki_NoPalette_NoText ?ki_NoPalette_NoTurn ?ki_NoPalette_NoWord ?ki_NoPalette_TooMany ?ki_NoPalette_ValueError ?ke_NoPalette_CubeError
    (case a__law_draws => k_is)
    (case l__law_draws => k_is)
    (case c__law_draws => k_is)
    (case k__law_draws => k_is)
    (case a__law_turns => k_is)
    (case l__law_turns => k_is)
    (case c__law_turns => k_is)
    (case k__law_turns => k_is)
    (case a__law_turned => k_is)
    (case l__law_turned => k_is)
    (case c__law_turned => k_is)
    (case k__law_turned => k_is)
    (case a__law_due => k_is)
    (case l__law_due => k_is)
    (case c__law_due => k_is)
    (case k__law_due => k_is)
    (case a_must_be_listed => k_is)
    (case l_must_be_listed => k_is)
    (case c_must_be_listed => k_is)
    (case k_must_be_listed => k_is)
    (case a_all_turns => k_is)
    (case l_all_turns => k_is)
    (case c_all_turns => k_is)
    (case k_all_turns => k_is)
    (case a_all_of => k_is)
    (case l_all_of => k_is)
    (case c_all_of => k_is)
    (case k_all_of => k_is)
    (case a_turned_by => k_is)
    (case l_turned_by => k_is)
    (case c_turned_by => k_is)
    (case k_turned_by => k_is)
    (case a_listed => k_is)
    (case l_listed => k_is)
    (case c_listed => k_is)
    (case k_listed => k_is)
    (case a_all_cubes => k_is)
    (case l_all_cubes => k_is)
    (case c_all_cubes => k_is)
    (case k_all_cubes => k_is)
    (case t_all_cubes => first | exact rfl | decide +kernel)
    (case a__law_names_of => k_is)
    (case l__law_names_of => k_is)
    (case c__law_names_of => k_is)
    (case k__law_names_of => k_is)
    (case a__law_refused => k_is)
    (case l__law_refused => k_is)
    (case c__law_refused => k_is)
    (case k__law_refused => k_is)
    (case a__law_whole => k_is)
    (case l__law_whole => k_is)
    (case c__law_whole => k_is)
    (case k__law_whole => k_is)
    (case a_law => k_is)
    (case l_law => k_is)
    (case c_law => k_is)
    (case k_law => k_is)
    (case b_ValueError => k_is)
    (case b_any => k_is)
    (case b_bool => k_is)
    (case b_int => k_is)
    (case b_isinstance => k_is)
    (case b_len => k_is)
    (case b_list => k_is)
    (case b_min => k_is)
    (case b_range => k_is)
    (case b_sorted => k_is)
    (case b_tuple => k_is)
    (case b_zip => k_is)
    (case m_MOST_LISTED => k_is)
    (case h_MOST_LISTED => first | exact rfl | decide +kernel)
    (case m_TURNS => k_is)
    (case h_TURNS => first | exact rfl | decide +kernel)
    (case ax_CubeError => k_is)
    (case ax_NoBack => k_is)
    (case ax_NoBase => k_is)
    (case ax_NoChange => k_is)
    (case ax_NoCounts => k_is)
    (case ax_NoCube => k_is)
    (case ax_NoCubes => k_is)
    (case ax_NoFit => k_is)
    (case ax_NoName => k_is)
    (case ax_NoNumber => k_is)
    (case ax_NoPaints => k_is)
    (case ax_NoPalette => k_is)
    (case ax_NoPaper => k_is)
    (case ax_NoPlace => k_is)
    (case ax_NoRow => k_is)
    (case ax_NoSix => k_is)
    (case ax_NoStock => k_is)
    (case ax_NoText => k_is)
    (case ax_NoTurn => k_is)
    (case ax_NoWord => k_is)
    (case ax_TooMany => k_is)
    (case xp_NoPalette => k_exc)
    (case kp_NoPalette => k_is)
    (case sb_NoPalette => k_is)
    (case ty_NoPalette => k_is)
    (case ga_NoPalette => k_is)
    (case gt_NoPalette => k_is)
    (case hd_NoPalette => k_is)
    (case hc_NoPalette => k_is)
    (case hm_NoPalette => k_is)
    (case xn_ => k_is)
    (case xt_ => k_is)
    (case ki_NoPalette_NoBack => first | k_is | exact rfl)
    (case ki_NoPalette_NoBase => first | k_is | exact rfl)
    (case ki_NoPalette_NoChange => first | k_is | exact rfl)
    (case ki_NoPalette_NoCounts => first | k_is | exact rfl)
    (case ki_NoPalette_NoCube => first | k_is | exact rfl)
    (case ki_NoPalette_NoCubes => first | k_is | exact rfl)
    (case ki_NoPalette_NoFit => first | k_is | exact rfl)
    (case ki_NoPalette_NoName => first | k_is | exact rfl)
    (case ki_NoPalette_NoNumber => first | k_is | exact rfl)
    (case ki_NoPalette_NoPaints => first | k_is | exact rfl)
    (case ki_NoPalette_NoPalette => first | k_is | exact rfl)
    (case ki_NoPalette_NoPaper => first | k_is | exact rfl)
    (case ki_NoPalette_NoPlace => first | k_is | exact rfl)
    (case ki_NoPalette_NoRow => first | k_is | exact rfl)
    (case ki_NoPalette_NoSix => first | k_is | exact rfl)
    (case ki_NoPalette_NoStock => first | k_is | exact rfl)
    (case ki_NoPalette_NoText => first | k_is | exact rfl)
    (case ki_NoPalette_NoTurn => first | k_is | exact rfl)
    (case ki_NoPalette_NoWord => first | k_is | exact rfl)
    (case ki_NoPalette_TooMany => first | k_is | exact rfl)
    (case ki_NoPalette_ValueError => first | k_is | exact rfl)
    (case ke_NoPalette_CubeError => first | k_is | exact rfl)

