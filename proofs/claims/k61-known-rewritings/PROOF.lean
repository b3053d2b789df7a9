import PyProof.Rows.All
import Wide.All
import OpenK.AllK
import Wide.FinOn
import KE.KDictKeyed
import HandS.ForMost
import HandS.TupAny
import HandS.IsInst
import HandS.Codes
import HandS.Style
import HandS.OwnEq
import HandS.More
import HandS.RaiseOp
import HandS.ExcOwn
import HandS.WrittenGet
import HandS.Defaults
import PySem.Challenge.RW_farlayout_k61_known_rewritings
import KE.KStateDown
import HandS.Head0
import HandS.Head1
import HandS.Head2
import HandS.HeadEnd
import HandS.HeadHook1
import HandS.HeadHook2
import HandS.HeadHook3
import HandS.HeadHook4
set_option Elab.async false
set_option linter.all false
set_option maxRecDepth 100000
set_option maxHeartbeats 0
namespace FL
open PySem PySem.Spec PyProof.Rows L2

/-! ### growing heaps -/
abbrev Gr (H H' : Hp) : Prop := ∀ a o, H a = some o → H' a = some o
theorem gr_refl (H : Hp) : Gr H H := fun _ _ h => h
theorem Gr.trans {H H1 H2 : Hp} (a : Gr H H1) (b : Gr H1 H2) : Gr H H2 := fun x o h => b x o (a x o h)
theorem gr_new {H : Hp} {p : Addr} {o : HO} (h : H p = none) : Gr H (upd H p o) := fun a u e => by
  rw [upd_ne (ne_of_none e h)]
  exact e
theorem Gr.new {H H1 : Hp} {p : Addr} {o : HO} (g : Gr H H1) (h : H1 p = none) : Gr H (upd H1 p o) := g.trans (gr_new h)
theorem Gr.mut {H H' : Hp} {p : Addr} {o : HO} (e : Gr H H') (h : H p = none) : Gr H (upd H' p o) := fun a u ha => by
  rw [upd_ne (ne_of_none ha h)]
  exact e a u ha
theorem Gr.fresh {H H' : Hp} {p : Addr} (e : Gr H H') (h : H' p = none) : H p = none := by
  cases h1 : H p with
  | none => rfl
  | some o =>
    rw [e p o h1] at h
    cases h
theorem Gr.l {K : PySem.W.Frag} {H H' : Hp} {a : Addr} {xs : List V} (e : Gr H H') (h : SqL K H a xs) : SqL K H' a xs := SqL.ext h e
theorem Gr.t {K : PySem.W.Frag} {H H' : Hp} {a : Addr} {xs : List V} (e : Gr H H') (h : SqT K H a xs) : SqT K H' a xs := SqT.ext h e
theorem sl {K : PySem.W.Frag} {H : Hp} {a : Addr} {xs : List V} (h : H a = some (.lst xs)) : SqL K H a xs := .inl (.inl h)
theorem st {K : PySem.W.Frag} {H : Hp} {a : Addr} {xs : List V} (h : H a = some (.tup xs)) : SqT K H a xs := .inl (.inl h)

/-! ### rules joined: by the values, not by the text -/
section
variable {X : Cx}
theorem orO {f : Value → Value → Sem Value} {r r' : R2} (h : OpR X f r) (h' : OpR X f r') : OpR X f (fun x y H Q => r x y H Q ∨ r' x y H Q) := by
  intro pins s σ H x y v u Q I rx ry q
  rcases q with q | q
  · exact h pins s σ H x y v u Q I rx ry q
  · exact h' pins s σ H x y v u Q I rx ry q
theorem orC {f : Value} {r r' : List V → Hp → VK → Prop} (h : CallR X f r) (h' : CallR X f r') : CallR X f (fun xs H Q => r xs H Q ∨ r' xs H Q) := by
  intro pins s σ H xs us Q I rs q
  rcases q with q | q
  · exact h pins s σ H xs us Q I rs q
  · exact h' pins s σ H xs us Q I rs q
theorem orS {r r' : V → Option Int → Option Int → Hp → VK → Prop} (h : SlR X r) (h' : SlR X r') : SlR X (fun x lo hi H Q => r x lo hi H Q ∨ r' x lo hi H Q) := by
  intro pins s σ H x v vl vu lo hi sl Q I rx hs pl pu q
  rcases q with q | q
  · exact h pins s σ H x v vl vu lo hi sl Q I rx hs pl pu q
  · exact h' pins s σ H x v vl vu lo hi sl Q I rx hs pl pu q
end

/-! ### + -/
def rPlusI : R2 := rI0 fun i j => .int (i + j)
def rPlusS : R2 := fun x y H Q => ∃ i j, x = .str i ∧ y = .str j ∧ i.length + j.length ≤ sizeLine ∧ Q (.str (i ++ j)) H
def rPlus (K : PySem.W.Frag) : R2 := fun x y H Q => rPlusI x y H Q ∨ rPlusS x y H Q ∨ rCat x y H Q ∨ rCatA K x y H Q
theorem op_plus {X : Cx} : OpR X (binaryOp .Add) (rPlus X.K) := orO op_add (orO op_add_str (orO op_cat op_catA))
def rTimes : R2 := fun x y H Q => rI CMul (fun i j => .int (i * j)) x y H Q ∨ rRep x y H Q
theorem op_times {X : Cx} : OpR X (binaryOp .Mult) rTimes := orO op_mul op_rep

/-! ### subscripts -/
def rIxDk : R2 := fun x y H Q => ∃ a v, x = .ref a ∧ DGet H a y (some v) ∧ Q v H
theorem ix_dk {X : Cx} (hu : X.A.units + 1 < cLine) : IxR X rIxDk := by
  intro value slice pins s σ H x y v u Q I rx ry h hs
  obtain ⟨a, z, ex, g, q⟩ := h
  subst ex
  obtain rfl : v = Value.ref a := rx
  exact tail_any (dict_typeIs I g) PySem.F.slot_dict_getitem.lookup (d_getItem hu I g ry fun w' s3 I3 rw' => ⟨z, H, I3, rw', q⟩) hs
def rAt (K : PySem.W.Frag) (w : World) : R2 := fun x y H Q => rIxT K x y H Q ∨ rIxL K x y H Q ∨ rIxS x y H Q ∨ rIxDk x y H Q ∨ rIxD K w x y H Q
theorem ix_at {X : Cx} (hu : X.A.units + 1 < cLine) : IxR X (rAt X.K X.w) := ix_tup.or (ix_list.or (ix_str.or ((ix_dk hu).or ix_kdict)))
def rCut (K : PySem.W.Frag) : V → Option Int → Option Int → Hp → VK → Prop := fun x lo hi H Q => rSlA K x lo hi H Q ∨ rSlL K x lo hi H Q ∨ rSlS x lo hi H Q
theorem sl_cut {X : Cx} : SlR X (rCut X.K) := orS sl_tupA (orS sl_list sl_str)

/-! ### comparisons -/
def rEqs (K : PySem.W.Frag) : R2 := fun x y H Q => rEq x y H Q ∨ rEqD K x y H Q
theorem op_eqs {X : Cx} (hu : X.A.units + 64 < cLine) : OpR X (compareOp .Eq) (rEqs X.K) := orO op_eq (op_eqD hu)
def rNes (K : PySem.W.Frag) : R2 := fun x y H Q => rNe x y H Q ∨ rNeD K x y H Q
theorem op_nes {X : Cx} (hu : X.A.units + 64 < cLine) : OpR X (compareOp .NotEq) (rNes X.K) := orO op_ne (op_neD hu)
def rLeS : R2 := fun x y H Q => ∃ i j, x = .str i ∧ y = .str j ∧ Q (.bl (!decide (j.cps.toList < i.cps.toList))) H
def rLeI : R2 := rI0 fun i j => .bl (decide (i ≤ j))
def rLes : R2 := fun x y H Q => rLeI x y H Q ∨ rLeS x y H Q
theorem op_les {X : Cx} : OpR X (compareOp .LtE) rLes := orO op_le op_le_str

/-! ### calls -/
def rLens (K : PySem.W.Frag) : List V → Hp → VK → Prop := fun xs H Q => (∃ x n, xs = [x] ∧ LenV K x H n ∧ Q (.int n) H) ∨ (∃ a kvs, xs = [V.ref a] ∧ H a = some (.dK kvs) ∧ Q (.int kvs.length) H)
theorem call_lens {X : Cx} : CallR X (.builtin "len") (rLens X.K) := orC call_len call_lenD
end FL

namespace FL
open PySem PySem.Spec PyProof.Rows L2

/-! ### keys that are nested tuples -/
mutual
inductive NKey (K : PySem.W.Frag) (H : Hp) : V → NestedKey → Prop
  | non : NKey K H .non .none
  | int (i : Int) : NKey K H (.int i) (.num i)
  | str (x : Str) : NKey K H (.str x) (.text x)
  | tup {a : Addr} {xs : List V} {ks : List NestedKey} : SqT K H a xs → NKeys K H xs ks → NKey K H (.ref a) (.tup ks)
inductive NKeys (K : PySem.W.Frag) (H : Hp) : List V → List NestedKey → Prop
  | nil : NKeys K H [] []
  | cons {x : V} {xs : List V} {k : NestedKey} {ks : List NestedKey} : NKey K H x k → NKeys K H xs ks → NKeys K H (x :: xs) (k :: ks)
end
mutual
theorem NKey.mono {K : PySem.W.Frag} {H H' : Hp} (g : Gr H H') : ∀ {k : NestedKey} {x : V}, NKey K H x k → NKey K H' x k
  | .none, _, .non => .non
  | .num _, _, .int i => .int i
  | .text _, _, .str i => .str i
  | .tup _, _, .tup h l => .tup (g.t h) (NKeys.mono g l)
theorem NKeys.mono {K : PySem.W.Frag} {H H' : Hp} (g : Gr H H') : ∀ {ks : List NestedKey} {xs : List V}, NKeys K H xs ks → NKeys K H' xs ks
  | [], _, .nil => .nil
  | _ :: _, _, .cons h l => .cons (NKey.mono g h) (NKeys.mono g l)
end
section
variable {X : Cx} {pins : List (Addr × Obj)} {σ : L2.St} {H : Hp} {s : Shared}
mutual
theorem NKey.is (I : Inv X pins σ H s) : ∀ {k : NestedKey} {x : V} {u : Value}, NKey X.K H x k → RelV x u → NestedIs s.heap k u
  | .none, _, _, .non, r => by cases r; exact .none
  | .num _, _, _, .int i, r => by obtain ⟨t, rfl⟩ := r; exact .int i t
  | .text _, _, _, .str i, r => by obtain ⟨t, rfl⟩ := r; exact .text i t
  | .tup ks, _, _, .tup h l, r => by
    cases r
    obtain ⟨its, rv, p, _⟩ := I.tuple h
    obtain ⟨o, e, c, n, hd⟩ := p
    exact .tup e c hd (by simpa using NKeys.is I l rv)
theorem NKeys.is (I : Inv X pins σ H s) : ∀ {ks : List NestedKey} {xs : List V} {us : List Value}, NKeys X.K H xs ks → Vals xs us → NestedAll s.heap ks us
  | [], _, _, .nil, r => by cases r; exact .nil
  | _ :: _, _, _, .cons h l, r => by
    cases r with
    | cons r1 r2 => exact .cons (NKey.is I h r1) (NKeys.is I l r2)
end
end

/-! ### a dict with such keys -/
abbrev Nds := List (NestedKey × Addr × V)
def ndLook (xs : Nds) (k : NestedKey) : Option V := (xs.find? fun x => decide (x.1 = k)).map (·.2.2)
def ndPut (xs : Nds) (k : NestedKey) (a : Addr) (v : V) : Nds := if (ndLook xs k).isSome then xs.map (fun x => if x.1 = k then (x.1, x.2.1, v) else x) else xs ++ [(k, a, v)]
abbrev NdR : Nds → List (NestedKey × Addr × Value) → Prop := Paired fun p q => q.1 = p.1 ∧ q.2.1 = p.2.1 ∧ RelV p.2.2 q.2.2
def NdE (w : World) (h : Heap) (d : Addr) (xs : Nds) : Prop := (d == sysModules) = false ∧ ∃ vs, NdR xs vs ∧ ∃ o es ep, h.get? d = some o ∧ o.ExactDict ∧ o.data = .dict es ep ∧ es.toList = vs.map (fun x => (⟨x.1.hash w, .ref x.2.1, x.2.2⟩ : DictEntry)) ∧ (vs.map (·.1)).Nodup
def ndHO (w : World) (d : Addr) (xs : Nds) : HO := .ext fun h => NdE w h d xs
structure NdAt (K : PySem.W.Frag) (w : World) (H : Hp) (d : Addr) (xs : Nds) : Prop where
  at_ : H d = some (ndHO w d xs)
  keys : ∀ z ∈ xs, NKey K H (.ref z.2.1) z.1 ∧ z.1.depth ≤ 8
  len : xs.length < sizeLine
theorem NdR.look : ∀ {xs : Nds} {vs : List (NestedKey × Addr × Value)} (r : NdR xs vs) (k : NestedKey), RelO (ndLook xs k) ((atKey vs k).map (·.2))
  | _, _, .nil, k => True.intro
  | x :: xs, v :: vs, .cons h l, k => by
    unfold ndLook atKey
    rw [List.find?_cons, List.find?_cons, h.1]
    by_cases e : x.1 = k
    · rw [decide_eq_true e]
      exact h.2.2
    · rw [decide_eq_false e]
      exact NdR.look l k
theorem NdR.map {k : NestedKey} {v : V} {u : Value} (r : RelV v u) : ∀ {xs : Nds} {vs : List (NestedKey × Addr × Value)}, NdR xs vs → NdR (xs.map (fun x => if x.1 = k then (x.1, x.2.1, v) else x)) (vs.map (putAt k u))
  | _, _, .nil => .nil
  | x :: xs, y :: vs, .cons h l => by
    refine .cons ?_ (NdR.map r l)
    by_cases e : x.1 = k
    · simp only [putAt, h.1, if_pos e]
      exact ⟨trivial, h.2.1, r⟩
    · simp only [putAt, h.1, if_neg e]
      exact ⟨trivial, h.2.1, h.2.2⟩
theorem NdR.snoc {k : NestedKey} {a : Addr} {v : V} {u : Value} (r : RelV v u) : ∀ {xs : Nds} {vs : List (NestedKey × Addr × Value)}, NdR xs vs → NdR (xs ++ [(k, a, v)]) (vs ++ [(k, a, u)])
  | _, _, .nil => .cons ⟨rfl, rfl, r⟩ .nil
  | _ :: _, _ :: _, .cons h l => .cons h (NdR.snoc r l)
theorem NdR.put {xs : Nds} {vs : List (NestedKey × Addr × Value)} (l : NdR xs vs) (k : NestedKey) (a : Addr) {v : V} {u : Value} (r : RelV v u) : NdR (ndPut xs k a v) (storedH vs k a u) := by
  have e : (ndLook xs k).isSome = (atKey vs k).isSome := by
    have := (l.look k).isSome_eq
    rwa [Option.isSome_map] at this
  unfold ndPut storedH
  rw [e]
  by_cases q : (atKey vs k).isSome = true
  · rw [if_pos q, if_pos q]
    exact NdR.map r l
  · rw [if_neg q, if_neg q]
    exact l.snoc r
theorem ndPut_length (xs : Nds) (k : NestedKey) (a : Addr) (v : V) : (ndPut xs k a v).length ≤ xs.length + 1 := by
  unfold ndPut
  split <;> simp
theorem ndPut_mem {xs : Nds} {k : NestedKey} {a : Addr} {v : V} {z : NestedKey × Addr × V} (h : z ∈ ndPut xs k a v) : (∃ y ∈ xs, z.1 = y.1 ∧ z.2.1 = y.2.1) ∨ (z.1 = k ∧ z.2.1 = a) := by
  unfold ndPut at h
  split at h
  · obtain ⟨y, hy, e⟩ := List.mem_map.mp h
    by_cases c : y.1 = k
    · rw [if_pos c] at e
      subst e
      exact .inl ⟨y, hy, rfl, rfl⟩
    · rw [if_neg c] at e
      subst e
      exact .inl ⟨y, hy, rfl, rfl⟩
  · rcases List.mem_append.mp h with h | h
    · exact .inl ⟨z, h, rfl, rfl⟩
    · simp at h
      subst h
      exact .inr ⟨rfl, rfl⟩
section
variable {X : Cx} {pins : List (Addr × Obj)} {σ : L2.St} {H : Hp} {s : Shared} {d : Addr} {xs : Nds}
theorem NdAt.of (n : NdAt X.K X.w H d xs) (I : Inv X pins σ H s) : (d == sysModules) = false ∧ ∃ vs, NdR xs vs ∧ s.heap.DictOfH (nestedKind X.prog X.w) d vs := by
  obtain ⟨⟨hd, vs, r, o, es, ep, h1, h2, h3, h4, h5⟩, _, _⟩ := (show ObjOk X.prog X.w H s.heap d (ndHO X.w d xs) from I.hok d _ n.at_)
  refine ⟨hd, vs, r, o, es, ep, h1, h2, h3, h4, ?_, h5⟩
  have all : ∀ {ys : Nds} {us : List (NestedKey × Addr × Value)}, NdR ys us → (∀ z ∈ ys, NKey X.K H (.ref z.2.1) z.1 ∧ z.1.depth ≤ 8) → ∀ x ∈ us, (nestedKind X.prog X.w).is s.heap x.1 x.2.1 := by
    intro ys us q
    induction q with
    | nil => intro _ x hx; exact nomatch hx
    | @cons p q ps qs hq t ih =>
      intro hk x hx
      rcases List.mem_cons.mp hx with e | hx
      · subst e
        obtain ⟨k1, k2⟩ := hk p List.mem_cons_self
        rw [hq.1, hq.2.1]
        exact ⟨k1.is I rfl, k2⟩
      · exact ih (fun z hz => hk z (List.mem_cons_of_mem _ hz)) x hx
  exact all r n.keys
theorem n_room (hu : X.A.units + 64 < cLine) : (nestedKind X.prog X.w).room X.A.in1 := by
  show X.A.in1.units + 8 < cLine
  show X.A.units + 1 + 8 < cLine
  omega
/-- k in d, d[k], d[k] = v -/
def rInN (K : PySem.W.Frag) (w : World) : R2 := fun x y H Q => ∃ a d xs k, x = .ref a ∧ y = .ref d ∧ NKey K H (.ref a) k ∧ k.depth ≤ 8 ∧ NdAt K w H d xs ∧ Q (.bl (ndLook xs k).isSome) H
def rNotInN (K : PySem.W.Frag) (w : World) : R2 := fun x y H Q => ∃ a d xs k, x = .ref a ∧ y = .ref d ∧ NKey K H (.ref a) k ∧ k.depth ≤ 8 ∧ NdAt K w H d xs ∧ Q (.bl (!(ndLook xs k).isSome)) H
def rIxN (K : PySem.W.Frag) (w : World) : R2 := fun x y H Q => ∃ a d xs k v, x = .ref d ∧ y = .ref a ∧ NKey K H (.ref a) k ∧ k.depth ≤ 8 ∧ NdAt K w H d xs ∧ ndLook xs k = some v ∧ Q v H
def rSetN (K : PySem.W.Frag) (w : World) : V → V → V → Hp → (Hp → Prop) → Prop := fun o i v H Q => ∃ a d xs k, o = .ref d ∧ i = .ref a ∧ NKey K H (.ref a) k ∧ k.depth ≤ 8 ∧ NdAt K w H d xs ∧ xs.length + 1 < sizeLine ∧ Q (upd H d (ndHO w d (ndPut xs k a v)))
theorem op_inN (hu : X.A.units + 64 < cLine) : OpR X (compareOp .In) (rInN X.K X.w) := by
  intro pins s σ H x y v u Q I rx ry h
  obtain ⟨a, d, xs, k, rfl, rfl, hk, hdp, n, q⟩ := h
  cases rx
  cases ry
  obtain ⟨hd, vs, r, D⟩ := n.of I
  refine wpAny_in_heap (n_room hu) ⟨hk.is I rfl, hdp⟩ hd D ⟨.bl _, H, I.tok _, ?_, q⟩
  have e := (r.look k).isSome_eq
  rw [Option.isSome_map] at e
  rw [e]
  rfl
theorem op_notInN (hu : X.A.units + 64 < cLine) : OpR X (compareOp .NotIn) (rNotInN X.K X.w) := by
  intro pins s σ H x y v u Q I rx ry h
  obtain ⟨a, d, xs, k, rfl, rfl, hk, hdp, n, q⟩ := h
  cases rx
  cases ry
  obtain ⟨hd, vs, r, D⟩ := n.of I
  refine wpAny_notIn_heap (n_room hu) ⟨hk.is I rfl, hdp⟩ hd D ⟨.bl _, H, I.tok _, ?_, q⟩
  have e := (r.look k).isSome_eq
  rw [Option.isSome_map] at e
  rw [e]
  rfl
theorem ix_n (hu : X.A.units + 64 < cLine) : IxR X (rIxN X.K X.w) := by
  intro value slice pins s σ H x y v u Q I rx ry h hs
  obtain ⟨a, d, xs, k, z, rfl, rfl, hk, hdp, n, e, q⟩ := h
  cases rx
  cases ry
  obtain ⟨hd, vs, r, D⟩ := n.of I
  have e1 := r.look k
  rw [e] at e1
  cases hv : (atKey vs k).map (·.2) with
  | none => rw [hv] at e1; exact e1.elim
  | some w' =>
    rw [hv] at e1
    obtain ⟨p, hp, hp2⟩ := Option.map_eq_some_iff.mp hv
    exact tail_any D.typeIs PySem.F.slot_dict_getitem.lookup (wpAny_getItem_heap (n_room hu) ⟨hk.is I rfl, hdp⟩ D hp ⟨z, H, I.tok _, by rw [hp2]; exact e1, q⟩) hs
theorem set_n (hu : X.A.units + 64 < cLine) : PSet X (rSetN X.K X.w) := by
  intro pins s σ H o i v ov iv u Q I ro ri rv h
  obtain ⟨a, d, xs, k, rfl, rfl, hk, hdp, n, hz, q⟩ := h
  cases ro
  cases ri
  obtain ⟨hd, vs, r, D⟩ := n.of I
  have hvz : vs.length ≤ sizeLine := by rw [← Paired.length r]; exact Nat.le_of_lt n.len
  refine wpAny_setItem_heap (hsz := hvz) (n_room hu) ⟨hk.is I rfl, hdp⟩ D fun h' D' hs => ?_
  obtain ⟨ob, es, ep, h1, h2, h3, h4, _, h5⟩ := D'
  refine ⟨_, d_write (ob := ndHO X.w d (ndPut xs k a v)) I (by rw [n.at_]; exact True.intro) hs ⟨ob, h1⟩ ⟨⟨hd, _, r.put k a rv, ob, es, ep, h1, h2, h3, h4, h5⟩, ⟨ob, h1⟩, fun g1 g2 φ st => ?_⟩, q⟩
  obtain ⟨y1, vs', r', ob', es', ep', z1, z2⟩ := φ
  exact ⟨y1, vs', r', ob', es', ep', st _ z1, z2⟩
def tDNewN (w : World) : TE := fun _ H Q => ∀ p, H p = none → Q (.ref p) (upd H p (ndHO w p []))
theorem pe_dnewN {pos : Pos} : PE X (.Dict [] [] pos) (tDNewN X.w) := ⟨fun pins s σ H Q I h => by
  refine wpAny_Dict_empty ⟨.ref s.heap.objs.size, _, I.laid (a := s.heap.objs.size) (o := ndHO X.w s.heap.objs.size []) (t' := s.toks) (fun _ _ q => Heap.get?_push_of_some _ q) (Nat.le_refl _) ?_, rfl, h _ (I.hok.fresh (Nat.le_refl _))⟩
  refine ⟨⟨beq_eq_false_iff_ne.mpr (Ne.symm (Nat.ne_of_lt I.big)), [], .nil, _, #[], 0, Heap.get?_push_size _ rfl, ⟨rfl, rfl, rfl⟩, rfl, rfl, List.nodup_nil⟩, ⟨_, Heap.get?_push_size _ rfl⟩, fun g1 g2 φ st => ?_⟩
  obtain ⟨y1, vs', r', ob', es', ep', z1, z2⟩ := φ
  exact ⟨y1, vs', r', ob', es', ep', st _ z1, z2⟩⟩
end

/-! ### in, stores: joined -/
section
variable {X : Cx}
def rInD : R2 := fun x y H Q => ∃ a o, y = .ref a ∧ DGet H a x o ∧ Q (.bl o.isSome) H
def rNotInD : R2 := fun x y H Q => ∃ a o, y = .ref a ∧ DGet H a x o ∧ Q (.bl (!o.isSome)) H
theorem op_inD (hu : X.A.units + 1 < cLine) : OpR X (compareOp .In) rInD := by
  intro pins s σ H x y v u Q I rx ry h
  obtain ⟨a, o, rfl, g, q⟩ := h
  cases ry
  exact d_in hu I g rx fun s' I' => ⟨.bl o.isSome, H, I', rfl, q⟩
theorem op_notInD (hu : X.A.units + 1 < cLine) : OpR X (compareOp .NotIn) rNotInD := by
  intro pins s σ H x y v u Q I rx ry h
  obtain ⟨a, o, rfl, g, q⟩ := h
  cases ry
  exact d_notIn hu I g rx fun s' I' => ⟨.bl (!o.isSome), H, I', rfl, q⟩
/-- in a written dict with text keys -/
def KHas (K : PySem.W.Frag) (w : World) (d : Addr) (z : Str) (b : Bool) : Prop := ∃ es n r, KDict K w d es n ∧ PySem.W.nsIn K d z = some r ∧ r.isSome = b
def rInK (K : PySem.W.Frag) (w : World) : R2 := fun x y H Q => ∃ z d b, x = .str z ∧ y = .ref d ∧ KHas K w d z b ∧ Q (.bl b) H
def rNotInK (K : PySem.W.Frag) (w : World) : R2 := fun x y H Q => ∃ z d b, x = .str z ∧ y = .ref d ∧ KHas K w d z b ∧ Q (.bl (!b)) H
theorem op_inK : OpR X (compareOp .In) (rInK X.K X.w) := by
  intro pins s σ H x y v u Q I rx ry h
  obtain ⟨z, d, b, rfl, rfl, ⟨es, n, r, D, e, eb⟩, q⟩ := h
  subst eb
  exact op_in_kd D pins s σ H _ _ v u Q I rx ry ⟨z, r, rfl, rfl, e, q⟩
theorem op_notInK : OpR X (compareOp .NotIn) (rNotInK X.K X.w) := by
  intro pins s σ H x y v u Q I rx ry h
  obtain ⟨z, d, b, rfl, rfl, ⟨es, n, r, D, e, eb⟩, q⟩ := h
  subst eb
  exact op_notIn_kd D pins s σ H _ _ v u Q I rx ry ⟨z, r, rfl, rfl, e, q⟩
def rInSg : R2 := fun x y H Q => ∃ (c : Nat) (z : Str), x = .str ⟨#[c]⟩ ∧ y = .str z ∧ Q (.bl (decide (c ∈ z.cps.toList))) H
def rNotInSg : R2 := fun x y H Q => ∃ (c : Nat) (z : Str), x = .str ⟨#[c]⟩ ∧ y = .str z ∧ Q (.bl (!decide (c ∈ z.cps.toList))) H
def rIns (K : PySem.W.Frag) (w : World) : R2 := fun x y H Q => rIn K false x y H Q ∨ rInD x y H Q ∨ rInK K w x y H Q ∨ rInN K w x y H Q ∨ rInSg x y H Q
def rNotIns (K : PySem.W.Frag) (w : World) : R2 := fun x y H Q => rIn K true x y H Q ∨ rNotInD x y H Q ∨ rNotInK K w x y H Q ∨ rNotInN K w x y H Q ∨ rNotInSg x y H Q
theorem op_ins (hu : X.A.units + 64 < cLine) : OpR X (compareOp .In) (rIns X.K X.w) := orO op_in_seq (orO (op_inD (by omega)) (orO op_inK (orO (op_inN hu) op_in_sign)))
theorem op_notIns (hu : X.A.units + 64 < cLine) : OpR X (compareOp .NotIn) (rNotIns X.K X.w) := orO op_notIn_seq (orO (op_notInD (by omega)) (orO op_notInK (orO (op_notInN hu) op_notIn_sign)))
def rSetD : V → V → V → Hp → (Hp → Prop) → Prop := fun o i v H Q => ∃ a H', o = .ref a ∧ DPut H a i v H' ∧ Q H'
theorem set_d (hu : X.A.units + 1 < cLine) : PSet X rSetD := by
  intro pins s σ H o i v ov iv u Q I ro ri rv h
  obtain ⟨a, H', rfl, g, q⟩ := h
  cases ro
  exact d_setItem hu I g ri rv fun s' I' => ⟨H', I', q⟩
theorem orP {r r' : TSet} (h : PSet X r) (h' : PSet X r') : PSet X (fun o i v H Q => r o i v H Q ∨ r' o i v H Q) := by
  intro pins s σ H o i v ov iv u Q I ro ri rv q
  rcases q with q | q
  · exact h pins s σ H o i v ov iv u Q I ro ri rv q
  · exact h' pins s σ H o i v ov iv u Q I ro ri rv q
def rSets (K : PySem.W.Frag) (w : World) : V → V → V → Hp → (Hp → Prop) → Prop := fun o i v H Q => rSetL o i v H Q ∨ rSetD o i v H Q ∨ rSetN K w o i v H Q
theorem set_any (hu : X.A.units + 64 < cLine) : PSet X (rSets X.K X.w) := orP set_list (orP (set_d (by omega)) (set_n hu))
def rAts (K : PySem.W.Frag) (w : World) : R2 := fun x y H Q => rAt K w x y H Q ∨ rIxN K w x y H Q
theorem ix_ats (hu : X.A.units + 64 < cLine) : IxR X (rAts X.K X.w) := (ix_at (by omega)).or (ix_n hu)
def rListOf (K : PySem.W.Frag) : List V → Hp → VK → Prop := fun xs H Q => ∃ p ys, xs = [.ref p] ∧ (SqL K H p ys ∨ SqT K H p ys) ∧ ∀ l, H l = none → Q (.ref l) (upd H l (.lst ys))
theorem call_listOf : CallR X (.type "list") (rListOf X.K) := call_list_of
def rTupOf (K : PySem.W.Frag) : List V → Hp → VK → Prop := fun xs H Q => ∃ p ys, xs = [.ref p] ∧ ((SqL K H p ys ∧ ∀ l, H l = none → Q (.ref l) (upd H l (.tup ys))) ∨ (SqT K H p ys ∧ Q (.ref p) H))
theorem call_tupOf : CallR X (.type "tuple") (rTupOf X.K) := call_tuple_of
def rInt1 : List V → Hp → VK → Prop := fun xs H Q => (∃ i, xs = [.int i] ∧ Q (.int i) H) ∨ ∃ k, xs = [.bl k] ∧ Q (.int (if k then 1 else 0)) H
theorem call_int1' : CallR X (.type "int") rInt1 := call_int1
def rMinus : R2 := rI0 fun i j => .int (i - j)
theorem op_minus : OpR X (binaryOp .Sub) rMinus := op_sub
def rLtI : R2 := rI0 fun i j => .bl (decide (i < j))
def rLts : R2 := rLtI
theorem op_lts : OpR X (compareOp .Lt) rLts := op_lt
def rGts : R2 := rI0 fun i j => .bl (decide (j < i))
theorem op_gts : OpR X (compareOp .Gt) rGts := op_gt
def rGes : R2 := rI0 fun i j => .bl (decide (j ≤ i))
theorem op_ges : OpR X (compareOp .GtE) rGes := op_ge
def rNeg : V → Hp → VK → Prop := rU fun i => .int (-i)
theorem un_negs : UnR X (unaryOp .USub) rNeg := un_neg
def rFdiv : R2 := rI CDiv fun i j => .int (i / j)
theorem op_fdivs : OpR X (binaryOp .FloorDiv) rFdiv := op_fdiv
def rMod : R2 := rI (fun _ j => 0 < j) fun i j => .int (i % j)
theorem op_mods : OpR X (binaryOp .Mod) rMod := op_mod
def rPow : R2 := rI CPow fun i j => .int (i ^ j.toNat)
theorem op_pows : OpR X (binaryOp .Pow) rPow := op_pow
theorem pe_gint {x : Str} {i : Int} {pos : Pos} (hg : Gl X x) (hm : ∃ t, X.mg x = some (.int i t)) (hd : (x == ("__debug__" : Str)) = false := by decide) : PE X (.Name x pos) (tC (.int i)) := by
  obtain ⟨t, e⟩ := hm
  exact pe_glob hg e ⟨t, rfl⟩ hd
theorem pe_gref {x : Str} {a : Addr} {pos : Pos} (hg : Gl X x) (hm : X.mg x = some (.ref a)) (hd : (x == ("__debug__" : Str)) = false := by decide) : PE X (.Name x pos) (tC (.ref a)) := pe_glob hg hm rfl hd
end
end FL

namespace FL
open PySem PySem.Spec PyProof.Rows L2

/-! ### data: what a value stands for in a heap that only grows -/
inductive Dat where
  | any
  | v (x : V)
  | tup (ds : List Dat)
  | lst (ds : List Dat)
  | ins (C : Addr) (ns : List Str) (ds : List Dat)
  | scr (ns : List Int)

mutual
inductive In (K : PySem.W.Frag) (F : Hp) : V → Dat → Prop
  | any {x : V} : In K F x .any
  | v {x : V} : In K F x (.v x)
  | tup {a : Addr} {xs : List V} {ds : List Dat} : SqT K F a xs → InL K F xs ds → In K F (.ref a) (.tup ds)
  | lst {a : Addr} {xs : List V} {ds : List Dat} : F a = some (.lst xs) → InL K F xs ds → In K F (.ref a) (.lst ds)
  | scr {a : Addr} {ns : List Int} : SqL K F a (ns.map V.int) → In K F (.ref a) (.scr ns)
  | ins {a C dx : Addr} {fs : List (Str × V)} {ns : List Str} {ds : List Dat} : F a = some (.ins C dx fs) → fs.map (·.1) = ns → InL K F (fs.map (·.2)) ds → In K F (.ref a) (.ins C ns ds)
inductive InL (K : PySem.W.Frag) (F : Hp) : List V → List Dat → Prop
  | nil : InL K F [] []
  | cons {x : V} {xs : List V} {d : Dat} {ds : List Dat} : In K F x d → InL K F xs ds → InL K F (x :: xs) (d :: ds)
end
section
variable {K : PySem.W.Frag} {F F' F1 H H' H1 : Hp}
mutual
theorem In.mono (g : Gr F F') : ∀ {d : Dat} {x : V}, In K F x d → In K F' x d
  | .any, _, _ => .any
  | .v _, _, .v => .v
  | .tup ds, _, .tup h l => .tup (g.t h) (InL.mono g l)
  | .lst ds, _, .lst h l => .lst (g _ _ h) (InL.mono g l)
  | .scr ns, _, .scr h => .scr (g.l h)
  | .ins C ns ds, _, .ins h e l => .ins (g _ _ h) e (InL.mono g l)
theorem InL.mono (g : Gr F F') : ∀ {ds : List Dat} {xs : List V}, InL K F xs ds → InL K F' xs ds
  | [], _, .nil => .nil
  | d :: ds, _, .cons h l => .cons (In.mono g h) (InL.mono g l)
end
theorem InL.length : ∀ {xs : List V} {ds : List Dat}, InL K F xs ds → xs.length = ds.length
  | _, _, .nil => rfl
  | _, _, .cons _ l => by rw [List.length_cons, List.length_cons, InL.length l]
theorem InL.get : ∀ {xs : List V} {ds : List Dat} {i : Nat} {d : Dat}, InL K F xs ds → ds[i]? = some d → ∃ x, xs[i]? = some x ∧ In K F x d
  | _, _, _, _, .nil, e => by simp at e
  | _, _, 0, _, .cons h _, e => by simp at e; subst e; exact ⟨_, rfl, h⟩
  | _, _, i + 1, d, .cons _ l, e => by
    obtain ⟨x, h1, h2⟩ := InL.get (i := i) (d := d) l (by simpa using e)
    exact ⟨x, by simpa using h1, h2⟩
theorem InL.getX : ∀ {xs : List V} {ds : List Dat} {i : Nat} {x : V}, InL K F xs ds → xs[i]? = some x → ∃ d, ds[i]? = some d ∧ In K F x d
  | _, _, _, _, .nil, e => by simp at e
  | _, _, 0, _, .cons h _, e => by simp at e; subst e; exact ⟨_, rfl, h⟩
  | _, _, i + 1, d, .cons _ l, e => by
    obtain ⟨x, h1, h2⟩ := InL.getX (i := i) (x := d) l (by simpa using e)
    exact ⟨x, by simpa using h1, h2⟩
theorem InL.append : ∀ {xs ys : List V} {ds es : List Dat}, InL K F xs ds → InL K F ys es → InL K F (xs ++ ys) (ds ++ es)
  | _, _, _, _, .nil, h => h
  | _, _, _, _, .cons a l, h => .cons a (InL.append l h)
theorem InL.take : ∀ {xs : List V} {ds : List Dat} (n : Nat), InL K F xs ds → InL K F (xs.take n) (ds.take n)
  | _, _, 0, _ => .nil
  | _, _, _ + 1, .nil => .nil
  | _, _, n + 1, .cons h l => .cons h (InL.take n l)
theorem InL.drop : ∀ {xs : List V} {ds : List Dat} (n : Nat), InL K F xs ds → InL K F (xs.drop n) (ds.drop n)
  | _, _, 0, h => h
  | _, _, _ + 1, .nil => .nil
  | _, _, n + 1, .cons _ l => InL.drop n l
theorem InL.reverse : ∀ {xs : List V} {ds : List Dat}, InL K F xs ds → InL K F xs.reverse ds.reverse
  | _, _, .nil => .nil
  | _, _, .cons h l => by
    rw [List.reverse_cons, List.reverse_cons]
    exact (InL.reverse l).append (.cons h .nil)
theorem InL.set {x : V} {d : Dat} (r : In K F x d) : ∀ {xs : List V} {ds : List Dat} (i : Nat), InL K F xs ds → InL K F (xs.set i x) (ds.set i d)
  | _, _, _, .nil => .nil
  | _, _, 0, .cons _ t => .cons r t
  | _, _, i + 1, .cons q t => .cons q (InL.set r i t)
theorem InL.vs : ∀ {xs : List V}, InL K F xs (xs.map Dat.v)
  | [] => .nil
  | _ :: _ => .cons .v InL.vs
theorem In.eqv {x y : V} (h : In K F x (.v y)) : x = y := by cases h; rfl
theorem InL.eqvs : ∀ {xs ys : List V}, InL K F xs (ys.map Dat.v) → xs = ys
  | [], [], _ => rfl
  | [], _ :: _, h => by cases h
  | _ :: _, [], h => by cases h
  | x :: xs, y :: ys, .cons h l => by rw [In.eqv h, InL.eqvs l]
theorem In.atT {x : V} {ds : List Dat} (h : In K F x (.tup ds)) : ∃ a xs, x = .ref a ∧ SqT K F a xs ∧ InL K F xs ds := by
  cases h with
  | tup h l => exact ⟨_, _, rfl, h, l⟩
theorem In.atL {x : V} {ds : List Dat} (h : In K F x (.lst ds)) : ∃ a xs, x = .ref a ∧ F a = some (.lst xs) ∧ InL K F xs ds := by
  cases h with
  | lst h l => exact ⟨_, _, rfl, h, l⟩
theorem In.atI {x : V} {C : Addr} {ns : List Str} {ds : List Dat} (h : In K F x (.ins C ns ds)) : ∃ a dx fs, x = .ref a ∧ F a = some (.ins C dx fs) ∧ fs.map (·.1) = ns ∧ InL K F (fs.map (·.2)) ds := by
  cases h with
  | ins h e l => exact ⟨_, _, _, rfl, h, e, l⟩
end

/-! ### objects that are one's own: they may be written -/
inductive Ow where
  | lst (ds : List Dat)
  | ins (C : Addr) (fs : List (Str × Dat))
  | dk (kvs : List (Key × Dat))
  | dt (kvs : List (List Key × Dat))
  | dn (kvs : List (NestedKey × Dat))
abbrev Led := List (Addr × Ow)
abbrev Dts := List (Option Dat)
def OwOk (K : PySem.W.Frag) (w : World) (F H : Hp) (p : Addr) : Ow → Prop
  | .lst ds => ∃ xs, H p = some (.lst xs) ∧ InL K F xs ds
  | .ins C fs => ∃ dx gs, H p = some (.ins C dx gs) ∧ gs.map (·.1) = fs.map (·.1) ∧ InL K F (gs.map (·.2)) (fs.map (·.2))
  | .dk kvs => ∃ gs, H p = some (.dK gs) ∧ gs.map (·.1) = kvs.map (·.1) ∧ InL K F (gs.map (·.2)) (kvs.map (·.2))
  | .dt kvs => ∃ gs, H p = some (.dT gs) ∧ gs.map (·.1) = kvs.map (·.1) ∧ InL K F (gs.map (·.2)) (kvs.map (·.2))
  | .dn kvs => ∃ xs : Nds, H p = some (ndHO w p xs) ∧ xs.map (·.1) = kvs.map (·.1) ∧ InL K F (xs.map (·.2.2)) (kvs.map (·.2)) ∧ (∀ z ∈ xs, NKey K F (.ref z.2.1) z.1 ∧ z.1.depth ≤ 8) ∧ xs.length < sizeLine
theorem OwOk.mono {K : PySem.W.Frag} {w : World} {F F' H H' : Hp} {p : Addr} {o : Ow} (h : OwOk K w F H p o) (g : Gr F F') (e : ∀ u, H p = some u → H' p = some u) : OwOk K w F' H' p o := by
  cases o with
  | lst ds => obtain ⟨xs, a, b⟩ := h; exact ⟨xs, e _ a, b.mono g⟩
  | ins C fs => obtain ⟨dx, gs, a, b, c⟩ := h; exact ⟨dx, gs, e _ a, b, c.mono g⟩
  | dk kvs => obtain ⟨gs, a, b, c⟩ := h; exact ⟨gs, e _ a, b, c.mono g⟩
  | dt kvs => obtain ⟨gs, a, b, c⟩ := h; exact ⟨gs, e _ a, b, c.mono g⟩
  | dn kvs => obtain ⟨gs, a, b, c, k, l⟩ := h; exact ⟨gs, e _ a, b, c.mono g, fun z hz => ⟨(k z hz).1.mono g, (k z hz).2⟩, l⟩
theorem OwOk.some {K : PySem.W.Frag} {w : World} {F H : Hp} {p : Addr} {o : Ow} (h : OwOk K w F H p o) : ∃ u, H p = some u := by
  cases o with
  | lst ds => obtain ⟨xs, a, b⟩ := h; exact ⟨_, a⟩
  | ins C fs => obtain ⟨dx, gs, a, b, c⟩ := h; exact ⟨_, a⟩
  | dk kvs => obtain ⟨gs, a, b, c⟩ := h; exact ⟨_, a⟩
  | dt kvs => obtain ⟨gs, a, b, c⟩ := h; exact ⟨_, a⟩
  | dn kvs => obtain ⟨gs, a, b⟩ := h; exact ⟨_, a⟩

/-- F: what is known and stays; H: the heap; ω: what is one's own -/
structure KnA (K : PySem.W.Frag) (w : World) (F H : Hp) (ω : Led) : Prop where
  gr : Gr F H
  ow : ∀ p o, (p, o) ∈ ω → F p = none ∧ OwOk K w F H p o
  nd : (ω.map (·.1)).Nodup
structure Kn (K : PySem.W.Frag) (w : World) (F H : Hp) (σ : L2.St) (δ : Dts) (ω : Led) : Prop extends KnA K w F H ω where
  sl : ∀ (i : Nat) (d : Dat), δ[i]? = some (some d) → ∃ x, σ[i]? = some (some x) ∧ In K F x d
  ln : δ.length = σ.length

/-- a step that writes nothing -/
structure Nx (F H F' H' : Hp) : Prop where
  f : Gr F F'
  k : Gr F' H'
  h : Gr H H'
  n : ∀ a, F a = none → (∃ o, H a = some o) → F' a = none
section
variable {K : PySem.W.Frag} {w : World} {F F' F1 F2 H H' H1 H2 : Hp} {σ : L2.St} {δ : Dts} {ω ω' ω1 ω2 ω3 : Led}
theorem Nx.refl (g : Gr F H) : Nx F H F H := ⟨gr_refl F, g, gr_refl H, fun _ a _ => a⟩
theorem Nx.trans (a : Nx F H F1 H1) (b : Nx F1 H1 F2 H2) : Nx F H F2 H2 :=
  ⟨a.f.trans b.f, b.k, a.h.trans b.h, fun x e ⟨o, q⟩ => b.n x (a.n x e ⟨o, q⟩) ⟨o, a.h _ _ q⟩⟩
theorem Nx.new {p : Addr} {o : HO} (g : Gr F H) (n : H p = none) : Nx F H (upd F p o) (upd H p o) := by
  have nf : F p = none := g.fresh n
  refine ⟨gr_new nf, fun a u e => ?_, gr_new n, fun a e ⟨u, q⟩ => ?_⟩
  · by_cases h : a = p
    · subst h
      rw [upd_same] at e
      rw [upd_same]
      exact e
    · rw [upd_ne h] at e
      rw [upd_ne h]
      exact g _ _ e
  · have h : a ≠ p := fun z => by
      subst z
      rw [n] at q
      cases q
    rw [upd_ne h]
    exact e
theorem KnA.nx (E : KnA K w F H ω) (x : Nx F H F' H') : KnA K w F' H' ω where
  gr := x.k
  ow := fun p o m => by
    obtain ⟨a, b⟩ := E.ow p o m
    exact ⟨x.n p a b.some, b.mono x.f fun u e => x.h _ _ e⟩
  nd := E.nd
theorem Kn.nx (E : Kn K w F H σ δ ω) (x : Nx F H F' H') : Kn K w F' H' σ δ ω where
  toKnA := E.toKnA.nx x
  sl := fun i d e => by
    obtain ⟨v, a, b⟩ := E.sl i d e
    exact ⟨v, a, b.mono x.f⟩
  ln := E.ln
theorem KnA.drop (E : KnA K w F H ω) (s : ω'.Sublist ω) : KnA K w F H ω' :=
  ⟨E.gr, fun p o m => E.ow p o (s.subset m), (s.map _).nodup E.nd⟩
theorem Kn.drop (E : Kn K w F H σ δ ω) (s : ω'.Sublist ω) : Kn K w F H σ δ ω' := ⟨E.toKnA.drop s, E.sl, E.ln⟩
theorem KnA.perm (E : KnA K w F H ω) (s : ω.Perm ω') : KnA K w F H ω' :=
  ⟨E.gr, fun p o m => E.ow p o (s.mem_iff.mpr m), (s.map _).nodup_iff.mp E.nd⟩
theorem Kn.perm (E : Kn K w F H σ δ ω) (s : ω.Perm ω') : Kn K w F H σ δ ω' := ⟨E.toKnA.perm s, E.sl, E.ln⟩
/-- a new object of one's own -/
theorem KnA.own {p : Addr} {o : HO} {q : Ow} (E : KnA K w F H ω) (n : H p = none) (ok : OwOk K w F (upd H p o) p q) : KnA K w F (upd H p o) ((p, q) :: ω) where
  gr := E.gr.trans (gr_new n)
  ow := fun a u m => by
    rcases List.mem_cons.mp m with z | m
    · cases z
      exact ⟨E.gr.fresh n, ok⟩
    · obtain ⟨x, y⟩ := E.ow a u m
      exact ⟨x, y.mono (gr_refl F) fun y e => gr_new n _ _ e⟩
  nd := by
    rw [List.map_cons, List.nodup_cons]
    refine ⟨fun m => ?_, E.nd⟩
    obtain ⟨z, hz, e⟩ := List.mem_map.mp m
    obtain ⟨u, q⟩ := (E.ow z.1 z.2 hz).2.some
    rw [e, n] at q
    cases q
theorem Kn.own {p : Addr} {o : HO} {q : Ow} (E : Kn K w F H σ δ ω) (n : H p = none) (ok : OwOk K w F (upd H p o) p q) : Kn K w F (upd H p o) σ δ ((p, q) :: ω) := ⟨E.toKnA.own n ok, E.sl, E.ln⟩
/-- one's own object is written -/
def putO (ω : Led) (p : Addr) (q : Ow) : Led := ω.map fun x => if x.1 = p then (p, q) else x
theorem putO_fst (ω : Led) (p : Addr) (q : Ow) : (putO ω p q).map (·.1) = ω.map (·.1) := by
  unfold putO
  rw [List.map_map]
  refine List.map_congr_left fun x _ => ?_
  by_cases h : x.1 = p
  · simp [h]
  · simp [h]
theorem KnA.put {p : Addr} {o : HO} {q q0 : Ow} (E : KnA K w F H ω) (m : (p, q0) ∈ ω) (ok : OwOk K w F (upd H p o) p q) : KnA K w F (upd H p o) (putO ω p q) where
  gr := E.gr.mut (E.ow p q0 m).1
  ow := fun a u h => by
    obtain ⟨x, hx, e⟩ := List.mem_map.mp h
    by_cases z : x.1 = p
    · rw [if_pos z] at e
      cases e
      exact ⟨(E.ow p q0 m).1, ok⟩
    · rw [if_neg z] at e
      subst e
      obtain ⟨y1, y2⟩ := E.ow a u hx
      exact ⟨y1, y2.mono (gr_refl F) fun y e => by rw [upd_ne z]; exact e⟩
  nd := by rw [putO_fst]; exact E.nd
theorem Kn.put {p : Addr} {o : HO} {q q0 : Ow} (E : Kn K w F H σ δ ω) (m : (p, q0) ∈ ω) (ok : OwOk K w F (upd H p o) p q) : Kn K w F (upd H p o) σ δ (putO ω p q) := ⟨E.toKnA.put m ok, E.sl, E.ln⟩
theorem Kn.set {x : V} {d : Dat} {i : Nat} (E : Kn K w F H σ δ ω) (h : In K F x d) : Kn K w F H (σ.set i (some x)) (δ.set i (some d)) ω where
  toKnA := E.toKnA
  sl := fun j e q => by
    by_cases z : j = i
    · subst z
      have hj : j < δ.length := by
        have := (List.getElem?_eq_some_iff.mp q).1
        simpa using this
      rw [List.getElem?_set_self hj] at q
      cases q
      exact ⟨x, by rw [List.getElem?_set_self (by have := E.ln; omega)], h⟩
    · rw [List.getElem?_set_ne (Ne.symm z)] at q
      obtain ⟨y, a, b⟩ := E.sl j e q
      exact ⟨y, by rw [List.getElem?_set_ne (Ne.symm z)]; exact a, b⟩
  ln := by rw [List.length_set, List.length_set]; exact E.ln
end
end FL

namespace FL
open PySem PySem.Spec PyProof.Rows L2

/-! ### judgements: what an expression gives, from data and one's own objects -/
section
variable (K : PySem.W.Frag) (w : World) (δ : Dts) (ω : Led)
def EvF (te : TE) (d : Dat) (ω' : Led) : Prop := ∀ F H σ, Kn K w F H σ δ ω → ∀ Q : VK, (∀ x F' H', Gr F F' → Kn K w F' H' σ δ ω' → In K F' x d → Q x H') → te σ H Q
/-- a new object of one's own -/
def EvN (te : TE) (o : Ow) (ω' : Led) : Prop := ∀ F H σ, Kn K w F H σ δ ω → ∀ Q : VK, (∀ p F' H', Gr F F' → Kn K w F' H' σ δ ((p, o) :: ω') → Q (.ref p) H') → te σ H Q
/-- anything: by a relation -/
def EvM (te : TE) (R : Dat → Led → Prop) : Prop := ∀ F H σ, Kn K w F H σ δ ω → ∀ Q : VK, (∀ d ω' x F' H', R d ω' → Gr F F' → Kn K w F' H' σ δ ω' → In K F' x d → Q x H') → te σ H Q
def EvA (ta : TA) (ds : List Dat) (ω' : Led) : Prop := ∀ F H σ, Kn K w F H σ δ ω → ∀ Q : List V → Hp → Prop, (∀ xs F' H', Gr F F' → Kn K w F' H' σ δ ω' → InL K F' xs ds → Q xs H') → ta σ H Q
def EvT (tt : TT) (b : Bool) (ω' : Led) : Prop := ∀ F H σ, Kn K w F H σ δ ω → ∀ Q : Bool → Hp → Prop, (∀ F' H', Gr F F' → Kn K w F' H' σ δ ω' → Q b H') → tt σ H Q
def EvO (to : TO) (o : Option Int) : Prop := ∀ F H σ, Kn K w F H σ δ ω → ∀ Q : Option Int → Hp → Prop, (∀ F' H', Gr F F' → Kn K w F' H' σ δ ω → Q o H') → to σ H Q
/-- an operation on values, a call -/
def RF (r : R2) (x y z : Dat) : Prop := ∀ F H σ, Kn K w F H σ δ ω → ∀ v u, In K F v x → In K F u y → ∀ Q : VK, (∀ z' F' H', Nx F H F' H' → In K F' z' z → Q z' H') → r v u H Q
def UF (r : V → Hp → VK → Prop) (x z : Dat) : Prop := ∀ F H σ, Kn K w F H σ δ ω → ∀ v, In K F v x → ∀ Q : VK, (∀ z' F' H', Nx F H F' H' → In K F' z' z → Q z' H') → r v H Q
def CF (r : List V → Hp → VK → Prop) (xs : List Dat) (z : Dat) (ω' : Led) : Prop := ∀ F H σ, Kn K w F H σ δ ω → ∀ vs, InL K F vs xs → ∀ Q : VK, (∀ z' F' H', Gr F F' → Kn K w F' H' σ δ ω' → In K F' z' z → Q z' H') → r vs H Q
def SF (r : V → Option Int → Option Int → Hp → VK → Prop) (x : Dat) (lo hi : Option Int) (z : Dat) : Prop := ∀ F H σ, Kn K w F H σ δ ω → ∀ v, In K F v x → ∀ Q : VK, (∀ z' F' H', Nx F H F' H' → In K F' z' z → Q z' H') → r v lo hi H Q
def MF (r : V → List V → Hp → VK → Prop) (T : String) (x : Dat) (xs : List Dat) (z : Dat) (ω' : Led) : Prop := ∀ F H σ, Kn K w F H σ δ ω → ∀ v vs, In K F v x → InL K F vs xs → tyV K T v H ∧ ∀ Q : VK, (∀ z' F' H', Gr F F' → Kn K w F' H' σ δ ω' → In K F' z' z → Q z' H') → r v vs H Q
end
/-- what a loop walks -/
structure Wk (K : PySem.W.Frag) (F0 : Hp) (J : It) (es : List Dat) : Prop where
  stop : ∀ H, Gr F0 H → J.stop es.length H
  go : ∀ i H, i < es.length → Gr F0 H → J.go i H
  yl : ∀ i F H x H', i < es.length → Gr F0 F → Gr F H → J.yld i H x H' → ∃ F' d, es[i]? = some d ∧ Nx F H F' H' ∧ In K F' x d
def EvI (K : PySem.W.Frag) (w : World) (δ : Dts) (ω : Led) (wi : TI) (es : List Dat) (ω' : Led) : Prop := ∀ F H σ, Kn K w F H σ δ ω → ∀ R : It → Hp → Prop, (∀ J F' H', Gr F F' → Kn K w F' H' σ δ ω' → Wk K F' J es → R J H') → wi σ H R
/-- a target -/
def TgF (K : PySem.W.Frag) (w : World) (g : TG) (d : Dat) (δ δ' : Dts) (ts : List Nat) : Prop := ∀ F H σ ω x, Kn K w F H σ δ ω → In K F x d → ∀ Q : L2.St → Hp → Prop, (∀ σ', Kn K w F H σ' δ' ω → σ'.length = σ.length → (∀ i, i ∉ ts → σ'[i]? = σ[i]?) → Q σ' H) → g x σ H Q
/-- statements -/
structure Out where
  nx : Dts → Led → Prop
  rt : Dat → Led → Prop
  bk : Dts → Led → Prop := fun _ _ => False
  ct : Dts → Led → Prop := fun _ _ => False
def St (K : PySem.W.Frag) (w : World) (ts : TS) (δ : Dts) (ω : Led) (O : Out) : Prop := ∀ F H σ (D : Ends), Kn K w F H σ δ ω →
  (∀ δ' ω' F' H' σ', O.nx δ' ω' → Gr F F' → Kn K w F' H' σ' δ' ω' → D.nx σ' H') →
  (∀ d ω' x F' H', O.rt d ω' → Gr F F' → KnA K w F' H' ω' → In K F' x d → D.rt x H') →
  (∀ δ' ω' F' H' σ', O.bk δ' ω' → Gr F F' → Kn K w F' H' σ' δ' ω' → D.bk σ' H') →
  (∀ δ' ω' F' H' σ', O.ct δ' ω' → Gr F F' → Kn K w F' H' σ' δ' ω' → D.ct σ' H') → ts D σ H

section
variable {K : PySem.W.Frag} {w : World} {δ δ' : Dts} {ω ω' ω1 ω2 ω3 : Led} {te ta tb tc : TE} {tt tu : TT} {d x y z : Dat} {i j : Nat} {r r' : R2} {b : Bool}

/-! ### expressions -/
theorem evf_var (h : δ[i]? = some (some d)) : EvF K w δ ω (tVar i) d ω := fun F H σ E Q q => by
  obtain ⟨x, e, m⟩ := E.sl i d h
  exact ⟨x, e, q x F H (gr_refl F) E m⟩
theorem evf_c {x : V} : EvF K w δ ω (tC x) (.v x) ω := fun F H σ E Q q => q x F H (gr_refl F) E .v
/-- a written thing, of which more is known -/
theorem evf_k {x : V} (h : ∀ F, In K F x d) : EvF K w δ ω (tC x) d ω := fun F H σ E Q q => q x F H (gr_refl F) E (h F)
theorem evf_op (ha : EvF K w δ ω ta x ω1) (hb : EvF K w δ ω1 tb y ω2) (hr : RF K w δ ω2 r x y z) : EvF K w δ ω (tOp r ta tb) z ω2 := fun F H σ E Q q =>
  ha F H σ E _ fun v F1 H1 g1 E1 m1 => hb F1 H1 σ E1 _ fun u F2 H2 g2 E2 m2 => hr F2 H2 σ E2 v u (m1.mono g2) m2 Q fun z' F3 H3 nx m3 =>
    q z' F3 H3 ((g1.trans g2).trans nx.f) (E2.nx nx) m3
theorem evf_un {r : V → Hp → VK → Prop} (ha : EvF K w δ ω ta x ω1) (hr : UF K w δ ω1 r x z) : EvF K w δ ω (tUn r ta) z ω1 := fun F H σ E Q q =>
  ha F H σ E _ fun v F1 H1 g1 E1 m1 => hr F1 H1 σ E1 v m1 Q fun z' F3 H3 nx m3 => q z' F3 H3 (g1.trans nx.f) (E1.nx nx) m3
theorem eva_nil : EvA K w δ ω tNil [] ω := fun F H σ E Q q => q [] F H (gr_refl F) E .nil
theorem eva_cons {tr : TA} {ds : List Dat} (ha : EvF K w δ ω ta x ω1) (hr : EvA K w δ ω1 tr ds ω2) : EvA K w δ ω (tCons ta tr) (x :: ds) ω2 := fun F H σ E Q q =>
  ha F H σ E _ fun v F1 H1 g1 E1 m1 => hr F1 H1 σ E1 _ fun vs F2 H2 g2 E2 m2 => q (v :: vs) F2 H2 (g1.trans g2) E2 (.cons (m1.mono g2) m2)
theorem InL.tupNew {F : Hp} {p : Addr} {xs : List V} {ds : List Dat} (h : InL K F xs ds) (n : F p = none) : In K (upd F p (.tup xs)) (.ref p) (.tup ds) := .tup (st upd_same) (h.mono (gr_new n))
theorem InL.lstNew {F : Hp} {p : Addr} {xs : List V} {ds : List Dat} (h : InL K F xs ds) (n : F p = none) : In K (upd F p (.lst xs)) (.ref p) (.lst ds) := .lst upd_same (h.mono (gr_new n))
theorem evf_tup {ta : TA} {ds : List Dat} (h : EvA K w δ ω ta ds ω1) (hl : ds.length ≤ sizeLine) : EvF K w δ ω (tTup ta) (.tup ds) ω1 := fun F H σ E Q q =>
  h F H σ E _ fun vs F1 H1 g1 E1 m1 => ⟨by rw [m1.length]; exact hl, fun p n => q (.ref p) _ _ (g1.trans (gr_new (E1.gr.fresh n))) (E1.nx (Nx.new E1.gr n)) (m1.tupNew (E1.gr.fresh n))⟩
theorem evf_lst {ta : TA} {ds : List Dat} (h : EvA K w δ ω ta ds ω1) (hl : ds.length ≤ sizeLine) : EvF K w δ ω (tLst ta) (.lst ds) ω1 := fun F H σ E Q q =>
  h F H σ E _ fun vs F1 H1 g1 E1 m1 => ⟨by rw [m1.length]; exact hl, fun p n => q (.ref p) _ _ (g1.trans (gr_new (E1.gr.fresh n))) (E1.nx (Nx.new E1.gr n)) (m1.lstNew (E1.gr.fresh n))⟩
theorem evn_lst {ta : TA} {ds : List Dat} (h : EvA K w δ ω ta ds ω1) (hl : ds.length ≤ sizeLine) : EvN K w δ ω (tLst ta) (.lst ds) ω1 := fun F H σ E Q q =>
  h F H σ E _ fun vs F1 H1 g1 E1 m1 => ⟨by rw [m1.length]; exact hl, fun p n => q p F1 _ g1 (E1.own n ⟨vs, upd_same, m1⟩)⟩
theorem evn_dk : EvN K w δ ω tDNewK (.dk []) ω := fun F H σ E Q q p n => q p F _ (gr_refl F) (E.own n ⟨[], upd_same, rfl, .nil⟩)
theorem evf_cb {r : List V → Hp → VK → Prop} {ta : TA} {ds : List Dat} (h : EvA K w δ ω ta ds ω1) (hr : CF K w δ ω1 r ds z ω2) : EvF K w δ ω (tCB r ta) z ω2 := fun F H σ E Q q =>
  h F H σ E _ fun vs F1 H1 g1 E1 m1 => hr F1 H1 σ E1 vs m1 Q fun z' F2 H2 g2 E2 m2 => q z' F2 H2 (g1.trans g2) E2 m2
theorem evf_bm {r : V → List V → Hp → VK → Prop} {T : String} {ta : TA} {ds : List Dat} {to : TE} (ho : EvF K w δ ω to x ω1) (h : EvA K w δ ω1 ta ds ω2) (ht : ∀ F H σ, Kn K w F H σ δ ω1 → ∀ v, In K F v x → tyV K T v H) (hr : MF K w δ ω2 r T x ds z ω3) : EvF K w δ ω (tBM K T r to ta) z ω3 := fun F H σ E Q q =>
  ho F H σ E _ fun v F1 H1 g1 E1 m1 => ⟨ht F1 H1 σ E1 v m1, h F1 H1 σ E1 _ fun vs F2 H2 g2 E2 m2 => (hr F2 H2 σ E2 v vs (m1.mono g2) m2).2 Q fun z' F3 H3 g3 E3 m3 => q z' F3 H3 ((g1.trans g2).trans g3) E3 m3⟩
theorem evf_bm0 {r : V → List V → Hp → VK → Prop} {T : String} {to : TE} (ho : EvF K w δ ω to x ω1) (hr : MF K w δ ω1 r T x [] z ω2) : EvF K w δ ω (tBM0 K T r to) z ω2 := fun F H σ E Q q =>
  ho F H σ E _ fun v F1 H1 g1 E1 m1 => ⟨(hr F1 H1 σ E1 v [] m1 .nil).1, (hr F1 H1 σ E1 v [] m1 .nil).2 Q fun z' F3 H3 g3 E3 m3 => q z' F3 H3 (g1.trans g3) E3 m3⟩
theorem evf_if (h : EvT K w δ ω tt b ω1) (h1 : b = true → EvF K w δ ω1 ta d ω2) (h2 : b = false → EvF K w δ ω1 tb d ω2) : EvF K w δ ω (tIf tt ta tb) d ω2 := fun F H σ E Q q =>
  h F H σ E _ fun F1 H1 g1 E1 => by
    cases b with
    | true => exact iteT (h1 rfl F1 H1 σ E1 Q fun z' F2 H2 g2 E2 m2 => q z' F2 H2 (g1.trans g2) E2 m2)
    | false => exact iteF (h2 rfl F1 H1 σ E1 Q fun z' F2 H2 g2 E2 m2 => q z' F2 H2 (g1.trans g2) E2 m2)
theorem evf_andV {a c : Bool} (h1 : EvF K w δ ω ta (.v (.bl a)) ω1) (h2 : a = true → EvF K w δ ω1 tb (.v (.bl c)) ω2) (h3 : a = false → ω2 = ω1) : EvF K w δ ω (tAndV ta tb) (.v (.bl (a && c))) ω2 := fun F H σ E Q q =>
  h1 F H σ E _ fun v F1 H1 g1 E1 m1 => by
    rw [m1.eqv]
    cases a with
    | true => exact ⟨true, rfl, iteT (h2 rfl F1 H1 σ E1 Q fun z' F2 H2 g2 E2 m2 => q z' F2 H2 (g1.trans g2) E2 m2)⟩
    | false => exact ⟨false, rfl, iteF (q _ F1 H1 g1 (by rw [h3 rfl]; exact E1) .v)⟩
theorem evf_orV {a c : Bool} (h1 : EvF K w δ ω ta (.v (.bl a)) ω1) (h2 : a = false → EvF K w δ ω1 tb (.v (.bl c)) ω2) (h3 : a = true → ω2 = ω1) : EvF K w δ ω (tOrV ta tb) (.v (.bl (a || c))) ω2 := fun F H σ E Q q =>
  h1 F H σ E _ fun v F1 H1 g1 E1 m1 => by
    rw [m1.eqv]
    cases a with
    | false => exact ⟨false, rfl, iteF (h2 rfl F1 H1 σ E1 Q fun z' F2 H2 g2 E2 m2 => q z' F2 H2 (g1.trans g2) E2 m2)⟩
    | true => exact ⟨true, rfl, iteT (q _ F1 H1 g1 (by rw [h3 rfl]; exact E1) .v)⟩
theorem evf_notV {a : Bool} (h1 : EvF K w δ ω ta (.v (.bl a)) ω1) : EvF K w δ ω (tNotV ta) (.v (.bl (!a))) ω1 := fun F H σ E Q q =>
  h1 F H σ E _ fun v F1 H1 g1 E1 m1 => ⟨a, m1.eqv, q _ F1 H1 g1 E1 .v⟩
theorem evf_chain {a c : Bool} (ha : EvF K w δ ω ta x ω1) (hb : EvF K w δ ω1 tb y ω2) (hr : RF K w δ ω2 r x y (.v (.bl a))) (hc : a = true → EvF K w δ ω2 tc z ω2) (hr' : a = true → RF K w δ ω2 r' y z (.v (.bl c))) : EvF K w δ ω (tChain r r' ta tb tc) (.v (.bl (a && c))) ω2 := fun F H σ E Q q =>
  ha F H σ E _ fun v F1 H1 g1 E1 m1 => hb F1 H1 σ E1 _ fun u F2 H2 g2 E2 m2 => hr F2 H2 σ E2 v u (m1.mono g2) m2 _ fun z' F3 H3 nx m3 => by
    refine ⟨a, m3.eqv, ?_⟩
    cases a with
    | true =>
      refine iteT (hc rfl F3 H3 σ (E2.nx nx) _ fun w' F4 H4 g4 E4 m4 => hr' rfl F4 H4 σ E4 u w' (m2.mono (nx.f.trans g4)) m4 Q fun z2 F5 H5 nx5 m5 => ?_)
      exact q z2 F5 H5 ((((g1.trans g2).trans nx.f).trans g4).trans nx5.f) (E4.nx nx5) m5
    | false => exact iteF (q _ F3 H3 ((g1.trans g2).trans nx.f) (E2.nx nx) .v)
theorem evo_none : EvO K w δ ω tNoPart none := fun F H σ E Q q => q F H (gr_refl F) E
theorem evo_some {n : Int} (h : EvF K w δ ω ta (.v (.int n)) ω) : EvO K w δ ω (tPart ta) (some n) := fun F H σ E Q q => h F H σ E _ fun v F1 H1 g1 E1 m1 => ⟨n, m1.eqv, q F1 H1 g1 E1⟩
theorem evf_sl {r : V → Option Int → Option Int → Hp → VK → Prop} {tl th : TO} {lo hi : Option Int} (ha : EvF K w δ ω ta x ω1) (hl : EvO K w δ ω1 tl lo) (hh : EvO K w δ ω1 th hi) (hr : SF K w δ ω1 r x lo hi z) : EvF K w δ ω (tSl r ta tl th) z ω1 := fun F H σ E Q q =>
  ha F H σ E _ fun v F1 H1 g1 E1 m1 => hl F1 H1 σ E1 _ fun F2 H2 g2 E2 => hh F2 H2 σ E2 _ fun F3 H3 g3 E3 => hr F3 H3 σ E3 v (m1.mono (g2.trans g3)) Q fun z' F4 H4 nx m4 =>
    q z' F4 H4 (((g1.trans g2).trans g3).trans nx.f) (E3.nx nx) m4
theorem evf_rev {ds : List Dat} (ha : EvF K w δ ω ta (.lst ds) ω1) : EvF K w δ ω (tRevL K ta) (.lst ds.reverse) ω1 := fun F H σ E Q q =>
  ha F H σ E _ fun v F1 H1 g1 E1 m1 => by
    obtain ⟨a, xs, rfl, hs, l⟩ := m1.atL
    exact ⟨a, xs, rfl, sl (E1.gr _ _ hs), fun p n => q _ _ _ (g1.trans (gr_new (E1.gr.fresh n))) (E1.nx (Nx.new E1.gr n)) (l.reverse.lstNew (E1.gr.fresh n))⟩
/-- an attribute of one's own object; of one that stays -/
theorem evf_fldO {p C : Addr} {fs : List (Str × Dat)} {f : Str} (ha : EvF K w δ ω ta (.v (.ref p)) ω1) (m : (p, Ow.ins C fs) ∈ ω1) (hc : Cls K C) (hn : NoAttr K C f) (hf : fs.lookup f = some d) : EvF K w δ ω (tFld K ta f) d ω1 := fun F H σ E Q q =>
  ha F H σ E _ fun v F1 H1 g1 E1 m1 => by
    obtain ⟨_, dx, gs, h1, h2, h3⟩ := E1.ow _ _ m
    obtain ⟨x, hx, mx⟩ : ∃ x, gs.lookup f = some x ∧ In K F1 x d := by
      clear h1 m
      induction gs generalizing fs with
      | nil =>
        cases fs with
        | nil => simp at hf
        | cons a r => simp at h2
      | cons g gs ih =>
        cases fs with
        | nil => simp at h2
        | cons a r =>
          rw [List.map_cons, List.map_cons] at h2 h3
          injection h2 with e1 e2
          cases h3 with
          | cons k l =>
            obtain ⟨a1, a2⟩ := a
            obtain ⟨b1, b2⟩ := g
            simp only at e1
            subst e1
            rw [List.lookup_cons] at hf ⊢
            cases hh : f == b1 with
            | true =>
              rw [hh] at hf
              simp only [Option.some.injEq] at hf
              subst hf
              exact ⟨b2, rfl, k⟩
            | false =>
              rw [hh] at hf
              exact ih hf e2 l
    exact ⟨p, C, dx, gs, x, m1.eqv, h1, hc, hn, hx, q x F1 H1 g1 E1 mx⟩
theorem InL.lookup {F : Hp} {f : Str} : ∀ {gs : List (Str × V)} {ns : List Str} {ds : List Dat}, gs.map (·.1) = ns → InL K F (gs.map (·.2)) ds → (ns.zip ds).lookup f = some d → ∃ x, gs.lookup f = some x ∧ In K F x d
  | [], ns, ds, e, l, h => by
    subst e
    simp at h
  | g :: gs, ns, ds, e, l, h => by
    obtain ⟨b1, b2⟩ := g
    subst e
    cases l with
    | cons k l =>
      rw [List.map_cons, List.zip_cons_cons, List.lookup_cons] at h
      rw [List.lookup_cons]
      cases hh : f == b1 with
      | true =>
        simp only [hh, Option.some.injEq] at h
        subst h
        exact ⟨b2, rfl, k⟩
      | false =>
        simp only [hh] at h
        exact InL.lookup rfl l h
theorem evf_fldI {C : Addr} {ns : List Str} {ds : List Dat} {f : Str} (ha : EvF K w δ ω ta (.ins C ns ds) ω1) (hc : Cls K C) (hn : NoAttr K C f) (hf : (ns.zip ds).lookup f = some d) : EvF K w δ ω (tFld K ta f) d ω1 := fun F H σ E Q q =>
  ha F H σ E _ fun v F1 H1 g1 E1 m1 => by
    obtain ⟨a, dx, fs, rfl, h1, h2, h3⟩ := m1.atI
    obtain ⟨x, hx, mx⟩ := InL.lookup h2 h3 hf
    exact ⟨a, C, dx, fs, x, rfl, E1.gr _ _ h1, hc, hn, hx, q x F1 H1 g1 E1 mx⟩

/-! ### tests -/
theorem evt_test (h : EvF K w δ ω te (.v (.bl b)) ω1) : EvT K w δ ω (tTest te) b ω1 := fun F H σ E Q q => h F H σ E _ fun v F1 H1 g1 E1 m1 => ⟨b, m1.eqv, q F1 H1 g1 E1⟩
theorem evt_B (h : EvF K w δ ω te (.v (.bl b)) ω1) : EvT K w δ ω (tB te) b ω1 := fun F H σ E Q q => h F H σ E _ fun v F1 H1 g1 E1 m1 => ⟨b, m1.eqv, q F1 H1 g1 E1⟩
theorem evt_and {a c : Bool} (h1 : EvT K w δ ω tt a ω1) (h2 : a = true → EvT K w δ ω1 tu c ω2) (h3 : a = false → ω2 = ω1) : EvT K w δ ω (tAnd tt tu) (a && c) ω2 := fun F H σ E Q q =>
  h1 F H σ E _ fun F1 H1 g1 E1 => by
    cases a with
    | true => exact iteT (h2 rfl F1 H1 σ E1 Q fun F2 H2 g2 E2 => q F2 H2 (g1.trans g2) E2)
    | false => exact iteF (q F1 H1 g1 (by rw [h3 rfl]; exact E1))
theorem evt_or {a c : Bool} (h1 : EvT K w δ ω tt a ω1) (h2 : a = false → EvT K w δ ω1 tu c ω2) (h3 : a = true → ω2 = ω1) : EvT K w δ ω (tOr tt tu) (a || c) ω2 := fun F H σ E Q q =>
  h1 F H σ E _ fun F1 H1 g1 E1 => by
    cases a with
    | false => exact iteF (h2 rfl F1 H1 σ E1 Q fun F2 H2 g2 E2 => q F2 H2 (g1.trans g2) E2)
    | true => exact iteT (q F1 H1 g1 (by rw [h3 rfl]; exact E1))
theorem evt_not {a : Bool} (h1 : EvT K w δ ω tt a ω1) : EvT K w δ ω (tNot tt) (!a) ω1 := fun F H σ E Q q => h1 F H σ E _ fun F1 H1 g1 E1 => q F1 H1 g1 E1
theorem EvT.to {a : Bool} (h : EvT K w δ ω tt a ω1) (e : a = b) : EvT K w δ ω tt b ω1 := e ▸ h
theorem EvF.to (h : EvF K w δ ω te x ω1) (e : x = d) : EvF K w δ ω te d ω1 := e ▸ h

/-! ### targets -/
theorem tg_name : TgF K w (gName i) d δ (δ.set i (some d)) [i] := fun F H σ ω x E m Q q => q _ (E.set m) (by simp) fun j hj => by
  rw [List.getElem?_set_ne]
  simpa using fun z : i = j => hj (by simp [z])
def TgsF (K : PySem.W.Frag) (w : World) (g : TGs) (ds : List Dat) (δ δ' : Dts) (ts : List Nat) : Prop := ∀ F H σ ω xs, Kn K w F H σ δ ω → InL K F xs ds → ∀ Q : L2.St → Hp → Prop, (∀ σ', Kn K w F H σ' δ' ω → σ'.length = σ.length → (∀ i, i ∉ ts → σ'[i]? = σ[i]?) → Q σ' H) → g xs σ H Q
theorem tgs_nil : TgsF K w gNil [] δ δ [] := fun F H σ ω xs E m Q q => by
  cases m
  exact ⟨rfl, q σ E rfl fun _ _ => rfl⟩
theorem tgs_cons {g : TG} {gs : TGs} {ds : List Dat} {δ1 δ2 : Dts} {ts us : List Nat} (h : TgF K w g d δ δ1 ts) (hs : TgsF K w gs ds δ1 δ2 us) : TgsF K w (gCons g gs) (d :: ds) δ δ2 (ts ++ us) := fun F H σ ω xs E m Q q => by
  cases m with
  | cons m l =>
    refine ⟨_, _, rfl, h F H σ ω _ E m _ fun σ1 E1 l1 k1 => hs F H σ1 ω _ E1 l Q fun σ2 E2 l2 k2 => q σ2 E2 (l2.trans l1) fun i hi => ?_⟩
    rw [k2 i fun z => hi (List.mem_append_right _ z), k1 i fun z => hi (List.mem_append_left _ z)]
theorem tg_tup {g : TGs} {ds : List Dat} {δ1 : Dts} {ts : List Nat} {n : Nat} (h : TgsF K w g ds δ δ1 ts) (hn : ds.length = n) : TgF K w (gTup K n g) (.tup ds) δ δ1 ts := fun F H σ ω x E m Q q => by
  obtain ⟨a, xs, rfl, hs, l⟩ := m.atT
  exact ⟨a, xs, rfl, E.gr.t hs, l.length.trans hn, h F H σ ω xs E l Q q⟩
end
end FL

namespace FL
open PySem PySem.Spec PyProof.Rows L2
section
variable {K : PySem.W.Frag} {w : World} {δ δ' : Dts} {ω ω' ω1 ω2 ω3 : Led} {te ta tb tc : TE} {tt tu : TT} {d x y z : Dat} {i j : Nat} {r r' : R2} {b : Bool} {ts tz t1 t2 : TS} {O : Out}

/-! ### statements -/
theorem st_weak {O' : Out} (h : St K w ts δ ω O') (h1 : ∀ δ ω, O'.nx δ ω → O.nx δ ω) (h2 : ∀ d ω, O'.rt d ω → O.rt d ω) (h3 : ∀ δ ω, O'.bk δ ω → O.bk δ ω) (h4 : ∀ δ ω, O'.ct δ ω → O.ct δ ω) : St K w ts δ ω O :=
  fun F H σ D E n r b c => h F H σ D E (fun δ' ω' F' H' σ' q => n δ' ω' F' H' σ' (h1 _ _ q)) (fun d ω' x F' H' q => r d ω' x F' H' (h2 _ _ q)) (fun δ' ω' F' H' σ' q => b δ' ω' F' H' σ' (h3 _ _ q)) (fun δ' ω' F' H' σ' q => c δ' ω' F' H' σ' (h4 _ _ q))
theorem st_next (h : O.nx δ ω) : St K w tNext δ ω O := fun F H σ D E n r b c => n δ ω F H σ h (gr_refl F) E
theorem st_seq {N : Dts → Led → Prop} (h : St K w ts δ ω { O with nx := N }) (k : ∀ δ' ω', N δ' ω' → St K w tz δ' ω' O) : St K w (tSeq ts tz) δ ω O := fun F H σ D E n r b c =>
  h F H σ { D with nx := tz D } E (fun δ' ω' F1 H1 σ1 q g1 E1 => k δ' ω' q F1 H1 σ1 D E1 (fun δ2 ω2 F2 H2 σ2 q2 g2 E2 => n δ2 ω2 F2 H2 σ2 q2 (g1.trans g2) E2) (fun d ω2 x F2 H2 q2 g2 E2 m => r d ω2 x F2 H2 q2 (g1.trans g2) E2 m)
    (fun δ2 ω2 F2 H2 σ2 q2 g2 E2 => b δ2 ω2 F2 H2 σ2 q2 (g1.trans g2) E2) (fun δ2 ω2 F2 H2 σ2 q2 g2 E2 => c δ2 ω2 F2 H2 σ2 q2 (g1.trans g2) E2)) r b c
theorem st_asg {g : TG} {ts : List Nat} (h : EvF K w δ ω te d ω1) (hg : TgF K w g d δ δ' ts) (k : O.nx δ' ω1) : St K w (tAsg te g) δ ω O := fun F H σ D E n r b c =>
  h F H σ E _ fun x F1 H1 g1 E1 m1 => hg F1 H1 σ ω1 x E1 m1 _ fun σ' E2 _ _ => n δ' ω1 F1 H1 σ' k g1 E2
theorem q_asg {g : TG} {us : List Nat} (h : EvF K w δ ω te d ω1) (hg : TgF K w g d δ δ' us) (k : St K w tz δ' ω1 O) : St K w (tSeq (tAsg te g) tz) δ ω O :=
  st_seq (N := fun δ2 ω2 => δ2 = δ' ∧ ω2 = ω1) (st_asg h hg ⟨rfl, rfl⟩) fun _ _ e => by rw [e.1, e.2]; exact k
/-- x = e -/
theorem q_set (h : EvF K w δ ω te d ω1) (k : St K w tz (δ.set i (some d)) ω1 O) : St K w (tSeq (tAsg te (gName i)) tz) δ ω O := q_asg h tg_name k
/-- x = a new thing of one's own -/
theorem q_new {o : Ow} (h : EvN K w δ ω te o ω1) (k : ∀ p, St K w tz (δ.set i (some (.v (.ref p)))) ((p, o) :: ω1) O) : St K w (tSeq (tAsg te (gName i)) tz) δ ω O := fun F H σ D E n r b c =>
  h F H σ E _ fun p F1 H1 g1 E1 => k p F1 H1 _ D (E1.set .v) (fun δ2 ω2 F2 H2 σ2 q2 g2 E2 => n δ2 ω2 F2 H2 σ2 q2 (g1.trans g2) E2) (fun d ω2 x F2 H2 q2 g2 E2 m => r d ω2 x F2 H2 q2 (g1.trans g2) E2 m)
    (fun δ2 ω2 F2 H2 σ2 q2 g2 E2 => b δ2 ω2 F2 H2 σ2 q2 (g1.trans g2) E2) (fun δ2 ω2 F2 H2 σ2 q2 g2 E2 => c δ2 ω2 F2 H2 σ2 q2 (g1.trans g2) E2)
/-- x = e, told by a relation -/
theorem q_setM {R : Dat → Led → Prop} (h : EvM K w δ ω te R) (k : ∀ d ω1, R d ω1 → St K w tz (δ.set i (some d)) ω1 O) : St K w (tSeq (tAsg te (gName i)) tz) δ ω O := fun F H σ D E n r b c =>
  h F H σ E _ fun d ω1 x F1 H1 hR g1 E1 m1 => k d ω1 hR F1 H1 _ D (E1.set m1) (fun δ2 ω2 F2 H2 σ2 q2 g2 E2 => n δ2 ω2 F2 H2 σ2 q2 (g1.trans g2) E2) (fun d ω2 x F2 H2 q2 g2 E2 m => r d ω2 x F2 H2 q2 (g1.trans g2) E2 m)
    (fun δ2 ω2 F2 H2 σ2 q2 g2 E2 => b δ2 ω2 F2 H2 σ2 q2 (g1.trans g2) E2) (fun δ2 ω2 F2 H2 σ2 q2 g2 E2 => c δ2 ω2 F2 H2 σ2 q2 (g1.trans g2) E2)
theorem st_drop (h : EvF K w δ ω te d ω1) (k : O.nx δ ω1) : St K w (tDrop te) δ ω O := fun F H σ D E n r b c => h F H σ E _ fun x F1 H1 g1 E1 m1 => n δ ω1 F1 H1 σ k g1 E1
theorem q_drop (h : EvF K w δ ω te d ω1) (k : St K w tz δ ω1 O) : St K w (tSeq (tDrop te) tz) δ ω O := st_seq (N := fun δ2 ω2 => δ2 = δ ∧ ω2 = ω1) (st_drop h ⟨rfl, rfl⟩) fun _ _ e => by rw [e.1, e.2]; exact k
theorem st_ret (h : EvF K w δ ω te d ω1) (k : O.rt d ω1) : St K w (tRet te) δ ω O := fun F H σ D E n r b c => h F H σ E _ fun x F1 H1 g1 E1 m1 => r d ω1 x F1 H1 k g1 E1.toKnA m1
theorem st_retM {R : Dat → Led → Prop} (h : EvM K w δ ω te R) (k : ∀ d ω1, R d ω1 → O.rt d ω1) : St K w (tRet te) δ ω O := fun F H σ D E n r b c => h F H σ E _ fun d ω1 x F1 H1 hR g1 E1 m1 => r d ω1 x F1 H1 (k d ω1 hR) g1 E1.toKnA m1
theorem st_retN (k : O.rt (.v .non) ω) : St K w tRetN δ ω O := fun F H σ D E n r b c => r _ ω .non F H k (gr_refl F) E.toKnA .v
theorem st_if (h : EvT K w δ ω tt b ω1) (h1 : b = true → St K w t1 δ ω1 O) (h2 : b = false → St K w t2 δ ω1 O) : St K w (tIfS tt t1 t2) δ ω O := fun F H σ D E n r bk c =>
  h F H σ E _ fun F1 H1 g1 E1 => by
    cases b with
    | true =>
      exact iteT (h1 rfl F1 H1 σ D E1 (fun δ2 ω2 F2 H2 σ2 q2 g2 E2 => n δ2 ω2 F2 H2 σ2 q2 (g1.trans g2) E2) (fun d ω2 x F2 H2 q2 g2 E2 m => r d ω2 x F2 H2 q2 (g1.trans g2) E2 m)
        (fun δ2 ω2 F2 H2 σ2 q2 g2 E2 => bk δ2 ω2 F2 H2 σ2 q2 (g1.trans g2) E2) (fun δ2 ω2 F2 H2 σ2 q2 g2 E2 => c δ2 ω2 F2 H2 σ2 q2 (g1.trans g2) E2))
    | false =>
      exact iteF (h2 rfl F1 H1 σ D E1 (fun δ2 ω2 F2 H2 σ2 q2 g2 E2 => n δ2 ω2 F2 H2 σ2 q2 (g1.trans g2) E2) (fun d ω2 x F2 H2 q2 g2 E2 m => r d ω2 x F2 H2 q2 (g1.trans g2) E2 m)
        (fun δ2 ω2 F2 H2 σ2 q2 g2 E2 => bk δ2 ω2 F2 H2 σ2 q2 (g1.trans g2) E2) (fun δ2 ω2 F2 H2 σ2 q2 g2 E2 => c δ2 ω2 F2 H2 σ2 q2 (g1.trans g2) E2))
theorem q_if (h : EvT K w δ ω tt b ω1) (h1 : b = true → St K w (tSeq t1 tz) δ ω1 O) (h2 : b = false → St K w (tSeq t2 tz) δ ω1 O) : St K w (tSeq (tIfS tt t1 t2) tz) δ ω O := fun F H σ D E n r bk c =>
  st_if h h1 h2 F H σ D E n r bk c
theorem q_next (k : St K w tz δ ω O) : St K w (tSeq tNext tz) δ ω O := k
theorem q_ret (h : St K w (tRet te) δ ω O) : St K w (tSeq (tRet te) tz) δ ω O := fun F H σ D E n r bk c =>
  h F H σ { D with nx := fun σ H => D.nx σ H } E n r bk c
theorem q_seq (h : St K w (tSeq t1 (tSeq t2 tz)) δ ω O) : St K w (tSeq (tSeq t1 t2) tz) δ ω O := h
theorem st_brk (h : O.bk δ ω) : St K w tBreak δ ω O := fun F H σ D E n r b c => b δ ω F H σ h (gr_refl F) E
theorem st_cont (h : O.ct δ ω) : St K w tCont δ ω O := fun F H σ D E n r b c => c δ ω F H σ h (gr_refl F) E
theorem q_brk (h : O.bk δ ω) : St K w (tSeq tBreak tz) δ ω O := fun F H σ D E n r b c => b δ ω F H σ h (gr_refl F) E
theorem q_cont (h : O.ct δ ω) : St K w (tSeq tCont tz) δ ω O := fun F H σ D E n r b c => c δ ω F H σ h (gr_refl F) E
/-- when c: .. (no else), then the rest -/
theorem q_when (h : EvT K w δ ω tt b ω1) (h1 : b = true → St K w (tSeq t1 tz) δ ω1 O) (h2 : b = false → St K w tz δ ω1 O) : St K w (tSeq (tIfS tt t1 tNext) tz) δ ω O := q_if h h1 h2
theorem q_yes (h : EvT K w δ ω tt true ω1) (h1 : St K w (tSeq t1 tz) δ ω1 O) : St K w (tSeq (tIfS tt t1 t2) tz) δ ω O := q_if h (fun _ => h1) fun e => nomatch e
theorem q_no (h : EvT K w δ ω tt false ω1) (h1 : St K w (tSeq t2 tz) δ ω1 O) : St K w (tSeq (tIfS tt t1 t2) tz) δ ω O := q_if h (fun e => nomatch e) fun _ => h1
theorem st_yes (h : EvT K w δ ω tt true ω1) (h1 : St K w t1 δ ω1 O) : St K w (tIfS tt t1 t2) δ ω O := st_if h (fun _ => h1) fun e => nomatch e
theorem st_no (h : EvT K w δ ω tt false ω1) (h1 : St K w t2 δ ω1 O) : St K w (tIfS tt t1 t2) δ ω O := st_if h (fun e => nomatch e) fun _ => h1
/-- what is known may be kept under another name of one's own: the ledger in another order, or less of it -/
theorem st_perm (s : ω.Perm ω') (h : St K w ts δ ω' O) : St K w ts δ ω O := fun F H σ D E n r b c => h F H σ D (E.perm s) n r b c
theorem st_less (s : ω'.Sublist ω) (h : St K w ts δ ω' O) : St K w ts δ ω O := fun F H σ D E n r b c => h F H σ D (E.drop s) n r b c

/-! ### loops -/
theorem st_for {wi : TI} {g : TG} {es : List Dat} {us : List Nat} (hi : EvI K w δ ω wi es ω1) (I : Nat → Dts → Led → Prop) (h0 : I 0 δ ω1)
    (hs : ∀ i d δ' ω', es[i]? = some d → I i δ' ω' → ∃ δ2, TgF K w g d δ' δ2 us ∧ St K w ts δ2 ω' { O with nx := I (i + 1), ct := I (i + 1), bk := O.nx }) (hd : ∀ δ' ω', I es.length δ' ω' → O.nx δ' ω') : St K w (tFor wi g ts) δ ω O := fun F H σ D E n r b c =>
  hi F H σ E _ fun J F1 H1 g1 E1 wk => by
    refine ⟨fun i m σ' H' => i ≤ es.length ∧ m = es.length - i ∧ ∃ δ' ω' F', I i δ' ω' ∧ Gr F1 F' ∧ Kn K w F' H' σ' δ' ω', ⟨es.length, Nat.zero_le _, rfl, δ, ω1, F1, h0, gr_refl F1, E1⟩, ?_⟩
    rintro i m σ' H' ⟨hi, rfl, δ', ω', F', hI, gF, E'⟩
    by_cases hlt : i < es.length
    · refine .inr ⟨wk.go i H' hlt (gF.trans E'.gr), fun σ2 H2 => i + 1 ≤ es.length ∧ ∃ δ2 ω2 F2, I (i + 1) δ2 ω2 ∧ Gr F1 F2 ∧ Kn K w F2 H2 σ2 δ2 ω2, fun σ2 H2 ⟨a, q⟩ => ⟨es.length - (i + 1), by omega, a, rfl, q⟩, fun x H2 hy => ?_⟩
      obtain ⟨F2, d, e, nx, m2⟩ := wk.yl i F' H' x H2 hlt gF E'.gr hy
      obtain ⟨δ2, ht, hb⟩ := hs i d δ' ω' e hI
      refine ht F2 H2 σ' ω' x (E'.nx nx) m2 _ fun σ3 E3 _ _ => hb F2 H2 σ3 _ E3 (fun δ4 ω4 F4 H4 σ4 q4 g4 E4 => ⟨hlt, δ4, ω4, F4, q4, (gF.trans nx.f).trans g4, E4⟩) (fun d4 ω4 x4 F4 H4 q4 g4 E4 m4 => r d4 ω4 x4 F4 H4 q4 (((g1.trans gF).trans nx.f).trans g4) E4 m4)
        (fun δ4 ω4 F4 H4 σ4 q4 g4 E4 => n δ4 ω4 F4 H4 σ4 q4 (((g1.trans gF).trans nx.f).trans g4) E4) (fun δ4 ω4 F4 H4 σ4 q4 g4 E4 => ⟨hlt, δ4, ω4, F4, q4, (gF.trans nx.f).trans g4, E4⟩)
    · have e : i = es.length := by omega
      subst e
      exact .inl ⟨wk.stop H' (gF.trans E'.gr), n δ' ω' F' H' σ' (hd δ' ω' hI) (g1.trans gF) E'⟩
theorem st_while (W : Nat → Dts → Led → Prop) {m : Nat} (h0 : W m δ ω)
    (hs : ∀ m δ' ω', W m δ' ω' → ∃ b ω2, EvT K w δ' ω' tt b ω2 ∧ (b = true → St K w ts δ' ω2 { O with nx := fun δ3 ω3 => ∃ m', m' < m ∧ W m' δ3 ω3, ct := fun δ3 ω3 => ∃ m', m' < m ∧ W m' δ3 ω3, bk := O.nx }) ∧ (b = false → O.nx δ' ω2)) : St K w (tWhile tt ts) δ ω O := fun F H σ D E n r bb c => by
  refine ⟨fun m σ' H' => ∃ δ' ω' F', W m δ' ω' ∧ Gr F F' ∧ Kn K w F' H' σ' δ' ω', ⟨m, δ, ω, F, h0, gr_refl F, E⟩, ?_⟩
  rintro m σ' H' ⟨δ', ω', F', hW, gF, E'⟩
  obtain ⟨b, ω2, ht, h1, h2⟩ := hs m δ' ω' hW
  refine ht F' H' σ' E' _ fun F2 H2 g2 E2 => ?_
  cases b with
  | true =>
    refine iteT ⟨fun σ3 H3 => ∃ m', m' < m ∧ ∃ δ3 ω3 F3, W m' δ3 ω3 ∧ Gr F F3 ∧ Kn K w F3 H3 σ3 δ3 ω3, fun σ3 H3 ⟨m', l, q⟩ => ⟨m', l, q⟩, ?_⟩
    refine h1 rfl F2 H2 σ' _ E2 (fun δ4 ω4 F4 H4 σ4 q4 g4 E4 => ?_) (fun d4 ω4 x4 F4 H4 q4 g4 E4 m4 => r d4 ω4 x4 F4 H4 q4 ((gF.trans g2).trans g4) E4 m4) (fun δ4 ω4 F4 H4 σ4 q4 g4 E4 => n δ4 ω4 F4 H4 σ4 q4 ((gF.trans g2).trans g4) E4) (fun δ4 ω4 F4 H4 σ4 q4 g4 E4 => ?_)
    · obtain ⟨m', l, hW'⟩ := q4
      exact ⟨m', l, δ4, ω4, F4, hW', (gF.trans g2).trans g4, E4⟩
    · obtain ⟨m', l, hW'⟩ := q4
      exact ⟨m', l, δ4, ω4, F4, hW', (gF.trans g2).trans g4, E4⟩
  | false => exact iteF (n δ' ω2 F2 H2 σ' (h2 rfl) (gF.trans g2) E2)

/-! ### what is walked -/
theorem wk_list {F : Hp} {a : Addr} {xs : List V} {ds : List Dat} (h : SqL K F a xs) (l : InL K F xs ds) : Wk K F (Itl K a) ds where
  stop := fun H g => ⟨xs, g.l h, by rw [l.length]; exact Nat.le_refl _⟩
  go := fun i H hi g => by
    obtain ⟨x, e, _⟩ := l.get (List.getElem?_eq_getElem hi)
    exact ⟨xs, x, g.l h, e⟩
  yl := fun i F1 H x H' hi g1 g hy => by
    obtain ⟨rfl, hx⟩ := hy
    obtain ⟨d, e, m⟩ := l.getX (hx xs ((g1.trans g).l h))
    exact ⟨F1, d, e, Nx.refl g, m.mono g1⟩
theorem wk_tup {F : Hp} {a : Addr} {xs : List V} {ds : List Dat} (h : SqT K F a xs) (l : InL K F xs ds) : Wk K F (Itt K a) ds where
  stop := fun H g => ⟨xs, g.t h, by rw [l.length]; exact Nat.le_refl _⟩
  go := fun i H hi g => by
    obtain ⟨x, e, _⟩ := l.get (List.getElem?_eq_getElem hi)
    exact ⟨xs, x, g.t h, e⟩
  yl := fun i F1 H x H' hi g1 g hy => by
    obtain ⟨rfl, hx⟩ := hy
    obtain ⟨d, e, m⟩ := l.getX (hx xs ((g1.trans g).t h))
    exact ⟨F1, d, e, Nx.refl g, m.mono g1⟩
def rngD (lo : Int) (n : Nat) : List Dat := (List.range n).map fun i => .v (.int (lo + (i : Nat)))
theorem rngD_get {lo : Int} {n i : Nat} (h : i < n) : (rngD lo n)[i]? = some (.v (.int (lo + (i : Nat)))) := by
  unfold rngD
  rw [List.getElem?_map, List.getElem?_range h]
  rfl
theorem rngD_length (lo : Int) (n : Nat) : (rngD lo n).length = n := by simp [rngD]
theorem wk_range {F : Hp} {lo : Int} {n : Nat} : Wk K F (Itr lo n) (rngD lo n) where
  stop := fun H g => by show n ≤ (rngD lo n).length; rw [rngD_length]; exact Nat.le_refl _
  go := fun i H hi g => by rw [rngD_length] at hi; exact hi
  yl := fun i F1 H x H' hi g1 g hy => by
    obtain ⟨rfl, rfl⟩ := hy
    rw [rngD_length] at hi
    exact ⟨F1, _, rngD_get hi, Nx.refl g, .v⟩
def sgnD (x : Str) : List Dat := x.cps.toList.map fun c => .v (.str ⟨#[c]⟩)
theorem wk_str {F : Hp} {x : Str} : Wk K F (Its x) (sgnD x) where
  stop := fun H g => by show x.cps.size ≤ (sgnD x).length; simp [sgnD]
  go := fun i H hi g => by show i < x.cps.size; simpa [sgnD] using hi
  yl := fun i F1 H y H' hi g1 g hy => by
    obtain ⟨rfl, c, e, rfl⟩ := hy
    refine ⟨F1, _, ?_, Nx.refl g, .v⟩
    unfold sgnD
    rw [List.getElem?_map, Array.getElem?_toList, e]
    rfl
def enuD : Nat → List Dat → List Dat
  | _, [] => []
  | n, d :: ds => .tup [.v (.int (n : Nat)), d] :: enuD (n + 1) ds
theorem enuD_length : ∀ (n : Nat) (ds : List Dat), (enuD n ds).length = ds.length
  | _, [] => rfl
  | n, d :: ds => by show (enuD (n + 1) ds).length + 1 = ds.length + 1; rw [enuD_length]
theorem enuD_get : ∀ {n i : Nat} {ds : List Dat} {d : Dat}, ds[i]? = some d → (enuD n ds)[i]? = some (.tup [.v (.int ((n + i : Nat))), d])
  | _, _, [], _, h => by simp at h
  | n, 0, e :: ds, d, h => by simp at h; subst h; rfl
  | n, i + 1, e :: ds, d, h => by
    have := enuD_get (n := n + 1) (i := i) (ds := ds) (d := d) (by simpa using h)
    rw [show n + (i + 1) = n + 1 + i by omega]
    exact this
theorem wk_enum {F : Hp} {a : Addr} {xs : List V} {ds : List Dat} (h : SqL K F a xs) (l : InL K F xs ds) : Wk K F (Ite K a) (enuD 0 ds) where
  stop := fun H g => ⟨xs, g.l h, by rw [l.length, enuD_length]; exact Nat.le_refl _⟩
  go := fun i H hi g => by
    rw [enuD_length] at hi
    obtain ⟨x, e, _⟩ := l.get (List.getElem?_eq_getElem hi)
    exact ⟨xs, x, g.l h, e⟩
  yl := fun i F1 H x H' hi g1 g hy => by
    obtain ⟨T, y, rfl, n, rfl, hx⟩ := hy
    obtain ⟨d, e, m⟩ := l.getX (hx xs ((g1.trans g).l h))
    refine ⟨_, _, enuD_get e, Nx.new g n, InL.tupNew (.cons (by rw [Nat.zero_add]; exact .v) (.cons (m.mono g1) .nil)) (g.fresh n)⟩
theorem evi_tup {ds : List Dat} (h : EvF K w δ ω te (.tup ds) ω1) : EvI K w δ ω (iTup K te) ds ω1 := fun F H σ E R q => h F H σ E _ fun x F1 H1 g1 E1 m1 => by
  obtain ⟨a, xs, rfl, hs, l⟩ := m1.atT
  exact ⟨a, rfl, ⟨xs, E1.gr.t hs⟩, q _ F1 H1 g1 E1 (wk_tup hs l)⟩
theorem evi_list {ds : List Dat} (h : EvF K w δ ω te (.lst ds) ω1) : EvI K w δ ω (iList K te) ds ω1 := fun F H σ E R q => h F H σ E _ fun x F1 H1 g1 E1 m1 => by
  obtain ⟨a, xs, rfl, hs, l⟩ := m1.atL
  refine ⟨a, rfl, ⟨xs, sl (E1.gr _ _ hs)⟩, q _ F1 H1 g1 E1 ⟨fun H g => ⟨xs, sl (g _ _ hs), by rw [l.length]; exact Nat.le_refl _⟩, fun i H hi g => ?_, fun i F2 H x H' hi g2 g hy => ?_⟩⟩
  · obtain ⟨x, e, _⟩ := l.get (List.getElem?_eq_getElem hi)
    exact ⟨xs, x, sl (g _ _ hs), e⟩
  · obtain ⟨rfl, hx⟩ := hy
    obtain ⟨d, e, m⟩ := l.getX (hx xs (sl ((g2.trans g) _ _ hs)))
    exact ⟨F2, d, e, Nx.refl g, m.mono g2⟩
theorem evi_enum {ta : TA} {ds : List Dat} (h : EvA K w δ ω ta [.lst ds] ω1) : EvI K w δ ω (iEnum K ta) (enuD 0 ds) ω1 := fun F H σ E R q => h F H σ E _ fun vs F1 H1 g1 E1 m1 => by
  cases m1 with
  | cons m l =>
    cases l
    obtain ⟨a, xs, rfl, hs, l⟩ := m.atL
    exact ⟨a, xs, rfl, sl (E1.gr _ _ hs), q _ F1 H1 g1 E1 (wk_enum (sl hs) l)⟩
theorem evi_str {x : Str} (h : EvF K w δ ω te (.v (.str x)) ω1) : EvI K w δ ω (iStr te) (sgnD x) ω1 := fun F H σ E R q => h F H σ E _ fun v F1 H1 g1 E1 m1 => ⟨x, m1.eqv, q _ F1 H1 g1 E1 wk_str⟩
theorem evi_rng1 {ta : TA} {n : Int} (h : EvA K w δ ω ta [.v (.int n)] ω1) (h1 : -(2 ^ 62) ≤ n) (h2 : n < 2 ^ 62) : EvI K w δ ω (iRng1 ta) (rngD 0 n.toNat) ω1 := fun F H σ E R q => h F H σ E _ fun vs F1 H1 g1 E1 m1 => by
  have e := InL.eqvs (ys := [.int n]) m1
  exact ⟨n, e, h1, h2, q _ F1 H1 g1 E1 wk_range⟩
theorem evi_rng2 {ta : TA} {m n : Int} (h : EvA K w δ ω ta [.v (.int m), .v (.int n)] ω1) (h0 : -(2 ^ 62) ≤ m ∧ m < 2 ^ 62 ∧ -(2 ^ 62) ≤ n ∧ n < 2 ^ 62) : EvI K w δ ω (iRng2 ta) (rngD m (n - m).toNat) ω1 := fun F H σ E R q => h F H σ E _ fun vs F1 H1 g1 E1 m1 => by
  have e := InL.eqvs (ys := [.int m, .int n]) m1
  exact ⟨m, n, e, h0, q _ F1 H1 g1 E1 wk_range⟩
end
end FL

namespace FL
open PySem PySem.Spec PyProof.Rows L2
section
variable {K : PySem.W.Frag} {w : World} {F F' H H' : Hp} {σ : L2.St} {δ δ' : Dts} {ω ω' ω1 ω2 ω3 : Led} {te ta tb tc : TE} {tt tu : TT} {d x y z : Dat} {i j : Nat} {r r' : R2} {b : Bool} {ts tz t1 t2 : TS} {O : Out}

/-! ### numbers, texts -/
theorem rf_addI {i j : Int} : RF K w δ ω (rPlus K) (.v (.int i)) (.v (.int j)) (.v (.int (i + j))) := fun F H σ E v u hv hu Q q => .inl ⟨i, j, hv.eqv, hu.eqv, q _ F H (Nx.refl E.gr) .v⟩
theorem rf_addS {i j : Str} (h : i.length + j.length ≤ sizeLine) : RF K w δ ω (rPlus K) (.v (.str i)) (.v (.str j)) (.v (.str (i ++ j))) := fun F H σ E v u hv hu Q q => .inr (.inl ⟨i, j, hv.eqv, hu.eqv, h, q _ F H (Nx.refl E.gr) .v⟩)
theorem rf_addL {xs ys : List Dat} (h : xs.length + ys.length ≤ sizeLine) : RF K w δ ω (rPlus K) (.lst xs) (.lst ys) (.lst (xs ++ ys)) := fun F H σ E v u hv hu Q q => by
  obtain ⟨a, vs, rfl, ha, la⟩ := hv.atL
  obtain ⟨c, us, rfl, hc, lc⟩ := hu.atL
  exact .inr (.inr (.inl ⟨a, c, vs, us, rfl, rfl, E.gr _ _ ha, E.gr _ _ hc, by rw [la.length, lc.length]; exact h, fun p n => q _ _ _ (Nx.new E.gr n) ((la.append lc).lstNew (E.gr.fresh n))⟩))
theorem rf_addT {xs ys : List Dat} (h : xs.length + ys.length ≤ sizeLine) : RF K w δ ω (rPlus K) (.tup xs) (.tup ys) (.tup (xs ++ ys)) := fun F H σ E v u hv hu Q q => by
  obtain ⟨a, vs, rfl, ha, la⟩ := hv.atT
  obtain ⟨c, us, rfl, hc, lc⟩ := hu.atT
  refine .inr (.inr (.inr ⟨a, c, vs, us, rfl, rfl, E.gr.t ha, E.gr.t hc, by rw [la.length, lc.length]; exact h, fun e => ?_, fun _ e => ?_, fun _ _ p n => ?_⟩))
  · subst e
    cases la
    exact q _ F H (Nx.refl E.gr) hu
  · subst e
    cases lc
    rw [List.append_nil] at q
    exact q _ F H (Nx.refl E.gr) hv
  · exact q _ _ _ (Nx.new E.gr n) ((la.append lc).tupNew (E.gr.fresh n))
theorem rf_subI {i j : Int} : RF K w δ ω rMinus (.v (.int i)) (.v (.int j)) (.v (.int (i - j))) := fun F H σ E v u hv hu Q q => ⟨i, j, hv.eqv, hu.eqv, q _ F H (Nx.refl E.gr) .v⟩
theorem rf_mulI {i j : Int} (h : CMul i j) : RF K w δ ω rTimes (.v (.int i)) (.v (.int j)) (.v (.int (i * j))) := fun F H σ E v u hv hu Q q => .inl ⟨i, j, hv.eqv, hu.eqv, h, q _ F H (Nx.refl E.gr) .v⟩
theorem InL.rep {n : Nat} {xs : List V} {ds : List Dat} (h : InL K F xs ds) : InL K F (List.replicate n xs).flatten (List.replicate n ds).flatten := by
  induction n with
  | zero => exact .nil
  | succ n ih =>
    rw [List.replicate_succ, List.replicate_succ, List.flatten_cons, List.flatten_cons]
    exact h.append ih
theorem rf_mulL {xs : List Dat} {k : Int} (h1 : -(2 ^ 63) ≤ k) (h2 : k < 2 ^ 63) (h : xs.length * k.toNat ≤ sizeLine) : RF K w δ ω rTimes (.lst xs) (.v (.int k)) (.lst (List.replicate k.toNat xs).flatten) := fun F H σ E v u hv hu Q q => by
  obtain ⟨a, vs, rfl, ha, la⟩ := hv.atL
  exact .inr ⟨a, k, vs, rfl, hu.eqv, E.gr _ _ ha, h1, h2, by rw [la.length]; exact h, fun p n => q _ _ _ (Nx.new E.gr n) (la.rep.lstNew (E.gr.fresh n))⟩
theorem rf_fdiv {i j : Int} (h : 0 < j ∧ j < 1073741824) : RF K w δ ω rFdiv (.v (.int i)) (.v (.int j)) (.v (.int (i / j))) := fun F H σ E v u hv hu Q q => ⟨i, j, hv.eqv, hu.eqv, h, q _ F H (Nx.refl E.gr) .v⟩
theorem rf_mod {i j : Int} (h : 0 < j) : RF K w δ ω rMod (.v (.int i)) (.v (.int j)) (.v (.int (i % j))) := fun F H σ E v u hv hu Q q => ⟨i, j, hv.eqv, hu.eqv, h, q _ F H (Nx.refl E.gr) .v⟩
theorem rf_pow {i j : Int} (h : 0 ≤ j ∧ j ≤ 1000000 ∧ i.natAbs < 2 ^ 64) : RF K w δ ω rPow (.v (.int i)) (.v (.int j)) (.v (.int (i ^ j.toNat))) := fun F H σ E v u hv hu Q q => ⟨i, j, hv.eqv, hu.eqv, h, q _ F H (Nx.refl E.gr) .v⟩
theorem uf_neg {i : Int} : UF K w δ ω rNeg (.v (.int i)) (.v (.int (-i))) := fun F H σ E v hv Q q => ⟨i, hv.eqv, q _ F H (Nx.refl E.gr) .v⟩

/-! ### subscripts -/
theorem InL.atI {xs : List V} {ds : List Dat} (l : InL K F xs ds) {i : Int} (h : L2.atI ds i = some d) : ∃ x, L2.atI xs i = some x ∧ In K F x d := by
  unfold L2.atI at h ⊢
  rw [l.length]
  cases e : ixN ds.length i with
  | none => rw [e] at h; cases h
  | some j =>
    rw [e] at h
    obtain ⟨x, h1, h2⟩ := l.get (show ds[j]? = some d from h)
    exact ⟨x, h1, h2⟩
theorem rf_atT {ds : List Dat} {i : Int} (h : L2.atI ds i = some d) : RF K w δ ω (rAts K w) (.tup ds) (.v (.int i)) d := fun F H σ E v u hv hu Q q => by
  obtain ⟨a, vs, rfl, ha, la⟩ := hv.atT
  obtain ⟨x, h1, h2⟩ := la.atI h
  exact .inl (.inl ⟨a, vs, i, x, rfl, hu.eqv, E.gr.t ha, h1, q _ F H (Nx.refl E.gr) h2⟩)
theorem rf_atL {ds : List Dat} {i : Int} (h : L2.atI ds i = some d) : RF K w δ ω (rAts K w) (.lst ds) (.v (.int i)) d := fun F H σ E v u hv hu Q q => by
  obtain ⟨a, vs, rfl, ha, la⟩ := hv.atL
  obtain ⟨x, h1, h2⟩ := la.atI h
  exact .inl (.inr (.inl ⟨a, vs, i, x, rfl, hu.eqv, sl (E.gr _ _ ha), h1, q _ F H (Nx.refl E.gr) h2⟩))
theorem rf_atO {p : Addr} {ds : List Dat} {i : Int} (m : (p, Ow.lst ds) ∈ ω) (h : L2.atI ds i = some d) : RF K w δ ω (rAts K w) (.v (.ref p)) (.v (.int i)) d := fun F H σ E v u hv hu Q q => by
  obtain ⟨_, vs, ha, la⟩ := E.ow _ _ m
  obtain ⟨x, h1, h2⟩ := la.atI h
  exact .inl (.inr (.inl ⟨p, vs, i, x, hv.eqv, hu.eqv, sl ha, h1, q _ F H (Nx.refl E.gr) h2⟩))
theorem rf_atScr {ns : List Int} {i : Int} {n : Int} (h : L2.atI ns i = some n) : RF K w δ ω (rAts K w) (.scr ns) (.v (.int i)) (.v (.int n)) := fun F H σ E v u hv hu Q q => by
  cases hv with
  | scr ha =>
    refine .inl (.inr (.inl ⟨_, _, i, .int n, rfl, hu.eqv, E.gr.l ha, ?_, q _ F H (Nx.refl E.gr) .v⟩))
    unfold L2.atI at h ⊢
    rw [List.length_map]
    cases e : ixN ns.length i with
    | none => rw [e] at h; cases h
    | some j =>
      rw [e] at h
      have h' : ns[j]? = some n := h
      show (ns.map V.int)[j]? = _
      rw [List.getElem?_map, h']
      rfl
theorem rf_atS {z : Str} {i : Int} {c : Nat} (hz : z.length ≤ sizeLine) (h : L2.atI z.cps.toList i = some c) : RF K w δ ω (rAts K w) (.v (.str z)) (.v (.int i)) (.v (.str ⟨#[c]⟩)) := fun F H σ E v u hv hu Q q =>
  .inl (.inr (.inr (.inl ⟨z, i, c, hv.eqv, hu.eqv, hz, h, q _ F H (Nx.refl E.gr) .v⟩)))
theorem rf_atKd {a : Addr} {z : Str} {x : V} (h : KDct K w a z x) : RF K w δ ω (rAts K w) (.v (.ref a)) (.v (.str z)) (.v x) := fun F H σ E v u hv hu Q q =>
  .inl (.inr (.inr (.inr (.inr ⟨a, z, x, hv.eqv, hu.eqv, h, q _ F H (Nx.refl E.gr) .v⟩))))
/-- what a dict of one's own holds -/
def lookD {κ : Type} [DecidableEq κ] (kvs : List (κ × Dat)) (k : κ) : Option Dat := (kvs.find? fun q => decide (q.1 = k)).map (·.2)
theorem lookD_val {κ : Type} [DecidableEq κ] (k : κ) : ∀ {gs : List (κ × V)} {kvs : List (κ × Dat)}, gs.map (·.1) = kvs.map (·.1) → InL K F (gs.map (·.2)) (kvs.map (·.2)) → (lookD kvs k = none ∧ valV gs k = none) ∨ ∃ x d, lookD kvs k = some d ∧ valV gs k = some x ∧ In K F x d
  | [], [], _, _ => .inl ⟨rfl, rfl⟩
  | [], _ :: _, e, _ => by simp at e
  | _ :: _, [], e, _ => by simp at e
  | g :: gs, q :: kvs, e, l => by
    rw [List.map_cons, List.map_cons] at e l
    injection e with e1 e2
    cases l with
    | cons m l =>
      unfold lookD valV
      rw [List.find?_cons, List.find?_cons, e1]
      by_cases c : q.1 = k
      · rw [decide_eq_true c]
        exact .inr ⟨_, _, rfl, rfl, m⟩
      · rw [decide_eq_false c]
        exact lookD_val k e2 l
theorem rf_atDk {p : Addr} {kvs : List (Key × Dat)} {k : Key} (m : (p, Ow.dk kvs) ∈ ω) (h : lookD kvs k = some d) : RF K w δ ω (rAts K w) (.v (.ref p)) (.v (kV k)) d := fun F H σ E v u hv hu Q q => by
  obtain ⟨_, gs, ha, e, la⟩ := E.ow _ _ m
  rcases lookD_val k e la with ⟨h1, _⟩ | ⟨x, d', h1, h2, h3⟩
  · rw [h1] at h; cases h
  · rw [h1] at h
    cases h
    have g := DGet.k (k := k) ha
    rw [h2] at g
    exact .inl (.inr (.inr (.inr (.inl ⟨p, x, hv.eqv, by rw [hu.eqv]; exact g, q _ F H (Nx.refl E.gr) h3⟩))))

/-! ### comparisons -/
theorem rf_leI {i j : Int} : RF K w δ ω rLes (.v (.int i)) (.v (.int j)) (.v (.bl (decide (i ≤ j)))) := fun F H σ E v u hv hu Q q => .inl ⟨i, j, hv.eqv, hu.eqv, q _ F H (Nx.refl E.gr) .v⟩
theorem rf_leS {i j : Str} : RF K w δ ω rLes (.v (.str i)) (.v (.str j)) (.v (.bl (!decide (j.cps.toList < i.cps.toList)))) := fun F H σ E v u hv hu Q q => .inr ⟨i, j, hv.eqv, hu.eqv, q _ F H (Nx.refl E.gr) .v⟩
theorem rf_ltI {i j : Int} : RF K w δ ω rLts (.v (.int i)) (.v (.int j)) (.v (.bl (decide (i < j)))) := fun F H σ E v u hv hu Q q => ⟨i, j, hv.eqv, hu.eqv, q _ F H (Nx.refl E.gr) .v⟩
theorem rf_gtI {i j : Int} : RF K w δ ω rGts (.v (.int i)) (.v (.int j)) (.v (.bl (decide (j < i)))) := fun F H σ E v u hv hu Q q => ⟨i, j, hv.eqv, hu.eqv, q _ F H (Nx.refl E.gr) .v⟩
theorem rf_geI {i j : Int} : RF K w δ ω rGes (.v (.int i)) (.v (.int j)) (.v (.bl (decide (j ≤ i)))) := fun F H σ E v u hv hu Q q => ⟨i, j, hv.eqv, hu.eqv, q _ F H (Nx.refl E.gr) .v⟩
theorem rf_eqS {x y : V} (h : scal x y = true) : RF K w δ ω (rEqs K) (.v x) (.v y) (.v (.bl (decide (x = y)))) := fun F H σ E v u hv hu Q q => .inl ⟨by rw [hv.eqv, hu.eqv]; exact h, by rw [hv.eqv, hu.eqv]; exact q _ F H (Nx.refl E.gr) .v⟩
theorem rf_neS {x y : V} (h : scal x y = true) : RF K w δ ω (rNes K) (.v x) (.v y) (.v (.bl (!decide (x = y)))) := fun F H σ E v u hv hu Q q => .inl ⟨by rw [hv.eqv, hu.eqv]; exact h, by rw [hv.eqv, hu.eqv]; exact q _ F H (Nx.refl E.gr) .v⟩
/- data that == reads -/
mutual
def Dat.py : Dat → Option PyData
  | .v (.int i) => some (.int i)
  | .v (.str s) => some (.str s)
  | .v (.bl b) => some (.bool b)
  | .v .non => some .none
  | .tup ds => (Dat.pys ds).map .tuple
  | .lst ds => (Dat.pys ds).map .list
  | _ => none
def Dat.pys : List Dat → Option (List PyData)
  | [] => some []
  | d :: ds => match d.py, Dat.pys ds with
    | some p, some ps => some (p :: ps)
    | _, _ => none
end
mutual
theorem In.dp : ∀ {d : Dat} {x : V} {p : PyData}, In K F x d → d.py = some p → Dp K F x p
  | .v (.int i), _, _, h, e => by rw [Dat.py] at e; cases e; rw [h.eqv]; exact .int i
  | .v (.str i), _, _, h, e => by rw [Dat.py] at e; cases e; rw [h.eqv]; exact .str i
  | .v (.bl i), _, _, h, e => by rw [Dat.py] at e; cases e; rw [h.eqv]; exact .bl i
  | .v .non, _, _, h, e => by rw [Dat.py] at e; cases e; rw [h.eqv]; exact .non
  | .v (.byt _), _, _, h, e => by rw [Dat.py] at e <;> first | cases e | (intros; nofun)
  | .v (.flt _), _, _, h, e => by rw [Dat.py] at e <;> first | cases e | (intros; nofun)
  | .v (.ref _), _, _, h, e => by rw [Dat.py] at e <;> first | cases e | (intros; nofun)
  | .v (.ty _), _, _, h, e => by rw [Dat.py] at e <;> first | cases e | (intros; nofun)
  | .any, _, _, h, e => by rw [Dat.py] at e <;> first | cases e | (intros; nofun)
  | .ins _ _ _, _, _, h, e => by rw [Dat.py] at e <;> first | cases e | (intros; nofun)
  | .scr _, _, _, h, e => by rw [Dat.py] at e <;> first | cases e | (intros; nofun)
  | .tup ds, _, _, h, e => by
    rw [Dat.py] at e
    obtain ⟨ps, e1, rfl⟩ := Option.map_eq_some_iff.mp e
    obtain ⟨a, xs, rfl, hs, l⟩ := h.atT
    exact .tup hs (InL.dps l e1)
  | .lst ds, _, _, h, e => by
    rw [Dat.py] at e
    obtain ⟨ps, e1, rfl⟩ := Option.map_eq_some_iff.mp e
    obtain ⟨a, xs, rfl, hs, l⟩ := h.atL
    exact .lst (sl hs) (InL.dps l e1)
theorem InL.dps : ∀ {ds : List Dat} {xs : List V} {ps : List PyData}, InL K F xs ds → Dat.pys ds = some ps → DpAll K F xs ps
  | [], _, _, .nil, e => by rw [Dat.pys] at e; cases e; exact .nil
  | d :: ds, _, _, .cons h l, e => by
    rw [Dat.pys] at e
    cases e1 : d.py with
    | none => rw [e1] at e; cases e
    | some p =>
      cases e2 : Dat.pys ds with
      | none => rw [e1, e2] at e; cases e
      | some ps =>
        rw [e1, e2] at e
        cases e
        exact .cons (In.dp h e1) (InL.dps l e2)
end
theorem rf_eqD {p q : PyData} (hp : x.py = some p) (hq : y.py = some q) (sp : SeqAt.shaped p = true) (sq : SeqAt.shaped q = true) : RF K w δ ω (rEqs K) x y (.v (.bl (PyData.eqv p q))) := fun F H σ E v u hv hu Q k =>
  .inr ⟨p, q, (hv.mono E.gr).dp hp, (hu.mono E.gr).dp hq, sp, sq, k _ F H (Nx.refl E.gr) .v⟩
theorem rf_neD {p q : PyData} (hp : x.py = some p) (hq : y.py = some q) (sp : SeqAt.shaped p = true) (sq : SeqAt.shaped q = true) : RF K w δ ω (rNes K) x y (.v (.bl (!PyData.eqv p q))) := fun F H σ E v u hv hu Q k =>
  .inr ⟨p, q, (hv.mono E.gr).dp hp, (hu.mono E.gr).dp hq, sp, sq, k _ F H (Nx.refl E.gr) .v⟩
/-- a list of one's own against data -/
theorem rf_neO {a : Addr} {ds : List Dat} {ps : List PyData} {q : PyData} (m : (a, Ow.lst ds) ∈ ω) (hp : Dat.pys ds = some ps) (hq : y.py = some q) (sp : SeqAt.shaped (.list ps) = true) (sq : SeqAt.shaped q = true) : RF K w δ ω (rNes K) (.v (.ref a)) y (.v (.bl (!PyData.eqv (.list ps) q))) := fun F H σ E v u hv hu Q k => by
  obtain ⟨_, vs, ha, la⟩ := E.ow _ _ m
  exact .inr ⟨.list ps, q, by rw [hv.eqv]; exact .lst (sl ha) ((la.mono E.gr).dps hp), (hu.mono E.gr).dp hq, sp, sq, k _ F H (Nx.refl E.gr) .v⟩
theorem rf_inT {x : V} {vs : List V} (hx : flatV x = true) (hv : vs.all flatV = true) : RF K w δ ω (rIns K w) (.v x) (.tup (vs.map Dat.v)) (.v (.bl (inV x vs))) := fun F H σ E v u hv' hu Q q => by
  obtain ⟨a, us, rfl, ha, la⟩ := hu.atT
  have e := InL.eqvs la
  subst e
  rw [hv'.eqv]
  exact .inl ⟨a, us, rfl, .inr (E.gr.t ha), hx, hv, q _ F H (Nx.refl E.gr) .v⟩
theorem rf_inKd {z : Str} {a : Addr} (h : KHas K w a z b) : RF K w δ ω (rIns K w) (.v (.str z)) (.v (.ref a)) (.v (.bl b)) := fun F H σ E v u hv hu Q q => .inr (.inr (.inl ⟨z, a, b, hv.eqv, hu.eqv, h, q _ F H (Nx.refl E.gr) .v⟩))
theorem rf_notInKd {z : Str} {a : Addr} (h : KHas K w a z b) : RF K w δ ω (rNotIns K w) (.v (.str z)) (.v (.ref a)) (.v (.bl (!b))) := fun F H σ E v u hv hu Q q => .inr (.inr (.inl ⟨z, a, b, hv.eqv, hu.eqv, h, q _ F H (Nx.refl E.gr) .v⟩))
theorem rf_inDk {p : Addr} {kvs : List (Key × Dat)} {k : Key} (m : (p, Ow.dk kvs) ∈ ω) : RF K w δ ω (rIns K w) (.v (kV k)) (.v (.ref p)) (.v (.bl (lookD kvs k).isSome)) := fun F H σ E v u hv hu Q q => by
  obtain ⟨_, gs, ha, e, la⟩ := E.ow _ _ m
  have g := DGet.k (k := k) ha
  have e2 : (valV gs k).isSome = (lookD kvs k).isSome := by
    rcases lookD_val k e la with ⟨h1, h2⟩ | ⟨x, d', h1, h2, h3⟩ <;> rw [h1, h2] <;> rfl
  exact .inr (.inl ⟨p, _, hu.eqv, by rw [hv.eqv]; exact g, by rw [e2]; exact q _ F H (Nx.refl E.gr) .v⟩)
theorem rf_notInDk {p : Addr} {kvs : List (Key × Dat)} {k : Key} (m : (p, Ow.dk kvs) ∈ ω) : RF K w δ ω (rNotIns K w) (.v (kV k)) (.v (.ref p)) (.v (.bl (!(lookD kvs k).isSome))) := fun F H σ E v u hv hu Q q => by
  obtain ⟨_, gs, ha, e, la⟩ := E.ow _ _ m
  have g := DGet.k (k := k) ha
  have e2 : (valV gs k).isSome = (lookD kvs k).isSome := by
    rcases lookD_val k e la with ⟨h1, h2⟩ | ⟨x, d', h1, h2, h3⟩ <;> rw [h1, h2] <;> rfl
  exact .inr (.inl ⟨p, _, hu.eqv, by rw [hv.eqv]; exact g, by rw [e2]; exact q _ F H (Nx.refl E.gr) .v⟩)
end
end FL

namespace FL
open PySem PySem.Spec PyProof.Rows L2
section
variable {K : PySem.W.Frag} {w : World} {F F' H H' : Hp} {σ : L2.St} {δ δ' : Dts} {ω ω' ω1 ω2 ω3 : Led} {te ta tb tc to ti tv : TE} {tt tu : TT} {d x y z : Dat} {i j : Nat} {r r' : R2} {b : Bool} {ts tz t1 t2 : TS} {O : Out}

/-! ### calls of built-ins -/
theorem KnA.refl' (E : KnA K w F H ω) : Gr F F := gr_refl F
/-- one argument -/
theorem cf1 {r : List V → Hp → VK → Prop} (h : ∀ F H σ, Kn K w F H σ δ ω → ∀ v, In K F v x → ∀ Q : VK, (∀ z' F' H', Nx F H F' H' → In K F' z' z → Q z' H') → r [v] H Q) : CF K w δ ω r [x] z ω := fun F H σ E vs m Q q => by
  cases m with
  | cons m l =>
    cases l
    exact h F H σ E _ m Q fun z' F' H' nx m' => q z' F' H' nx.f (E.nx nx) m'
theorem cf_lenL {ds : List Dat} : CF K w δ ω (rLens K) [.lst ds] (.v (.int ds.length)) ω := cf1 fun F H σ E v m Q q => by
  obtain ⟨a, vs, rfl, ha, la⟩ := m.atL
  exact .inl ⟨_, vs.length, rfl, .inl ⟨vs, sl (E.gr _ _ ha), rfl⟩, by rw [la.length]; exact q _ F H (Nx.refl E.gr) .v⟩
theorem cf_lenT {ds : List Dat} : CF K w δ ω (rLens K) [.tup ds] (.v (.int ds.length)) ω := cf1 fun F H σ E v m Q q => by
  obtain ⟨a, vs, rfl, ha, la⟩ := m.atT
  exact .inl ⟨_, vs.length, rfl, .inr ⟨vs, E.gr.t ha, rfl⟩, by rw [la.length]; exact q _ F H (Nx.refl E.gr) .v⟩
theorem cf_lenS {s : Str} (h : s.length ≤ sizeLine) : CF K w δ ω (rLens K) [.v (.str s)] (.v (.int s.length)) ω := cf1 fun F H σ E v m Q q => by
  rw [m.eqv]
  exact .inl ⟨_, s.length, rfl, ⟨h, rfl⟩, q _ F H (Nx.refl E.gr) .v⟩
theorem cf_lenO {p : Addr} {ds : List Dat} (mo : (p, Ow.lst ds) ∈ ω) : CF K w δ ω (rLens K) [.v (.ref p)] (.v (.int ds.length)) ω := cf1 fun F H σ E v m Q q => by
  obtain ⟨_, vs, ha, la⟩ := E.ow _ _ mo
  rw [m.eqv]
  exact .inl ⟨_, vs.length, rfl, .inl ⟨vs, sl ha, rfl⟩, by rw [la.length]; exact q _ F H (Nx.refl E.gr) .v⟩
theorem cf_lenScr {ns : List Int} : CF K w δ ω (rLens K) [.scr ns] (.v (.int ns.length)) ω := cf1 fun F H σ E v m Q q => by
  cases m with
  | scr ha => exact .inl ⟨_, (ns.map V.int).length, rfl, .inl ⟨_, E.gr.l ha, rfl⟩, by rw [List.length_map]; exact q _ F H (Nx.refl E.gr) .v⟩
theorem cf_all {bs : List Bool} : CF K w δ ω (rAll K) [.lst (bs.map fun b => .v (.bl b))] (.v (.bl (bs.all id))) ω := cf1 fun F H σ E v m Q q => by
  obtain ⟨a, vs, rfl, ha, la⟩ := m.atL
  have e : vs = bs.map V.bl := by
    refine InL.eqvs (K := K) (F := F) ?_
    rw [List.map_map]
    exact la
  subst e
  exact ⟨a, bs, rfl, sl (E.gr _ _ ha), q _ F H (Nx.refl E.gr) .v⟩
theorem cf_any {bs : List Bool} : CF K w δ ω (rAny K) [.lst (bs.map fun b => .v (.bl b))] (.v (.bl (bs.any id))) ω := cf1 fun F H σ E v m Q q => by
  obtain ⟨a, vs, rfl, ha, la⟩ := m.atL
  have e : vs = bs.map V.bl := by
    refine InL.eqvs (K := K) (F := F) ?_
    rw [List.map_map]
    exact la
  subst e
  exact ⟨a, bs, rfl, sl (E.gr _ _ ha), q _ F H (Nx.refl E.gr) .v⟩
theorem cf_intI {i : Int} : CF K w δ ω rInt1 [.v (.int i)] (.v (.int i)) ω := cf1 fun F H σ E v m Q q => .inl ⟨i, by rw [m.eqv], q _ F H (Nx.refl E.gr) .v⟩
theorem cf_intB {b : Bool} : CF K w δ ω rInt1 [.v (.bl b)] (.v (.int (if b then 1 else 0))) ω := cf1 fun F H σ E v m Q q => .inr ⟨b, by rw [m.eqv], q _ F H (Nx.refl E.gr) .v⟩
theorem cf_listL {ds : List Dat} : CF K w δ ω (rListOf K) [.lst ds] (.lst ds) ω := cf1 fun F H σ E v m Q q => by
  obtain ⟨a, vs, rfl, ha, la⟩ := m.atL
  exact ⟨a, vs, rfl, .inl (sl (E.gr _ _ ha)), fun p n => q _ _ _ (Nx.new E.gr n) (la.lstNew (E.gr.fresh n))⟩
theorem cf_listT {ds : List Dat} : CF K w δ ω (rListOf K) [.tup ds] (.lst ds) ω := cf1 fun F H σ E v m Q q => by
  obtain ⟨a, vs, rfl, ha, la⟩ := m.atT
  exact ⟨a, vs, rfl, .inr (E.gr.t ha), fun p n => q _ _ _ (Nx.new E.gr n) (la.lstNew (E.gr.fresh n))⟩
theorem cf_tupL {ds : List Dat} : CF K w δ ω (rTupOf K) [.lst ds] (.tup ds) ω := cf1 fun F H σ E v m Q q => by
  obtain ⟨a, vs, rfl, ha, la⟩ := m.atL
  exact ⟨a, vs, rfl, .inl ⟨sl (E.gr _ _ ha), fun p n => q _ _ _ (Nx.new E.gr n) (la.tupNew (E.gr.fresh n))⟩⟩
theorem cf_tupT {ds : List Dat} : CF K w δ ω (rTupOf K) [.tup ds] (.tup ds) ω := cf1 fun F H σ E v m Q q => by
  obtain ⟨a, vs, rfl, ha, la⟩ := m.atT
  exact ⟨a, vs, rfl, .inr ⟨E.gr.t ha, q _ F H (Nx.refl E.gr) m⟩⟩
/-- the built-in type of a value -/
def Dat.ty : Dat → Option String
  | .v (.int _) => some "int"
  | .v (.str _) => some "str"
  | .v (.bl _) => some "bool"
  | .v .non => some "NoneType"
  | .tup _ => some "tuple"
  | .lst _ => some "list"
  | _ => none
theorem ty_of {v : V} {t : String} (m : In K F v d) (g : Gr F H) (e : d.ty = some t) : TyX K H v (.type t) := by
  cases d with
  | any => cases e
  | ins => cases e
  | scr => cases e
  | v x =>
    rw [m.eqv]
    cases x <;> first | (cases e; done) | skip
    · cases e; exact .base .non
    · cases e; exact .base (.bl _)
    · cases e; exact .base (.int _)
    · cases e; exact .base (.str _)
  | lst ds =>
    cases e
    obtain ⟨a, xs, rfl, ha, _⟩ := m.atL
    exact .base (.lst (g _ _ ha))
  | tup ds =>
    cases e
    obtain ⟨a, xs, rfl, ha, _⟩ := m.atT
    rcases ha with (ha | ⟨o, ha⟩) | ⟨o, its, n, hk, hc, _⟩
    · exact .base (.tup (g _ _ ha))
    · exact .fTuple (g _ _ ha)
    · exact .kTuple hk hc
theorem cf_isi {t u : String} (e : d.ty = some t) (h : kitB t u = some b) : CF K w δ ω (rIsi K) [d, .v (.ty u)] (.v (.bl b)) ω := fun F H σ E vs m Q q => by
  cases m with
  | cons m l =>
    cases l with
    | cons m2 l =>
      cases l
      exact ⟨_, _, .type t, .type u, b, rfl, by rw [m2.eqv]; exact .ty u, ty_of m E.gr e, kit_ty h, q _ F H (gr_refl F) E .v⟩
theorem cf_isiC {C : Addr} {ns : List Str} {ds : List Dat} (c : C8.InsC K C) : CF K w δ ω (rIsi K) [.ins C ns ds, .v (.ref C)] (.v (.bl true)) ω := fun F H σ E vs m Q q => by
  cases m with
  | cons m l =>
    cases l with
    | cons m2 l =>
      cases l
      obtain ⟨a, dx, fs, rfl, ha, _, _⟩ := m.atI
      exact ⟨_, _, .ref C, .ref C, true, rfl, by rw [m2.eqv]; exact .own C, .base (.ins (E.gr _ _ ha) c.cl c.ha c.hn c.htk c.hm), c.me, q _ F H (gr_refl F) E .v⟩

/-! ### slices -/
def cutD (ds : List Dat) (lo hi : Option Int) : List Dat := (ds.drop (HT.sIx ds.length 0 lo)).take (HT.sIx ds.length ds.length hi - HT.sIx ds.length 0 lo)
theorem InL.cut {xs : List V} {ds : List Dat} (l : InL K F xs ds) (lo hi : Option Int) : InL K F (cutV xs lo hi) (cutD ds lo hi) := by
  unfold cutV cutD
  rw [l.length]
  exact (l.drop _).take _
theorem cutD_whole {ds : List Dat} {lo hi : Option Int} (h : HT.sIx ds.length 0 lo = 0 ∧ HT.sIx ds.length ds.length hi = ds.length) : cutD ds lo hi = ds := by
  unfold cutD
  rw [h.1, h.2]
  simp
theorem sf_tup {ds : List Dat} {lo hi : Option Int} : SF K w δ ω (rCut K) (.tup ds) lo hi (.tup (cutD ds lo hi)) := fun F H σ E v m Q q => by
  obtain ⟨a, vs, rfl, ha, la⟩ := m.atT
  refine .inl ⟨a, vs, rfl, E.gr.t ha, fun e => ?_, fun _ p n => q _ _ _ (Nx.new E.gr n) ((la.cut lo hi).tupNew (E.gr.fresh n))⟩
  rw [la.length] at e
  rw [cutD_whole e] at q
  exact q _ F H (Nx.refl E.gr) m
theorem sf_lst {ds : List Dat} {lo hi : Option Int} : SF K w δ ω (rCut K) (.lst ds) lo hi (.lst (cutD ds lo hi)) := fun F H σ E v m Q q => by
  obtain ⟨a, vs, rfl, ha, la⟩ := m.atL
  exact .inr (.inl ⟨a, vs, rfl, sl (E.gr _ _ ha), fun p n => q _ _ _ (Nx.new E.gr n) ((la.cut lo hi).lstNew (E.gr.fresh n))⟩)
theorem sf_str {s : Str} {lo hi : Option Int} (h : s.length ≤ sizeLine) : SF K w δ ω (rCut K) (.v (.str s)) lo hi (.v (.str (cutS s lo hi))) := fun F H σ E v m Q q => .inr (.inr ⟨s, m.eqv, h, q _ F H (Nx.refl E.gr) .v⟩)

/-! ### one's own objects change -/
theorem putO_head {p : Addr} {q q' : Ow} (h : p ∉ ω.map (·.1)) : putO ((p, q) :: ω) p q' = (p, q') :: ω := by
  unfold putO
  rw [List.map_cons, if_pos rfl]
  congr 1
  have : ∀ z ∈ ω, (if z.1 = p then (p, q') else z) = z := fun z hz => if_neg fun e => h (List.mem_map.mpr ⟨z, hz, e⟩)
  exact (List.map_congr_left this).trans (List.map_id _)
theorem mf_append {p : Addr} {ds : List Dat} (mo : (p, Ow.lst ds) ∈ ω) (hl : ds.length < sizeLine) : MF K w δ ω rAppend "list" (.v (.ref p)) [d] (.v .non) (putO ω p (.lst (ds ++ [d]))) := fun F H σ E v vs m l => by
  cases l with
  | cons m2 l =>
    cases l
    obtain ⟨_, xs, ha, la⟩ := E.ow _ _ mo
    rw [m.eqv]
    refine ⟨.inl ⟨rfl, xs, sl ha⟩, fun Q q => ⟨p, xs, _, rfl, rfl, ha, by rw [la.length]; exact hl, q _ F _ (gr_refl F) (E.put mo ⟨_, upd_same, la.append (.cons m2 .nil)⟩) .v⟩⟩
theorem mf_extend {p : Addr} {ds es : List Dat} (mo : (p, Ow.lst ds) ∈ ω) (hl : ds.length + es.length ≤ sizeLine) : MF K w δ ω rExtend "list" (.v (.ref p)) [.lst es] (.v .non) (putO ω p (.lst (ds ++ es))) := fun F H σ E v vs m l => by
  cases l with
  | cons m2 l =>
    cases l
    obtain ⟨_, xs, ha, la⟩ := E.ow _ _ mo
    obtain ⟨c, ys, rfl, hc, lc⟩ := m2.atL
    rw [m.eqv]
    exact ⟨.inl ⟨rfl, xs, sl ha⟩, fun Q q => ⟨p, c, xs, ys, rfl, rfl, ha, E.gr _ _ hc, by rw [la.length, lc.length]; exact hl, q _ F _ (gr_refl F) (E.put mo ⟨_, upd_same, la.append lc⟩) .v⟩⟩
theorem mf_pop {p : Addr} {ds : List Dat} (mo : (p, Ow.lst ds) ∈ ω) (hd : ds[ds.length - 1]? = some d) : MF K w δ ω rPop "list" (.v (.ref p)) [] d (putO ω p (.lst ds.dropLast)) := fun F H σ E v vs m l => by
  cases l
  obtain ⟨_, xs, ha, la⟩ := E.ow _ _ mo
  rw [m.eqv]
  obtain ⟨x, hx, mx⟩ := la.get hd
  refine ⟨.inl ⟨rfl, xs, sl ha⟩, fun Q q => ⟨p, xs, x, rfl, rfl, ha, by rw [la.length]; exact hx, q _ F _ (gr_refl F) (E.put mo ⟨_, upd_same, ?_⟩) mx⟩⟩
  rw [List.dropLast_eq_take, List.dropLast_eq_take, la.length]
  exact la.take _
theorem tyO_list {p : Addr} {ds : List Dat} (mo : (p, Ow.lst ds) ∈ ω) : ∀ F H σ, Kn K w F H σ δ ω → ∀ v, In K F v (.v (.ref p)) → tyV K "list" v H := fun F H σ E v m => by
  obtain ⟨_, xs, ha, la⟩ := E.ow _ _ mo
  rw [m.eqv]
  exact .inl ⟨rfl, xs, sl ha⟩
/-- o[i] = v -/
def WF (K : PySem.W.Frag) (w : World) (δ : Dts) (ω : Led) (r : TSet) (o i v : Dat) (ω' : Led) : Prop := ∀ F H σ, Kn K w F H σ δ ω → ∀ xo xi xv, In K F xo o → In K F xi i → In K F xv v → ∀ Q : Hp → Prop, (∀ H', Kn K w F H' σ δ ω' → Q H') → r xo xi xv H Q
theorem st_put {s : TSet} (hv : EvF K w δ ω tv d ω1) (ho : EvF K w δ ω1 to x ω2) (hi : EvF K w δ ω2 ti y ω3) (hw : WF K w δ ω3 s x y d ω') (k : O.nx δ ω') : St K w (tAsg tv (gSub to ti s)) δ ω O := fun F H σ D E n r b c =>
  hv F H σ E _ fun xv F1 H1 g1 E1 m1 => ho F1 H1 σ E1 _ fun xo F2 H2 g2 E2 m2 => hi F2 H2 σ E2 _ fun xi F3 H3 g3 E3 m3 =>
    hw F3 H3 σ E3 xo xi xv (m2.mono g3) m3 (m1.mono (g2.trans g3)) _ fun H4 E4 => n δ ω' F3 H4 σ k ((g1.trans g2).trans g3) E4
theorem q_put {s : TSet} (hv : EvF K w δ ω tv d ω1) (ho : EvF K w δ ω1 to x ω2) (hi : EvF K w δ ω2 ti y ω3) (hw : WF K w δ ω3 s x y d ω') (k : St K w tz δ ω' O) : St K w (tSeq (tAsg tv (gSub to ti s)) tz) δ ω O :=
  st_seq (N := fun δ2 ω2 => δ2 = δ ∧ ω2 = ω') (st_put hv ho hi hw ⟨rfl, rfl⟩) fun _ _ e => by rw [e.1, e.2]; exact k
theorem wf_lst {p : Addr} {ds : List Dat} {n : Int} {j : Nat} (mo : (p, Ow.lst ds) ∈ ω) (h : ixN ds.length n = some j) : WF K w δ ω (rSets K w) (.v (.ref p)) (.v (.int n)) d (putO ω p (.lst (ds.set j d))) := fun F H σ E xo xi xv mo' mi mv Q q => by
  obtain ⟨_, xs, ha, la⟩ := E.ow _ _ mo
  rw [mo'.eqv, mi.eqv]
  exact .inl ⟨p, xs, n, j, rfl, rfl, ha, by rw [la.length]; exact h, q _ (E.put mo ⟨_, upd_same, InL.set mv j la⟩)⟩
def putD {κ : Type} [DecidableEq κ] (kvs : List (κ × Dat)) (k : κ) (d : Dat) : List (κ × Dat) := if (kvs.any fun q => decide (q.1 = k)) = true then kvs.map (fun q => if q.1 = k then (q.1, d) else q) else kvs ++ [(k, d)]
theorem putD_ok {κ : Type} [DecidableEq κ] {k : κ} {xv : V} (m : In K F xv d) : ∀ {gs : List (κ × V)} {kvs : List (κ × Dat)}, gs.map (·.1) = kvs.map (·.1) → InL K F (gs.map (·.2)) (kvs.map (·.2)) → (putK gs k xv).map (·.1) = (putD kvs k d).map (·.1) ∧ InL K F ((putK gs k xv).map (·.2)) ((putD kvs k d).map (·.2)) := by
  intro gs kvs e l
  have ha : (gs.any fun q => decide (q.1 = k)) = (kvs.any fun q => decide (q.1 = k)) := by
    have h1 : (gs.any fun q => decide (q.1 = k)) = (gs.map (·.1)).any fun q => decide (q = k) := by rw [List.any_map]; rfl
    have h2 : (kvs.any fun q => decide (q.1 = k)) = (kvs.map (·.1)).any fun q => decide (q = k) := by rw [List.any_map]; rfl
    rw [h1, h2, e]
  unfold putK putD
  rw [ha]
  by_cases c : (kvs.any fun q => decide (q.1 = k)) = true
  · rw [if_pos c, if_pos c]
    clear c ha
    induction gs generalizing kvs with
    | nil =>
      cases kvs with
      | nil => exact ⟨rfl, .nil⟩
      | cons a r => simp at e
    | cons g gs ih =>
      cases kvs with
      | nil => simp at e
      | cons a r =>
        rw [List.map_cons, List.map_cons] at e l
        injection e with e1 e2
        cases l with
        | cons m1 l =>
          obtain ⟨i1, i2⟩ := ih e2 l
          simp only [List.map_cons]
          rw [e1]
          by_cases c : a.1 = k
          · rw [if_pos c, if_pos c]
            exact ⟨by rw [i1], .cons m i2⟩
          · rw [if_neg c, if_neg c]
            exact ⟨by rw [i1, e1], .cons m1 i2⟩
  · rw [if_neg c, if_neg c]
    simp only [List.map_append]
    exact ⟨by rw [e]; rfl, l.append (.cons m .nil)⟩
theorem wf_dk {p : Addr} {kvs : List (Key × Dat)} {k : Key} (mo : (p, Ow.dk kvs) ∈ ω) (h : kvs.length < sizeLine) : WF K w δ ω (rSets K w) (.v (.ref p)) (.v (kV k)) d (putO ω p (.dk (putD kvs k d))) := fun F H σ E xo xi xv mo' mi mv Q q => by
  obtain ⟨_, gs, ha, e, la⟩ := E.ow _ _ mo
  rw [mo'.eqv, mi.eqv]
  have hl : gs.length < sizeLine := by
    have := congrArg List.length e
    rw [List.length_map, List.length_map] at this
    omega
  obtain ⟨z1, z2⟩ := putD_ok mv e la (k := k)
  exact .inr (.inl ⟨p, _, rfl, DPut.k (k := k) ha hl, q _ (E.put mo ⟨_, upd_same, z1, z2⟩)⟩)

/-! ### nested keys -/
mutual
def Dat.nk : Dat → Option NestedKey
  | .v (.int i) => some (.num i)
  | .v (.str s) => some (.text s)
  | .v .non => some .none
  | .tup ds => (Dat.nks ds).map .tup
  | _ => none
def Dat.nks : List Dat → Option (List NestedKey)
  | [] => some []
  | d :: ds => match d.nk, Dat.nks ds with
    | some p, some ps => some (p :: ps)
    | _, _ => none
end
mutual
theorem In.nkey : ∀ {d : Dat} {x : V} {p : NestedKey}, In K F x d → d.nk = some p → NKey K F x p
  | .v (.int i), _, _, h, e => by rw [Dat.nk] at e; cases e; rw [h.eqv]; exact .int i
  | .v (.str i), _, _, h, e => by rw [Dat.nk] at e; cases e; rw [h.eqv]; exact .str i
  | .v (.bl i), _, _, h, e => by rw [Dat.nk] at e <;> first | cases e | (intros; nofun)
  | .v .non, _, _, h, e => by rw [Dat.nk] at e; cases e; rw [h.eqv]; exact .non
  | .v (.byt _), _, _, h, e => by rw [Dat.nk] at e <;> first | cases e | (intros; nofun)
  | .v (.flt _), _, _, h, e => by rw [Dat.nk] at e <;> first | cases e | (intros; nofun)
  | .v (.ref _), _, _, h, e => by rw [Dat.nk] at e <;> first | cases e | (intros; nofun)
  | .v (.ty _), _, _, h, e => by rw [Dat.nk] at e <;> first | cases e | (intros; nofun)
  | .any, _, _, h, e => by rw [Dat.nk] at e <;> first | cases e | (intros; nofun)
  | .ins _ _ _, _, _, h, e => by rw [Dat.nk] at e <;> first | cases e | (intros; nofun)
  | .scr _, _, _, h, e => by rw [Dat.nk] at e <;> first | cases e | (intros; nofun)
  | .lst _, _, _, h, e => by rw [Dat.nk] at e <;> first | cases e | (intros; nofun)
  | .tup ds, _, _, h, e => by
    rw [Dat.nk] at e
    obtain ⟨ps, e1, rfl⟩ := Option.map_eq_some_iff.mp e
    obtain ⟨a, xs, rfl, hs, l⟩ := h.atT
    exact .tup hs (InL.nkeys l e1)
theorem InL.nkeys : ∀ {ds : List Dat} {xs : List V} {ps : List NestedKey}, InL K F xs ds → Dat.nks ds = some ps → NKeys K F xs ps
  | [], _, _, .nil, e => by rw [Dat.nks] at e; cases e; exact .nil
  | d :: ds, _, _, .cons h l, e => by
    rw [Dat.nks] at e
    cases e1 : d.nk with
    | none => rw [e1] at e; cases e
    | some p =>
      cases e2 : Dat.nks ds with
      | none => rw [e1, e2] at e; cases e
      | some ps =>
        rw [e1, e2] at e
        cases e
        exact .cons (In.nkey h e1) (InL.nkeys l e2)
end
theorem lookN_val (k : NestedKey) : ∀ {xs : Nds} {kvs : List (NestedKey × Dat)}, xs.map (·.1) = kvs.map (·.1) → InL K F (xs.map (·.2.2)) (kvs.map (·.2)) → (lookD kvs k = none ∧ ndLook xs k = none) ∨ ∃ x d, lookD kvs k = some d ∧ ndLook xs k = some x ∧ In K F x d
  | [], [], _, _ => .inl ⟨rfl, rfl⟩
  | [], _ :: _, e, _ => by simp at e
  | _ :: _, [], e, _ => by simp at e
  | g :: gs, q :: kvs, e, l => by
    rw [List.map_cons, List.map_cons] at e l
    injection e with e1 e2
    cases l with
    | cons m l =>
      unfold lookD ndLook
      rw [List.find?_cons, List.find?_cons, e1]
      by_cases c : q.1 = k
      · rw [decide_eq_true c]
        exact .inr ⟨_, _, rfl, rfl, m⟩
      · rw [decide_eq_false c]
        exact lookN_val k e2 l
theorem KnA.nd_at {p : Addr} {kvs : List (NestedKey × Dat)} (E : KnA K w F H ω) (mo : (p, Ow.dn kvs) ∈ ω) : ∃ xs : Nds, NdAt K w H p xs ∧ xs.map (·.1) = kvs.map (·.1) ∧ InL K F (xs.map (·.2.2)) (kvs.map (·.2)) ∧ (∀ z ∈ xs, NKey K F (.ref z.2.1) z.1 ∧ z.1.depth ≤ 8) := by
  obtain ⟨_, xs, h1, h2, h3, h4, h5⟩ := E.ow _ _ mo
  exact ⟨xs, ⟨h1, fun z hz => ⟨(h4 z hz).1.mono E.gr, (h4 z hz).2⟩, h5⟩, h2, h3, h4⟩
theorem rf_notInDn {p : Addr} {kvs : List (NestedKey × Dat)} {ds : List Dat} {k : NestedKey} (mo : (p, Ow.dn kvs) ∈ ω) (hk : (Dat.tup ds).nk = some k) (hd : k.depth ≤ 8) : RF K w δ ω (rNotIns K w) (.tup ds) (.v (.ref p)) (.v (.bl (!(lookD kvs k).isSome))) := fun F H σ E v u hv hu Q q => by
  obtain ⟨xs, n, e, l, _⟩ := E.nd_at mo
  obtain ⟨a, vs, rfl, _, _⟩ := id hv.atT
  have e2 : (ndLook xs k).isSome = (lookD kvs k).isSome := by
    rcases lookN_val k e l with ⟨h1, h2⟩ | ⟨x, d', h1, h2, h3⟩ <;> rw [h1, h2] <;> rfl
  exact .inr (.inr (.inr (.inl ⟨a, p, xs, k, rfl, hu.eqv, (hv.nkey hk).mono E.gr, hd, n, by rw [e2]; exact q _ F H (Nx.refl E.gr) .v⟩)))
theorem rf_atDn {p : Addr} {kvs : List (NestedKey × Dat)} {ds : List Dat} {k : NestedKey} (mo : (p, Ow.dn kvs) ∈ ω) (hk : (Dat.tup ds).nk = some k) (hd : k.depth ≤ 8) (h : lookD kvs k = some d) : RF K w δ ω (rAts K w) (.v (.ref p)) (.tup ds) d := fun F H σ E v u hv hu Q q => by
  obtain ⟨xs, n, e, l, _⟩ := E.nd_at mo
  obtain ⟨a, vs, rfl, _, _⟩ := id hu.atT
  rcases lookN_val k e l with ⟨h1, h2⟩ | ⟨x, d', h1, h2, h3⟩
  · rw [h1] at h; cases h
  · rw [h1] at h
    cases h
    exact .inr ⟨a, p, xs, k, x, hv.eqv, rfl, (hu.nkey hk).mono E.gr, hd, n, h2, q _ F H (Nx.refl E.gr) h3⟩
theorem ndLook_any (k : NestedKey) : ∀ xs : Nds, (ndLook xs k).isSome = (xs.map (·.1)).any fun q => decide (q = k)
  | [] => rfl
  | x :: xs => by
    unfold ndLook
    rw [List.find?_cons, List.map_cons, List.any_cons]
    by_cases c : x.1 = k
    · rw [decide_eq_true c]
      rfl
    · rw [decide_eq_false c, Bool.false_or]
      exact ndLook_any k xs
theorem ndRepl_ok {k : NestedKey} {xv : V} (m : In K F xv d) : ∀ {xs : Nds} {kvs : List (NestedKey × Dat)}, xs.map (·.1) = kvs.map (·.1) → InL K F (xs.map (·.2.2)) (kvs.map (·.2)) → InL K F ((xs.map fun x => if x.1 = k then (x.1, x.2.1, xv) else x).map (·.2.2)) ((kvs.map fun q => if q.1 = k then (q.1, d) else q).map (·.2))
  | [], [], _, _ => .nil
  | [], _ :: _, e, _ => by simp at e
  | _ :: _, [], e, _ => by simp at e
  | g :: gs, a :: r, e, l => by
    rw [List.map_cons, List.map_cons] at e l
    injection e with e1 e2
    cases l with
    | cons m1 l =>
      have i2 := ndRepl_ok (k := k) m e2 l
      simp only [List.map_cons]
      rw [e1]
      by_cases c : a.1 = k
      · rw [if_pos c, if_pos c]
        exact .cons m i2
      · rw [if_neg c, if_neg c]
        exact .cons m1 i2
theorem ndPut_ok {k : NestedKey} {a : Addr} {xv : V} (m : In K F xv d) {xs : Nds} {kvs : List (NestedKey × Dat)} (e : xs.map (·.1) = kvs.map (·.1)) (l : InL K F (xs.map (·.2.2)) (kvs.map (·.2))) : (ndPut xs k a xv).map (·.1) = (putD kvs k d).map (·.1) ∧ InL K F ((ndPut xs k a xv).map (·.2.2)) ((putD kvs k d).map (·.2)) := by
  have e2 : (ndLook xs k).isSome = (kvs.any fun q => decide (q.1 = k)) := by
    rw [ndLook_any, e, List.any_map]
    rfl
  unfold ndPut putD
  rw [e2]
  by_cases c : (kvs.any fun q => decide (q.1 = k)) = true
  · rw [if_pos c, if_pos c]
    refine ⟨?_, ndRepl_ok m e l⟩
    rw [List.map_map, List.map_map]
    have h1 : xs.map ((fun q => q.1) ∘ fun x => if x.1 = k then (x.1, x.2.1, xv) else x) = xs.map (·.1) := List.map_congr_left fun x _ => by
      show (if x.1 = k then (x.1, x.2.1, xv) else x).1 = x.1
      split <;> rfl
    have h2 : kvs.map ((fun q => q.1) ∘ fun q => if q.1 = k then (q.1, d) else q) = kvs.map (·.1) := List.map_congr_left fun x _ => by
      show (if x.1 = k then (x.1, d) else x).1 = x.1
      split <;> rfl
    rw [h1, h2, e]
  · rw [if_neg c, if_neg c]
    simp only [List.map_append]
    exact ⟨by rw [e]; rfl, l.append (.cons m .nil)⟩
theorem wf_dn {p : Addr} {kvs : List (NestedKey × Dat)} {ds : List Dat} {k : NestedKey} (mo : (p, Ow.dn kvs) ∈ ω) (hk : (Dat.tup ds).nk = some k) (hd : k.depth ≤ 8) (hl : kvs.length + 1 < sizeLine) : WF K w δ ω (rSets K w) (.v (.ref p)) (.tup ds) d (putO ω p (.dn (putD kvs k d))) := fun F H σ E xo xi xv mo' mi mv Q q => by
  obtain ⟨xs, n, e, l, ky⟩ := E.nd_at mo
  obtain ⟨a, vs, rfl, _, _⟩ := id mi.atT
  have hx : xs.length = kvs.length := by
    have := congrArg List.length e
    rwa [List.length_map, List.length_map] at this
  obtain ⟨z1, z2⟩ := ndPut_ok (k := k) (a := a) mv e l
  refine .inr (.inr ⟨a, p, xs, k, mo'.eqv, rfl, (mi.nkey hk).mono E.gr, hd, n, by omega, q _ (E.put mo ⟨ndPut xs k a xv, upd_same, z1, z2, fun z hz => ?_, by have := ndPut_length xs k a xv; omega⟩)⟩)
  rcases ndPut_mem hz with ⟨y, hy, a1, a2⟩ | ⟨a1, a2⟩
  · rw [a1, a2]
    exact ky y hy
  · rw [a1, a2]
    exact ⟨mi.nkey hk, hd⟩
theorem evn_dn : EvN K w δ ω (tDNewN w) (.dn []) ω := fun F H σ E Q q p n => q p F _ (gr_refl F) (E.own n ⟨[], upd_same, rfl, .nil, fun z hz => (nomatch hz), by decide⟩)
end
end FL

namespace FL
open PySem PySem.Spec PyProof.Rows L2
section
variable {K : PySem.W.Frag} {w : World} {F F' H H' : Hp} {σ σ' : L2.St} {δ δ' : Dts} {ω ω' ω1 ω2 ω3 W : Led} {te ta tb tc to ti tv : TE} {tt tu : TT} {d x y z : Dat} {i j : Nat} {r r' : R2} {b : Bool} {ts tz t1 t2 : TS} {O : Out}

theorem Kn.after (E : Kn K w F H σ δ ω) (g : Gr F F') (A : KnA K w F' H' ω2) : Kn K w F' H' σ δ ω2 where
  toKnA := A
  sl := fun i d e => by
    obtain ⟨v, a, b⟩ := E.sl i d e
    exact ⟨v, a, b.mono g⟩
  ln := E.ln
/-- a list of one's own is given up: it stays as it is from here on -/
theorem KnA.freeze {p : Addr} {ds : List Dat} (E : KnA K w F H ω) (m : (p, Ow.lst ds) ∈ ω) (s : ω'.Sublist ω) (n : p ∉ ω'.map (·.1)) : ∃ F', Gr F F' ∧ KnA K w F' H ω' ∧ In K F' (.ref p) (.lst ds) ∧ Gr F' H ∧ ∀ a, a ≠ p → F' a = F a := by
  obtain ⟨f0, xs, hp, l⟩ := E.ow _ _ m
  have g : Gr F (upd F p (.lst xs)) := gr_new f0
  have k : Gr (upd F p (.lst xs)) H := fun a o e => by
    by_cases h : a = p
    · subst h
      rw [upd_same] at e
      rw [hp]
      exact e
    · rw [upd_ne h] at e
      exact E.gr _ _ e
  refine ⟨upd F p (.lst xs), g, ⟨k, fun q o mq => ?_, (s.map _).nodup E.nd⟩, .lst upd_same (l.mono g), k, fun a h => upd_ne h⟩
  have hq : q ≠ p := fun e => n (List.mem_map.mpr ⟨(q, o), mq, e⟩)
  obtain ⟨y1, y2⟩ := E.ow q o (s.subset mq)
  exact ⟨by rw [upd_ne hq]; exact y1, y2.mono g fun _ e => e⟩
theorem Kn.freeze {p : Addr} {ds : List Dat} (E : Kn K w F H σ δ ω) (m : (p, Ow.lst ds) ∈ ω) (s : ω'.Sublist ω) (n : p ∉ ω'.map (·.1)) : ∃ F', Gr F F' ∧ Kn K w F' H σ δ ω' ∧ In K F' (.ref p) (.lst ds) := by
  obtain ⟨F', g, A, h, _⟩ := E.toKnA.freeze m s n
  exact ⟨F', g, E.after g A, h⟩
theorem KnA.head_notin {p : Addr} {o : Ow} (E : KnA K w F H ((p, o) :: ω)) : p ∉ ω.map (·.1) := by
  have := E.nd
  rw [List.map_cons, List.nodup_cons] at this
  exact this.1
/-- what stands in the i-th place as a list of one's own is from here on data -/
theorem st_freeze {p : Addr} {ds : List Dat} {O : Out} (hi : δ[i]? = some (some (.v (.ref p)))) (m : (p, Ow.lst ds) ∈ ω) (s : ω'.Sublist ω) (n : ∀ F H, KnA K w F H ω → p ∉ ω'.map (·.1)) (k : St K w ts (δ.set i (some (.lst ds))) ω' O) : St K w ts δ ω O := fun F H σ D E nx r b c => by
  obtain ⟨F', g, E', h⟩ := E.freeze m s (n F H E.toKnA)
  obtain ⟨v, e, mv⟩ := E.sl i _ hi
  rw [mv.eqv] at e
  have E2 : Kn K w F' H σ (δ.set i (some (.lst ds))) ω' := by
    have := E'.set (i := i) h
    have e3 : σ.set i (some (.ref p)) = σ := by
      refine List.ext_getElem? fun j => ?_
      by_cases hj : i = j
      · subst hj
        rw [List.getElem?_set_self (List.getElem?_eq_some_iff.mp e).1, e]
      · rw [List.getElem?_set_ne hj]
    rwa [e3] at this
  exact k F' H σ D E2 (fun δ2 ω2 F2 H2 σ2 q2 g2 E2 => nx δ2 ω2 F2 H2 σ2 q2 (g.trans g2) E2) (fun d ω2 x F2 H2 q2 g2 E2 m => r d ω2 x F2 H2 q2 (g.trans g2) E2 m)
    (fun δ2 ω2 F2 H2 σ2 q2 g2 E2 => b δ2 ω2 F2 H2 σ2 q2 (g.trans g2) E2) (fun δ2 ω2 F2 H2 σ2 q2 g2 E2 => c δ2 ω2 F2 H2 σ2 q2 (g.trans g2) E2)
/-- return of a list of one's own: as data -/
theorem st_retO {p : Addr} {ds : List Dat} (h : EvF K w δ ω te (.v (.ref p)) ω1) (m : (p, Ow.lst ds) ∈ ω1) (s : ω'.Sublist ω1) (n : ∀ F H, KnA K w F H ω1 → p ∉ ω'.map (·.1)) (k : O.rt (.lst ds) ω') : St K w (tRet te) δ ω O := fun F H σ D E nx r b c => h F H σ E _ fun x F1 H1 g1 E1 m1 => by
  obtain ⟨F', g, E', h⟩ := E1.freeze m s (n F1 H1 E1.toKnA)
  rw [m1.eqv]
  exact r _ ω' _ F' H1 k (g1.trans g) E'.toKnA h
theorem evf_freeze {p : Addr} {ds : List Dat} (h : EvF K w δ ω te (.v (.ref p)) ω1) (m : (p, Ow.lst ds) ∈ ω1) (s : ω'.Sublist ω1) (n : ∀ F H, KnA K w F H ω1 → p ∉ ω'.map (·.1)) : EvF K w δ ω te (.lst ds) ω' := fun F H σ E Q q => h F H σ E _ fun x F1 H1 g1 E1 m1 => by
  obtain ⟨F', g, E', h⟩ := E1.freeze m s (n F1 H1 E1.toKnA)
  rw [m1.eqv]
  exact q _ F' H1 (g1.trans g) E' h

/-! ### attributes stored -/
def putA (f : Str) (d : Dat) : List (Str × Dat) → List (Str × Dat)
  | [] => [(f, d)]
  | (g, x) :: r => if g = f then (g, d) :: r else (g, x) :: putA f d r
theorem putA_ok {f : Str} {xv : V} (m : In K F xv d) : ∀ {gs : List (Str × V)} {fs : List (Str × Dat)}, gs.map (·.1) = fs.map (·.1) → InL K F (gs.map (·.2)) (fs.map (·.2)) → (putF f xv gs).map (·.1) = (putA f d fs).map (·.1) ∧ InL K F ((putF f xv gs).map (·.2)) ((putA f d fs).map (·.2))
  | [], [], _, _ => ⟨rfl, .cons m .nil⟩
  | [], _ :: _, e, _ => by simp at e
  | _ :: _, [], e, _ => by simp at e
  | (g, x) :: gs, (a, y) :: r, e, l => by
    rw [List.map_cons, List.map_cons] at e l
    injection e with e1 e2
    cases l with
    | cons m1 l =>
      simp only at e1
      subst e1
      unfold putF putA
      by_cases c : g = f
      · rw [if_pos c, if_pos c]
        exact ⟨by rw [List.map_cons, List.map_cons, e2], .cons m l⟩
      · rw [if_neg c, if_neg c]
        obtain ⟨i1, i2⟩ := putA_ok (f := f) m e2 l
        exact ⟨by rw [List.map_cons, List.map_cons, i1], .cons m1 i2⟩
theorem KnA.ins_len {p C : Addr} {fs : List (Str × Dat)} (E : KnA K w F H ω) (m : (p, Ow.ins C fs) ∈ ω) : ∃ dx gs, H p = some (.ins C dx gs) ∧ gs.map (·.1) = fs.map (·.1) ∧ InL K F (gs.map (·.2)) (fs.map (·.2)) ∧ gs.length = fs.length := by
  obtain ⟨_, dx, gs, h1, h2, h3⟩ := E.ow _ _ m
  exact ⟨dx, gs, h1, h2, h3, by have := congrArg List.length h2; rwa [List.length_map, List.length_map] at this⟩
theorem st_fld {p C : Addr} {fs : List (Str × Dat)} {f : Str} (hv : EvF K w δ ω tv d ω1) (ha : EvF K w δ ω1 ta (.v (.ref p)) ω2) (m : (p, Ow.ins C fs) ∈ ω2) (hc : Cls K C) (hn : NoAttr K C f) (hl : fs.length < 1000) (k : O.nx δ (putO ω2 p (.ins C (putA f d fs)))) : St K w (sFld K ta tv f) δ ω O := fun F H σ D E n r b c =>
  hv F H σ E _ fun xv F1 H1 g1 E1 m1 => ha F1 H1 σ E1 _ fun xo F2 H2 g2 E2 m2 => by
    obtain ⟨dx, gs, h1, h2, h3, h4⟩ := E2.ins_len m
    obtain ⟨z1, z2⟩ := putA_ok (f := f) (m1.mono g2) h2 h3
    exact ⟨p, C, dx, gs, m2.eqv, h1, hc, hn, by omega, n δ _ F2 _ σ k (g1.trans g2) (E2.put m ⟨dx, _, upd_same, z1, z2⟩)⟩
theorem q_fld {p C : Addr} {fs : List (Str × Dat)} {f : Str} (hv : EvF K w δ ω tv d ω1) (ha : EvF K w δ ω1 ta (.v (.ref p)) ω2) (m : (p, Ow.ins C fs) ∈ ω2) (hc : Cls K C) (hn : NoAttr K C f) (hl : fs.length < 1000) (k : St K w tz δ (putO ω2 p (.ins C (putA f d fs))) O) : St K w (tSeq (sFld K ta tv f) tz) δ ω O :=
  st_seq (N := fun δ2 ω3 => δ2 = δ ∧ ω3 = putO ω2 p (.ins C (putA f d fs))) (st_fld hv ha m hc hn hl ⟨rfl, rfl⟩) fun _ _ e => by rw [e.1, e.2]; exact k
/-- self.f = a new thing of one's own -/
theorem st_fldN {p C : Addr} {fs : List (Str × Dat)} {f : Str} {o : Ow} (hv : EvN K w δ ω tv o ω1) (ha : ∀ q, EvF K w δ ((q, o) :: ω1) ta (.v (.ref p)) ((q, o) :: ω1)) (m : (p, Ow.ins C fs) ∈ ω1) (hc : Cls K C) (hn : NoAttr K C f) (hl : fs.length < 1000)
    (k : ∀ q, (((q, o) :: ω1).map (·.1)).Nodup → O.nx δ (putO ((q, o) :: ω1) p (.ins C (putA f (.v (.ref q)) fs)))) : St K w (sFld K ta tv f) δ ω O := fun F H σ D E n r b c =>
  hv F H σ E _ fun q F1 H1 g1 E1 => ha q F1 H1 σ E1 _ fun xo F2 H2 g2 E2 m2 => by
    obtain ⟨dx, gs, h1, h2, h3, h4⟩ := E2.ins_len (List.mem_cons_of_mem _ m)
    obtain ⟨z1, z2⟩ := putA_ok (f := f) (K := K) (F := F2) (xv := .ref q) (d := .v (.ref q)) .v h2 h3
    exact ⟨p, C, dx, gs, m2.eqv, h1, hc, hn, by omega, n δ _ F2 _ σ (k q E2.nd) (g1.trans g2) (E2.put (List.mem_cons_of_mem _ m) ⟨dx, _, upd_same, z1, z2⟩)⟩
theorem q_fldN {p C : Addr} {fs : List (Str × Dat)} {f : Str} {o : Ow} (hv : EvN K w δ ω tv o ω1) (ha : ∀ q, EvF K w δ ((q, o) :: ω1) ta (.v (.ref p)) ((q, o) :: ω1)) (m : (p, Ow.ins C fs) ∈ ω1) (hc : Cls K C) (hn : NoAttr K C f) (hl : fs.length < 1000)
    (k : ∀ q, (((q, o) :: ω1).map (·.1)).Nodup → St K w tz δ (putO ((q, o) :: ω1) p (.ins C (putA f (.v (.ref q)) fs))) O) : St K w (tSeq (sFld K ta tv f) tz) δ ω O :=
  st_seq (N := fun δ2 ω3 => ∃ q, (((q, o) :: ω1).map (·.1)).Nodup ∧ δ2 = δ ∧ ω3 = putO ((q, o) :: ω1) p (.ins C (putA f (.v (.ref q)) fs))) (st_fldN hv ha m hc hn hl fun q hq => ⟨q, hq, rfl, rfl⟩) fun _ _ ⟨q, hq, e1, e2⟩ => by rw [e1, e2]; exact k q hq

/-! ### comprehensions -/
theorem wipe_get : ∀ (vs : List Nat) (σ : L2.St) (i : Nat), (wipe σ vs)[i]? = if i ∈ vs then (if i < σ.length then some none else none) else σ[i]?
  | [], σ, i => by simp [wipe]
  | v :: vs, σ, i => by
    unfold wipe
    by_cases h : v = i
    · subst h
      rw [if_pos List.mem_cons_self]
      by_cases hl : v < σ.length
      · rw [if_pos hl, List.getElem?_set_self (by rw [wipe_length]; exact hl)]
      · rw [if_neg hl, List.getElem?_eq_none (by rw [List.length_set, wipe_length]; omega)]
    · rw [List.getElem?_set_ne h, wipe_get vs σ i]
      have : i ∈ v :: vs ↔ i ∈ vs := by simp [Ne.symm h]
      by_cases c : i ∈ vs
      · rw [if_pos c, if_pos (this.mpr c)]
      · rw [if_neg c, if_neg (fun z => c (this.mp z))]
theorem wipe_same {vs us : List Nat} (hl : σ'.length = σ.length) (h : ∀ i, i ∉ us → σ'[i]? = (wipe σ vs)[i]?) (hs : ∀ u ∈ us, u ∈ vs) : wipe σ' vs = wipe σ vs := by
  refine List.ext_getElem? fun i => ?_
  rw [wipe_get, wipe_get, hl]
  by_cases c : i ∈ vs
  · rw [if_pos c, if_pos c]
  · rw [if_neg c, if_neg c, h i (fun z => c (hs i z)), wipe_get, if_neg c]
def wipeD (δ : Dts) (vs : List Nat) : Dts := vs.foldr (fun v d => d.set v none) δ
theorem Kn.wipe : ∀ (vs : List Nat), Kn K w F H σ δ ω → Kn K w F H (L2.wipe σ vs) (wipeD δ vs) ω
  | [], E => E
  | v :: vs, E => by
    have E' := Kn.wipe vs E
    refine ⟨E'.toKnA, fun i d e => ?_, ?_⟩
    · have e' : ((wipeD δ vs).set v none)[i]? = some (some d) := e
      by_cases h : v = i
      · subst h
        by_cases hl : v < (wipeD δ vs).length
        · rw [List.getElem?_set_self hl] at e'
          cases e'
        · rw [List.getElem?_eq_none (by rw [List.length_set]; omega)] at e'
          cases e'
      · rw [List.getElem?_set_ne h] at e'
        obtain ⟨y, a, b⟩ := E'.sl i d e'
        refine ⟨y, ?_, b⟩
        show ((L2.wipe σ vs).set v none)[i]? = _
        rw [List.getElem?_set_ne h]
        exact a
    · show ((wipeD δ vs).set v none).length = ((L2.wipe σ vs).set v none).length
      rw [List.length_set, List.length_set]
      exact E'.ln
/-- [e for x in xs if t]: the elements change nothing of one's own -/
theorem evn_lc {wi : TI} {g : TG} {es : List Dat} {vs : List Nat} (f : Dat → Option Dat) (hi : EvI K w δ ω wi es ω1) (hl : es.length < sizeLine)
    (hb : ∀ d, d ∈ es → ∃ δ2 us, TgF K w g d (wipeD δ vs) δ2 us ∧ (∀ u ∈ us, u ∈ vs) ∧ ∀ q o, match f d with
      | some e => EvT K w δ2 ((q, o) :: ω1) tt true ((q, o) :: ω1) ∧ EvF K w δ2 ((q, o) :: ω1) te e ((q, o) :: ω1)
      | none => EvT K w δ2 ((q, o) :: ω1) tt false ((q, o) :: ω1)) : EvN K w δ ω (tLc wi g tt te vs) (.lst (es.filterMap f)) ω1 := fun F H σ E Q q =>
  hi F H σ E _ fun J F1 H1 g1 E1 wk => by
    intro Dl hD
    refine ⟨fun i m H' => i ≤ es.length ∧ m = es.length - i ∧ ∃ F', Gr F1 F' ∧ Kn K w F' H' σ δ ((Dl, .lst ((es.take i).filterMap f)) :: ω1), ⟨es.length, Nat.zero_le _, rfl, F1, gr_refl F1, E1.own hD ⟨[], upd_same, .nil⟩⟩, ?_⟩
    rintro i m H' ⟨hi, rfl, F', gF, E'⟩
    by_cases hlt : i < es.length
    · refine .inr ⟨wk.go i H' hlt (gF.trans E'.gr), fun H2 => i + 1 ≤ es.length ∧ ∃ F2, Gr F1 F2 ∧ Kn K w F2 H2 σ δ ((Dl, .lst ((es.take (i + 1)).filterMap f)) :: ω1), fun H2 ⟨a, p⟩ => ⟨es.length - (i + 1), by omega, a, rfl, p⟩, fun x H2 hy => ?_⟩
      obtain ⟨F2, d, e, nx, m2⟩ := wk.yl i F' H' x H2 hlt gF E'.gr hy
      have hd : d ∈ es := List.mem_of_getElem? e
      obtain ⟨δ2, us, ht, hu, hf⟩ := hb d hd
      have E2 := E'.nx nx
      have etake : (es.take (i + 1)).filterMap f = (es.take i).filterMap f ++ (match f d with | some e => [e] | none => []) := by
        rw [List.take_add_one, e, List.filterMap_append]
        cases hfd : f d <;> simp [hfd]
      refine ht F2 H2 (wipe σ vs) _ x (E2.wipe vs) m2 _ fun σ3 E3 l3 k3 => ⟨wipe_same (by rw [l3, wipe_length]) k3 hu, ?_⟩
      have hf := hf Dl (.lst ((es.take i).filterMap f))
      cases hfd : f d with
      | none =>
        rw [hfd] at hf etake
        refine hf F2 H2 σ3 E3 _ fun F4 H4 g4 E4 => iteF ⟨hlt, F4, (gF.trans nx.f).trans g4, ?_⟩
        rw [etake]
        simp only [List.append_nil]
        exact E2.after g4 E4.toKnA
      | some e0 =>
        rw [hfd] at hf etake
        refine hf.1 F2 H2 σ3 E3 _ fun F4 H4 g4 E4 => iteT (hf.2 F4 H4 σ3 E4 _ fun y F5 H5 g5 E5 m5 => ?_)
        obtain ⟨_, acc, ha, la⟩ := E5.ow _ _ List.mem_cons_self
        refine ⟨acc, ha, ?_, hlt, F5, ((gF.trans nx.f).trans g4).trans g5, ?_⟩
        · rw [la.length]
          refine Nat.lt_of_le_of_lt (List.length_filterMap_le _ _) ?_
          rw [List.length_take]
          omega
        · rw [etake]
          have E6 := (E2.after (g4.trans g5) E5.toKnA).put (q := .lst ((es.take i).filterMap f ++ [e0])) List.mem_cons_self ⟨acc ++ [y], upd_same, la.append (.cons m5 .nil)⟩
          rw [putO_head E5.toKnA.head_notin] at E6
          exact E6
    · have e : i = es.length := by omega
      subst e
      refine .inl ⟨wk.stop H' (gF.trans E'.gr), ?_⟩
      rw [List.take_length] at E'
      exact q Dl F' H' (g1.trans gF) E'
/-- a new thing, as data -/
theorem EvN.dat {ds : List Dat} (h : EvN K w δ ω te (.lst ds) ω1) : EvF K w δ ω te (.lst ds) ω1 := fun F H σ E Q q => h F H σ E _ fun p F1 H1 g1 E1 => by
  obtain ⟨F', g, E', h⟩ := E1.freeze List.mem_cons_self (List.sublist_cons_self _ _) E1.toKnA.head_notin
  exact q _ F' H1 (g1.trans g) E' h
theorem evf_lc {wi : TI} {g : TG} {es : List Dat} {vs : List Nat} (f : Dat → Option Dat) (hi : EvI K w δ ω wi es ω1) (hl : es.length < sizeLine)
    (hb : ∀ d, d ∈ es → ∃ δ2 us, TgF K w g d (wipeD δ vs) δ2 us ∧ (∀ u ∈ us, u ∈ vs) ∧ ∀ q o, match f d with
      | some e => EvT K w δ2 ((q, o) :: ω1) tt true ((q, o) :: ω1) ∧ EvF K w δ2 ((q, o) :: ω1) te e ((q, o) :: ω1)
      | none => EvT K w δ2 ((q, o) :: ω1) tt false ((q, o) :: ω1)) : EvF K w δ ω (tLc wi g tt te vs) (.lst (es.filterMap f)) ω1 := (evn_lc f hi hl hb).dat
theorem evt_yes : EvT K w δ ω tYes true ω := fun F H σ E Q q => q F H (gr_refl F) E
/-- [e for x in xs] -/
theorem evf_map {wi : TI} {j : Nat} {es : List Dat} {vs : List Nat} (f : Dat → Dat) (hi : EvI K w δ ω wi es ω1) (hl : es.length < sizeLine) (hj : j ∈ vs)
    (hb : ∀ d, d ∈ es → ∀ q o, EvF K w ((wipeD δ vs).set j (some d)) ((q, o) :: ω1) te (f d) ((q, o) :: ω1)) : EvF K w δ ω (tLc wi (gName j) tYes te vs) (.lst (es.map f)) ω1 := by
  have := evf_lc (tt := tYes) (g := gName j) (vs := vs) (te := te) (fun d => some (f d)) hi hl fun d hd => ⟨_, _, tg_name, by simpa using hj, fun q o => ⟨evt_yes, hb d hd q o⟩⟩
  rwa [List.filterMap_eq_map'] at this

/-! ### defs -/
/-- a promise by data: C tells of the arguments' data and the objects that are handed over what comes back -/
def spM (K : PySem.W.Frag) (w : World) (C : List Dat → Led → (Dat → Led → Prop) → Prop) : Sp := fun vs H Q _ => ∃ F ds ω W R, C ds ω R ∧ KnA K w F H (ω ++ W) ∧ InL K F vs ds ∧ ∀ d ω' x F' H', R d ω' → Gr F F' → KnA K w F' H' (ω' ++ W) → In K F' x d → Q x H'
/-- of data alone -/
def pureC (P : List Dat → Dat → Prop) : List Dat → Led → (Dat → Led → Prop) → Prop := fun ds ω R => ω = [] ∧ ∃ d, P ds d ∧ R = fun d' ω' => d' = d ∧ ω' = []
def initD (N : List Str) (ds : List Dat) : Dts := ds.map some ++ List.replicate (N.length - ds.length) none
theorem start_kn {N : List Str} {vs : List V} {ds : List Dat} (E : KnA K w F H ω) (l : InL K F vs ds) : Kn K w F H (L2.start N vs) (initD N ds) ω where
  toKnA := E
  sl := fun i d e => by
    unfold initD at e
    by_cases h : i < ds.length
    · rw [List.getElem?_append_left (by simpa using h), List.getElem?_map] at e
      cases e1 : ds[i]? with
      | none => rw [e1] at e; cases e
      | some d' =>
        rw [e1] at e
        cases e
        obtain ⟨x, h1, h2⟩ := l.get e1
        refine ⟨x, ?_, h2⟩
        unfold L2.start
        rw [List.getElem?_append_left (by simpa [l.length] using h), List.getElem?_map, h1]
        rfl
    · rw [List.getElem?_append_right (by simpa using h)] at e
      rw [List.getElem?_replicate] at e
      split at e <;> cases e
  ln := by
    unfold initD L2.start
    simp [l.length]
theorem spM_body {C : List Dat → Led → (Dat → Led → Prop) → Prop} {N : List Str} {t : TS} (h : ∀ ds ω W R, C ds ω R → St K w t (initD N ds) (ω ++ W)
      { nx := fun _ ω1 => ∃ ω', R (.v .non) ω' ∧ (ω' ++ W).Sublist ω1, rt := fun d ω1 => ∃ ω', R d ω' ∧ (ω' ++ W).Sublist ω1 })
    (vs : List V) (H : Hp) (Q : VK) (E : XK) (hs : spM K w C vs H Q E) : t { nx := fun _ H' => Q .non H', rt := Q } (L2.start N vs) H := by
  obtain ⟨F, ds, ω, W, R, hC, A, l, q⟩ := hs
  refine h ds ω W R hC F H _ _ (start_kn A l) (fun δ' ω1 F' H' σ' hn g E' => ?_) (fun d ω1 x F' H' hr g E' m => ?_) (fun _ _ _ _ _ hb => hb.elim) (fun _ _ _ _ _ hb => hb.elim)
  · obtain ⟨ω', hR, hsub⟩ := hn
    exact q _ ω' _ F' H' hR g (E'.toKnA.drop hsub) .v
  · obtain ⟨ω', hR, hsub⟩ := hr
    exact q d ω' x F' H' hR g (E'.drop hsub) m
theorem pure_body {P : List Dat → Dat → Prop} {N : List Str} {t : TS} (h : ∀ ds d W, P ds d → St K w t (initD N ds) W { nx := fun _ ω1 => d = .v .non ∧ W.Sublist ω1, rt := fun d' ω1 => d' = d ∧ W.Sublist ω1 })
    (vs : List V) (H : Hp) (Q : VK) (E : XK) (hs : spM K w (pureC P) vs H Q E) : t { nx := fun _ H' => Q .non H', rt := Q } (L2.start N vs) H := by
  refine spM_body (fun ds ω W R hC => ?_) vs H Q E hs
  obtain ⟨rfl, d, hP, rfl⟩ := hC
  refine st_weak (h ds d W hP) (fun δ ω hn => ⟨[], ⟨hn.1.symm, rfl⟩, hn.2⟩) (fun d' ω hn => ⟨[], ⟨hn.1, rfl⟩, hn.2⟩) (fun _ _ z => z) fun _ _ z => z
theorem sp_len {C : List Dat → Led → (Dat → Led → Prop) → Prop} {n : Nat} (h : ∀ ds ω R, C ds ω R → ds.length = n) : ∀ vs H Q E, spM K w C vs H Q E → vs.length = n := fun vs H Q E hs => by
  obtain ⟨F, ds, ω, W, R, hC, A, l, q⟩ := hs
  rw [l.length]
  exact h _ _ _ hC
/-- a call: the objects that are handed over stand ahead -/
theorem evm_call {C : List Dat → Led → (Dat → Led → Prop) → Prop} {ta : TA} {ds : List Dat} {R : Dat → Led → Prop} {E0' : XK} (ha : EvA K w δ ω ta ds ω1) (hC : C ds ω2 R) (hp : ω1.Perm (ω2 ++ W)) : EvM K w δ ω (tCall (spM K w C) [] E0' ta) (fun d ω' => ∃ ω3, R d ω3 ∧ ω' = ω3 ++ W) := fun F H σ E Q q =>
  ha F H σ E _ fun vs F1 H1 g1 E1 m1 => by
    show spM K w C (vs ++ []) H1 Q E0'
    rw [List.append_nil]
    exact ⟨F1, ds, ω2, W, R, hC, E1.toKnA.perm hp, m1, fun d ω3 x F2 H2 hR g2 E2 m2 => q d _ x F2 H2 ⟨ω3, hR, rfl⟩ (g1.trans g2) (E1.after g2 E2) m2⟩
theorem evf_call {P : List Dat → Dat → Prop} {ta : TA} {ds : List Dat} {E0' : XK} (ha : EvA K w δ ω ta ds ω1) (hP : P ds d) : EvF K w δ ω (tCall (spM K w (pureC P)) [] E0' ta) d ω1 := fun F H σ E Q q =>
  ha F H σ E _ fun vs F1 H1 g1 E1 m1 => by
    show spM K w (pureC P) (vs ++ []) H1 Q E0'
    rw [List.append_nil]
    exact ⟨F1, ds, [], ω1, _, ⟨rfl, d, hP, rfl⟩, E1.toKnA, m1, fun d' ω3 x F2 H2 ⟨e1, e2⟩ g2 E2 m2 => by
      subst e1 e2
      exact q x F2 H2 (g1.trans g2) (E1.after g2 E2) m2⟩
/-- a method: of one's own object | of one that stays -/
theorem evm_meth {C : List Dat → Led → (Dat → Led → Prop) → Prop} {ta : TA} {ds : List Dat} {R : Dat → Led → Prop} {E0' : XK} {p Cl : Addr} {fs : List (Str × Dat)} {m : Str} (ho : EvF K w δ ω to (.v (.ref p)) ω1) (mo : (p, Ow.ins Cl fs) ∈ ω1) (hm : m ∉ fs.map (·.1)) (ha : EvA K w δ ω1 ta ds ω2) (hC : C (.v (.ref p) :: ds) ω3 R) (hp : ω2.Perm (ω3 ++ W)) :
    EvM K w δ ω (tMeth Cl m (spM K w C) [] E0' to ta) (fun d ω' => ∃ ω4, R d ω4 ∧ ω' = ω4 ++ W) := fun F H σ E Q q =>
  ho F H σ E _ fun v F1 H1 g1 E1 m1 => by
    obtain ⟨dx, gs, h1, h2, h3, h4⟩ := E1.ins_len mo
    have hl : gs.lookup m = none := by
      rw [List.lookup_eq_none_iff]
      intro z hz
      rw [← h2] at hm
      have : m ≠ z.1 := fun e => hm (List.mem_map.mpr ⟨z, hz, e.symm⟩)
      simpa using this
    refine ⟨p, dx, gs, m1.eqv, h1, hl, ha F1 H1 σ E1 _ fun vs F2 H2 g2 E2 m2 => ?_⟩
    rw [List.append_nil]
    exact ⟨F2, _, ω3, W, R, hC, E2.toKnA.perm hp, .cons (m1.mono g2) m2, fun d ω4 x F3 H3 hR g3 E3 m3 => q d _ x F3 H3 ⟨ω4, hR, rfl⟩ ((g1.trans g2).trans g3) (E2.after g3 E3) m3⟩
theorem evf_methI {P : List Dat → Dat → Prop} {ta : TA} {ds es : List Dat} {E0' : XK} {Cl : Addr} {ns : List Str} {m : Str} (ho : EvF K w δ ω to (.ins Cl ns es) ω1) (hm : m ∉ ns) (ha : EvA K w δ ω1 ta ds ω2) (hP : P (.ins Cl ns es :: ds) d) :
    EvF K w δ ω (tMeth Cl m (spM K w (pureC P)) [] E0' to ta) d ω2 := fun F H σ E Q q =>
  ho F H σ E _ fun v F1 H1 g1 E1 m1 => by
    obtain ⟨a, dx, gs, rfl, h1, h2, h3⟩ := id m1.atI
    have hl : gs.lookup m = none := by
      rw [List.lookup_eq_none_iff]
      intro z hz
      rw [← h2] at hm
      have : m ≠ z.1 := fun e => hm (List.mem_map.mpr ⟨z, hz, e.symm⟩)
      simpa using this
    refine ⟨a, dx, gs, rfl, E1.gr _ _ h1, hl, ha F1 H1 σ E1 _ fun vs F2 H2 g2 E2 m2 => ?_⟩
    rw [List.append_nil]
    exact ⟨F2, _, [], ω2, _, ⟨rfl, d, hP, rfl⟩, E2.toKnA, .cons (m1.mono g2) m2, fun d' ω3 x F3 H3 ⟨e1, e2⟩ g3 E3 m3 => by
      subst e1 e2
      exact q x F3 H3 ((g1.trans g2).trans g3) (E2.after g3 E3) m3⟩
/-- a new instance, by its __init__: it is handed over with no attributes -/
theorem evm_make {C : List Dat → Led → (Dat → Led → Prop) → Prop} {ta : TA} {ds : List Dat} {R : Addr → Dat → Led → Prop} {E0' : XK} {Cl : Addr} (ha : EvA K w δ ω ta ds ω1) (hC : ∀ p, C (.v (.ref p) :: ds) ((p, .ins Cl []) :: ω2) (R p)) (hR : ∀ p d ω', R p d ω' → d = .v .non) (hp : ω1.Perm (ω2 ++ W)) :
    EvM K w δ ω (tMake Cl (spM K w C) [] E0' ta) (fun d ω' => ∃ p ω4, R p (.v .non) ω4 ∧ d = .v (.ref p) ∧ ω' = ω4 ++ W) := fun F H σ E Q q =>
  ha F H σ E _ fun vs F1 H1 g1 E1 m1 => by
    intro x dx hx hdx hne
    rw [List.append_nil]
    have n1 : Nx F1 H1 F1 (upd H1 dx (.own x)) := ⟨gr_refl _, E1.gr.trans (gr_new hdx), gr_new hdx, fun _ e _ => e⟩
    have E2 := E1.nx n1
    have hx2 : upd H1 dx (.own x) x = none := by rw [upd_ne hne.symm]; exact hx
    have E3 : Kn K w F1 (upd (upd H1 dx (.own x)) x (.ins Cl dx [])) σ δ ((x, .ins Cl []) :: ω1) := E2.own hx2 ⟨dx, [], upd_same, rfl, .nil⟩
    refine ⟨F1, .v (.ref x) :: ds, (x, .ins Cl []) :: ω2, W, R x, hC x, (E3.perm (hp.cons _)).toKnA, .cons .v m1, fun d ω' v F2 H2 hr g2 A2 m2 => ?_⟩
    have hd := hR x d ω' hr
    subst hd
    exact ⟨m2.eqv, q _ _ _ F2 H2 ⟨x, ω', hr, rfl, rfl⟩ (g1.trans g2) (E1.after g2 A2) .v⟩
end
end FL

namespace L2
open PySem PySem.Spec PyProof.Rows
section
variable {X : Cx} {tg : Expr}
/-- a list or a tuple, walked -/
def iSeq (K : PySem.W.Frag) (tl : TE) : TI := fun σ H R => tl σ H fun x H1 => ∃ a, x = .ref a ∧ (((∃ xs, SqL K H1 a xs) ∧ R (Itl K a) H1) ∨ ((∃ xs, SqT K H1 a xs) ∧ R (Itt K a) H1))
theorem pi_seq {l : Expr} {tl : TE} (hl : PE X l tl) : PI X tg l (iSeq X.K tl) := by
  refine ⟨fun pins s σ H R I h => ?_⟩
  refine thn (hl.run pins s σ H _ I h) fun v s1 ⟨x, H1, I1, r1, q1⟩ => ?_
  obtain ⟨a, e, q⟩ := q1
  subst e
  cases r1
  rcases q with ⟨⟨xs, hq⟩, q⟩ | ⟨⟨xs, hq⟩, q⟩
  · obtain ⟨its, rv, p, hz⟩ := I1.list hq
    refine wpAny_pyIter_list p.isList ?_
    refine ⟨s1.heap.objs.size, [s1.heap.objs.size], _, _, H1, rfl, I1.kept (t' := s1.toks) fun b o e => Heap.get?_push_of_some _ e, turn_list a _, ⟨_, Heap.get?_push_size _ rfl, rfl, rfl⟩, fun b hb => ?_, q⟩
    have e : b = s1.heap.objs.size := by simpa using hb
    subst e
    exact I1.fpOk (Nat.le_refl _) (I1.hok.fresh (Nat.le_refl _))
  · obtain ⟨its, rv, p, hz⟩ := I1.tuple hq
    refine wpAny_pyIter_tuple (show s1.heap.IsTuple a its.toArray from p) ?_
    refine ⟨s1.heap.objs.size, [s1.heap.objs.size], _, _, H1, rfl, I1.kept (t' := s1.toks) fun b o e => Heap.get?_push_of_some _ e, turn_tuple a _, ⟨_, Heap.get?_push_size _ rfl, rfl, rfl⟩, fun b hb => ?_, q⟩
    have e : b = s1.heap.objs.size := by simpa using hb
    subst e
    exact I1.fpOk (Nat.le_refl _) (I1.hok.fresh (Nat.le_refl _))
/-- == by the text's own __eq__ -/
def rEqC (C : Addr) (sp : Sp) : R2 := fun x y H Q => ∃ a b dx dy fs gs, x = .ref a ∧ y = .ref b ∧ H a = some (.ins C dx fs) ∧ H b = some (.ins C dy gs) ∧ sp [x, y] H (fun v H' => ∃ r, v = .bl r ∧ Q v H') E0
theorem op_eqC {n : Nat} {CX : CXT} {C f : Addr} {fd : FuncData} {ps : List Str} {sp : Sp} (F : FnOk X.prog X.w X.K X.mg X.base CX n f fd ps sp)
    (hs : PySem.W.findIn X.K (.ref C) "__eq__" = some (some (.ref f))) (hf : PySem.W.isFn X.K (.ref f) = true) (hb : Binds X.K fd ps []) (hx : Passes CX X E0) (hr : Room n X.A) : OpR X (compareOp .Eq) (rEqC C sp) := by
  intro pins s σ H x y v u Q I rx ry d
  obtain ⟨a, b, dx, dy, fs, gs, rfl, rfl, ha, hb', hsp⟩ := d
  cases rx
  cases ry
  show wpAny (model X.prog X.w) X.A (richCompare .Eq _ _) (EP X pins σ Q) X.xe s
  obtain ⟨mA, J, _⟩ := ins_get I.hok ha
  obtain ⟨mB, J', _⟩ := ins_get I.hok hb'
  obtain ⟨od, J, _⟩ := J.look
  obtain ⟨od', J', _⟩ := J'.look
  obtain ⟨m, hF⟩ := I.fr
  refine PySem.W.cmp_K (op := .Eq) (tb := .ref C) hr.units0 hF I.ok.mod.kin J J'.type (by simp [PySem.W.notFirst]) hs hf ?_
  have hl := F.len _ _ _ _ hsp
  have r2 : Vals [V.ref a, V.ref b] [Value.ref a, Value.ref b] := .cons rfl (.cons rfl .nil)
  refine wpAny_call (codeAny_mono (F.run X.A X.stack s H ⟨[.ref a, .ref b], []⟩ [.ref a, .ref b] [.ref a, .ref b] _ E0 hr I.env0 (by
    have := hb s [.ref a, .ref b] I.kIn (by simpa using hl)
    simpa using this) r2 hsp) fun r s' hq => ?_)
  cases r with
  | error e => exact hx pins σ H s e s' I hq
  | ok fl =>
    cases fl with
    | ret w =>
      obtain ⟨z, H', I', rz, r, ez, q⟩ := I.after hq
      subst ez
      cases rz
      exact ⟨.bl r, H', I', rfl, q⟩
    | next => exact False.elim hq
    | brk => exact False.elim hq
    | cont => exact False.elim hq
end
end L2
namespace FL
open PySem PySem.Spec PyProof.Rows L2
section
variable {K : PySem.W.Frag} {w : World} {F F' H H' : Hp} {δ : Dts} {ω ω1 : Led} {te : TE}
theorem evi_seqL {ds : List Dat} (h : EvF K w δ ω te (.lst ds) ω1) : EvI K w δ ω (iSeq K te) ds ω1 := fun F H σ E R q => h F H σ E _ fun x F1 H1 g1 E1 m1 => by
  obtain ⟨a, xs, rfl, hs, l⟩ := m1.atL
  refine ⟨a, rfl, .inl ⟨⟨xs, sl (E1.gr _ _ hs)⟩, q _ F1 H1 g1 E1 ⟨fun H g => ⟨xs, sl (g _ _ hs), by rw [l.length]; exact Nat.le_refl _⟩, fun i H hi g => ?_, fun i F2 H x H' hi g2 g hy => ?_⟩⟩⟩
  · obtain ⟨x, e, _⟩ := l.get (List.getElem?_eq_getElem hi)
    exact ⟨xs, x, sl (g _ _ hs), e⟩
  · obtain ⟨rfl, hx⟩ := hy
    obtain ⟨d, e, m⟩ := l.getX (hx xs (sl ((g2.trans g) _ _ hs)))
    exact ⟨F2, d, e, Nx.refl g, m.mono g2⟩
theorem evi_seqT {ds : List Dat} (h : EvF K w δ ω te (.tup ds) ω1) : EvI K w δ ω (iSeq K te) ds ω1 := fun F H σ E R q => h F H σ E _ fun x F1 H1 g1 E1 m1 => by
  obtain ⟨a, xs, rfl, hs, l⟩ := m1.atT
  exact ⟨a, rfl, .inr ⟨⟨xs, E1.gr.t hs⟩, q _ F1 H1 g1 E1 (wk_tup hs l)⟩⟩
/-- == of two that stay -/
theorem evf_eqC {C : Addr} {P : List Dat → Dat → Prop} {ns ms : List Str} {ds es : List Dat} {b : Bool} {ta tb : TE} {ω2 : Led} (ha : EvF K w δ ω ta (.ins C ns ds) ω1) (hb : EvF K w δ ω1 tb (.ins C ms es) ω2) (h : P [.ins C ns ds, .ins C ms es] (.v (.bl b))) :
    EvF K w δ ω (tOp (rEqC C (spM K w (pureC P))) ta tb) (.v (.bl b)) ω2 := fun F H σ E Q q =>
  ha F H σ E _ fun x F1 H1 g1 E1 m1 => hb F1 H1 σ E1 _ fun y F2 H2 g2 E2 m2 => by
    have m1' := m1.mono g2
    obtain ⟨a, dx, fs, rfl, h1, h2, h3⟩ := id m1'.atI
    obtain ⟨c, dy, gs, rfl, k1, k2, k3⟩ := id m2.atI
    exact ⟨a, c, dx, dy, fs, gs, rfl, rfl, E2.gr _ _ h1, E2.gr _ _ k1, F2, _, [], ω2, _, ⟨rfl, _, h, rfl⟩, E2.toKnA, .cons m1' (.cons m2 .nil), fun d' ω3 x F3 H3 ⟨e1, e2⟩ g3 E3 m3 => by
      subst e1 e2
      exact ⟨b, m3.eqv, q x F3 H3 ((g1.trans g2).trans g3) (E2.after g3 E3) m3⟩⟩
/-- an instance of one's own is given up: its attributes stay as they are from here on -/
theorem KnA.freezeI {p C : Addr} {fs : List (Str × Dat)} {ω' : Led} (E : KnA K w F H ω) (m : (p, Ow.ins C fs) ∈ ω) (s : ω'.Sublist ω) (n : p ∉ ω'.map (·.1)) : ∃ F', Gr F F' ∧ KnA K w F' H ω' ∧ In K F' (.ref p) (.ins C (fs.map (·.1)) (fs.map (·.2))) := by
  obtain ⟨f0, dx, gs, hp, e1, l⟩ := E.ow _ _ m
  have g : Gr F (upd F p (.ins C dx gs)) := gr_new f0
  have k : Gr (upd F p (.ins C dx gs)) H := fun a o e => by
    by_cases h : a = p
    · subst h
      rw [upd_same] at e
      rw [hp]
      exact e
    · rw [upd_ne h] at e
      exact E.gr _ _ e
  refine ⟨upd F p (.ins C dx gs), g, ⟨k, fun q o mq => ?_, (s.map _).nodup E.nd⟩, .ins upd_same e1 (l.mono g)⟩
  have hq : q ≠ p := fun e => n (List.mem_map.mpr ⟨(q, o), mq, e⟩)
  obtain ⟨y1, y2⟩ := E.ow q o (s.subset mq)
  exact ⟨by rw [upd_ne hq]; exact y1, y2.mono g fun _ e => e⟩
/-- weaker data -/
theorem EvF.weak {d e : Dat} (h : EvF K w δ ω te d ω1) (k : ∀ F x, In K F x d → In K F x e) : EvF K w δ ω te e ω1 := fun F H σ E Q q => h F H σ E _ fun x F1 H1 g1 E1 m1 => q x F1 H1 g1 E1 (k _ _ m1)
theorem EvF.less {d : Dat} {ω2 : Led} (h : EvF K w δ ω te d ω1) (s : ω2.Sublist ω1) : EvF K w δ ω te d ω2 := fun F H σ E Q q => h F H σ E _ fun x F1 H1 g1 E1 m1 => q x F1 H1 g1 (E1.drop s) m1
end
end FL

namespace FL
open PySem PySem.Spec PyProof.Rows L2

/-- where the text's own things stand -/
structure Gs where
  Doc : Addr
  Store : Addr
  SIZES : Addr
  MOST_SIGNS : Addr
  EMPTY : Addr

/-! ### rows -/
inductive Row where
  | text (s : Str) | line (s : Str) | hard | cat (ps : List Int) | nest (n j : Int) | align (j : Int) | group (j : Int)
  deriving DecidableEq
abbrev Dat.i (n : Int) : Dat := .v (.int n)
abbrev Dat.s (x : Str) : Dat := .v (.str x)
abbrev Dat.b (x : Bool) : Dat := .v (.bl x)
def Row.dat : Row → Dat
  | .text s => .tup [.s "text", .s s]
  | .line s => .tup [.s "line", .s s]
  | .hard => .tup [.s "hard"]
  | .cat ps => .tup [.s "cat", .lst (ps.map .i)]
  | .nest n j => .tup [.s "nest", .i n, .i j]
  | .align j => .tup [.s "align", .i j]
  | .group j => .tup [.s "group", .i j]
def Row.word : Row → Str
  | .text _ => "text" | .line _ => "line" | .hard => "hard" | .cat _ => "cat" | .nest _ _ => "nest" | .align _ => "align" | .group _ => "group"
/-- of a length that the machine's own bounds allow -/
def Row.fits : Row → Prop
  | .text s => s.length ≤ 1000
  | .line s => s.length ≤ 1000
  | .cat ps => ps.length ≤ 1000
  | _ => True

section
variable {K : PySem.W.Frag} {w : World} {G : Gs}
/-! ### wholes -/
def t_is_integer (K : PySem.W.Frag) (w : World) (G : Gs) : TS :=
  (tRet (tAndV (tCB (rIsi K) (tCons (tVar 0) (tCons (tC (.ty "int")) tNil))) (tNotV (tCB (rIsi K) (tCons (tVar 0) (tCons (tC (.ty "bool")) tNil))))))
abbrev N_is_integer : List Str := ["value"]
def sp_is_integer (K : PySem.W.Frag) (w : World) (G : Gs) : Sp := spM K w (pureC fun ds d => ∃ x t, ds = [x] ∧ x.ty = some t ∧ d = .b (t == "int"))
theorem pure_is_integer : ∀ vs H Q E, sp_is_integer K w G vs H Q E → t_is_integer K w G { nx := fun _ H' => Q .non H', rt := Q } (L2.start N_is_integer vs) H := pure_body fun ds d W h => by
  obtain ⟨x, t, rfl, ht, rfl⟩ := h
  have key : ∃ b1 b2, kitB t "int" = some b1 ∧ kitB t "bool" = some b2 ∧ (b1 && !b2) = (t == "int") := by
    cases x with
    | any => cases ht
    | ins => cases ht
    | scr => cases ht
    | tup => cases ht; exact ⟨false, false, by decide +kernel, by decide +kernel, by decide⟩
    | lst => cases ht; exact ⟨false, false, by decide +kernel, by decide +kernel, by decide⟩
    | v x =>
      cases x <;> first | (cases ht; done) | skip
      · cases ht; exact ⟨false, false, by decide +kernel, by decide +kernel, by decide⟩
      · cases ht; exact ⟨true, true, by decide +kernel, by decide +kernel, by decide⟩
      · cases ht; exact ⟨true, false, by decide +kernel, by decide +kernel, by decide⟩
      · cases ht; exact ⟨false, false, by decide +kernel, by decide +kernel, by decide⟩
  obtain ⟨b1, b2, h1, h2, h3⟩ := key
  refine st_ret (evf_andV (c := !b2) (evf_cb (eva_cons (evf_var rfl) (eva_cons evf_c eva_nil)) (cf_isi ht h1)) (fun _ => evf_notV (evf_cb (eva_cons (evf_var rfl) (eva_cons evf_c eva_nil)) (cf_isi ht h2))) fun _ => rfl) ⟨by rw [h3], .refl _⟩
def t_is_between (K : PySem.W.Frag) (w : World) (G : Gs) : TS :=
  (tRet (tAndV (tCall (sp_is_integer K w G) [] E0 (tCons (tVar 0) tNil)) (tChain rLes rLes (tVar 1) (tVar 0) (tVar 2))))
abbrev N_is_between : List Str := ["value", "low", "high"]
def betw (x : Dat) (lo hi : Int) : Bool := match x with
  | .v (.int i) => decide (lo ≤ i) && decide (i ≤ hi)
  | _ => false
def sp_is_between (K : PySem.W.Frag) (w : World) (G : Gs) : Sp := spM K w (pureC fun ds d => ∃ x t lo hi, ds = [x, .i lo, .i hi] ∧ x.ty = some t ∧ d = .b (betw x lo hi))
theorem pure_is_between : ∀ vs H Q E, sp_is_between K w G vs H Q E → t_is_between K w G { nx := fun _ H' => Q .non H', rt := Q } (L2.start N_is_between vs) H := pure_body fun ds d W h => by
  obtain ⟨x, t, lo, hi, rfl, ht, rfl⟩ := h
  have hc := evf_call (K := K) (w := w) (δ := initD N_is_between [x, .i lo, .i hi]) (ω := W) (E0' := E0) (P := fun ds d => ∃ x t, ds = [x] ∧ x.ty = some t ∧ d = .b (t == "int")) (eva_cons (evf_var (i := 0) rfl) eva_nil) ⟨x, t, rfl, ht, rfl⟩
  by_cases hi' : t = "int"
  · obtain ⟨i, rfl⟩ : ∃ i, x = .i i := by
      subst hi'
      cases x with
      | v x => cases x <;> first | exact ⟨_, rfl⟩ | exact absurd (Option.some.inj ht) (by decide) | cases ht
      | tup => exact absurd (Option.some.inj ht) (by decide)
      | lst => exact absurd (Option.some.inj ht) (by decide)
      | _ => cases ht
    cases ht
    refine st_ret (evf_andV (c := decide (lo ≤ i) && decide (i ≤ hi)) hc (fun _ => evf_chain (evf_var rfl) (evf_var rfl) rf_leI (fun _ => evf_var rfl) fun _ => rf_leI) fun _ => rfl) ⟨by simp [betw], .refl _⟩
  · have e : (t == "int") = false := by simpa using hi'
    rw [e] at hc
    refine st_ret (evf_andV (c := false) hc (fun z => nomatch z) fun _ => rfl) ⟨?_, .refl _⟩
    cases x with
    | v x => cases x <;> first | rfl | (cases ht; exact absurd rfl hi')
    | _ => rfl

theorem atI_zero {α : Type} (x : α) (l : List α) : L2.atI (x :: l) 0 = some x := by
  unfold L2.atI L2.ixN
  rw [if_pos (by decide), if_pos (by rw [List.length_cons]; omega)]
  rfl
/-! ### documents -/
def okC (c : Nat) : Bool := decide (32 ≤ c) && decide (c ≤ 126)
def okSigns (s : Str) (m : Int) : Bool := decide ((s.length : Int) ≤ m) && s.cps.toList.all okC
theorem okC_eq (c : Nat) : (!decide ((⟨#[c]⟩ : Str).cps.toList < (" " : Str).cps.toList) && !decide (("~" : Str).cps.toList < (⟨#[c]⟩ : Str).cps.toList)) = okC c := by
  have e1 : (" " : Str).cps.toList = [32] := by decide +kernel
  have e2 : ("~" : Str).cps.toList = [126] := by decide +kernel
  rw [e1, e2]
  show (!decide ([c] < [32]) && !decide ([126] < [c])) = _
  unfold okC
  rw [Bool.eq_iff_iff]
  simp only [Bool.and_eq_true, Bool.not_eq_true', decide_eq_false_iff_not, decide_eq_true_eq, List.cons_lt_cons_iff]
  simp
def t_is_signs (K : PySem.W.Frag) (w : World) (G : Gs) : TS :=
  (tRet (tAndV (tCB (rIsi K) (tCons (tVar 0) (tCons (tC (.ty "str")) tNil))) (tAndV (tOp rLes (tCB (rLens K) (tCons (tVar 0) tNil)) (tVar 1)) (tCB (rAll K) (tCons (tLc (iStr (tVar 0)) (gName 2) tYes (tChain rLes rLes (tC (.str " ")) (tVar 2) (tC (.str "~"))) [2]) tNil)))))
abbrev N_is_signs : List Str := ["value", "most", "sign"]
def sp_is_signs (K : PySem.W.Frag) (w : World) (G : Gs) : Sp := spM K w (pureC fun ds d => ∃ s m, ds = [.s s, .i m] ∧ s.length ≤ 1000 ∧ d = .b (okSigns s m))
theorem pure_is_signs : ∀ vs H Q E, sp_is_signs K w G vs H Q E → t_is_signs K w G { nx := fun _ H' => Q .non H', rt := Q } (L2.start N_is_signs vs) H := pure_body fun ds d W h => by
  obtain ⟨s, m, rfl, hs, rfl⟩ := h
  have hz : s.length ≤ sizeLine := Nat.le_trans hs (by decide)
  refine st_ret (evf_andV (a := true) (c := decide ((s.length : Int) ≤ m) && s.cps.toList.all okC) (evf_cb (eva_cons (evf_var rfl) (eva_cons evf_c eva_nil)) (cf_isi (t := "str") rfl (by decide +kernel))) (fun _ => ?_) fun _ => rfl) ⟨rfl, .refl _⟩
  refine evf_andV (evf_op (evf_cb (eva_cons (evf_var rfl) eva_nil) (cf_lenS hz)) (evf_var rfl) rf_leI) (fun _ => ?_) fun _ => rfl
  have hm := evf_map (K := K) (w := w) (δ := initD N_is_signs [.s s, .i m]) (ω := W) (j := 2) (vs := [2]) (te := tChain rLes rLes (tC (.str " ")) (tVar 2) (tC (.str "~")))
    (fun d => match d with | .v (.str z) => .b (!decide (z.cps.toList < (" " : Str).cps.toList) && !decide (("~" : Str).cps.toList < z.cps.toList)) | _ => .any) (evi_str (te := tVar 0) (evf_var rfl)) (by simp [sgnD]; exact Nat.lt_of_le_of_lt hs (by decide)) (by simp) fun d hd q o => by
      obtain ⟨c, _, rfl⟩ := List.mem_map.mp hd
      exact evf_chain evf_c (evf_var rfl) rf_leS (fun _ => evf_c) fun _ => rf_leS
  have e : (sgnD s).map (fun d => match d with | .v (.str z) => Dat.b (!decide (z.cps.toList < (" " : Str).cps.toList) && !decide (("~" : Str).cps.toList < z.cps.toList)) | _ => .any) = (s.cps.toList.map okC).map fun b => .v (.bl b) := by
    unfold sgnD
    rw [List.map_map, List.map_map]
    refine List.map_congr_left fun c _ => ?_
    show Dat.b _ = Dat.b _
    rw [okC_eq]
  rw [e] at hm
  refine (evf_cb (eva_cons hm eva_nil) cf_all).to ?_
  show Dat.b _ = Dat.b _
  rw [List.all_map]
  rfl

/-- what the walk asks of the text's own things -/
structure Tx (K : PySem.W.Frag) (w : World) (G : Gs) : Prop where
  szT : KDct K w G.SIZES "text" (.int 2)
  szL : KDct K w G.SIZES "line" (.int 2)
  szH : KDct K w G.SIZES "hard" (.int 1)
  szC : KDct K w G.SIZES "cat" (.int 2)
  szN : KDct K w G.SIZES "nest" (.int 3)
  szA : KDct K w G.SIZES "align" (.int 2)
  szG : KDct K w G.SIZES "group" (.int 2)
  hsT : KHas K w G.SIZES "text" true
  hsL : KHas K w G.SIZES "line" true
  hsH : KHas K w G.SIZES "hard" true
  hsC : KHas K w G.SIZES "cat" true
  hsN : KHas K w G.SIZES "nest" true
  hsA : KHas K w G.SIZES "align" true
  hsG : KHas K w G.SIZES "group" true
  msT : KDct K w G.MOST_SIGNS "text" (.int 20)
  msL : KDct K w G.MOST_SIGNS "line" (.int 3)
  hmT : KHas K w G.MOST_SIGNS "text" true
  hmL : KHas K w G.MOST_SIGNS "line" true
  hmH : KHas K w G.MOST_SIGNS "hard" false
  hmC : KHas K w G.MOST_SIGNS "cat" false
  hmN : KHas K w G.MOST_SIGNS "nest" false
  hmA : KHas K w G.MOST_SIGNS "align" false
  hmG : KHas K w G.MOST_SIGNS "group" false
  kDoc : Cls K G.Doc
  isDoc : C8.InsC K G.Doc
  aRows : NoAttr K G.Doc "rows"
  aLayouts : NoAttr K G.Doc "layouts"
  kStore : Cls K G.Store
  aStored : NoAttr K G.Store "stored"
  aNumbers : NoAttr K G.Store "numbers"
  aBare : NoAttr K G.Store "bare"
  aHard : NoAttr K G.Store "hard"
  aDirect : NoAttr K G.Store "direct"
  empty : ∀ F, SqT K F G.EMPTY [.str "text", .str ""]
def okRow (k : Int) : Row → Bool
  | .text s => okSigns s 20
  | .line s => okSigns s 3
  | .hard => true
  | .cat ps => decide ((ps.length : Int) ≤ 8) && ps.all fun p => decide (0 ≤ p) && decide (p ≤ k - 1)
  | .nest n j => (decide (0 ≤ n) && decide (n ≤ 8)) && (decide (0 ≤ j) && decide (j ≤ k - 1))
  | .align j => decide (0 ≤ j) && decide (j ≤ k - 1)
  | .group j => decide (0 ≤ j) && decide (j ≤ k - 1)
def t_is_row (K : PySem.W.Frag) (w : World) (G : Gs) : TS :=
  (tSeq (tIfS (tOr (tNot (tB (tCB (rIsi K) (tCons (tVar 0) (tCons (tC (.ty "tuple")) tNil))))) (tOr (tTest (tOp (rEqs K) (tCB (rLens K) (tCons (tVar 0) tNil)) (tC (.int 0)))) (tNot (tB (tCB (rIsi K) (tCons (tOp (rAts K w) (tVar 0) (tC (.int 0))) (tCons (tC (.ty "str")) tNil)))))))
  (tRet (tC (.bl false)))
  tNext)
  (tSeq (tAsg (tOp (rAts K w) (tVar 0) (tC (.int 0))) (gName 2))
  (tSeq (tIfS (tOr (tTest (tOp (rNotIns K w) (tVar 2) (tC (.ref G.SIZES)))) (tTest (tOp (rNes K) (tCB (rLens K) (tCons (tVar 0) tNil)) (tOp (rAts K w) (tC (.ref G.SIZES)) (tVar 2)))))
  (tRet (tC (.bl false)))
  tNext)
  (tSeq (tIfS (tTest (tOp (rIns K w) (tVar 2) (tC (.ref G.MOST_SIGNS))))
  (tRet (tCall (sp_is_signs K w G) [] E0 (tCons (tOp (rAts K w) (tVar 0) (tC (.int 1))) (tCons (tOp (rAts K w) (tC (.ref G.MOST_SIGNS)) (tVar 2)) tNil))))
  tNext)
  (tSeq (tIfS (tTest (tOp (rEqs K) (tVar 2) (tC (.str "cat"))))
  (tSeq (tAsg (tAndV (tCB (rIsi K) (tCons (tOp (rAts K w) (tVar 0) (tC (.int 1))) (tCons (tC (.ty "list")) tNil))) (tOp rLes (tCB (rLens K) (tCons (tOp (rAts K w) (tVar 0) (tC (.int 1))) tNil)) (tC (.int 8)))) (gName 3))
  (tRet (tAndV (tVar 3) (tCB (rAll K) (tCons (tLc (iList K (tOp (rAts K w) (tVar 0) (tC (.int 1)))) (gName 4) tYes (tCall (sp_is_between K w G) [] E0 (tCons (tVar 4) (tCons (tC (.int 0)) (tCons (tOp rMinus (tVar 1) (tC (.int 1))) tNil)))) [4]) tNil)))))
  tNext)
  (tSeq (tIfS (tAnd (tTest (tOp (rEqs K) (tVar 2) (tC (.str "nest")))) (tNot (tB (tCall (sp_is_between K w G) [] E0 (tCons (tOp (rAts K w) (tVar 0) (tC (.int 1))) (tCons (tC (.int 0)) (tCons (tC (.int 8)) tNil)))))))
  (tRet (tC (.bl false)))
  tNext)
  (tRet (tOrV (tOp (rEqs K) (tVar 2) (tC (.str "hard"))) (tCall (sp_is_between K w G) [] E0 (tCons (tOp (rAts K w) (tVar 0) (tUn rNeg (tC (.int 1)))) (tCons (tC (.int 0)) (tCons (tOp rMinus (tVar 1) (tC (.int 1))) tNil))))))))))))
abbrev N_is_row : List Str := ["value", "number", "word", "is_list", "part"]
def sp_is_row (K : PySem.W.Frag) (w : World) (G : Gs) : Sp := spM K w (pureC fun ds d => ∃ (r : Row) (k : Int), ds = [r.dat, .i k] ∧ r.fits ∧ d = .b (okRow k r))
theorem pure_is_row (T : Tx K w G) : ∀ vs H Q E, sp_is_row K w G vs H Q E → t_is_row K w G { nx := fun _ H' => Q .non H', rt := Q } (L2.start N_is_row vs) H := pure_body fun ds d W h => by
  obtain ⟨r, k, rfl, hf, rfl⟩ := h
  have isT : ∀ (l : List Dat) δ, δ[0]? = some (some (.tup l)) → EvT K w δ W (tNot (tB (tCB (rIsi K) (tCons (tVar 0) (tCons (tC (.ty "tuple")) tNil))))) false W := fun l δ h => evt_not (evt_B (evf_cb (eva_cons (evf_var h) (eva_cons evf_c eva_nil)) (cf_isi (t := "tuple") (u := "tuple") (b := true) rfl (by decide +kernel))))
  have hd : ∀ (wd : Str) (l : List Dat) δ, δ[0]? = some (some (.tup (.s wd :: l))) → EvF K w δ W (tOp (rAts K w) (tVar 0) (tC (.int 0))) (.s wd) W := fun wd l δ h => evf_op (evf_var h) evf_c (rf_atT (atI_zero _ _))
  have isS : ∀ (wd : Str) (l : List Dat) δ, δ[0]? = some (some (.tup (.s wd :: l))) → EvT K w δ W (tOr (tTest (tOp (rEqs K) (tCB (rLens K) (tCons (tVar 0) tNil)) (tC (.int 0)))) (tNot (tB (tCB (rIsi K) (tCons (tOp (rAts K w) (tVar 0) (tC (.int 0))) (tCons (tC (.ty "str")) tNil)))))) false W := fun wd l δ h => by
    refine (evt_or (a := false) (c := false) (evt_test ((evf_op (evf_cb (eva_cons (evf_var h) eva_nil) cf_lenT) evf_c (rf_eqS rfl)).to ?_)) (fun _ => evt_not (evt_B (evf_cb (eva_cons (hd wd l δ h) (eva_cons evf_c eva_nil)) (cf_isi (t := "str") (u := "str") (b := true) rfl (by decide +kernel))))) fun z => nomatch z)
    show Dat.b (decide (V.int ((l.length + 1 : Nat)) = V.int 0)) = Dat.b false
    rw [decide_eq_false]
    intro z
    injection z with z
    omega
  have szs : ∀ (wd : Str) (l : List Dat) δ n, δ[0]? = some (some (.tup (.s wd :: l))) → δ[2]? = some (some (.s wd)) → KHas K w G.SIZES wd true → KDct K w G.SIZES wd (.int n) → n = l.length + 1 →
      EvT K w δ W (tOr (tTest (tOp (rNotIns K w) (tVar 2) (tC (.ref G.SIZES)))) (tTest (tOp (rNes K) (tCB (rLens K) (tCons (tVar 0) tNil)) (tOp (rAts K w) (tC (.ref G.SIZES)) (tVar 2))))) false W := fun wd l δ n h h2 k1 k2 e => by
    refine evt_or (a := false) (c := false) (evt_test (evf_op (evf_var h2) evf_c (rf_notInKd k1))) (fun _ => evt_test ((evf_op (evf_cb (eva_cons (evf_var h) eva_nil) cf_lenT) (evf_op evf_c (evf_var h2) (rf_atKd k2)) (rf_neS rfl)).to ?_)) fun z => nomatch z
    show Dat.b (!decide (V.int ((l.length + 1 : Nat)) = V.int n)) = Dat.b false
    rw [e, decide_eq_true (by simp)]
    rfl
  have ms : ∀ (wd : Str) δ b, δ[2]? = some (some (.s wd)) → KHas K w G.MOST_SIGNS wd b → EvT K w δ W (tTest (tOp (rIns K w) (tVar 2) (tC (.ref G.MOST_SIGNS)))) b W := fun wd δ b h k1 => evt_test (evf_op (evf_var h) evf_c (rf_inKd k1))
  have eqw : ∀ (wd z : Str) δ, δ[2]? = some (some (.s wd)) → EvF K w δ W (tOp (rEqs K) (tVar 2) (tC (.str z))) (.b (decide (wd = z))) W := fun wd z δ h => (evf_op (evf_var h) evf_c (rf_eqS rfl)).to (by simp)
  have btw : ∀ (te tn : TE) δ (a hi : Int), EvF K w δ W te (.i a) W → EvF K w δ W tn (.i hi) W → EvF K w δ W (tCall (sp_is_between K w G) [] E0 (tCons te (tCons (tC (.int 0)) (tCons tn tNil)))) (.b (decide (0 ≤ a) && decide (a ≤ hi))) W := fun te tn δ a hi h1 h2 =>
    evf_call (P := fun ds d => ∃ x t lo hi, ds = [x, .i lo, .i hi] ∧ x.ty = some t ∧ d = .b (betw x lo hi)) (eva_cons h1 (eva_cons evf_c (eva_cons h2 eva_nil))) ⟨_, "int", _, _, rfl, rfl, rfl⟩
  have num : ∀ δ, δ[1]? = some (some (.i k)) → EvF K w δ W (tOp rMinus (tVar 1) (tC (.int 1))) (.i (k - 1)) W := fun δ h => evf_op (evf_var h) evf_c rf_subI
  cases r with
  | text s =>
    refine q_no ((evt_or (isT _ _ rfl) (fun _ => isS _ _ _ rfl) fun z => nomatch z).to rfl) (q_next (q_set (hd _ _ _ rfl) (q_no (szs _ _ _ _ rfl rfl T.hsT T.szT rfl) (q_next (q_yes (ms _ _ _ rfl T.hmT) (q_ret (st_ret ?_ ⟨rfl, .refl _⟩)))))))
    exact evf_call (P := fun ds d => ∃ s m, ds = [.s s, .i m] ∧ s.length ≤ 1000 ∧ d = .b (okSigns s m)) (eva_cons (evf_op (evf_var rfl) evf_c (rf_atT rfl)) (eva_cons (evf_op evf_c (evf_var rfl) (rf_atKd T.msT)) eva_nil)) ⟨s, 20, rfl, hf, rfl⟩
  | line s =>
    refine q_no ((evt_or (isT _ _ rfl) (fun _ => isS _ _ _ rfl) fun z => nomatch z).to rfl) (q_next (q_set (hd _ _ _ rfl) (q_no (szs _ _ _ _ rfl rfl T.hsL T.szL rfl) (q_next (q_yes (ms _ _ _ rfl T.hmL) (q_ret (st_ret ?_ ⟨rfl, .refl _⟩)))))))
    exact evf_call (P := fun ds d => ∃ s m, ds = [.s s, .i m] ∧ s.length ≤ 1000 ∧ d = .b (okSigns s m)) (eva_cons (evf_op (evf_var rfl) evf_c (rf_atT rfl)) (eva_cons (evf_op evf_c (evf_var rfl) (rf_atKd T.msL)) eva_nil)) ⟨s, 3, rfl, hf, rfl⟩
  | hard =>
    refine q_no ((evt_or (isT _ _ rfl) (fun _ => isS _ _ _ rfl) fun z => nomatch z).to rfl) (q_next (q_set (hd _ _ _ rfl) (q_no (szs _ _ _ _ rfl rfl T.hsH T.szH rfl) (q_next (q_no (ms _ _ _ rfl T.hmH) (q_next (q_no ((evt_test (eqw _ _ _ rfl)).to (by decide +kernel)) (q_next (q_no (evt_and (a := false) (c := false) ((evt_test (eqw _ _ _ rfl)).to (by decide +kernel)) (fun z => nomatch z) fun _ => rfl) (q_next (st_ret ?_ ⟨rfl, .refl _⟩)))))))))))
    exact evf_orV (a := true) (c := true) ((eqw _ _ _ rfl).to (congrArg Dat.b (by decide +kernel))) (fun z => (nomatch z)) (fun _ => rfl)
  | cat ps =>
    refine q_no ((evt_or (isT _ _ rfl) (fun _ => isS _ _ _ rfl) fun z => nomatch z).to rfl) (q_next (q_set (hd _ _ _ rfl) (q_no (szs _ _ _ _ rfl rfl T.hsC T.szC rfl) (q_next (q_no (ms _ _ _ rfl T.hmC) (q_next (q_yes ((evt_test (eqw _ _ _ rfl)).to (by decide +kernel)) (q_seq (q_set (d := .b (decide ((ps.length : Int) ≤ 8))) (ω1 := W) ?_ (q_ret (st_ret ?_ ⟨rfl, .refl _⟩)))))))))))
    · refine evf_andV (a := true) (c := decide ((ps.length : Int) ≤ 8)) (evf_cb (eva_cons (evf_op (evf_var rfl) evf_c (rf_atT rfl)) (eva_cons evf_c eva_nil)) (cf_isi (t := "list") rfl (by decide +kernel))) (fun _ => ?_) fun _ => rfl
      refine (evf_op (evf_cb (eva_cons (evf_op (evf_var rfl) evf_c (rf_atT rfl)) eva_nil) cf_lenL) evf_c rf_leI).to (by simp)
    · refine evf_andV (c := ps.all fun p => decide (0 ≤ p) && decide (p ≤ k - 1)) (evf_var rfl) (fun _ => ?_) fun _ => rfl
      have hm := evf_map (K := K) (w := w) (δ := ((initD N_is_row [(Row.cat ps).dat, .i k]).set 2 (some (.s "cat"))).set 3 (some (.b (decide ((ps.length : Int) ≤ 8))))) (ω := W) (j := 4) (vs := [4]) (te := tCall (sp_is_between K w G) [] E0 (tCons (tVar 4) (tCons (tC (.int 0)) (tCons (tOp rMinus (tVar 1) (tC (.int 1))) tNil))))
        (fun d => match d with | .v (.int p) => .b (decide (0 ≤ p) && decide (p ≤ k - 1)) | _ => .any) (evi_list (te := tOp (rAts K w) (tVar 0) (tC (.int 1))) (evf_op (evf_var rfl) evf_c (rf_atT rfl))) (by rw [List.length_map]; exact Nat.lt_of_le_of_lt hf (by decide)) (by simp) fun d hd q o => by
          obtain ⟨c, _, rfl⟩ := List.mem_map.mp hd
          exact evf_call (P := fun ds d => ∃ x t lo hi, ds = [x, .i lo, .i hi] ∧ x.ty = some t ∧ d = .b (betw x lo hi)) (eva_cons (evf_var rfl) (eva_cons evf_c (eva_cons (evf_op (evf_var rfl) evf_c rf_subI) eva_nil))) ⟨_, "int", _, _, rfl, rfl, rfl⟩
      have e : (ps.map Dat.i).map (fun d => match d with | .v (.int p) => Dat.b (decide (0 ≤ p) && decide (p ≤ k - 1)) | _ => .any) = (ps.map fun p => decide (0 ≤ p) && decide (p ≤ k - 1)).map fun b => .v (.bl b) := by
        rw [List.map_map, List.map_map]
        rfl
      rw [e] at hm
      refine (evf_cb (eva_cons hm eva_nil) cf_all).to ?_
      show Dat.b _ = Dat.b _
      rw [List.all_map]
      rfl
  | nest n j =>
    refine q_no ((evt_or (isT _ _ rfl) (fun _ => isS _ _ _ rfl) fun z => nomatch z).to rfl) (q_next (q_set (hd _ _ _ rfl) (q_no (szs _ _ _ _ rfl rfl T.hsN T.szN rfl) (q_next (q_no (ms _ _ _ rfl T.hmN) (q_next (q_no ((evt_test (eqw _ _ _ rfl)).to (by decide +kernel)) (q_next (q_if (evt_and (a := true) ((evt_test (eqw _ _ _ rfl)).to (by decide +kernel)) (fun _ => evt_not (evt_B (btw _ _ _ n 8 (evf_op (evf_var rfl) evf_c (rf_atT rfl)) evf_c))) fun z => nomatch z) (fun hb => ?_) (fun hb => ?_))))))))))
    · refine q_ret (st_ret evf_c ⟨?_, .refl _⟩)
      have hb' : (decide (0 ≤ n) && decide (n ≤ 8)) = false := by rw [← Bool.not_eq_true']; simpa using hb
      show Dat.b false = Dat.b ((decide (0 ≤ n) && decide (n ≤ 8)) && _)
      rw [hb', Bool.false_and]
    · refine q_next (st_ret (evf_orV (a := false) ((eqw _ _ _ rfl).to (congrArg Dat.b (by decide +kernel))) (fun _ => btw _ _ _ j (k - 1) (evf_op (evf_var rfl) (evf_un evf_c uf_neg) (rf_atT rfl)) (num _ rfl)) fun z => nomatch z) ⟨?_, .refl _⟩)
      have hb' : (decide (0 ≤ n) && decide (n ≤ 8)) = true := by simpa using hb
      show Dat.b _ = Dat.b ((decide (0 ≤ n) && decide (n ≤ 8)) && _)
      rw [hb', Bool.true_and]
      rfl
  | align j =>
    refine q_no ((evt_or (isT _ _ rfl) (fun _ => isS _ _ _ rfl) fun z => nomatch z).to rfl) (q_next (q_set (hd _ _ _ rfl) (q_no (szs _ _ _ _ rfl rfl T.hsA T.szA rfl) (q_next (q_no (ms _ _ _ rfl T.hmA) (q_next (q_no ((evt_test (eqw _ _ _ rfl)).to (by decide +kernel)) (q_next (q_no (evt_and (a := false) (c := false) ((evt_test (eqw _ _ _ rfl)).to (by decide +kernel)) (fun z => nomatch z) fun _ => rfl) (q_next (st_ret ?_ ⟨rfl, .refl _⟩)))))))))))
    exact evf_orV (a := false) ((eqw _ _ _ rfl).to (congrArg Dat.b (by decide +kernel))) (fun _ => btw _ _ _ j (k - 1) (evf_op (evf_var rfl) (evf_un evf_c uf_neg) (rf_atT rfl)) (num _ rfl)) (fun z => (nomatch z))
  | group j =>
    refine q_no ((evt_or (isT _ _ rfl) (fun _ => isS _ _ _ rfl) fun z => nomatch z).to rfl) (q_next (q_set (hd _ _ _ rfl) (q_no (szs _ _ _ _ rfl rfl T.hsG T.szG rfl) (q_next (q_no (ms _ _ _ rfl T.hmG) (q_next (q_no ((evt_test (eqw _ _ _ rfl)).to (by decide +kernel)) (q_next (q_no (evt_and (a := false) (c := false) ((evt_test (eqw _ _ _ rfl)).to (by decide +kernel)) (fun z => nomatch z) fun _ => rfl) (q_next (st_ret ?_ ⟨rfl, .refl _⟩)))))))))))
    exact evf_orV (a := false) ((eqw _ _ _ rfl).to (congrArg Dat.b (by decide +kernel))) (fun _ => btw _ _ _ j (k - 1) (evf_op (evf_var rfl) (evf_un evf_c uf_neg) (rf_atT rfl)) (num _ rfl)) fun z => nomatch z
end
end FL

namespace FL
open PySem PySem.Spec PyProof.Rows L2

/-! ### rows, plainly -/
def Row.parts : Row → List Int
  | .cat ps => ps | .nest _ j => [j] | .align j => [j] | .group j => [j] | _ => []
def Row.isLine : Row → Bool
  | .line _ => true | .hard => true | _ => false
def Row.isHard : Row → Bool
  | .hard => true | _ => false
def Row.isGroup : Row → Bool
  | .group _ => true | _ => false
def Row.put : Row → List Int → Row
  | .cat _, ps => .cat ps
  | .nest n _, p :: _ => .nest n p
  | .align _, p :: _ => .align p
  | .group _, p :: _ => .group p
  | r, _ => r
/-- strings that can be compared, lengths that the machine allows -/
def Row.fit : Row → Bool
  | .text s => decide (s.length ≤ 1000) && PyData.strOk s
  | .line s => decide (s.length ≤ 1000) && PyData.strOk s
  | .cat ps => decide (ps.length ≤ 1000)
  | _ => true
theorem Row.fit.fits : ∀ {r : Row}, r.fit = true → r.fits
  | .text s, h => show s.length ≤ 1000 from of_decide_eq_true (Bool.and_eq_true_iff.mp h).1
  | .line s, h => show s.length ≤ 1000 from of_decide_eq_true (Bool.and_eq_true_iff.mp h).1
  | .cat ps, h => show ps.length ≤ 1000 from of_decide_eq_true h
  | .hard, _ => True.intro
  | .nest _ _, _ => True.intro
  | .align _, _ => True.intro
  | .group _, _ => True.intro
/-- in the store: a cat has its parts in a tuple -/
def Row.sdat : Row → Dat
  | .cat ps => .tup [.s "cat", .tup (ps.map .i)]
  | r => r.dat
def Row.key : Row → NestedKey
  | .text s => .tup [.text "text", .text s]
  | .line s => .tup [.text "line", .text s]
  | .hard => .tup [.text "hard"]
  | .cat ps => .tup [.text "cat", .tup (ps.map .num)]
  | .nest n j => .tup [.text "nest", .num n, .num j]
  | .align j => .tup [.text "align", .num j]
  | .group j => .tup [.text "group", .num j]
theorem nks_ints : ∀ ps : List Int, Dat.nks (ps.map .i) = some (ps.map .num)
  | [] => rfl
  | p :: ps => by
    show (match Dat.nk (.v (.int p)), Dat.nks (ps.map .i) with | some p, some ps => some (p :: ps) | _, _ => none) = _
    rw [nks_ints ps]
    rfl
theorem Row.sdat_nk : ∀ r : Row, r.sdat.nk = some r.key
  | .text _ => rfl
  | .line _ => rfl
  | .hard => rfl
  | .cat ps => by
    show Option.map NestedKey.tup (match Dat.nk (.v (.str "cat")), Dat.nks [.tup (ps.map .i)] with | some p, some ps => some (p :: ps) | _, _ => none) = _
    have : Dat.nks [.tup (ps.map .i)] = some [.tup (ps.map .num)] := by
      rw [Dat.nks, Dat.nk, nks_ints]
      rfl
    rw [this]
    rfl
  | .nest _ _ => rfl
  | .align _ => rfl
  | .group _ => rfl
theorem nums_inj : ∀ {ps qs : List Int}, ps.map NestedKey.num = qs.map NestedKey.num → ps = qs
  | [], [], _ => rfl
  | [], _ :: _, h => by simp at h
  | _ :: _, [], h => by simp at h
  | p :: ps, q :: qs, h => by
    rw [List.map_cons, List.map_cons] at h
    injection h with h1 h2
    injection h1 with h1
    rw [h1, nums_inj h2]
theorem words : ("text" : Str) ≠ "line" ∧ ("text" : Str) ≠ "hard" ∧ ("text" : Str) ≠ "cat" ∧ ("text" : Str) ≠ "nest" ∧ ("text" : Str) ≠ "align" ∧ ("text" : Str) ≠ "group" ∧ ("line" : Str) ≠ "hard" ∧ ("line" : Str) ≠ "cat" ∧ ("line" : Str) ≠ "nest" ∧ ("line" : Str) ≠ "align" ∧ ("line" : Str) ≠ "group"
    ∧ ("hard" : Str) ≠ "cat" ∧ ("hard" : Str) ≠ "nest" ∧ ("hard" : Str) ≠ "align" ∧ ("hard" : Str) ≠ "group" ∧ ("cat" : Str) ≠ "nest" ∧ ("cat" : Str) ≠ "align" ∧ ("cat" : Str) ≠ "group" ∧ ("nest" : Str) ≠ "align" ∧ ("nest" : Str) ≠ "group" ∧ ("align" : Str) ≠ "group" := by decide +kernel
theorem Row.key_inj {r q : Row} (h : r.key = q.key) : r = q := by
  obtain ⟨h1, h2, h3, h4, h5, h6, h7, h8, h9, h10, h11, h12, h13, h14, h15, h16, h17, h18, h19, h20, h21⟩ := words
  cases r <;> cases q <;> simp only [Row.key, NestedKey.tup.injEq, List.cons.injEq, NestedKey.text.injEq, NestedKey.num.injEq, and_true, true_and, reduceCtorEq, and_false, false_and, Row.text.injEq, Row.line.injEq, Row.nest.injEq, Row.align.injEq, Row.group.injEq, Row.cat.injEq] at h ⊢ <;> first | exact h | exact nums_inj h | (first | exact absurd h.1 (by assumption) | exact absurd h.1.symm (by assumption) | exact absurd h (by assumption) | exact absurd h.symm (by assumption))
theorem depths_nums : ∀ ps : List Int, NestedKey.depthAll (ps.map .num) ≤ 1
  | [] => by decide
  | p :: ps => by
    have := depths_nums ps
    simp only [List.map_cons, NestedKey.depthAll, NestedKey.depth]
    omega
theorem Row.key_depth (r : Row) : r.key.depth ≤ 8 := by
  cases r <;> simp only [Row.key, NestedKey.depth, NestedKey.depthAll] <;> first | omega | skip
  rename_i ps
  have := depths_nums ps
  omega
/-- as data that == reads -/
def Row.py : Row → PyData
  | .text s => .tuple [.str "text", .str s]
  | .line s => .tuple [.str "line", .str s]
  | .hard => .tuple [.str "hard"]
  | .cat ps => .tuple [.str "cat", .list (ps.map .int)]
  | .nest n j => .tuple [.str "nest", .int n, .int j]
  | .align j => .tuple [.str "align", .int j]
  | .group j => .tuple [.str "group", .int j]
def Row.spy : Row → PyData
  | .cat ps => .tuple [.str "cat", .tuple (ps.map .int)]
  | r => r.py
theorem pys_ints : ∀ ps : List Int, Dat.pys (ps.map .i) = some (ps.map .int)
  | [] => rfl
  | p :: ps => by
    show (match Dat.py (.v (.int p)), Dat.pys (ps.map .i) with | some p, some ps => some (p :: ps) | _, _ => none) = _
    rw [pys_ints ps]
    rfl
theorem Row.dat_py : ∀ r : Row, r.dat.py = some r.py
  | .text _ => rfl
  | .line _ => rfl
  | .hard => rfl
  | .cat ps => by
    have : Dat.pys [.lst (ps.map .i)] = some [.list (ps.map .int)] := by
      rw [Dat.pys, Dat.py, pys_ints]
      rfl
    show Option.map PyData.tuple (match Dat.py (.v (.str "cat")), Dat.pys [.lst (ps.map .i)] with | some p, some ps => some (p :: ps) | _, _ => none) = _
    rw [this]
    rfl
  | .nest _ _ => rfl
  | .align _ => rfl
  | .group _ => rfl
theorem Row.sdat_py : ∀ r : Row, r.sdat.py = some r.spy
  | .text _ => rfl
  | .line _ => rfl
  | .hard => rfl
  | .cat ps => by
    have : Dat.pys [.tup (ps.map .i)] = some [.tuple (ps.map .int)] := by
      rw [Dat.pys, Dat.py, pys_ints]
      rfl
    show Option.map PyData.tuple (match Dat.py (.v (.str "cat")), Dat.pys [.tup (ps.map .i)] with | some p, some ps => some (p :: ps) | _, _ => none) = _
    rw [this]
    rfl
  | .nest _ _ => rfl
  | .align _ => rfl
  | .group _ => rfl
theorem pys_rows : ∀ rs : List Row, Dat.pys (rs.map Row.dat) = some (rs.map Row.py)
  | [] => rfl
  | r :: rs => by
    rw [List.map_cons, Dat.pys, r.dat_py, pys_rows rs]
    rfl
theorem eqvAll_ints : ∀ ps qs : List Int, PyData.eqvAll (ps.map .int) (qs.map .int) = decide (ps = qs)
  | [], [] => rfl
  | [], _ :: _ => rfl
  | _ :: _, [] => rfl
  | p :: ps, q :: qs => by
    rw [List.map_cons, List.map_cons, PyData.eqvAll, eqvAll_ints ps qs, PyData.eqv]
    rw [Bool.eq_iff_iff]
    simp
theorem eqv_strs (a b : Str) : PyData.eqv (.str a) (.str b) = decide (a = b) := by
  rw [PyData.eqv]
  exact Bool.eq_iff_iff.mpr (by simp)
theorem eqv_ints (a b : Int) : PyData.eqv (.int a) (.int b) = decide (a = b) := by
  rw [PyData.eqv]
  exact Bool.eq_iff_iff.mpr (by simp)
theorem Row.eqv_py (r q : Row) : PyData.eqv r.py q.py = decide (r = q) := by
  obtain ⟨h1, h2, h3, h4, h5, h6, h7, h8, h9, h10, h11, h12, h13, h14, h15, h16, h17, h18, h19, h20, h21⟩ := words
  cases r <;> cases q <;> simp [Row.py, PyData.eqv, PyData.eqvAll, eqvAll_ints, eqv_strs, eqv_ints, *, Ne.symm] <;> first | (intro z; exact absurd z.symm (by assumption)) | (rw [Bool.eq_iff_iff]; simp; done) | skip
theorem Row.eqv_spy (r q : Row) : PyData.eqv r.spy q.spy = decide (r = q) := by
  obtain ⟨h1, h2, h3, h4, h5, h6, h7, h8, h9, h10, h11, h12, h13, h14, h15, h16, h17, h18, h19, h20, h21⟩ := words
  cases r <;> cases q <;> simp [Row.spy, Row.py, PyData.eqv, PyData.eqvAll, eqvAll_ints, eqv_strs, eqv_ints, *, Ne.symm] <;> first | (intro z; exact absurd z.symm (by assumption)) | (rw [Bool.eq_iff_iff]; simp; done) | skip
theorem eqvAll_rows : ∀ rs qs : List Row, PyData.eqvAll (rs.map Row.py) (qs.map Row.py) = decide (rs = qs)
  | [], [] => rfl
  | [], _ :: _ => rfl
  | _ :: _, [] => rfl
  | r :: rs, q :: qs => by
    rw [List.map_cons, List.map_cons, PyData.eqvAll, eqvAll_rows rs qs, r.eqv_py]
    rw [Bool.eq_iff_iff]
    simp
theorem lay_ints : ∀ ps : List Int, PyData.canLayAll0 (ps.map .int) = true
  | [] => rfl
  | p :: ps => by
    rw [List.map_cons, PyData.canLayAll0, lay_ints ps]
    rfl
theorem deep_ints : ∀ ps : List Int, PyData.depthAll (ps.map .int) ≤ 1
  | [] => by decide
  | p :: ps => by
    have := deep_ints ps
    simp only [List.map_cons, PyData.depthAll, PyData.depth]
    omega
theorem strOks : PyData.strOk "text" = true ∧ PyData.strOk "line" = true ∧ PyData.strOk "hard" = true ∧ PyData.strOk "cat" = true ∧ PyData.strOk "nest" = true ∧ PyData.strOk "align" = true ∧ PyData.strOk "group" = true := by decide +kernel
theorem Row.lay_py {r : Row} (h : r.fit = true) : PyData.canLay0 r.py = true ∧ PyData.depth r.py ≤ 4 := by
  obtain ⟨h1, h2, h3, h4, h5, h6, h7⟩ := strOks
  cases r with
  | text s => exact ⟨by simp [Row.py, PyData.canLay0, PyData.canLayAll0, h1, (Bool.and_eq_true_iff.mp h).2], by simp [Row.py, PyData.depth, PyData.depthAll]⟩
  | line s => exact ⟨by simp [Row.py, PyData.canLay0, PyData.canLayAll0, h2, (Bool.and_eq_true_iff.mp h).2], by simp [Row.py, PyData.depth, PyData.depthAll]⟩
  | hard => exact ⟨by simp [Row.py, PyData.canLay0, PyData.canLayAll0, h3], by simp [Row.py, PyData.depth, PyData.depthAll]⟩
  | cat ps =>
    have := deep_ints ps
    exact ⟨by simp [Row.py, PyData.canLay0, PyData.canLayAll0, h4, lay_ints], by simp [Row.py, PyData.depth, PyData.depthAll]; omega⟩
  | nest n j => exact ⟨by simp [Row.py, PyData.canLay0, PyData.canLayAll0, h5], by simp [Row.py, PyData.depth, PyData.depthAll]⟩
  | align j => exact ⟨by simp [Row.py, PyData.canLay0, PyData.canLayAll0, h6], by simp [Row.py, PyData.depth, PyData.depthAll]⟩
  | group j => exact ⟨by simp [Row.py, PyData.canLay0, PyData.canLayAll0, h7], by simp [Row.py, PyData.depth, PyData.depthAll]⟩
theorem Row.lay_spy {r : Row} (h : r.fit = true) : PyData.canLay0 r.spy = true ∧ PyData.depth r.spy ≤ 4 := by
  cases r with
  | cat ps =>
    have := deep_ints ps
    exact ⟨by simp [Row.spy, PyData.canLay0, PyData.canLayAll0, strOks.2.2.2.1, lay_ints], by simp [Row.spy, PyData.depth, PyData.depthAll]; omega⟩
  | _ => exact Row.lay_py h
theorem lay_rows : ∀ {rs : List Row}, rs.all Row.fit = true → PyData.canLayAll0 (rs.map Row.py) = true ∧ PyData.depthAll (rs.map Row.py) ≤ 4
  | [], _ => ⟨rfl, by decide⟩
  | r :: rs, h => by
    rw [List.all_cons, Bool.and_eq_true] at h
    obtain ⟨a, b⟩ := Row.lay_py h.1
    obtain ⟨c, d⟩ := lay_rows h.2
    simp only [List.map_cons, PyData.canLayAll0, PyData.depthAll, a, c]
    exact ⟨rfl, by omega⟩
theorem shaped_rows {rs : List Row} (h : rs.all Row.fit = true) : SeqAt.shaped (.list (rs.map Row.py)) = true := by
  obtain ⟨a, b⟩ := lay_rows h
  unfold SeqAt.shaped
  rw [Bool.and_eq_true]
  exact ⟨by rw [PyData.canLay0]; exact a, decide_eq_true (by rw [PyData.depth]; omega)⟩
theorem shaped_spy {r : Row} (h : r.fit = true) : SeqAt.shaped r.spy = true := by
  obtain ⟨a, b⟩ := Row.lay_spy h
  unfold SeqAt.shaped
  rw [Bool.and_eq_true]
  exact ⟨a, decide_eq_true (by omega)⟩
end FL

namespace FL
open PySem PySem.Spec PyProof.Rows L2

/-! ### what the rewriting computes, plainly -/
structure Sto where
  rows : List Row
  bare : List Bool
  hard : List Bool
  direct : List Bool
def Sto.new : Sto := ⟨[], [], [], []⟩
def posR (r : Row) : Int → List Row → Option Int
  | _, [] => none
  | n, q :: qs => if q = r then some n else posR r (n + 1) qs
def gets (bs : List Bool) : List Int → Option (List Bool)
  | [] => some []
  | p :: ps => match L2.atI bs p, gets bs ps with
    | some b, some t => some (b :: t)
    | _, _ => none
def Sto.put (S : Sto) (r : Row) : Option (Sto × Int) := match posR r 0 S.rows with
  | some n => some (S, n)
  | none => match gets S.bare r.parts, gets S.hard r.parts, gets S.direct r.parts with
    | some bs, some hs, some ds => if S.rows.length < 1000 then some (⟨S.rows ++ [r], S.bare ++ [!r.isLine && bs.all id], S.hard ++ [r.isHard || hs.any id], S.direct ++ [r.isLine || (!r.isGroup && ds.any id)]⟩, S.rows.length) else none
    | _, _, _ => none
def catParts (S : Sto) (pl : List Int) : List Int → Option (List Int)
  | [] => some []
  | p :: ps => match L2.atI pl p with
    | some j => match L2.atI S.rows j, catParts S pl ps with
      | some q, some t => some (if q = .text "" then t else j :: t)
      | _, _ => none
    | none => none
def Sto.turned (S : Sto) (pl : List Int) : Row → Option (Sto × Int)
  | .cat ps => match catParts S pl ps with
    | some [] => S.put (.text "")
    | some [j] => some (S, j)
    | some (i :: j :: js) => S.put (.cat (i :: j :: js))
    | none => none
  | .nest n j => match L2.atI pl j with
    | some p => match L2.atI S.bare p, L2.atI S.rows p with
      | some b, some q => if b || decide (n = 0) then some (S, p) else match q with
        | .align _ => some (S, p)
        | .nest m k => if n + m ≤ 8 then S.put (.nest (n + m) k) else S.put (.nest n p)
        | _ => S.put (.nest n p)
      | _, _ => none
    | none => none
  | .align j => match L2.atI pl j with
    | some p => match L2.atI S.bare p, L2.atI S.rows p with
      | some b, some q => if b then some (S, p) else match q with
        | .align _ => some (S, p)
        | _ => S.put (.align p)
      | _, _ => none
    | none => none
  | .group j => match L2.atI pl j with
    | some p => match L2.atI S.bare p, L2.atI S.rows p with
      | some b, some q => if b then some (S, p) else match L2.atI S.hard p, L2.atI S.direct p with
        | some h, some d => if h || !d then some (S, p) else S.put (.group p)
        | _, _ => none
      | _, _ => none
    | none => none
  | r => S.put r
def turnAll : Sto → List Int → List Row → Option (Sto × List Int)
  | S, pl, [] => some (S, pl)
  | S, pl, r :: rs => match S.turned pl r with
    | some (S', p) => turnAll S' (pl ++ [p]) rs
    | none => none
def lookP (a : Int) : List (Int × Int) → Option Int
  | [] => none
  | q :: qs => if q.1 = a then some q.2 else lookP a qs
def mapP (pl : List (Int × Int)) : List Int → Option (List Int)
  | [] => some []
  | p :: ps => match lookP p pl, mapP pl ps with
    | some b, some t => some (b :: t)
    | _, _ => none
def docLoop (rows : List Row) : Nat → List (Int × Int) → List Row → List (Int × Bool) → Option (List Row)
  | 0, _, _, _ => none
  | _ + 1, _, fo, [] => some fo
  | n + 1, pl, fo, (a, op) :: st => match L2.atI rows a with
    | none => none
    | some r => match lookP a pl with
      | some _ => docLoop rows n pl fo st
      | none => match op with
        | true => match mapP (pl ++ [(a, (fo.length : Int))]) r.parts with
          | some inner => docLoop rows n (pl ++ [(a, (fo.length : Int))]) (fo ++ [r.put inner]) st
          | none => none
        | false => docLoop rows n pl fo (r.parts.map (·, false) ++ (a, true) :: st)
def okRows : Nat → List Row → Bool
  | _, [] => true
  | n, r :: rs => okRow n r && okRows (n + 1) rs
def docOk (rs : List Row) : Bool := decide (1 ≤ rs.length) && decide (rs.length ≤ 200) && okRows 0 rs
def simp? (rs : List Row) : Option (List Row) := match turnAll .new [] rs with
  | some (S, pl) => match L2.atI pl (-1) with
    | some l => match docLoop S.rows 3000 [] [] [(l, false)] with
      | some out => if docOk out then some out else none
      | none => none
    | none => none
  | none => none
abbrev tx (s : Str) : Row := .text s
def known : List (List Row × List Row) :=
  let a := Row.text "a"
  let b := Row.text "b"
  let e := Row.text ""
  let ed := Row.line ""
  let h := Row.hard
  [([a, b], [b]), ([e, ed, .cat [0, 1, 0]], [ed]), ([e, .cat [0, 0], .cat []], [e]),
   ([a, ed, .cat [0, 1], .nest 0 2], [a, ed, .cat [0, 1]]), ([a, .nest 3 0], [a]),
   ([a, .align 0, .group 1], [a]), ([ed, .group 0, .group 1], [ed, .group 0]),
   ([h, .group 0], [h]), ([a, h, ed, .cat [0, 1, 2], .group 3], [a, h, ed, .cat [0, 1, 2]]),
   ([ed, .align 0, .nest 4 1], [ed, .align 0]), ([ed, .align 0, .align 1], [ed, .align 0]),
   ([ed, .nest 4 0, .align 1], [ed, .nest 4 0, .align 1]),
   ([ed, .nest 4 0, .nest 4 1], [ed, .nest 8 0]),
   ([ed, .nest 4 0, .nest 5 1], [ed, .nest 4 0, .nest 5 1]),
   ([ed, .nest 1 0, .nest 2 1, .nest 3 2], [ed, .nest 6 0]),
   ([a, ed, .cat [0, 1], .group 2, .cat [3, 0, 3], .group 4], [a, ed, .cat [0, 1], .group 2, .cat [3, 0, 3]]),
   ([a, ed, .group 1, .cat [2, 1], .group 3], [ed, .group 0, .cat [1, 0], .group 2]),
   ([b, a, ed, .cat [2, 1, 0], ed, .cat [3, 4]], [ed, a, b, .cat [0, 1, 2], .cat [3, 0]]),
   ([ed, .group 0, .nest 2 1, .group 2], [ed, .group 0, .nest 2 1]),
   ([.line " ", .text " ", .cat [1, 0, 1]], [.text " ", .line " ", .cat [0, 1, 0]])]
/-- the rows to be written, and whether they are simple -/
def knownOk (p : List Row × List Row) : Bool := docOk p.1 && (simp? p.1).isSome && decide (simp? p.1 = some p.2)
theorem known_ok : known.all knownOk = true := by decide +kernel
def longOf (r : Nat → Row) : List Row := [.line "", .align 0] ++ (List.range 198).map r
theorem long_group : docOk (longOf fun i => .group ((i : Int) + 1)) = true ∧ simp? (longOf fun i => .group ((i : Int) + 1)) = some [.line "", .align 0, .group 1] := by decide +kernel
theorem long_nest : docOk (longOf fun i => .nest 0 ((i : Int) + 1)) = true ∧ simp? (longOf fun i => .nest 0 ((i : Int) + 1)) = some [.line "", .align 0] := by decide +kernel
theorem long_align : docOk (longOf fun i => .align ((i : Int) + 1)) = true ∧ simp? (longOf fun i => .align ((i : Int) + 1)) = some [.line "", .align 0] := by decide +kernel
def deep : List Row := .line "" :: (List.range 199).map fun (i : Nat) => .nest 5 (i : Int)
theorem deep_ok : docOk deep = true ∧ simp? deep = some deep := by decide +kernel
end FL

namespace FL
open PySem PySem.Spec PyProof.Rows L2
section
variable {K : PySem.W.Frag} {w : World} {G : Gs} {δ δ' : Dts} {ω ω' ω1 ω2 ω3 W : Led} {te ta tb tc to ti tv : TE} {ta' : TA} {tt tu : TT} {d x y z : Dat} {i j : Nat} {b : Bool} {ts tz t1 t2 : TS} {O : Out}
/-! ### more rules -/
theorem st_nd (h : (ω.map (·.1)).Nodup → St K w ts δ ω O) : St K w ts δ ω O := fun F H σ D E => h E.nd F H σ D E
theorem putO_none {p : Addr} {q : Ow} : ∀ {ω : Led}, p ∉ ω.map (·.1) → putO ω p q = ω
  | [], _ => rfl
  | x :: ω, h => by
    have h1 : x.1 ≠ p := fun e => h (by simp [e])
    have h2 : p ∉ ω.map (·.1) := fun e => h (by simp only [List.map_cons, List.mem_cons]; exact .inr e)
    show (if x.1 = p then (p, q) else x) :: putO ω p q = _
    rw [if_neg h1, putO_none h2]
theorem putO_at {p : Addr} {o q : Ow} (l1 : Led) {l2 : Led} (hnd : ((l1 ++ (p, o) :: l2).map (·.1)).Nodup) : putO (l1 ++ (p, o) :: l2) p q = l1 ++ (p, q) :: l2 := by
  rw [List.map_append, List.map_cons, List.nodup_append] at hnd
  obtain ⟨h1, h2, h3⟩ := hnd
  rw [List.nodup_cons] at h2
  have e : putO (l1 ++ (p, o) :: l2) p q = putO l1 p q ++ putO ((p, o) :: l2) p q := by unfold putO; rw [List.map_append]
  rw [e, putO_head h2.1, putO_none fun m => h3 _ m _ List.mem_cons_self rfl]
theorem sub_eq {α : Type} {a b : List α} (h : a = b) : a.Sublist b := h ▸ .refl _
theorem st_append {p : Addr} {ds : List Dat} (ho : EvF K w δ ω to (.v (.ref p)) ω1) (ha : EvF K w δ ω1 te d ω2) (m1 : (p, Ow.lst ds) ∈ ω1) (mo : (p, Ow.lst ds) ∈ ω2) (hl : ds.length < sizeLine) (he : putO ω2 p (.lst (ds ++ [d])) = ω') (k : O.nx δ ω') : St K w (tDrop (tBM K "list" rAppend to (tCons te tNil))) δ ω O :=
  st_drop (evf_bm ho (eva_cons ha eva_nil) (tyO_list m1) (mf_append mo hl)) (by rw [he]; exact k)
theorem q_append {p : Addr} {ds : List Dat} (ho : EvF K w δ ω to (.v (.ref p)) ω1) (ha : EvF K w δ ω1 te d ω2) (m1 : (p, Ow.lst ds) ∈ ω1) (mo : (p, Ow.lst ds) ∈ ω2) (hl : ds.length < sizeLine) (he : putO ω2 p (.lst (ds ++ [d])) = ω') (k : St K w tz δ ω' O) : St K w (tSeq (tDrop (tBM K "list" rAppend to (tCons te tNil))) tz) δ ω O :=
  q_drop (evf_bm ho (eva_cons ha eva_nil) (tyO_list m1) (mf_append mo hl)) (by rw [he]; exact k)

theorem RF.to' {r : R2} {z z' : Dat} (h : RF K w δ ω r x y z) (e : z = z') : RF K w δ ω r x y z' := e ▸ h
/-! ### documents, by their contracts -/
def Row.dl : Row → List Dat
  | .text s => [.s "text", .s s]
  | .line s => [.s "line", .s s]
  | .hard => [.s "hard"]
  | .cat ps => [.s "cat", .lst (ps.map .i)]
  | .nest n j => [.s "nest", .i n, .i j]
  | .align j => [.s "align", .i j]
  | .group j => [.s "group", .i j]
theorem Row.dat_dl (r : Row) : r.dat = .tup r.dl := by cases r <;> rfl
theorem Row.dl_word (r : Row) : L2.atI r.dl 0 = some (.s r.word) := by cases r <;> rfl
def Row.isCat : Row → Bool
  | .cat _ => true | _ => false
theorem Row.word_cat (r : Row) : decide (r.word = "cat") = r.isCat := by
  obtain ⟨h1, h2, h3, h4, h5, h6, h7, h8, h9, h10, h11, h12, h13, h14, h15, h16, h17, h18, h19, h20, h21⟩ := words
  cases r <;> simp [Row.word, Row.isCat, *, Ne.symm] <;> (intro z; exact absurd z.symm (by assumption))
theorem ev_word {r : Row} {i : Nat} (h : δ[i]? = some (some r.dat)) : EvF K w δ ω (tOp (rAts K w) (tVar i) (tC (.int 0))) (.s r.word) ω := by
  rw [r.dat_dl] at h
  exact evf_op (evf_var h) evf_c (rf_atT r.dl_word)
theorem ev_isCat {r : Row} {i : Nat} (h : δ[i]? = some (some r.dat)) : EvF K w δ ω (tOp (rEqs K) (tOp (rAts K w) (tVar i) (tC (.int 0))) (tC (.str "cat"))) (.b r.isCat) ω :=
  (evf_op (ev_word h) evf_c (rf_eqS rfl)).to (by rw [← r.word_cat]; simp)
def t_copied_row (K : PySem.W.Frag) (w : World) (G : Gs) : TS :=
  (tRet (tIf (tTest (tOp (rEqs K) (tOp (rAts K w) (tVar 0) (tC (.int 0))) (tC (.str "cat")))) (tTup (tCons (tC (.str "cat")) (tCons (tCB (rListOf K) (tCons (tOp (rAts K w) (tVar 0) (tC (.int 1))) tNil)) tNil))) (tVar 0)))
abbrev N_copied_row : List Str := ["row"]
def sp_copied_row (K : PySem.W.Frag) (w : World) (G : Gs) : Sp := spM K w (pureC fun ds d => ∃ r : Row, ds = [r.dat] ∧ d = r.dat)
theorem pure_copied_row : ∀ vs H Q E, sp_copied_row K w G vs H Q E → t_copied_row K w G { nx := fun _ H' => Q .non H', rt := Q } (L2.start N_copied_row vs) H := pure_body fun ds d W h => by
  obtain ⟨r, rfl, rfl⟩ := h
  refine st_ret (evf_if (b := r.isCat) (evt_test (ev_isCat rfl)) (fun h => ?_) fun h => evf_var rfl) ⟨rfl, .refl _⟩
  cases r with
  | cat ps => exact evf_tup (eva_cons evf_c (eva_cons (evf_cb (eva_cons (evf_op (evf_var rfl) evf_c (rf_atT rfl)) eva_nil) cf_listL) eva_nil)) (Nat.le_of_ble_eq_true rfl)
  | _ => cases h
def t_parts_of (K : PySem.W.Frag) (w : World) (G : Gs) : TS :=
  (tSeq (tIfS (tTest (tOp (rEqs K) (tOp (rAts K w) (tVar 0) (tC (.int 0))) (tC (.str "cat"))))
  (tRet (tOp (rAts K w) (tVar 0) (tC (.int 1))))
  tNext)
  (tRet (tIf (tTest (tOp (rIns K w) (tOp (rAts K w) (tVar 0) (tC (.int 0))) (tTup (tCons (tC (.str "text")) (tCons (tC (.str "line")) (tCons (tC (.str "hard")) tNil)))))) (tLst tNil) (tLst (tCons (tOp (rAts K w) (tVar 0) (tUn rNeg (tC (.int 1)))) tNil)))))
abbrev N_parts_of : List Str := ["row"]
def sp_parts_of (K : PySem.W.Frag) (w : World) (G : Gs) : Sp := spM K w (pureC fun ds d => ∃ r : Row, ds = [r.dat] ∧ d = .lst (r.parts.map .i))
theorem pure_parts_of : ∀ vs H Q E, sp_parts_of K w G vs H Q E → t_parts_of K w G { nx := fun _ H' => Q .non H', rt := Q } (L2.start N_parts_of vs) H := pure_body fun ds d W h => by
  obtain ⟨r, rfl, rfl⟩ := h
  refine q_if (b := r.isCat) (evt_test (ev_isCat rfl)) (fun h => ?_) fun h => ?_
  · cases r with
    | cat ps => exact q_ret (st_ret (evf_op (evf_var rfl) evf_c (rf_atT rfl)) ⟨rfl, .refl _⟩)
    | _ => cases h
  · have leaf : ∀ δ ω, δ[0]? = some (some r.dat) → EvF K w δ ω (tOp (rIns K w) (tOp (rAts K w) (tVar 0) (tC (.int 0))) (tTup (tCons (tC (.str "text")) (tCons (tC (.str "line")) (tCons (tC (.str "hard")) tNil))))) (.b (inV (.str r.word) [.str "text", .str "line", .str "hard"])) ω := fun δ ω h =>
      evf_op (ev_word h) (evf_tup (eva_cons evf_c (eva_cons evf_c (eva_cons evf_c eva_nil))) (by decide)) (rf_inT (vs := [.str "text", .str "line", .str "hard"]) rfl rfl)
    refine q_next (st_ret (evf_if (evt_test (leaf _ _ rfl)) (fun h1 => ?_) fun h1 => ?_) ⟨rfl, .refl _⟩)
    · have : r.parts = [] := by
        cases r <;> first | rfl | (exact absurd h1 (by simp only [Row.word]; decide +kernel)) | cases h
      rw [this]
      exact evf_lst eva_nil (by decide)
    · cases r with
      | text s => exact absurd h1 (by simp only [Row.word]; decide +kernel)
      | line s => exact absurd h1 (by simp only [Row.word]; decide +kernel)
      | hard => exact absurd h1 (by simp only [Row.word]; decide +kernel)
      | cat ps => cases h
      | nest n j => exact evf_lst (eva_cons (evf_op (evf_var rfl) (evf_un evf_c uf_neg) (rf_atT rfl)) eva_nil) (Nat.le_of_ble_eq_true rfl)
      | align j => exact evf_lst (eva_cons (evf_op (evf_var rfl) (evf_un evf_c uf_neg) (rf_atT rfl)) eva_nil) (Nat.le_of_ble_eq_true rfl)
      | group j => exact evf_lst (eva_cons (evf_op (evf_var rfl) (evf_un evf_c uf_neg) (rf_atT rfl)) eva_nil) (Nat.le_of_ble_eq_true rfl)
/-- a document's data: its rows -/
abbrev docD (G : Gs) (rs : List Row) (l : Dat) : Dat := .ins G.Doc ["rows", "layouts"] [.lst (rs.map Row.dat), l]
theorem okC_ok {c : Nat} (h : okC c = true) : c < 0x110000 := by
  unfold okC at h
  simp at h
  omega
theorem okSigns_fit {s : Str} {m : Int} (hm : m ≤ 1000) (h : okSigns s m = true) : (decide (s.length ≤ 1000) && PyData.strOk s) = true := by
  unfold okSigns at h
  rw [Bool.and_eq_true] at h ⊢
  obtain ⟨h1, h2⟩ := h
  refine ⟨decide_eq_true (by have := of_decide_eq_true h1; omega), ?_⟩
  unfold PyData.strOk
  rw [Array.all_eq_true_iff_forall_mem]
  intro c hc
  exact decide_eq_true (okC_ok (List.all_eq_true.mp h2 c (by simpa using hc)))
theorem okRow_fit {k : Int} {r : Row} (h : okRow k r = true) : r.fit = true := by
  cases r with
  | text s => exact okSigns_fit (by decide) h
  | line s => exact okSigns_fit (by decide) h
  | cat ps =>
    have := of_decide_eq_true (Bool.and_eq_true_iff.mp h).1
    exact decide_eq_true (by omega)
  | _ => rfl
theorem okRows_get : ∀ {n : Nat} {rs : List Row}, okRows n rs = true → ∀ {i : Nat} {r : Row}, rs[i]? = some r → okRow ((n + i : Nat)) r = true
  | _, [], _, _, _, e => by simp at e
  | n, q :: rs, h, 0, r, e => by
    simp at e
    subst e
    exact (Bool.and_eq_true_iff.mp h).1
  | n, q :: rs, h, i + 1, r, e => by
    have := okRows_get (Bool.and_eq_true_iff.mp h).2 (i := i) (r := r) (by simpa using e)
    rw [show n + (i + 1) = n + 1 + i by omega]
    exact this
theorem okRows_fit {n : Nat} {rs : List Row} (h : okRows n rs = true) : rs.all Row.fit = true := by
  rw [List.all_eq_true]
  intro r hr
  obtain ⟨i, e⟩ := List.getElem?_of_mem hr
  exact okRow_fit (okRows_get h e)
theorem docOk_len {rs : List Row} (h : docOk rs = true) : 1 ≤ rs.length ∧ rs.length ≤ 200 ∧ okRows 0 rs = true := by
  unfold docOk at h
  simp only [Bool.and_eq_true, decide_eq_true_eq] at h
  exact ⟨h.1.1, h.1.2, h.2⟩
def t_Doc_init (K : PySem.W.Frag) (w : World) (G : Gs) : TS :=
  (tSeq (tIfS (tOr (tNot (tB (tCB (rIsi K) (tCons (tVar 1) (tCons (tC (.ty "list")) tNil))))) (tNot (tTest (tChain rLes rLes (tC (.int 1)) (tCB (rLens K) (tCons (tVar 1) tNil)) (tC (.int 200))))))
  tNever
  tNext)
  (tSeq (tFor (iEnum K (tCons (tVar 1) tNil)) (gTup K 2 (gCons (gName 2) (gCons (gName 3) gNil)))
  (tIfS (tNot (tB (tCall (sp_is_row K w G) [] E0 (tCons (tVar 3) (tCons (tVar 2) tNil)))))
  tNever
  tNext))
  (tSeq (sFld K (tVar 0) (tLc (iList K (tVar 1)) (gName 3) tYes (tCall (sp_copied_row K w G) [] E0 (tCons (tVar 3) tNil)) [3]) "rows")
  (sFld K (tVar 0) tDNewK "layouts"))))
abbrev N_Doc_init : List Str := ["self", "rows", "number", "row"]
def sp_Doc_init (K : PySem.W.Frag) (w : World) (G : Gs) : Sp := spM K w fun ds ω R => ∃ p rs, ds = [.v (.ref p), .lst (rs.map Row.dat)] ∧ docOk rs = true ∧ ω = [(p, .ins G.Doc [])] ∧ R = fun d ω' => d = .v .non ∧ ∃ q, ω' = [(q, .dk []), (p, .ins G.Doc [("rows", .lst (rs.map Row.dat)), ("layouts", .v (.ref q))])]
theorem pure_Doc_init (T : Tx K w G) : ∀ vs H Q E, sp_Doc_init K w G vs H Q E → t_Doc_init K w G { nx := fun _ H' => Q .non H', rt := Q } (L2.start N_Doc_init vs) H := spM_body fun ds ω W R hC => by
  obtain ⟨p, rs, rfl, hd, rfl, rfl⟩ := hC
  obtain ⟨d1, d2, d3⟩ := docOk_len hd
  refine st_nd fun hnd => ?_
  refine q_no (ω1 := [(p, Ow.ins G.Doc [])] ++ W) ?_ (q_next ?_)
  · refine evt_or (a := false) (c := false) (evt_not (evt_B (evf_cb (eva_cons (evf_var rfl) (eva_cons evf_c eva_nil)) (cf_isi (t := "list") (u := "list") (b := true) rfl (by decide +kernel))))) (fun _ => ?_) fun z => nomatch z
    refine (evt_not (evt_test (evf_chain (a := true) (c := true) evf_c (evf_cb (eva_cons (evf_var rfl) eva_nil) cf_lenL) (rf_leI.to' ?_) (fun _ => evf_c) fun _ => rf_leI.to' ?_))).to rfl
    · rw [List.length_map]
      exact congrArg Dat.b (decide_eq_true (by omega))
    · rw [List.length_map]
      exact congrArg Dat.b (decide_eq_true (by omega))
  refine st_seq (N := fun δ' ω' => (∃ a b, δ' = [some (.v (.ref p)), some (.lst (rs.map Row.dat)), a, b]) ∧ ω' = [(p, .ins G.Doc [])] ++ W) (st_for (us := [2, 3]) (evi_enum (eva_cons (evf_var rfl) eva_nil)) (fun _ δ' ω' => (∃ a b, δ' = [some (.v (.ref p)), some (.lst (rs.map Row.dat)), a, b]) ∧ ω' = [(p, .ins G.Doc [])] ++ W) ⟨⟨none, none, rfl⟩, rfl⟩ (fun i d δ' ω' e hI => ?_) fun δ' ω' h => h) fun δ' ω' h => ?_
  · obtain ⟨⟨a, b, rfl⟩, rfl⟩ := hI
    have hi : i < (rs.map Row.dat).length := by
      have := (List.getElem?_eq_some_iff.mp e).1
      rwa [enuD_length] at this
    rw [List.length_map] at hi
    have e2 := enuD_get (n := 0) (i := i) (ds := rs.map Row.dat) (d := (rs[i]).dat) (by rw [List.getElem?_map, List.getElem?_eq_getElem hi]; rfl)
    rw [e2] at e
    cases e
    refine ⟨_, tg_tup (tgs_cons tg_name (tgs_cons tg_name tgs_nil)) rfl, ?_⟩
    refine st_no ?_ (st_next ⟨⟨_, _, rfl⟩, rfl⟩)
    refine (evt_not (evt_B (evf_call (P := fun ds d => ∃ (r : Row) (k : Int), ds = [r.dat, .i k] ∧ r.fits ∧ d = .b (okRow k r)) (eva_cons (evf_var rfl) (eva_cons (evf_var rfl) eva_nil)) ⟨rs[i], _, rfl, ?_, rfl⟩))).to ?_
    · exact Row.fit.fits (List.all_eq_true.mp (okRows_fit d3) _ (List.getElem_mem hi))
    · rw [okRows_get d3 (List.getElem?_eq_getElem hi)]
      rfl
  · obtain ⟨⟨a, b, rfl⟩, rfl⟩ := h
    have hm := fun ω1 => evf_map (K := K) (w := w) (ω := ω1) (δ := [some (.v (.ref p)), some (.lst (rs.map Row.dat)), a, b]) (j := 3) (vs := [3]) (te := tCall (sp_copied_row K w G) [] E0 (tCons (tVar 3) tNil)) (fun d => d) (evi_list (te := tVar 1) (evf_var rfl)) (by rw [List.length_map]; exact Nat.lt_of_le_of_lt d2 (by decide)) (by simp) fun d hd q o => by
      obtain ⟨r, _, rfl⟩ := List.mem_map.mp hd
      exact evf_call (P := fun ds d => ∃ r : Row, ds = [r.dat] ∧ d = r.dat) (eva_cons (evf_var rfl) eva_nil) ⟨r, rfl, rfl⟩
    simp only [List.map_id'] at hm
    refine q_fld (p := p) (C := G.Doc) (fs := []) (hm _) (evf_var rfl) (by simp) T.kDoc T.aRows (by decide) ?_
    rw [show putO ([(p, Ow.ins G.Doc [])] ++ W) p (.ins G.Doc (putA "rows" (.lst (rs.map Row.dat)) [])) = (p, Ow.ins G.Doc [("rows", .lst (rs.map Row.dat))]) :: W from putO_at [] (by simpa using hnd)]
    refine st_fldN (p := p) (C := G.Doc) (fs := [("rows", .lst (rs.map Row.dat))]) evn_dk (fun q => evf_var rfl) (by simp) T.kDoc T.aLayouts (Nat.lt_of_succ_le (Nat.le_of_ble_eq_true rfl)) fun q hq => ?_
    refine ⟨_, ⟨rfl, q, rfl⟩, ?_⟩
    exact sub_eq (putO_at (p := p) [(q, Ow.dk [])] hq).symm
/-- Doc(rows) -/
theorem evf_Doc {rs : List Row} (T : Tx K w G) (ha : EvA K w δ ω ta' [.lst (rs.map Row.dat)] ω1) (hd : docOk rs = true) : EvF K w δ ω (tMake G.Doc (sp_Doc_init K w G) [] E0 ta') (docD G rs .any) ω1 := fun F H σ E Q q => by
  refine evm_make (C := _) (ω2 := []) (W := ω1) (R := fun p d ω' => d = .v .non ∧ ∃ q, ω' = [(q, .dk []), (p, .ins G.Doc [("rows", .lst (rs.map Row.dat)), ("layouts", .v (.ref q))])]) ha (fun p => ⟨p, rs, rfl, hd, rfl, rfl⟩) (fun p d ω' h => h.1) (.refl _) F H σ E Q fun d ω' x F' H' h g E' m => ?_
  obtain ⟨p, ω4, ⟨_, q', rfl⟩, rfl, rfl⟩ := h
  have hn := E'.nd
  obtain ⟨F2, g2, A2, h2⟩ := E'.toKnA.freezeI (ω' := ω1) (p := p) (List.mem_cons_of_mem _ List.mem_cons_self) (((List.sublist_cons_self _ _)).trans (List.sublist_cons_self _ _)) (by
    simp only [List.cons_append, List.nil_append, List.map_cons, List.nodup_cons] at hn
    exact hn.2.1)
  rw [m.eqv]
  obtain ⟨a, dx, fs, e, h4, h5, h6⟩ := id h2.atI
  refine q _ F2 H' (g.trans g2) (E'.after g2 A2) (by
    rw [e]
    refine .ins h4 h5 ?_
    cases fs with
    | nil => simp at h5
    | cons f1 fs =>
      cases fs with
      | nil => simp at h5
      | cons f2 fs =>
        cases fs with
        | cons f3 fs => simp at h5
        | nil =>
          cases h6 with
          | cons k1 k2 => exact .cons k1 (.cons .any .nil))
def t_Doc_eq (K : PySem.W.Frag) (w : World) (G : Gs) : TS :=
  (tRet (tAndV (tCB (rIsi K) (tCons (tVar 1) (tCons (tC (.ref G.Doc)) tNil))) (tOp (rEqs K) (tFld K (tVar 0) "rows") (tFld K (tVar 1) "rows"))))
abbrev N_Doc_eq : List Str := ["self", "other"]
def sp_Doc_eq (K : PySem.W.Frag) (w : World) (G : Gs) : Sp := spM K w (pureC fun ds d => ∃ rs qs x y, ds = [docD G rs x, docD G qs y] ∧ rs.all Row.fit = true ∧ qs.all Row.fit = true ∧ d = .b (decide (rs = qs)))
theorem pure_Doc_eq (T : Tx K w G) : ∀ vs H Q E, sp_Doc_eq K w G vs H Q E → t_Doc_eq K w G { nx := fun _ H' => Q .non H', rt := Q } (L2.start N_Doc_eq vs) H := pure_body fun ds d W h => by
  obtain ⟨rs, qs, x, y, rfl, h1, h2, rfl⟩ := h
  have py : ∀ rs : List Row, Dat.py (.lst (rs.map Row.dat)) = some (.list (rs.map Row.py)) := fun rs => by
    rw [Dat.py, pys_rows]
    rfl
  refine st_ret ((evf_andV (a := true) (evf_cb (eva_cons (evf_var rfl) (eva_cons evf_c eva_nil)) (cf_isiC T.isDoc)) (fun _ => evf_op (evf_fldI (evf_var rfl) T.kDoc T.aRows rfl) (evf_fldI (evf_var rfl) T.kDoc T.aRows rfl) (rf_eqD (py rs) (py qs) (shaped_rows h1) (shaped_rows h2))) fun z => nomatch z)) ⟨?_, .refl _⟩
  rw [PyData.eqv, eqvAll_rows]
  rfl
def t_Doc_row_list (K : PySem.W.Frag) (w : World) (G : Gs) : TS :=
  (tRet (tLc (iList K (tFld K (tVar 0) "rows")) (gName 1) tYes (tCall (sp_copied_row K w G) [] E0 (tCons (tVar 1) tNil)) [1]))
abbrev N_Doc_row_list : List Str := ["self", "row"]
def sp_Doc_row_list (K : PySem.W.Frag) (w : World) (G : Gs) : Sp := spM K w (pureC fun ds d => ∃ rs x, ds = [docD G rs x] ∧ rs.length ≤ 1000 ∧ d = .lst (rs.map Row.dat))
theorem pure_Doc_row_list (T : Tx K w G) : ∀ vs H Q E, sp_Doc_row_list K w G vs H Q E → t_Doc_row_list K w G { nx := fun _ H' => Q .non H', rt := Q } (L2.start N_Doc_row_list vs) H := pure_body fun ds d W h => by
  obtain ⟨rs, x, rfl, hl, rfl⟩ := h
  have hm := evf_map (K := K) (w := w) (ω := W) (ω1 := W) (δ := initD N_Doc_row_list [docD G rs x]) (j := 1) (vs := [1]) (te := tCall (sp_copied_row K w G) [] E0 (tCons (tVar 1) tNil)) (fun d => d) (evi_list (te := tFld K (tVar 0) "rows") (evf_fldI (evf_var rfl) T.kDoc T.aRows rfl)) (by rw [List.length_map]; exact Nat.lt_of_le_of_lt hl (by decide)) (by simp) fun d hd q o => by
    obtain ⟨r, _, rfl⟩ := List.mem_map.mp hd
    exact evf_call (P := fun ds d => ∃ r : Row, ds = [r.dat] ∧ d = r.dat) (eva_cons (evf_var rfl) eva_nil) ⟨r, rfl, rfl⟩
  simp only [List.map_id'] at hm
  exact st_ret hm ⟨rfl, .refl _⟩
def t_check_doc (K : PySem.W.Frag) (w : World) (G : Gs) : TS :=
  (tIfS (tNot (tB (tCB (rIsi K) (tCons (tVar 0) (tCons (tC (.ref G.Doc)) tNil)))))
  tNever
  tNext)
abbrev N_check_doc : List Str := ["doc"]
def sp_check_doc (K : PySem.W.Frag) (w : World) (G : Gs) : Sp := spM K w (pureC fun ds d => ∃ rs x, ds = [docD G rs x] ∧ d = .v .non)
theorem pure_check_doc (T : Tx K w G) : ∀ vs H Q E, sp_check_doc K w G vs H Q E → t_check_doc K w G { nx := fun _ H' => Q .non H', rt := Q } (L2.start N_check_doc vs) H := pure_body fun ds d W h => by
  obtain ⟨rs, x, rfl, rfl⟩ := h
  exact st_no (evt_not (evt_B (evf_cb (eva_cons (evf_var rfl) (eva_cons evf_c eva_nil)) (cf_isiC T.isDoc)))) (st_next ⟨rfl, .refl _⟩)
end
end FL

namespace FL
open PySem PySem.Spec PyProof.Rows L2
section
variable {K : PySem.W.Frag} {w : World} {G : Gs} {δ δ' : Dts} {ω ω' ω1 ω2 ω3 W : Led} {te ta tb tc to ti tv : TE} {ta' : TA} {tt tu : TT} {d x y z : Dat} {i j : Nat} {b : Bool} {ts tz t1 t2 : TS} {O : Out}

def Row.sl : Row → List Dat
  | .cat ps => [.s "cat", .tup (ps.map .i)]
  | r => r.dl
theorem Row.sdat_sl (r : Row) : r.sdat = .tup r.sl := by cases r <;> rfl
theorem Row.sl_word (r : Row) : L2.atI r.sl 0 = some (.s r.word) := by cases r <;> rfl
theorem evs_word {r : Row} (h : EvF K w δ ω te r.sdat ω1) : EvF K w δ ω (tOp (rAts K w) te (tC (.int 0))) (.s r.word) ω1 := by
  rw [r.sdat_sl] at h
  exact evf_op h evf_c (rf_atT r.sl_word)
theorem evd_word {r : Row} (h : EvF K w δ ω te r.dat ω1) : EvF K w δ ω (tOp (rAts K w) te (tC (.int 0))) (.s r.word) ω1 := by
  rw [r.dat_dl] at h
  exact evf_op h evf_c (rf_atT r.dl_word)
theorem ev_eqw {wd z : Str} {b : Bool} (h : EvF K w δ ω te (.s wd) ω1) (e : decide (wd = z) = b) : EvF K w δ ω (tOp (rEqs K) te (tC (.str z))) (.b b) ω1 :=
  (evf_op h evf_c (rf_eqS rfl)).to (by rw [← e]; simp)
theorem ev_new {wd z : Str} {b : Bool} (h : EvF K w δ ω te (.s wd) ω1) (e : decide (wd = z) = b) : EvF K w δ ω (tOp (rNes K) te (tC (.str z))) (.b (!b)) ω1 :=
  (evf_op h evf_c (rf_neS rfl)).to (by rw [← e]; simp)
theorem Row.word_hard (r : Row) : decide (r.word = "hard") = r.isHard := by
  obtain ⟨h1, h2, h3, h4, h5, h6, h7, h8, h9, h10, h11, h12, h13, h14, h15, h16, h17, h18, h19, h20, h21⟩ := words
  cases r <;> simp [Row.word, Row.isHard, *, Ne.symm] <;> (intro z; exact absurd z.symm (by assumption))
theorem Row.word_group (r : Row) : decide (r.word = "group") = r.isGroup := by
  obtain ⟨h1, h2, h3, h4, h5, h6, h7, h8, h9, h10, h11, h12, h13, h14, h15, h16, h17, h18, h19, h20, h21⟩ := words
  cases r <;> simp [Row.word, Row.isGroup, *, Ne.symm] <;> (intro z; exact absurd z.symm (by assumption))
theorem Row.word_line (r : Row) : inV (.str r.word) [.str "line", .str "hard"] = r.isLine := by
  cases r <;> simp only [Row.word, Row.isLine] <;> decide +kernel
def Row.isLeaf : Row → Bool
  | .text _ => true | .line _ => true | .hard => true | _ => false
theorem Row.word_leaf (r : Row) : inV (.str r.word) [.str "text", .str "line", .str "hard"] = r.isLeaf := by
  cases r <;> simp only [Row.word, Row.isLeaf] <;> decide +kernel

/-! ### the store -/
def numD : Int → List Row → List (NestedKey × Dat)
  | _, [] => []
  | n, r :: rs => (r.key, .i n) :: numD (n + 1) rs
theorem numD_length : ∀ (n : Int) (rs : List Row), (numD n rs).length = rs.length
  | _, [] => rfl
  | n, r :: rs => by rw [numD, List.length_cons, List.length_cons, numD_length]
theorem numD_look (r : Row) : ∀ (n : Int) (rs : List Row), lookD (numD n rs) r.key = (posR r n rs).map .i
  | _, [] => rfl
  | n, q :: rs => by
    unfold lookD
    rw [numD, List.find?_cons, posR]
    by_cases h : q = r
    · subst h
      rw [decide_eq_true rfl, if_pos rfl]
      rfl
    · rw [decide_eq_false (fun e => h (Row.key_inj e)), if_neg h]
      exact numD_look r (n + 1) rs
theorem numD_any (r : Row) : ∀ (n : Int) (rs : List Row), posR r n rs = none → ((numD n rs).any fun q => decide (q.1 = r.key)) = false
  | _, [], _ => rfl
  | n, q :: rs, h => by
    rw [posR] at h
    by_cases e : q = r
    · rw [if_pos e] at h
      cases h
    · rw [if_neg e] at h
      rw [numD, List.any_cons, numD_any r (n + 1) rs h, decide_eq_false (fun z => e (Row.key_inj z))]
      rfl
theorem numD_app (r : Row) : ∀ (n : Int) (rs : List Row), numD n (rs ++ [r]) = numD n rs ++ [(r.key, .i (n + rs.length))]
  | n, [] => by simp [numD]
  | n, q :: rs => by
    rw [List.cons_append, numD, numD_app r (n + 1) rs, numD, List.cons_append, List.length_cons]
    rw [show n + ((rs.length + 1 : Nat) : Int) = n + 1 + (rs.length : Int) by omega]
theorem numD_put {r : Row} {rs : List Row} (h : posR r 0 rs = none) : putD (numD 0 rs) r.key (.i rs.length) = numD 0 (rs ++ [r]) := by
  unfold putD
  rw [numD_any r 0 rs h, if_neg (by decide), numD_app]
  simp
theorem posR_app {r : Row} : ∀ {n : Int} {rs : List Row}, posR r n rs = none → posR r n (rs ++ [r]) = some (n + rs.length)
  | n, [], _ => by simp [posR]
  | n, q :: rs, h => by
    rw [posR] at h
    by_cases e : q = r
    · rw [if_pos e] at h
      cases h
    · rw [if_neg e] at h
      rw [List.cons_append, posR, if_neg e, posR_app h, List.length_cons]
      congr 1
      push_cast
      omega
theorem gets_some {bs : List Bool} : ∀ {ps : List Int} {t : List Bool}, gets bs ps = some t → (∀ p ∈ ps, ∃ b, L2.atI bs p = some b) ∧ ps.map (fun p => (L2.atI bs p).getD false) = t
  | [], t, h => by
    rw [gets] at h
    cases h
    exact ⟨fun p hp => (nomatch hp), rfl⟩
  | p :: ps, t, h => by
    rw [gets] at h
    cases e1 : L2.atI bs p with
    | none => rw [e1] at h; cases h
    | some b =>
      cases e2 : gets bs ps with
      | none => rw [e1, e2] at h; cases h
      | some t' =>
        rw [e1, e2] at h
        cases h
        obtain ⟨h1, h2⟩ := gets_some e2
        refine ⟨fun q hq => ?_, by rw [List.map_cons, e1, h2]; rfl⟩
        rcases List.mem_cons.mp hq with rfl | hq
        · exact ⟨b, e1⟩
        · exact h1 q hq
theorem atI_map {α β : Type} (f : α → β) (xs : List α) (i : Int) : L2.atI (xs.map f) i = (L2.atI xs i).map f := by
  unfold L2.atI
  rw [List.length_map]
  cases L2.ixN xs.length i with
  | none => rfl
  | some j =>
    show (xs.map f)[j]? = _
    rw [List.getElem?_map]
    rfl
/-- the store as an object of one's own -/
abbrev stoO (G : Gs) (a n b h d : Addr) : Ow := .ins G.Store [("stored", .v (.ref a)), ("numbers", .v (.ref n)), ("bare", .v (.ref b)), ("hard", .v (.ref h)), ("direct", .v (.ref d))]
abbrev stoF (G : Gs) (p a n b h d : Addr) (oa on ob oh od : Ow) : Led := [(p, stoO G a n b h d), (a, oa), (n, on), (b, ob), (h, oh), (d, od)]
abbrev boolO (bs : List Bool) : Ow := .lst (bs.map Dat.b)
abbrev stoL (G : Gs) (p a n b h d : Addr) (S : Sto) : Led := stoF G p a n b h d (.lst (S.rows.map Row.sdat)) (.dn (numD 0 S.rows)) (boolO S.bare) (boolO S.hard) (boolO S.direct)
structure StoOk (S : Sto) : Prop where
  b : S.bare.length = S.rows.length
  h : S.hard.length = S.rows.length
  d : S.direct.length = S.rows.length
  l : S.rows.length ≤ 1000
section
variable {p a n b0 h0 d0 : Addr} {oa on ob oh od : Ow} {q : Ow}
theorem sto_a (hnd : ((stoF G p a n b0 h0 d0 oa on ob oh od ++ W).map (·.1)).Nodup) : putO (stoF G p a n b0 h0 d0 oa on ob oh od ++ W) a q = stoF G p a n b0 h0 d0 q on ob oh od ++ W := putO_at [_] hnd
theorem sto_n (hnd : ((stoF G p a n b0 h0 d0 oa on ob oh od ++ W).map (·.1)).Nodup) : putO (stoF G p a n b0 h0 d0 oa on ob oh od ++ W) n q = stoF G p a n b0 h0 d0 oa q ob oh od ++ W := putO_at [_, _] hnd
theorem sto_b (hnd : ((stoF G p a n b0 h0 d0 oa on ob oh od ++ W).map (·.1)).Nodup) : putO (stoF G p a n b0 h0 d0 oa on ob oh od ++ W) b0 q = stoF G p a n b0 h0 d0 oa on q oh od ++ W := putO_at [_, _, _] hnd
theorem sto_h (hnd : ((stoF G p a n b0 h0 d0 oa on ob oh od ++ W).map (·.1)).Nodup) : putO (stoF G p a n b0 h0 d0 oa on ob oh od ++ W) h0 q = stoF G p a n b0 h0 d0 oa on ob q od ++ W := putO_at [_, _, _, _] hnd
theorem sto_d (hnd : ((stoF G p a n b0 h0 d0 oa on ob oh od ++ W).map (·.1)).Nodup) : putO (stoF G p a n b0 h0 d0 oa on ob oh od ++ W) d0 q = stoF G p a n b0 h0 d0 oa on ob oh q ++ W := putO_at [_, _, _, _, _] hnd
theorem sto_mp : (p, stoO G a n b0 h0 d0) ∈ stoF G p a n b0 h0 d0 oa on ob oh od ++ W := by simp
theorem sto_ma : (a, oa) ∈ stoF G p a n b0 h0 d0 oa on ob oh od ++ W := by simp
theorem sto_mn : (n, on) ∈ stoF G p a n b0 h0 d0 oa on ob oh od ++ W := by simp
theorem sto_mb : (b0, ob) ∈ stoF G p a n b0 h0 d0 oa on ob oh od ++ W := by simp
theorem sto_mh : (h0, oh) ∈ stoF G p a n b0 h0 d0 oa on ob oh od ++ W := by simp
theorem sto_md : (d0, od) ∈ stoF G p a n b0 h0 d0 oa on ob oh od ++ W := by simp
/-- an attribute of the store -/
theorem sto_fld {f : Str} (T : Tx K w G) (hv : δ[i]? = some (some (.v (.ref p)))) (m : (p, stoO G a n b0 h0 d0) ∈ ω) (hn : NoAttr K G.Store f) (hf : ([("stored", Dat.v (.ref a)), ("numbers", .v (.ref n)), ("bare", .v (.ref b0)), ("hard", .v (.ref h0)), ("direct", .v (.ref d0))] : List (Str × Dat)).lookup f = some d) : EvF K w δ ω (tFld K (tVar i) f) d ω :=
  evf_fldO (evf_var hv) m T.kStore hn hf
theorem sto_f {f : Str} (T : Tx K w G) (hv : δ[i]? = some (some (.v (.ref p)))) (hn : NoAttr K G.Store f) (hf : ([("stored", Dat.v (.ref a)), ("numbers", .v (.ref n)), ("bare", .v (.ref b0)), ("hard", .v (.ref h0)), ("direct", .v (.ref d0))] : List (Str × Dat)).lookup f = some d) : EvF K w δ (stoF G p a n b0 h0 d0 oa on ob oh od ++ W) (tFld K (tVar i) f) d (stoF G p a n b0 h0 d0 oa on ob oh od ++ W) :=
  evf_fldO (evf_var hv) sto_mp T.kStore hn hf
end
def t_Store_init (K : PySem.W.Frag) (w : World) (G : Gs) : TS :=
  (tSeq (sFld K (tVar 0) (tLst tNil) "stored")
  (tSeq (sFld K (tVar 0) (tDNewN w) "numbers")
  (tSeq (sFld K (tVar 0) (tLst tNil) "bare")
  (tSeq (sFld K (tVar 0) (tLst tNil) "hard")
  (sFld K (tVar 0) (tLst tNil) "direct")))))
abbrev N_Store_init : List Str := ["self"]
def sp_Store_init (K : PySem.W.Frag) (w : World) (G : Gs) : Sp := spM K w fun ds ω R => ∃ p, ds = [.v (.ref p)] ∧ ω = [(p, .ins G.Store [])] ∧ R = fun d ω' => d = .v .non ∧ ∃ a n b h d, ω' = [(d, boolO []), (h, boolO []), (b, boolO []), (n, .dn []), (a, .lst []), (p, stoO G a n b h d)]
theorem pure_Store_init (T : Tx K w G) : ∀ vs H Q E, sp_Store_init K w G vs H Q E → t_Store_init K w G { nx := fun _ H' => Q .non H', rt := Q } (L2.start N_Store_init vs) H := spM_body fun ds ω W R hC => by
  obtain ⟨p, rfl, rfl, rfl⟩ := hC
  refine q_fldN (p := p) (C := G.Store) (fs := []) (evn_lst eva_nil (Nat.le_of_ble_eq_true rfl)) (fun q => evf_var rfl) (by simp) T.kStore T.aStored (by decide) fun a ha => ?_
  rw [show putO ((a, Ow.lst []) :: ([(p, Ow.ins G.Store [])] ++ W)) p (.ins G.Store (putA "stored" (.v (.ref a)) [])) = (a, Ow.lst []) :: (p, .ins G.Store [("stored", .v (.ref a))]) :: W from putO_at [(a, Ow.lst [])] ha]
  refine q_fldN (p := p) (C := G.Store) (fs := [("stored", .v (.ref a))]) evn_dn (fun q => evf_var rfl) (by simp) T.kStore T.aNumbers (Nat.lt_of_succ_le (Nat.le_of_ble_eq_true rfl)) fun n hn => ?_
  rw [show putO ((n, Ow.dn []) :: (a, Ow.lst []) :: (p, .ins G.Store [("stored", .v (.ref a))]) :: W) p (.ins G.Store (putA "numbers" (.v (.ref n)) [("stored", .v (.ref a))])) = (n, Ow.dn []) :: (a, Ow.lst []) :: (p, .ins G.Store [("stored", .v (.ref a)), ("numbers", .v (.ref n))]) :: W from putO_at [(n, Ow.dn []), (a, Ow.lst [])] hn]
  refine q_fldN (p := p) (C := G.Store) (fs := [("stored", .v (.ref a)), ("numbers", .v (.ref n))]) (evn_lst eva_nil (Nat.le_of_ble_eq_true rfl)) (fun q => evf_var rfl) (by simp) T.kStore T.aBare (Nat.lt_of_succ_le (Nat.le_of_ble_eq_true rfl)) fun b hb => ?_
  rw [show putO ((b, Ow.lst []) :: (n, Ow.dn []) :: (a, Ow.lst []) :: (p, .ins G.Store [("stored", .v (.ref a)), ("numbers", .v (.ref n))]) :: W) p (.ins G.Store (putA "bare" (.v (.ref b)) [("stored", .v (.ref a)), ("numbers", .v (.ref n))])) = (b, Ow.lst []) :: (n, Ow.dn []) :: (a, Ow.lst []) :: (p, .ins G.Store [("stored", .v (.ref a)), ("numbers", .v (.ref n)), ("bare", .v (.ref b))]) :: W from putO_at [(b, Ow.lst []), (n, Ow.dn []), (a, Ow.lst [])] hb]
  refine q_fldN (p := p) (C := G.Store) (fs := [("stored", .v (.ref a)), ("numbers", .v (.ref n)), ("bare", .v (.ref b))]) (evn_lst eva_nil (Nat.le_of_ble_eq_true rfl)) (fun q => evf_var rfl) (by simp) T.kStore T.aHard (Nat.lt_of_succ_le (Nat.le_of_ble_eq_true rfl)) fun h hh => ?_
  rw [show putO ((h, Ow.lst []) :: (b, Ow.lst []) :: (n, Ow.dn []) :: (a, Ow.lst []) :: (p, .ins G.Store [("stored", .v (.ref a)), ("numbers", .v (.ref n)), ("bare", .v (.ref b))]) :: W) p (.ins G.Store (putA "hard" (.v (.ref h)) [("stored", .v (.ref a)), ("numbers", .v (.ref n)), ("bare", .v (.ref b))])) = (h, Ow.lst []) :: (b, Ow.lst []) :: (n, Ow.dn []) :: (a, Ow.lst []) :: (p, .ins G.Store [("stored", .v (.ref a)), ("numbers", .v (.ref n)), ("bare", .v (.ref b)), ("hard", .v (.ref h))]) :: W from putO_at [(h, Ow.lst []), (b, Ow.lst []), (n, Ow.dn []), (a, Ow.lst [])] hh]
  refine st_fldN (p := p) (C := G.Store) (fs := [("stored", .v (.ref a)), ("numbers", .v (.ref n)), ("bare", .v (.ref b)), ("hard", .v (.ref h))]) (evn_lst eva_nil (Nat.le_of_ble_eq_true rfl)) (fun q => evf_var rfl) (by simp) T.kStore T.aDirect (Nat.lt_of_succ_le (Nat.le_of_ble_eq_true rfl)) fun d hd => ?_
  exact ⟨_, ⟨rfl, a, n, b, h, d, rfl⟩, sub_eq (putO_at [(d, Ow.lst []), (h, Ow.lst []), (b, Ow.lst []), (n, Ow.dn []), (a, Ow.lst [])] hd).symm⟩
/-- Store() -/
theorem evm_Store (T : Tx K w G) : EvM K w δ ω (tMake G.Store (sp_Store_init K w G) [] E0 tNil) (fun d ω' => ∃ p a n b h e, d = .v (.ref p) ∧ ω' = stoL G p a n b h e Sto.new ++ ω) := fun F H σ E Q q => by
  refine evm_make (C := _) (ω2 := []) (W := ω) (R := fun p d ω' => d = .v .non ∧ ∃ a n b h d, ω' = [(d, boolO []), (h, boolO []), (b, boolO []), (n, .dn []), (a, .lst []), (p, stoO G a n b h d)]) eva_nil (fun p => ⟨p, rfl, rfl, rfl⟩) (fun p d ω' h => h.1) (.refl _) F H σ E Q fun d ω' x F' H' h g E' m => ?_
  obtain ⟨p, ω4, ⟨_, a, n, b, h, e, rfl⟩, rfl, rfl⟩ := h
  refine q _ _ x F' H' ⟨p, a, n, b, h, e, rfl, rfl⟩ g (E'.perm (List.Perm.append_right _ ?_)) m
  exact List.reverse_perm [(p, stoO G a n b h e), (a, Ow.lst []), (n, .dn []), (b, boolO []), (h, boolO []), (e, boolO [])]
end
end FL

namespace FL
open PySem PySem.Spec PyProof.Rows L2
section
variable {K : PySem.W.Frag} {w : World} {G : Gs} {δ δ' : Dts} {ω ω' ω1 ω2 ω3 W : Led} {te ta tb tc to ti tv : TE} {ta' : TA} {tt tu : TT} {d x y z : Dat} {i j : Nat} {b : Bool} {ts tz t1 t2 : TS} {O : Out}
/-- what the parts of a row in the store stand in -/
def Row.pdat : Row → Dat
  | .cat ps => .tup (ps.map .i)
  | r => .lst (r.parts.map .i)
theorem ev_parts {r : Row} {i : Nat} (h : δ[i]? = some (some r.sdat)) : EvF K w δ ω (tIf (tTest (tOp (rEqs K) (tOp (rAts K w) (tVar i) (tC (.int 0))) (tC (.str "cat")))) (tOp (rAts K w) (tVar i) (tC (.int 1))) (tCall (sp_parts_of K w G) [] E0 (tCons (tVar i) tNil))) r.pdat ω := by
  refine evf_if (b := r.isCat) (ω1 := ω) (evt_test (ev_eqw (evs_word (evf_var h)) r.word_cat)) (fun e => ?_) fun e => ?_
  · cases r with
    | cat ps => exact evf_op (evf_var h) evf_c (rf_atT rfl)
    | _ => cases e
  · have : r.sdat = r.dat ∧ r.pdat = .lst (r.parts.map .i) := by cases r <;> first | exact ⟨rfl, rfl⟩ | cases e
    rw [this.2]
    rw [this.1] at h
    exact evf_call (P := fun ds d => ∃ r : Row, ds = [r.dat] ∧ d = .lst (r.parts.map .i)) (eva_cons (evf_var h) eva_nil) ⟨r, rfl, rfl⟩
theorem evi_parts {r : Row} (h : EvF K w δ ω te r.pdat ω1) : EvI K w δ ω (iSeq K te) (r.parts.map .i) ω1 := by
  cases r <;> first | exact evi_seqT h | exact evi_seqL h
/-- [bs[part] for part in parts] -/
theorem ev_gets {r : Row} {bs t : List Bool} {j k : Nat} {q : Addr} {tb : TE} (hg : gets bs r.parts = some t) (hl : r.parts.length ≤ 1000) (hp : δ[j]? = some (some r.pdat)) (hj : j ≠ k) (hk : k < δ.length)
    (hb : ∀ ω1 e, (∀ x ∈ ω, x ∈ ω1) → EvF K w ((wipeD δ [k]).set k (some e)) ω1 tb (.v (.ref q)) ω1) (m : (q, boolO bs) ∈ ω) : EvF K w δ ω (tLc (iSeq K (tVar j)) (gName k) tYes (tOp (rAts K w) tb (tVar k)) [k]) (.lst (t.map fun b => .v (.bl b))) ω := by
  obtain ⟨h1, h2⟩ := gets_some hg
  have hm := evf_map (K := K) (w := w) (ω := ω) (ω1 := ω) (δ := δ) (j := k) (vs := [k]) (te := tOp (rAts K w) tb (tVar k)) (fun d => match d with | .v (.int p) => .b ((L2.atI bs p).getD false) | _ => .any) (evi_parts (te := tVar j) (evf_var hp)) (by rw [List.length_map]; exact Nat.lt_of_le_of_lt hl (by decide)) (by simp) fun d hd q' o => by
    obtain ⟨p, hp, rfl⟩ := List.mem_map.mp hd
    obtain ⟨b, hb'⟩ := h1 p hp
    refine evf_op (hb _ _ fun x hx => List.mem_cons_of_mem _ hx) (evf_var (List.getElem?_set_self (by show k < (δ.set k none).length; rw [List.length_set]; exact hk))) (rf_atO (List.mem_cons_of_mem _ m) ?_)
    show L2.atI (bs.map Dat.b) p = some (Dat.b ((L2.atI bs p).getD false))
    rw [atI_map, hb']
    rfl
  have e : (r.parts.map Dat.i).map (fun d => match d with | .v (.int p) => Dat.b ((L2.atI bs p).getD false) | _ => .any) = t.map fun b => .v (.bl b) := by
    rw [List.map_map, ← h2, List.map_map]
    rfl
  rwa [e] at hm
theorem Sto.put_old {S : Sto} {r : Row} {n : Int} (h : posR r 0 S.rows = some n) : S.put r = some (S, n) := by
  unfold Sto.put
  rw [h]
theorem Sto.put_new {S S' : Sto} {r : Row} {n : Int} (h : posR r 0 S.rows = none) (e : S.put r = some (S', n)) : ∃ bs hs ds, gets S.bare r.parts = some bs ∧ gets S.hard r.parts = some hs ∧ gets S.direct r.parts = some ds ∧ S.rows.length < 1000 ∧ n = S.rows.length ∧ S' = ⟨S.rows ++ [r], S.bare ++ [!r.isLine && bs.all id], S.hard ++ [r.isHard || hs.any id], S.direct ++ [r.isLine || (!r.isGroup && ds.any id)]⟩ := by
  unfold Sto.put at e
  rw [h] at e
  cases h1 : gets S.bare r.parts with
  | none => rw [h1] at e; cases e
  | some bs =>
    cases h2 : gets S.hard r.parts with
    | none => rw [h1, h2] at e; cases e
    | some hs =>
      cases h3 : gets S.direct r.parts with
      | none => rw [h1, h2, h3] at e; cases e
      | some ds =>
        rw [h1, h2, h3] at e
        by_cases hl : S.rows.length < 1000
        · simp only [if_pos hl] at e
          cases e
          exact ⟨bs, hs, ds, rfl, rfl, rfl, hl, rfl, rfl⟩
        · simp only [if_neg hl] at e
          cases e
def t_Store_put (K : PySem.W.Frag) (w : World) (G : Gs) : TS :=
  (tSeq (tIfS (tTest (tOp (rNotIns K w) (tVar 1) (tFld K (tVar 0) "numbers")))
  (tSeq (tAsg (tIf (tTest (tOp (rEqs K) (tOp (rAts K w) (tVar 1) (tC (.int 0))) (tC (.str "cat")))) (tOp (rAts K w) (tVar 1) (tC (.int 1))) (tCall (sp_parts_of K w G) [] E0 (tCons (tVar 1) tNil))) (gName 2))
  (tSeq (tAsg (tCB (rLens K) (tCons (tFld K (tVar 0) "stored") tNil)) (gSub (tFld K (tVar 0) "numbers") (tVar 1) (rSets K w)))
  (tSeq (tDrop (tBM K "list" rAppend (tFld K (tVar 0) "stored") (tCons (tVar 1) tNil)))
  (tSeq (tAsg (tOp (rIns K w) (tOp (rAts K w) (tVar 1) (tC (.int 0))) (tTup (tCons (tC (.str "line")) (tCons (tC (.str "hard")) tNil)))) (gName 3))
  (tSeq (tDrop (tBM K "list" rAppend (tFld K (tVar 0) "bare") (tCons (tAndV (tNotV (tVar 3)) (tCB (rAll K) (tCons (tLc (iSeq K (tVar 2)) (gName 4) tYes (tOp (rAts K w) (tFld K (tVar 0) "bare") (tVar 4)) [4]) tNil))) tNil)))
  (tSeq (tDrop (tBM K "list" rAppend (tFld K (tVar 0) "hard") (tCons (tOrV (tOp (rEqs K) (tOp (rAts K w) (tVar 1) (tC (.int 0))) (tC (.str "hard"))) (tCB (rAny K) (tCons (tLc (iSeq K (tVar 2)) (gName 4) tYes (tOp (rAts K w) (tFld K (tVar 0) "hard") (tVar 4)) [4]) tNil))) tNil)))
  (tDrop (tBM K "list" rAppend (tFld K (tVar 0) "direct") (tCons (tOrV (tVar 3) (tAndV (tOp (rNes K) (tOp (rAts K w) (tVar 1) (tC (.int 0))) (tC (.str "group"))) (tCB (rAny K) (tCons (tLc (iSeq K (tVar 2)) (gName 4) tYes (tOp (rAts K w) (tFld K (tVar 0) "direct") (tVar 4)) [4]) tNil)))) tNil)))))))))
  tNext)
  (tRet (tOp (rAts K w) (tFld K (tVar 0) "numbers") (tVar 1))))
abbrev N_Store_put : List Str := ["self", "row", "parts", "is_line", "part"]
def putC (G : Gs) : List Dat → Led → (Dat → Led → Prop) → Prop := fun ds ω R => ∃ p a n b h e S r S' i, ds = [.v (.ref p), Row.sdat r] ∧ ω = stoL G p a n b h e S ∧ StoOk S ∧ r.parts.length ≤ 1000 ∧ S.put r = some (S', i) ∧ R = fun d ω' => d = .i i ∧ ω' = stoL G p a n b h e S'
def sp_Store_put (K : PySem.W.Frag) (w : World) (G : Gs) : Sp := spM K w (putC G)
theorem pure_Store_put (T : Tx K w G) : ∀ vs H Q E, sp_Store_put K w G vs H Q E → t_Store_put K w G { nx := fun _ H' => Q .non H', rt := Q } (L2.start N_Store_put vs) H := spM_body fun ds ω W R hC => by
  obtain ⟨p, a, n, b, h, e, S, r, S', i, rfl, rfl, ok, hpl, hput, rfl⟩ := hC
  refine st_nd fun hnd => ?_
  have kd : (Dat.tup r.sl).nk = some r.key := by rw [← r.sdat_sl]; exact r.sdat_nk
  have last : ∀ (S' : Sto) (i : Int) δ, δ[0]? = some (some (.v (.ref p))) → δ[1]? = some (some r.sdat) → posR r 0 S'.rows = some i → St K w (tRet (tOp (rAts K w) (tFld K (tVar 0) "numbers") (tVar 1))) δ (stoL G p a n b h e S' ++ W) { nx := fun _ _ => False, rt := fun d ω1 => ∃ ω', (d = .i i ∧ ω' = stoL G p a n b h e S') ∧ (ω' ++ W).Sublist ω1 } := fun S' i δ h0 h1 hi => by
    refine st_ret (evf_op (sto_f T h0 T.aNumbers rfl) (evf_var h1) ?_) ⟨_, ⟨rfl, rfl⟩, .refl _⟩
    rw [r.sdat_sl]
    exact rf_atDn (kvs := numD 0 S'.rows) sto_mn kd r.key_depth (by rw [numD_look, hi]; rfl)
  have tst : EvT K w (initD N_Store_put [.v (.ref p), r.sdat]) (stoL G p a n b h e S ++ W) (tTest (tOp (rNotIns K w) (tVar 1) (tFld K (tVar 0) "numbers"))) (!(posR r 0 S.rows).isSome) (stoL G p a n b h e S ++ W) := by
    refine evt_test ?_
    have := evf_op (K := K) (w := w) (r := rNotIns K w) (ta := tVar 1) (tb := tFld K (tVar 0) "numbers") (δ := initD N_Store_put [.v (.ref p), r.sdat]) (ω := stoL G p a n b h e S ++ W) (x := .tup r.sl) (by rw [← r.sdat_sl]; exact evf_var rfl) (sto_f T rfl T.aNumbers rfl) (rf_notInDn (kvs := numD 0 S.rows) sto_mn kd r.key_depth)
    rw [numD_look] at this
    rw [Option.isSome_map] at this
    exact this
  cases hp : posR r 0 S.rows with
  | some m =>
    rw [Sto.put_old hp] at hput
    cases hput
    rw [hp] at tst
    exact q_no tst (q_next (st_weak (last _ _ _ rfl rfl hp) (fun _ _ z => z.elim) (fun _ _ z => z) (fun _ _ z => z) fun _ _ z => z))
  | none =>
    obtain ⟨bs, hs, ds, g1, g2, g3, hl, rfl, rfl⟩ := Sto.put_new hp hput
    rw [hp] at tst
    have small : ∀ {m : Nat}, m < 1000 → m < sizeLine := fun h => Nat.lt_trans h (by decide)
    refine q_yes tst (q_seq (q_set (d := r.pdat) (ω1 := stoL G p a n b h e S ++ W) (ev_parts rfl) ?_))
    refine q_seq (q_put (ω1 := stoL G p a n b h e S ++ W) (ω2 := stoL G p a n b h e S ++ W) (ω3 := stoL G p a n b h e S ++ W) (d := .i S.rows.length) (x := .v (.ref n)) (y := .tup r.sl) ((evf_cb (eva_cons (sto_f T rfl T.aStored rfl) eva_nil) (cf_lenO (ds := S.rows.map Row.sdat) sto_ma)).to (by rw [List.length_map])) (sto_f T rfl T.aNumbers rfl) (by rw [← r.sdat_sl]; exact evf_var rfl) (wf_dn (kvs := numD 0 S.rows) sto_mn kd r.key_depth (by rw [numD_length]; exact Nat.lt_of_le_of_lt hl (by decide))) ?_)
    rw [sto_n hnd, numD_put hp]
    refine q_seq (q_append (p := a) (ds := S.rows.map Row.sdat) (sto_f T rfl T.aStored rfl) (evf_var (i := 1) (d := r.sdat) rfl) sto_ma sto_ma (by rw [List.length_map]; exact small hl) (sto_a hnd) ?_)
    refine q_seq (q_set (d := .b r.isLine) ((evf_op (evs_word (r := r) (evf_var rfl)) (evf_tup (eva_cons evf_c (eva_cons evf_c eva_nil)) (Nat.le_of_ble_eq_true rfl)) (rf_inT (vs := [.str "line", .str "hard"]) rfl rfl)).to (by rw [r.word_line])) ?_)
    refine q_seq (q_append (p := b) (ds := S.bare.map Dat.b) (d := .b (!r.isLine && bs.all id)) (sto_f T rfl T.aBare rfl) (evf_andV (evf_notV (evf_var rfl)) (fun _ => evf_cb (eva_cons (ev_gets (bs := S.bare) (q := b) g1 hpl rfl (by decide) (Nat.lt_of_succ_le (Nat.le_of_ble_eq_true rfl)) (fun ω1 d hm => sto_fld T rfl (hm _ sto_mp) T.aBare rfl) sto_mb) eva_nil) cf_all) fun _ => rfl) sto_mb sto_mb (by rw [List.length_map, ok.b]; exact small hl) (sto_b hnd) ?_)
    refine q_seq (q_append (p := h) (ds := S.hard.map Dat.b) (d := .b (r.isHard || hs.any id)) (sto_f T rfl T.aHard rfl) (evf_orV (ev_eqw (evs_word (r := r) (evf_var rfl)) r.word_hard) (fun _ => evf_cb (eva_cons (ev_gets (bs := S.hard) (q := h) g2 hpl rfl (by decide) (Nat.lt_of_succ_le (Nat.le_of_ble_eq_true rfl)) (fun ω1 d hm => sto_fld T rfl (hm _ sto_mp) T.aHard rfl) sto_mh) eva_nil) cf_any) fun _ => rfl) sto_mh sto_mh (by rw [List.length_map, ok.h]; exact small hl) (sto_h hnd) ?_)
    refine q_append (p := e) (ds := S.direct.map Dat.b) (d := .b (r.isLine || (!r.isGroup && ds.any id))) (sto_f T rfl T.aDirect rfl) (evf_orV (evf_var rfl) (fun _ => evf_andV (ev_new (evs_word (r := r) (evf_var rfl)) r.word_group) (fun _ => evf_cb (eva_cons (ev_gets (bs := S.direct) (q := e) g3 hpl rfl (by decide) (Nat.lt_of_succ_le (Nat.le_of_ble_eq_true rfl)) (fun ω1 d hm => sto_fld T rfl (hm _ sto_mp) T.aDirect rfl) sto_md) eva_nil) cf_any) fun _ => rfl) fun _ => rfl) sto_md sto_md (by rw [List.length_map, ok.d]; exact small hl) (sto_d hnd) ?_
    have := last ⟨S.rows ++ [r], S.bare ++ [!r.isLine && bs.all id], S.hard ++ [r.isHard || hs.any id], S.direct ++ [r.isLine || (!r.isGroup && ds.any id)]⟩ S.rows.length ((((initD N_Store_put [.v (.ref p), r.sdat]).set 2 (some r.pdat)).set 3 (some (.b r.isLine)))) rfl rfl (by rw [posR_app hp]; simp)
    simp only [stoL, boolO, List.map_append, List.map_cons, List.map_nil] at this ⊢
    exact st_weak this (fun _ _ z => z.elim) (fun _ _ z => z) (fun _ _ z => z) fun _ _ z => z
end
end FL

namespace FL
open PySem PySem.Spec PyProof.Rows L2
section
variable {K : PySem.W.Frag} {w : World} {G : Gs} {δ δ' : Dts} {ω ω' ω1 ω2 ω3 W : Led} {te ta tb tc to ti tv : TE} {ta' : TA} {tt tu : TT} {d x y z : Dat} {i j : Nat} {b : Bool} {ts tz t1 t2 : TS} {O : Out}
theorem sto_put : ("put" : Str) ∉ ([("stored" : Str), "numbers", "bare", "hard", "direct"] : List Str) := by decide +kernel
theorem inEmpty (T : Tx K w G) (F : Hp) : In K F (.ref G.EMPTY) (Row.text "").sdat := .tup (T.empty F) InL.vs
/-- self.put(row) -/
theorem ev_put {p a n b h e : Addr} {S S' : Sto} {r : Row} {m : Int} (T : Tx K w G) (hv : δ[i]? = some (some (.v (.ref p)))) (ha : EvF K w δ (stoL G p a n b h e S ++ W) te r.sdat (stoL G p a n b h e S ++ W)) (ok : StoOk S) (hl : r.parts.length ≤ 1000) (hput : S.put r = some (S', m)) :
    EvF K w δ (stoL G p a n b h e S ++ W) (tMeth G.Store "put" (sp_Store_put K w G) [] E0 (tVar i) (tCons te tNil)) (.i m) (stoL G p a n b h e S' ++ W) := fun F H σ E Q q =>
  evm_meth (C := putC G)
    (evf_var hv) sto_mp sto_put (eva_cons ha eva_nil) ⟨p, a, n, b, h, e, S, r, S', m, rfl, rfl, ok, hl, hput, rfl⟩ (.refl _) F H σ E Q fun d ω' x F' H' hR g E' hm => by
      obtain ⟨ω3, ⟨rfl, rfl⟩, rfl⟩ := hR
      exact q x F' H' g E' hm
theorem catParts_some {S : Sto} {pl : List Int} : ∀ {ps t : List Int}, catParts S pl ps = some t → (∀ p ∈ ps, ∃ j q, L2.atI pl p = some j ∧ L2.atI S.rows j = some q) ∧ t.length ≤ ps.length ∧
    (ps.map Dat.i).filterMap (fun d => match d with | .v (.int p) => (match L2.atI pl p with | some j => (match L2.atI S.rows j with | some q => if q = .text "" then none else some (Dat.i j) | none => none) | none => none) | _ => none) = t.map .i
  | [], t, h => by
    rw [catParts] at h
    cases h
    exact ⟨fun p hp => (nomatch hp), Nat.le_refl _, rfl⟩
  | p :: ps, t, h => by
    rw [catParts] at h
    cases e1 : L2.atI pl p with
    | none => rw [e1] at h; cases h
    | some j =>
      rw [e1] at h
      cases e2 : L2.atI S.rows j with
      | none => simp only [e2] at h; cases h
      | some q =>
        cases e3 : catParts S pl ps with
        | none => simp only [e2, e3] at h; cases h
        | some t' =>
          simp only [e2, e3] at h
          obtain ⟨h1, h2, h3⟩ := catParts_some e3
          refine ⟨fun p' hp => ?_, ?_, ?_⟩
          · rcases List.mem_cons.mp hp with rfl | hp
            · exact ⟨j, q, e1, e2⟩
            · exact h1 p' hp
          · cases h
            by_cases c : q = .text ""
            · rw [if_pos c, List.length_cons]; omega
            · rw [if_neg c, List.length_cons, List.length_cons]; omega
          · rw [List.map_cons]
            cases h
            by_cases c : q = .text ""
            · rw [List.filterMap_cons_none (by simp only [e1, e2, if_pos c]), h3, if_pos c]
            · rw [List.filterMap_cons_some (b := Dat.i j) (by simp only [e1, e2, if_neg c]), h3, if_neg c]
              rfl
theorem Row.sdat_leaf {r : Row} (h : r.isLeaf = true) : r.sdat = r.dat ∧ r.parts = [] := by cases r <;> first | exact ⟨rfl, rfl⟩ | cases h
theorem Row.word_align (r : Row) : decide (r.word = "align") = (match r with | .align _ => true | _ => false) := by
  obtain ⟨h1, h2, h3, h4, h5, h6, h7, h8, h9, h10, h11, h12, h13, h14, h15, h16, h17, h18, h19, h20, h21⟩ := words
  cases r <;> simp [Row.word, *, Ne.symm] <;> (intro z; exact absurd z.symm (by assumption))
theorem Row.word_nest (r : Row) : decide (r.word = "nest") = (match r with | .nest _ _ => true | _ => false) := by
  obtain ⟨h1, h2, h3, h4, h5, h6, h7, h8, h9, h10, h11, h12, h13, h14, h15, h16, h17, h18, h19, h20, h21⟩ := words
  cases r <;> simp [Row.word, *, Ne.symm] <;> (intro z; exact absurd z.symm (by assumption))
theorem shaped_two (a : Str) (n : Int) (h : PyData.strOk a = true) : SeqAt.shaped (.tuple [.str a, .int n]) = true := by
  unfold SeqAt.shaped
  simp [PyData.canLay0, PyData.canLayAll0, PyData.depth, PyData.depthAll, h]
theorem shaped_nest (n : Int) : SeqAt.shaped (.tuple [.str "nest", .int n]) = true := shaped_two _ _ (by decide +kernel)
theorem shaped_align (n : Int) : SeqAt.shaped (.tuple [.str "align", .int n]) = true := shaped_two _ _ (by decide +kernel)
theorem shaped_group (n : Int) : SeqAt.shaped (.tuple [.str "group", .int n]) = true := shaped_two _ _ (by decide +kernel)
def t_Store_turned (K : PySem.W.Frag) (w : World) (G : Gs) : TS :=
  (tSeq (tIfS (tTest (tOp (rIns K w) (tOp (rAts K w) (tVar 1) (tC (.int 0))) (tTup (tCons (tC (.str "text")) (tCons (tC (.str "line")) (tCons (tC (.str "hard")) tNil))))))
  (tRet (tMeth G.Store "put" (sp_Store_put K w G) [] E0 (tVar 0) (tCons (tVar 1) tNil)))
  tNext)
  (tSeq (tIfS (tTest (tOp (rEqs K) (tOp (rAts K w) (tVar 1) (tC (.int 0))) (tC (.str "cat"))))
  (tSeq (tAsg (tLc (iList K (tOp (rAts K w) (tVar 1) (tC (.int 1)))) (gName 4) (tTest (tOp (rNes K) (tOp (rAts K w) (tFld K (tVar 0) "stored") (tOp (rAts K w) (tVar 2) (tVar 4))) (tC (.ref G.EMPTY)))) (tOp (rAts K w) (tVar 2) (tVar 4)) [4]) (gName 3))
  (tSeq (tIfS (tTest (tOp rGts (tCB (rLens K) (tCons (tVar 3) tNil)) (tC (.int 1))))
  (tRet (tMeth G.Store "put" (sp_Store_put K w G) [] E0 (tVar 0) (tCons (tTup (tCons (tC (.str "cat")) (tCons (tCB (rTupOf K) (tCons (tVar 3) tNil)) tNil))) tNil)))
  tNext)
  (tRet (tIf (tTest (tOp (rEqs K) (tCB (rLens K) (tCons (tVar 3) tNil)) (tC (.int 1)))) (tOp (rAts K w) (tVar 3) (tC (.int 0))) (tMeth G.Store "put" (sp_Store_put K w G) [] E0 (tVar 0) (tCons (tC (.ref G.EMPTY)) tNil))))))
  tNext)
  (tSeq (tAsg (tOp (rAts K w) (tVar 2) (tOp (rAts K w) (tVar 1) (tUn rNeg (tC (.int 1))))) (gName 4))
  (tSeq (tIfS (tOr (tB (tOp (rAts K w) (tFld K (tVar 0) "bare") (tVar 4))) (tTest (tOp (rEqs K) (tSl (rCut K) (tVar 1) tNoPart (tPart (tC (.int 2)))) (tTup (tCons (tC (.str "nest")) (tCons (tC (.int 0)) tNil))))))
  (tRet (tVar 4))
  tNext)
  (tSeq (tAsg (tOp (rAts K w) (tFld K (tVar 0) "stored") (tVar 4)) (gName 5))
  (tSeq (tIfS (tTest (tOp (rEqs K) (tOp (rAts K w) (tVar 1) (tC (.int 0))) (tC (.str "group"))))
  (tRet (tIf (tOr (tB (tOp (rAts K w) (tFld K (tVar 0) "hard") (tVar 4))) (tNot (tB (tOp (rAts K w) (tFld K (tVar 0) "direct") (tVar 4))))) (tVar 4) (tMeth G.Store "put" (sp_Store_put K w G) [] E0 (tVar 0) (tCons (tTup (tCons (tC (.str "group")) (tCons (tVar 4) tNil))) tNil))))
  tNext)
  (tSeq (tIfS (tTest (tOp (rEqs K) (tOp (rAts K w) (tVar 5) (tC (.int 0))) (tC (.str "align"))))
  (tRet (tVar 4))
  tNext)
  (tSeq (tIfS (tAnd (tTest (tOp (rEqs K) (tOp (rAts K w) (tVar 1) (tC (.int 0))) (tC (.str "nest")))) (tAnd (tTest (tOp (rEqs K) (tOp (rAts K w) (tVar 5) (tC (.int 0))) (tC (.str "nest")))) (tTest (tOp rLes (tOp (rPlus K) (tOp (rAts K w) (tVar 1) (tC (.int 1))) (tOp (rAts K w) (tVar 5) (tC (.int 1)))) (tC (.int 8))))))
  (tRet (tMeth G.Store "put" (sp_Store_put K w G) [] E0 (tVar 0) (tCons (tTup (tCons (tC (.str "nest")) (tCons (tOp (rPlus K) (tOp (rAts K w) (tVar 1) (tC (.int 1))) (tOp (rAts K w) (tVar 5) (tC (.int 1)))) (tCons (tOp (rAts K w) (tVar 5) (tC (.int 2))) tNil)))) tNil)))
  tNext)
  (tRet (tMeth G.Store "put" (sp_Store_put K w G) [] E0 (tVar 0) (tCons (tOp (rPlus K) (tSl (rCut K) (tVar 1) tNoPart (tPart (tUn rNeg (tC (.int 1))))) (tTup (tCons (tVar 4) tNil))) tNil)))))))))))
abbrev N_Store_turned : List Str := ["self", "row", "places", "parts", "part", "inner"]
def turnC (G : Gs) : List Dat → Led → (Dat → Led → Prop) → Prop := fun ds ω R => ∃ p a n b h e S r pp pl S' i, ds = [.v (.ref p), Row.dat r, .v (.ref pp)] ∧ ω = stoL G p a n b h e S ++ [(pp, .lst (pl.map .i))] ∧ StoOk S ∧ S.rows.all Row.fit = true ∧ r.fit = true ∧ S.turned pl r = some (S', i) ∧ R = fun d ω' => d = .i i ∧ ω' = stoL G p a n b h e S' ++ [(pp, .lst (pl.map .i))]
def sp_Store_turned (K : PySem.W.Frag) (w : World) (G : Gs) : Sp := spM K w (turnC G)
theorem pure_Store_turned (T : Tx K w G) : ∀ vs H Q E, sp_Store_turned K w G vs H Q E → t_Store_turned K w G { nx := fun _ H' => Q .non H', rt := Q } (L2.start N_Store_turned vs) H := spM_body fun ds ω W R hC => by
  obtain ⟨p, a, n, b, h, e, S, r, pp, pl, S', i, rfl, rfl, ok, hfit, hr, ht, rfl⟩ := hC
  rw [List.append_assoc]
  have hfin : ∀ (S' : Sto) (i : Int), (∃ ω', (fun d ω' => d = Dat.i i ∧ ω' = stoL G p a n b h e S' ++ [(pp, .lst (pl.map .i))]) (Dat.i i) ω' ∧ (ω' ++ W).Sublist (stoL G p a n b h e S' ++ ([(pp, .lst (pl.map .i))] ++ W))) := fun S' i => ⟨_, ⟨rfl, rfl⟩, by rw [List.append_assoc]; exact .refl _⟩
  generalize hW : [(pp, Ow.lst (pl.map .i))] ++ W = W' at hfin ⊢
  have mpl : ∀ S : Sto, (pp, Ow.lst (pl.map .i)) ∈ stoL G p a n b h e S ++ W' := fun S => by
    rw [← hW]
    simp
  have leaf : EvT K w (initD N_Store_turned [.v (.ref p), r.dat, .v (.ref pp)]) (stoL G p a n b h e S ++ W') (tTest (tOp (rIns K w) (tOp (rAts K w) (tVar 1) (tC (.int 0))) (tTup (tCons (tC (.str "text")) (tCons (tC (.str "line")) (tCons (tC (.str "hard")) tNil)))))) r.isLeaf (stoL G p a n b h e S ++ W') := by
    refine evt_test ((evf_op (evd_word (r := r) (evf_var rfl)) (evf_tup (eva_cons evf_c (eva_cons evf_c (eva_cons evf_c eva_nil))) (Nat.le_of_ble_eq_true rfl)) (rf_inT (vs := [.str "text", .str "line", .str "hard"]) rfl rfl)).to ?_)
    rw [r.word_leaf]
  have small : r.isLeaf = true → S.put r = some (S', i) → St K w (t_Store_turned K w G) (initD N_Store_turned [.v (.ref p), r.dat, .v (.ref pp)]) (stoL G p a n b h e S ++ W') { nx := fun _ ω1 => ∃ ω', (fun d ω' => d = Dat.i i ∧ ω' = stoL G p a n b h e S' ++ [(pp, .lst (pl.map .i))]) (.v .non) ω' ∧ (ω' ++ W).Sublist ω1, rt := fun d ω1 => ∃ ω', (fun d ω' => d = Dat.i i ∧ ω' = stoL G p a n b h e S' ++ [(pp, .lst (pl.map .i))]) d ω' ∧ (ω' ++ W).Sublist ω1 } := fun hl hp => by
    rw [hl] at leaf
    obtain ⟨e1, e2⟩ := Row.sdat_leaf hl
    refine q_yes leaf (q_ret (st_ret (ev_put T rfl (r := r) (by rw [e1]; exact evf_var rfl) ok (by rw [e2]; exact Nat.zero_le _) hp) (hfin _ _)))
  cases r with
  | text s => exact small rfl ht
  | line s => exact small rfl ht
  | hard => exact small rfl ht
  | cat ps =>
    refine q_no leaf (q_next (q_yes (evt_test (ev_eqw (evd_word (r := .cat ps) (evf_var rfl)) (Row.word_cat (.cat ps)))) ?_))
    rw [Sto.turned] at ht
    cases hc : catParts S pl ps with
    | none => rw [hc] at ht; cases ht
    | some js =>
      obtain ⟨c1, c2, c3⟩ := catParts_some hc
      have hpl : ps.length ≤ 1000 := of_decide_eq_true hr
      have hlc := evf_lc (K := K) (w := w) (ω := stoL G p a n b h e S ++ W') (ω1 := stoL G p a n b h e S ++ W') (δ := initD N_Store_turned [.v (.ref p), (Row.cat ps).dat, .v (.ref pp)]) (vs := [4]) (g := gName 4) (wi := iList K (tOp (rAts K w) (tVar 1) (tC (.int 1)))) (tt := tTest (tOp (rNes K) (tOp (rAts K w) (tFld K (tVar 0) "stored") (tOp (rAts K w) (tVar 2) (tVar 4))) (tC (.ref G.EMPTY)))) (te := tOp (rAts K w) (tVar 2) (tVar 4))
        (fun d => match d with | .v (.int p) => (match L2.atI pl p with | some j => (match L2.atI S.rows j with | some q => if q = .text "" then none else some (Dat.i j) | none => none) | none => none) | _ => none)
        (evi_list (evf_op (evf_var rfl) evf_c (rf_atT (d := .lst (ps.map .i)) rfl))) (by rw [List.length_map]; exact Nat.lt_of_le_of_lt hpl (by decide)) fun d hd => by
          obtain ⟨p0, hp0, rfl⟩ := List.mem_map.mp hd
          obtain ⟨j, q, e1, e2⟩ := c1 p0 hp0
          refine ⟨_, _, tg_name, by simp, fun q0 o => ?_⟩
          have hpart : EvF K w ((wipeD (initD N_Store_turned [.v (.ref p), (Row.cat ps).dat, .v (.ref pp)]) [4]).set 4 (some (.i p0))) ((q0, o) :: (stoL G p a n b h e S ++ W')) (tOp (rAts K w) (tVar 2) (tVar 4)) (.i j) ((q0, o) :: (stoL G p a n b h e S ++ W')) :=
            evf_op (evf_var rfl) (evf_var rfl) (rf_atO (List.mem_cons_of_mem _ (mpl S)) (by rw [atI_map, e1]; rfl))
          have ht : EvT K w ((wipeD (initD N_Store_turned [.v (.ref p), (Row.cat ps).dat, .v (.ref pp)]) [4]).set 4 (some (.i p0))) ((q0, o) :: (stoL G p a n b h e S ++ W')) (tTest (tOp (rNes K) (tOp (rAts K w) (tFld K (tVar 0) "stored") (tOp (rAts K w) (tVar 2) (tVar 4))) (tC (.ref G.EMPTY)))) (!decide (q = .text "")) ((q0, o) :: (stoL G p a n b h e S ++ W')) := by
            have hq : q.fit = true := List.all_eq_true.mp hfit q (by
              obtain ⟨k, _, e3, _⟩ := L2.atI_get e2
              exact List.mem_of_getElem? e3)
            refine evt_test ((evf_op (evf_op (sto_fld T rfl (List.mem_cons_of_mem _ sto_mp) T.aStored rfl) hpart (rf_atO (ds := S.rows.map Row.sdat) (d := q.sdat) (List.mem_cons_of_mem _ sto_ma) (by rw [atI_map, e2]; rfl))) (evf_k (inEmpty T)) (rf_neD q.sdat_py (Row.sdat_py (.text "")) (shaped_spy hq) (shaped_spy (by decide +kernel)))).to ?_)
            rw [Row.eqv_spy]
          simp only [e1, e2]
          by_cases c : q = .text ""
          · rw [if_pos c]
            exact ht.to (by rw [decide_eq_true c]; rfl)
          · rw [if_neg c]
            exact ⟨ht.to (by rw [decide_eq_false c]; rfl), hpart⟩
      rw [c3] at hlc
      refine q_seq (q_set hlc (q_seq ?_))
      have hlen : EvF K w ((initD N_Store_turned [.v (.ref p), (Row.cat ps).dat, .v (.ref pp)]).set 3 (some (.lst (js.map .i)))) (stoL G p a n b h e S ++ W') (tCB (rLens K) (tCons (tVar 3) tNil)) (.i js.length) (stoL G p a n b h e S ++ W') := (evf_cb (eva_cons (evf_var rfl) eva_nil) cf_lenL).to (by rw [List.length_map])
      have hgt := evf_op (r := rGts) hlen (evf_c (x := .int 1)) rf_gtI
      have heq := evf_op (r := rEqs K) hlen (evf_c (x := .int 1)) (rf_eqS rfl)
      rw [hc] at ht
      match js, hgt, heq, ht, c2 with
      | [], hgt, heq, ht, c2 =>
        refine q_no ((evt_test hgt).to rfl) (q_next (q_ret (st_ret (evf_if ((evt_test heq).to rfl) (fun z => nomatch z) fun _ => ev_put T rfl (r := .text "") (evf_k (inEmpty T)) ok (Nat.zero_le _) ht) (hfin _ _))))
      | [j], hgt, heq, ht, c2 =>
        cases ht
        refine q_no ((evt_test hgt).to rfl) (q_next (q_ret (st_ret (evf_if ((evt_test heq).to rfl) (fun _ => evf_op (evf_var rfl) evf_c (rf_atL (atI_zero _ _))) fun z => nomatch z) (hfin _ _))))
      | j1 :: j2 :: js, hgt, heq, ht, c2 =>
        refine q_yes ((evt_test hgt).to (decide_eq_true (by simp only [List.length_cons]; omega))) (q_ret (st_ret (ev_put T rfl (r := .cat (j1 :: j2 :: js)) (evf_tup (eva_cons evf_c (eva_cons (evf_cb (eva_cons (evf_var rfl) eva_nil) cf_tupL) eva_nil)) (Nat.le_of_ble_eq_true rfl)) ok (Nat.le_trans c2 hpl) ht) (hfin _ _)))
  | nest m j =>
    refine q_no leaf (q_next (q_no (evt_test (ev_eqw (evd_word (r := .nest m j) (evf_var rfl)) (Row.word_cat (.nest m j)))) (q_next ?_)))
    rw [Sto.turned] at ht
    cases e1 : L2.atI pl j with
    | none => rw [e1] at ht; cases ht
    | some k =>
      cases e2 : L2.atI S.bare k with
      | none => simp only [e1, e2] at ht; cases ht
      | some b1 =>
        cases e3 : L2.atI S.rows k with
        | none => simp only [e1, e2, e3] at ht; cases ht
        | some q =>
          simp only [e1, e2, e3] at ht
          refine q_set (d := .i k) (ω1 := stoL G p a n b h e S ++ W') (evf_op (evf_var rfl) (evf_op (evf_var rfl) (evf_un evf_c uf_neg) (rf_atT (d := .i j) rfl)) (rf_atO (mpl S) (by rw [atI_map, e1]; rfl))) ?_
          refine q_if (b := b1 || decide (m = 0)) (ω1 := stoL G p a n b h e S ++ W') (evt_or (evt_B (evf_op (sto_f T rfl T.aBare rfl) (evf_var rfl) (rf_atO sto_mb (by rw [atI_map, e2]; rfl)))) (fun _ => evt_test ((evf_op (evf_sl (evf_var rfl) evo_none (evo_some evf_c) sf_tup) (evf_tup (eva_cons evf_c (eva_cons evf_c eva_nil)) (Nat.le_of_ble_eq_true rfl)) (rf_eqD (p := .tuple [.str "nest", .int m]) (q := .tuple [.str "nest", .int 0]) rfl rfl (shaped_nest m) (shaped_nest 0))).to ?_)) fun _ => rfl) (fun hb => ?_) fun hb => ?_
          · simp only [PyData.eqv, PyData.eqvAll]
            refine congrArg (fun b => Dat.v (V.bl b)) ?_
            rw [Bool.eq_iff_iff]
            simp
          · rw [if_pos hb] at ht
            cases ht
            exact q_ret (st_ret (evf_var rfl) (hfin _ _))
          · rw [if_neg (by rw [hb]; decide)] at ht
            refine q_next (q_set (d := q.sdat) (ω1 := stoL G p a n b h e S ++ W') (evf_op (sto_f T rfl T.aStored rfl) (evf_var rfl) (rf_atO sto_ma (by rw [atI_map, e3]; rfl))) ?_)
            refine q_no (evt_test (ev_eqw (evd_word (r := .nest m j) (evf_var rfl)) (Row.word_group (.nest m j)))) (q_next ?_)
            have fin : S.put (.nest m k) = some (S', i) → St K w (tRet (tMeth G.Store "put" (sp_Store_put K w G) [] E0 (tVar 0) (tCons (tOp (rPlus K) (tSl (rCut K) (tVar 1) tNoPart (tPart (tUn rNeg (tC (.int 1))))) (tTup (tCons (tVar 4) tNil))) tNil))) (((initD N_Store_turned [.v (.ref p), (Row.nest m j).dat, .v (.ref pp)]).set 4 (some (.i k))).set 5 (some q.sdat)) (stoL G p a n b h e S ++ W') { nx := fun _ ω1 => ∃ ω', (fun d ω' => d = Dat.i i ∧ ω' = stoL G p a n b h e S' ++ [(pp, .lst (pl.map .i))]) (.v .non) ω' ∧ (ω' ++ W).Sublist ω1, rt := fun d ω1 => ∃ ω', (fun d ω' => d = Dat.i i ∧ ω' = stoL G p a n b h e S' ++ [(pp, .lst (pl.map .i))]) d ω' ∧ (ω' ++ W).Sublist ω1 } := fun hp =>
              st_ret (ev_put T rfl (r := .nest m k) ((evf_op (evf_sl (evf_var rfl) evo_none (evo_some (evf_un evf_c uf_neg)) sf_tup) (evf_tup (eva_cons (evf_var rfl) eva_nil) (Nat.le_of_ble_eq_true rfl)) (rf_addT (Nat.le_of_ble_eq_true rfl))).to rfl) ok (Nat.le_of_ble_eq_true rfl) hp) (hfin _ _)
            have alg := evt_test (ev_eqw (z := "align") (evs_word (K := K) (w := w) (δ := (((initD N_Store_turned [.v (.ref p), (Row.nest m j).dat, .v (.ref pp)]).set 4 (some (.i k))).set 5 (some q.sdat))) (ω := stoL G p a n b h e S ++ W') (te := tVar 5) (r := q) (evf_var rfl)) q.word_align)
            have nst := evt_test (ev_eqw (z := "nest") (evs_word (K := K) (w := w) (δ := (((initD N_Store_turned [.v (.ref p), (Row.nest m j).dat, .v (.ref pp)]).set 4 (some (.i k))).set 5 (some q.sdat))) (ω := stoL G p a n b h e S ++ W') (te := tVar 5) (r := q) (evf_var rfl)) q.word_nest)
            have mine := evt_test (ev_eqw (z := "nest") (evd_word (K := K) (w := w) (δ := (((initD N_Store_turned [.v (.ref p), (Row.nest m j).dat, .v (.ref pp)]).set 4 (some (.i k))).set 5 (some q.sdat))) (ω := stoL G p a n b h e S ++ W') (te := tVar 1) (r := .nest m j) (evf_var rfl)) (Row.word_nest (.nest m j)))
            match q, ht, alg, nst, mine, fin with
            | .align z, ht, alg, nst, mine, fin =>
              cases ht
              exact q_yes alg (q_ret (st_ret (evf_var rfl) (hfin _ _)))
            | .nest m2 k2, ht, alg, nst, mine, fin =>
              refine q_no alg (q_next (q_if (b := decide (m + m2 ≤ 8)) (ω1 := stoL G p a n b h e S ++ W') ((evt_and mine (fun _ => evt_and nst (fun _ => evt_test (evf_op (evf_op (evf_op (evf_var rfl) evf_c (rf_atT rfl)) (evf_op (evf_var rfl) evf_c (rf_atT rfl)) rf_addI) evf_c rf_leI)) fun z => nomatch z) fun z => nomatch z).to rfl) (fun hb => ?_) fun hb => ?_))
              · simp only [if_pos (of_decide_eq_true hb)] at ht
                exact q_ret (st_ret (ev_put T rfl (r := .nest (m + m2) k2) (evf_tup (eva_cons evf_c (eva_cons (evf_op (evf_op (evf_var rfl) evf_c (rf_atT rfl)) (evf_op (evf_var rfl) evf_c (rf_atT rfl)) rf_addI) (eva_cons (evf_op (evf_var rfl) evf_c (rf_atT rfl)) eva_nil))) (Nat.le_of_ble_eq_true rfl)) ok (Nat.le_of_ble_eq_true rfl) ht) (hfin _ _))
              · simp only [if_neg (of_decide_eq_false hb)] at ht
                exact q_next (fin ht)
            | .text _, ht, alg, nst, mine, fin => exact q_no alg (q_next (q_no ((evt_and mine (fun _ => evt_and (c := false) nst (fun z => nomatch z) fun _ => rfl) fun z => nomatch z).to rfl) (q_next (fin ht))))
            | .line _, ht, alg, nst, mine, fin => exact q_no alg (q_next (q_no ((evt_and mine (fun _ => evt_and (c := false) nst (fun z => nomatch z) fun _ => rfl) fun z => nomatch z).to rfl) (q_next (fin ht))))
            | .hard, ht, alg, nst, mine, fin => exact q_no alg (q_next (q_no ((evt_and mine (fun _ => evt_and (c := false) nst (fun z => nomatch z) fun _ => rfl) fun z => nomatch z).to rfl) (q_next (fin ht))))
            | .cat _, ht, alg, nst, mine, fin => exact q_no alg (q_next (q_no ((evt_and mine (fun _ => evt_and (c := false) nst (fun z => nomatch z) fun _ => rfl) fun z => nomatch z).to rfl) (q_next (fin ht))))
            | .group _, ht, alg, nst, mine, fin => exact q_no alg (q_next (q_no ((evt_and mine (fun _ => evt_and (c := false) nst (fun z => nomatch z) fun _ => rfl) fun z => nomatch z).to rfl) (q_next (fin ht))))
  | align j =>
    refine q_no leaf (q_next (q_no (evt_test (ev_eqw (evd_word (r := .align j) (evf_var rfl)) (Row.word_cat (.align j)))) (q_next ?_)))
    rw [Sto.turned] at ht
    cases e1 : L2.atI pl j with
    | none => rw [e1] at ht; cases ht
    | some k =>
      cases e2 : L2.atI S.bare k with
      | none => simp only [e1, e2] at ht; cases ht
      | some b1 =>
        cases e3 : L2.atI S.rows k with
        | none => simp only [e1, e2, e3] at ht; cases ht
        | some q =>
          simp only [e1, e2, e3] at ht
          refine q_set (d := .i k) (ω1 := stoL G p a n b h e S ++ W') (evf_op (evf_var rfl) (evf_op (evf_var rfl) (evf_un evf_c uf_neg) (rf_atT (d := .i j) rfl)) (rf_atO (mpl S) (by rw [atI_map, e1]; rfl))) ?_
          refine q_if (b := b1) (ω1 := stoL G p a n b h e S ++ W') ((evt_or (c := false) (evt_B (evf_op (sto_f T rfl T.aBare rfl) (evf_var rfl) (rf_atO sto_mb (by rw [atI_map, e2]; rfl)))) (fun _ => evt_test ((evf_op (evf_sl (evf_var rfl) evo_none (evo_some evf_c) sf_tup) (evf_tup (eva_cons evf_c (eva_cons evf_c eva_nil)) (Nat.le_of_ble_eq_true rfl)) (rf_eqD (p := .tuple [.str "align", .int j]) (q := .tuple [.str "nest", .int 0]) rfl rfl (shaped_align j) (shaped_nest 0))).to ?_)) fun _ => rfl).to (Bool.or_false _)) (fun hb => ?_) fun hb => ?_
          · rw [PyData.eqv, PyData.eqvAll, eqv_strs, decide_eq_false (by decide +kernel)]
            rfl
          · subst hb
            cases ht
            exact q_ret (st_ret (evf_var rfl) (hfin _ _))
          · subst hb
            refine q_next (q_set (d := q.sdat) (ω1 := stoL G p a n b h e S ++ W') (evf_op (sto_f T rfl T.aStored rfl) (evf_var rfl) (rf_atO sto_ma (by rw [atI_map, e3]; rfl))) ?_)
            refine q_no (evt_test (ev_eqw (evd_word (r := .align j) (evf_var rfl)) (Row.word_group (.align j)))) (q_next ?_)
            have alg := evt_test (ev_eqw (z := "align") (evs_word (K := K) (w := w) (δ := (((initD N_Store_turned [.v (.ref p), (Row.align j).dat, .v (.ref pp)]).set 4 (some (.i k))).set 5 (some q.sdat))) (ω := stoL G p a n b h e S ++ W') (te := tVar 5) (r := q) (evf_var rfl)) q.word_align)
            have mine := evt_test (ev_eqw (z := "nest") (evd_word (K := K) (w := w) (δ := (((initD N_Store_turned [.v (.ref p), (Row.align j).dat, .v (.ref pp)]).set 4 (some (.i k))).set 5 (some q.sdat))) (ω := stoL G p a n b h e S ++ W') (te := tVar 1) (r := .align j) (evf_var rfl)) (Row.word_nest (.align j)))
            have fin : S.put (.align k) = some (S', i) → _ := fun hp => st_ret (O := { nx := fun _ ω1 => ∃ ω', (fun d ω' => d = Dat.i i ∧ ω' = stoL G p a n b h e S' ++ [(pp, .lst (pl.map .i))]) (.v .non) ω' ∧ (ω' ++ W).Sublist ω1, rt := fun d ω1 => ∃ ω', (fun d ω' => d = Dat.i i ∧ ω' = stoL G p a n b h e S' ++ [(pp, .lst (pl.map .i))]) d ω' ∧ (ω' ++ W).Sublist ω1 }) (ev_put (te := tOp (rPlus K) (tSl (rCut K) (tVar 1) tNoPart (tPart (tUn rNeg (tC (.int 1))))) (tTup (tCons (tVar 4) tNil))) (δ := (((initD N_Store_turned [.v (.ref p), (Row.align j).dat, .v (.ref pp)]).set 4 (some (.i k))).set 5 (some q.sdat))) (i := 0) (W := W') T rfl (r := .align k) ((evf_op (evf_sl (evf_var rfl) evo_none (evo_some (evf_un evf_c uf_neg)) sf_tup) (evf_tup (eva_cons (evf_var rfl) eva_nil) (Nat.le_of_ble_eq_true rfl)) (rf_addT (Nat.le_of_ble_eq_true rfl))).to rfl) ok (Nat.le_of_ble_eq_true rfl) hp) (hfin S' i)
            match q, ht, alg, mine, fin with
            | .align z, ht, alg, mine, fin =>
              cases ht
              exact q_yes alg (q_ret (st_ret (evf_var rfl) (hfin _ _)))
            | .nest _ _, ht, alg, mine, fin => exact q_no alg (q_next (q_no ((evt_and (c := false) mine (fun z => nomatch z) fun _ => rfl).to rfl) (q_next (fin ht))))
            | .text _, ht, alg, mine, fin => exact q_no alg (q_next (q_no ((evt_and (c := false) mine (fun z => nomatch z) fun _ => rfl).to rfl) (q_next (fin ht))))
            | .line _, ht, alg, mine, fin => exact q_no alg (q_next (q_no ((evt_and (c := false) mine (fun z => nomatch z) fun _ => rfl).to rfl) (q_next (fin ht))))
            | .hard, ht, alg, mine, fin => exact q_no alg (q_next (q_no ((evt_and (c := false) mine (fun z => nomatch z) fun _ => rfl).to rfl) (q_next (fin ht))))
            | .cat _, ht, alg, mine, fin => exact q_no alg (q_next (q_no ((evt_and (c := false) mine (fun z => nomatch z) fun _ => rfl).to rfl) (q_next (fin ht))))
            | .group _, ht, alg, mine, fin => exact q_no alg (q_next (q_no ((evt_and (c := false) mine (fun z => nomatch z) fun _ => rfl).to rfl) (q_next (fin ht))))
  | group j =>
    refine q_no leaf (q_next (q_no (evt_test (ev_eqw (evd_word (r := .group j) (evf_var rfl)) (Row.word_cat (.group j)))) (q_next ?_)))
    rw [Sto.turned] at ht
    cases e1 : L2.atI pl j with
    | none => rw [e1] at ht; cases ht
    | some k =>
      cases e2 : L2.atI S.bare k with
      | none => simp only [e1, e2] at ht; cases ht
      | some b1 =>
        cases e3 : L2.atI S.rows k with
        | none => simp only [e1, e2, e3] at ht; cases ht
        | some q =>
          simp only [e1, e2, e3] at ht
          refine q_set (d := .i k) (ω1 := stoL G p a n b h e S ++ W') (evf_op (evf_var rfl) (evf_op (evf_var rfl) (evf_un evf_c uf_neg) (rf_atT (d := .i j) rfl)) (rf_atO (mpl S) (by rw [atI_map, e1]; rfl))) ?_
          refine q_if (b := b1) (ω1 := stoL G p a n b h e S ++ W') ((evt_or (c := false) (evt_B (evf_op (sto_f T rfl T.aBare rfl) (evf_var rfl) (rf_atO sto_mb (by rw [atI_map, e2]; rfl)))) (fun _ => evt_test ((evf_op (evf_sl (evf_var rfl) evo_none (evo_some evf_c) sf_tup) (evf_tup (eva_cons evf_c (eva_cons evf_c eva_nil)) (Nat.le_of_ble_eq_true rfl)) (rf_eqD (p := .tuple [.str "group", .int j]) (q := .tuple [.str "nest", .int 0]) rfl rfl (shaped_group j) (shaped_nest 0))).to ?_)) fun _ => rfl).to (Bool.or_false _)) (fun hb => ?_) fun hb => ?_
          · rw [PyData.eqv, PyData.eqvAll, eqv_strs, decide_eq_false (by decide +kernel)]
            rfl
          · subst hb
            cases ht
            exact q_ret (st_ret (evf_var rfl) (hfin _ _))
          · subst hb
            refine q_next (q_set (d := q.sdat) (ω1 := stoL G p a n b h e S ++ W') (evf_op (sto_f T rfl T.aStored rfl) (evf_var rfl) (rf_atO sto_ma (by rw [atI_map, e3]; rfl))) ?_)
            refine q_yes (evt_test (ev_eqw (evd_word (r := .group j) (evf_var rfl)) (Row.word_group (.group j)))) (q_ret ?_)
            cases e4 : L2.atI S.hard k with
            | none => simp [e4] at ht
            | some h1 =>
              cases e5 : L2.atI S.direct k with
              | none => simp [e4, e5] at ht
              | some d1 =>
                simp only [e4, e5] at ht
                refine st_ret (evf_if (b := h1 || !d1) (ω1 := stoL G p a n b h e S ++ W') (evt_or (evt_B (evf_op (sto_f T rfl T.aHard rfl) (evf_var rfl) (rf_atO sto_mh (by rw [atI_map, e4]; rfl)))) (fun _ => evt_not (evt_B (evf_op (sto_f T rfl T.aDirect rfl) (evf_var rfl) (rf_atO sto_md (by rw [atI_map, e5]; rfl))))) fun _ => rfl) (fun hb => ?_) fun hb => ?_) (hfin S' i)
                · simp only [hb] at ht
                  cases ht
                  exact evf_var rfl
                · simp only [hb] at ht
                  exact ev_put T rfl (r := .group k) (evf_tup (eva_cons evf_c (eva_cons (evf_var rfl) eva_nil)) (Nat.le_of_ble_eq_true rfl)) ok (Nat.le_of_ble_eq_true rfl) ht
end
end FL

namespace FL
open PySem PySem.Spec PyProof.Rows L2
section
variable {K : PySem.W.Frag} {w : World} {G : Gs} {δ δ' : Dts} {ω ω' ω1 ω2 ω3 W : Led} {te ta tb tc to ti tv : TE} {ta' : TA} {tt tu : TT} {d x y z : Dat} {i j : Nat} {b : Bool} {ts tz t1 t2 : TS} {O : Out}
/-! ### what the store keeps -/
theorem Sto.put_ok {S S' : Sto} {r : Row} {n : Int} (ok : StoOk S) (hf : S.rows.all Row.fit = true) (hr : r.fit = true) (h : S.put r = some (S', n)) : StoOk S' ∧ S'.rows.all Row.fit = true := by
  cases hp : posR r 0 S.rows with
  | some m =>
    rw [Sto.put_old hp] at h
    cases h
    exact ⟨ok, hf⟩
  | none =>
    obtain ⟨bs, hs, ds, g1, g2, g3, hl, rfl, rfl⟩ := Sto.put_new hp h
    refine ⟨⟨by simp [ok.b], by simp [ok.h], by simp [ok.d], by simp; omega⟩, ?_⟩
    show (S.rows ++ [r]).all Row.fit = true
    rw [List.all_append, hf, List.all_cons, hr]
    rfl
theorem fit_mem {rs : List Row} {j : Int} {q : Row} (hf : rs.all Row.fit = true) (h : L2.atI rs j = some q) : q.fit = true := List.all_eq_true.mp hf q (by
  obtain ⟨k, _, e3, _⟩ := L2.atI_get h
  exact List.mem_of_getElem? e3)
theorem Sto.turned_ok {S S' : Sto} {pl : List Int} {r : Row} {n : Int} (ok : StoOk S) (hf : S.rows.all Row.fit = true) (hr : r.fit = true) (h : S.turned pl r = some (S', n)) : StoOk S' ∧ S'.rows.all Row.fit = true := by
  cases r with
  | text s => exact Sto.put_ok ok hf hr h
  | line s => exact Sto.put_ok ok hf hr h
  | hard => exact Sto.put_ok ok hf hr h
  | cat ps =>
    rw [Sto.turned] at h
    cases hc : catParts S pl ps with
    | none => rw [hc] at h; cases h
    | some js =>
      rw [hc] at h
      match js, hc, h with
      | [], hc, h => exact Sto.put_ok ok hf (by decide +kernel) h
      | [j], hc, h => cases h; exact ⟨ok, hf⟩
      | j1 :: j2 :: js, hc, h =>
        have := (catParts_some hc).2.1
        exact Sto.put_ok ok hf (show Row.fit (.cat (j1 :: j2 :: js)) = true from decide_eq_true (Nat.le_trans this (of_decide_eq_true hr))) h
  | nest m j =>
    rw [Sto.turned] at h
    cases e1 : L2.atI pl j with
    | none => rw [e1] at h; cases h
    | some k =>
      cases e2 : L2.atI S.bare k with
      | none => simp only [e1, e2] at h; cases h
      | some b1 =>
        cases e3 : L2.atI S.rows k with
        | none => simp only [e1, e2, e3] at h; cases h
        | some q =>
          simp only [e1, e2, e3] at h
          split at h
          · cases h; exact ⟨ok, hf⟩
          · split at h
            · cases h; exact ⟨ok, hf⟩
            · split at h <;> exact Sto.put_ok ok hf rfl h
            · exact Sto.put_ok ok hf rfl h
  | align j =>
    rw [Sto.turned] at h
    cases e1 : L2.atI pl j with
    | none => rw [e1] at h; cases h
    | some k =>
      cases e2 : L2.atI S.bare k with
      | none => simp only [e1, e2] at h; cases h
      | some b1 =>
        cases e3 : L2.atI S.rows k with
        | none => simp only [e1, e2, e3] at h; cases h
        | some q =>
          simp only [e1, e2, e3] at h
          split at h
          · cases h; exact ⟨ok, hf⟩
          · split at h
            · cases h; exact ⟨ok, hf⟩
            · exact Sto.put_ok ok hf rfl h
  | group j =>
    rw [Sto.turned] at h
    cases e1 : L2.atI pl j with
    | none => rw [e1] at h; cases h
    | some k =>
      cases e2 : L2.atI S.bare k with
      | none => simp only [e1, e2] at h; cases h
      | some b1 =>
        cases e3 : L2.atI S.rows k with
        | none => simp only [e1, e2, e3] at h; cases h
        | some q =>
          simp only [e1, e2, e3] at h
          split at h
          · cases h; exact ⟨ok, hf⟩
          · split at h
            · split at h
              · cases h; exact ⟨ok, hf⟩
              · exact Sto.put_ok ok hf rfl h
            · cases h

/-! ### the document of a store -/
def plD (pl : List (Int × Int)) : List (Key × Dat) := pl.map fun q => (.inl q.1, .i q.2)
theorem plD_look (a : Int) : ∀ pl, lookD (plD pl) (.inl a) = (lookP a pl).map .i
  | [] => rfl
  | q :: pl => by
    unfold lookD
    show Option.map _ (List.find? _ ((Sum.inl q.1, Dat.i q.2) :: plD pl)) = _
    rw [List.find?_cons, lookP]
    by_cases h : q.1 = a
    · rw [decide_eq_true (by rw [h]), if_pos h]
      rfl
    · rw [decide_eq_false (fun e => h (by injection e)), if_neg h]
      exact plD_look a pl
theorem plD_any (a : Int) : ∀ pl, lookP a pl = none → ((plD pl).any fun q => decide (q.1 = .inl a)) = false
  | [], _ => rfl
  | q :: pl, h => by
    rw [lookP] at h
    by_cases e : q.1 = a
    · rw [if_pos e] at h
      cases h
    · rw [if_neg e] at h
      show ((_ :: plD pl).any _) = false
      rw [List.any_cons, plD_any a pl h, decide_eq_false (fun z => e (by injection z))]
      rfl
theorem plD_put {a m : Int} {pl : List (Int × Int)} (h : lookP a pl = none) : putD (plD pl) (.inl a) (.i m) = plD (pl ++ [(a, m)]) := by
  unfold putD
  rw [plD_any a pl h, if_neg (by decide)]
  simp [plD]
theorem mapP_some {pl : List (Int × Int)} : ∀ {ps t : List Int}, mapP pl ps = some t → (∀ p ∈ ps, ∃ b, lookP p pl = some b) ∧ ps.map (fun p => (lookP p pl).getD 0) = t
  | [], t, h => by
    rw [mapP] at h
    cases h
    exact ⟨fun p hp => (nomatch hp), rfl⟩
  | p :: ps, t, h => by
    rw [mapP] at h
    cases e1 : lookP p pl with
    | none => rw [e1] at h; cases h
    | some b =>
      cases e2 : mapP pl ps with
      | none => rw [e1, e2] at h; cases h
      | some t' =>
        rw [e1, e2] at h
        cases h
        obtain ⟨h1, h2⟩ := mapP_some e2
        refine ⟨fun q hq => ?_, by rw [List.map_cons, e1, h2]; rfl⟩
        rcases List.mem_cons.mp hq with rfl | hq
        · exact ⟨b, e1⟩
        · exact h1 q hq
theorem mapP_length {pl : List (Int × Int)} {ps t : List Int} (h : mapP pl ps = some t) : t.length = ps.length := by
  rw [← (mapP_some h).2, List.length_map]
def entD (q : Int × Bool) : Dat := .tup [.i q.1, .b q.2]
def entP (q : Int × Bool) : PyData := .tuple [.int q.1, .bool q.2]
theorem pys_ents : ∀ st : List (Int × Bool), Dat.pys (st.map entD) = some (st.map entP)
  | [] => rfl
  | q :: st => by
    rw [List.map_cons, Dat.pys, pys_ents st]
    rfl
theorem lay_ents : ∀ st : List (Int × Bool), PyData.canLayAll0 (st.map entP) = true ∧ PyData.depthAll (st.map entP) ≤ 3
  | [] => ⟨rfl, by decide⟩
  | q :: st => by
    obtain ⟨a, b⟩ := lay_ents st
    have h1 : PyData.canLay0 (entP q) = true := rfl
    have h2 : PyData.depth (entP q) ≤ 3 := by simp [entP, PyData.depth, PyData.depthAll]
    simp only [List.map_cons, PyData.canLayAll0, PyData.depthAll, a, h1]
    exact ⟨rfl, by omega⟩
theorem shaped_ents (st : List (Int × Bool)) : SeqAt.shaped (.list (st.map entP)) = true := by
  obtain ⟨a, b⟩ := lay_ents st
  unfold SeqAt.shaped
  rw [Bool.and_eq_true]
  exact ⟨by rw [PyData.canLay0]; exact a, decide_eq_true (by rw [PyData.depth]; omega)⟩
abbrev docF (wa fo pq : Addr) (A B : List Dat) (C : List (Key × Dat)) (R : Led) : Led := (wa, .lst A) :: (fo, .lst B) :: (pq, .dk C) :: R
/-- list(row[1]) if row[0] == 'cat' else parts_of(row) -/
theorem ev_partsL {r : Row} {i : Nat} (h : δ[i]? = some (some r.sdat)) : EvF K w δ ω (tIf (tTest (tOp (rEqs K) (tOp (rAts K w) (tVar i) (tC (.int 0))) (tC (.str "cat")))) (tCB (rListOf K) (tCons (tOp (rAts K w) (tVar i) (tC (.int 1))) tNil)) (tCall (sp_parts_of K w G) [] E0 (tCons (tVar i) tNil))) (.lst (r.parts.map .i)) ω := by
  refine evf_if (b := r.isCat) (ω1 := ω) (evt_test (ev_eqw (evs_word (evf_var h)) r.word_cat)) (fun e => ?_) fun e => ?_
  · cases r with
    | cat ps => exact evf_cb (eva_cons (evf_op (evf_var h) evf_c (rf_atT rfl)) eva_nil) cf_listT
    | _ => cases e
  · have : r.sdat = r.dat := by cases r <;> first | rfl | cases e
    rw [this] at h
    exact evf_call (P := fun ds d => ∃ r : Row, ds = [r.dat] ∧ d = .lst (r.parts.map .i)) (eva_cons (evf_var h) eva_nil) ⟨r, rfl, rfl⟩
theorem ev_rowPut {r : Row} {inner : List Int} {i k : Nat} (h : δ[i]? = some (some r.sdat)) (hk : δ[k]? = some (some (.lst (inner.map .i)))) (hl : inner.length = r.parts.length) (hr : r.fit = true) :
    EvF K w δ ω (tIf (tTest (tOp (rEqs K) (tOp (rAts K w) (tVar i) (tC (.int 0))) (tC (.str "cat")))) (tTup (tCons (tC (.str "cat")) (tCons (tVar k) tNil))) (tOp (rPlus K) (tSl (rCut K) (tVar i) tNoPart (tPart (tOp rMinus (tCB (rLens K) (tCons (tVar i) tNil)) (tCB (rLens K) (tCons (tVar k) tNil))))) (tCB (rTupOf K) (tCons (tVar k) tNil)))) (r.put inner).dat ω := by
  refine evf_if (b := r.isCat) (ω1 := ω) (evt_test (ev_eqw (evs_word (evf_var h)) r.word_cat)) (fun e => ?_) fun e => ?_
  · cases r with
    | cat ps => exact evf_tup (eva_cons evf_c (eva_cons (evf_var hk) eva_nil)) (Nat.le_of_ble_eq_true rfl)
    | _ => cases e
  · have main : ∀ ds es : List Dat, r.sdat = .tup ds → inner.map Dat.i = es → (cutD ds none (some ((ds.length : Int) - es.length))).length + es.length ≤ sizeLine → EvF K w δ ω (tOp (rPlus K) (tSl (rCut K) (tVar i) tNoPart (tPart (tOp rMinus (tCB (rLens K) (tCons (tVar i) tNil)) (tCB (rLens K) (tCons (tVar k) tNil))))) (tCB (rTupOf K) (tCons (tVar k) tNil))) (.tup (cutD ds none (some ((ds.length : Int) - es.length)) ++ es)) ω := fun ds es e1 e2 hz => by
      rw [e1] at h
      rw [e2] at hk
      exact evf_op (evf_sl (evf_var h) evo_none (evo_some (evf_op (evf_cb (eva_cons (evf_var h) eva_nil) cf_lenT) (evf_cb (eva_cons (evf_var hk) eva_nil) cf_lenL) rf_subI)) sf_tup) (evf_cb (eva_cons (evf_var hk) eva_nil) cf_tupL) (rf_addT hz)
    cases r with
    | cat ps => cases e
    | text s =>
      cases inner with
      | nil => exact (main _ _ rfl rfl (Nat.le_of_ble_eq_true rfl)).to rfl
      | cons _ _ => cases hl
    | line s =>
      cases inner with
      | nil => exact (main _ _ rfl rfl (Nat.le_of_ble_eq_true rfl)).to rfl
      | cons _ _ => cases hl
    | hard =>
      cases inner with
      | nil => exact (main _ _ rfl rfl (Nat.le_of_ble_eq_true rfl)).to rfl
      | cons _ _ => cases hl
    | nest m j =>
      match inner, hl with
      | [q], hl => exact (main _ _ rfl rfl (Nat.le_of_ble_eq_true rfl)).to rfl
    | align j =>
      match inner, hl with
      | [q], hl => exact (main _ _ rfl rfl (Nat.le_of_ble_eq_true rfl)).to rfl
    | group j =>
      match inner, hl with
      | [q], hl => exact (main _ _ rfl rfl (Nat.le_of_ble_eq_true rfl)).to rfl
theorem fit_parts {r : Row} (h : r.fit = true) : r.parts.length ≤ 1000 := by
  cases r with
  | cat ps => exact of_decide_eq_true h
  | _ => exact Nat.le_of_ble_eq_true rfl
def t_Store_document (K : PySem.W.Frag) (w : World) (G : Gs) : TS :=
  (tSeq (tAsg tDNewK (gName 2))
  (tSeq (tAsg (tLst tNil) (gName 3))
  (tSeq (tAsg (tLst (tCons (tTup (tCons (tVar 1) (tCons (tC (.bl false)) tNil))) tNil)) (gName 4))
  (tSeq (tWhile (tTest (tOp (rNes K) (tVar 4) (tLst tNil)))
  (tSeq (tAsg (tBM0 K "list" rPop (tVar 4)) (gTup K 2 (gCons (gName 5) (gCons (gName 6) gNil))))
  (tSeq (tAsg (tOp (rAts K w) (tFld K (tVar 0) "stored") (tVar 5)) (gName 7))
  (tSeq (tAsg (tIf (tTest (tOp (rEqs K) (tOp (rAts K w) (tVar 7) (tC (.int 0))) (tC (.str "cat")))) (tCB (rListOf K) (tCons (tOp (rAts K w) (tVar 7) (tC (.int 1))) tNil)) (tCall (sp_parts_of K w G) [] E0 (tCons (tVar 7) tNil))) (gName 8))
  (tIfS (tAnd (tB (tVar 6)) (tTest (tOp (rNotIns K w) (tVar 5) (tVar 2))))
  (tSeq (tAsg (tCB (rLens K) (tCons (tVar 3) tNil)) (gSub (tVar 2) (tVar 5) (rSets K w)))
  (tSeq (tAsg (tLc (iList K (tVar 8)) (gName 10) tYes (tOp (rAts K w) (tVar 2) (tVar 10)) [10]) (gName 9))
  (tDrop (tBM K "list" rAppend (tVar 3) (tCons (tIf (tTest (tOp (rEqs K) (tOp (rAts K w) (tVar 7) (tC (.int 0))) (tC (.str "cat")))) (tTup (tCons (tC (.str "cat")) (tCons (tVar 9) tNil))) (tOp (rPlus K) (tSl (rCut K) (tVar 7) tNoPart (tPart (tOp rMinus (tCB (rLens K) (tCons (tVar 7) tNil)) (tCB (rLens K) (tCons (tVar 9) tNil))))) (tCB (rTupOf K) (tCons (tVar 9) tNil)))) tNil)))))
  (tIfS (tTest (tOp (rNotIns K w) (tVar 5) (tVar 2)))
  (tSeq (tDrop (tBM K "list" rAppend (tVar 4) (tCons (tTup (tCons (tVar 5) (tCons (tC (.bl true)) tNil))) tNil)))
  (tDrop (tBM K "list" rExtend (tVar 4) (tCons (tLc (iList K (tRevL K (tVar 8))) (gName 10) tYes (tTup (tCons (tVar 10) (tCons (tC (.bl false)) tNil))) [10]) tNil))))
  tNext))))))
  (tRet (tMake G.Doc (sp_Doc_init K w G) [] E0 (tCons (tVar 3) tNil)))))))
abbrev N_Store_document : List Str := ["self", "last", "places", "found", "waiting", "at", "is_open", "row", "parts", "inner", "part"]
def docC (G : Gs) : List Dat → Led → (Dat → Led → Prop) → Prop := fun ds ω R => ∃ p a n b h e S l out, ds = [.v (.ref p), Dat.i l] ∧ ω = stoL G p a n b h e S ∧ S.rows.all Row.fit = true ∧ docLoop S.rows 3000 [] [] [(l, false)] = some out ∧ docOk out = true ∧ R = fun d ω' => d = docD G out .any ∧ ω' = stoL G p a n b h e S
def sp_Store_document (K : PySem.W.Frag) (w : World) (G : Gs) : Sp := spM K w (docC G)
theorem pure_Store_document (T : Tx K w G) : ∀ vs H Q E, sp_Store_document K w G vs H Q E → t_Store_document K w G { nx := fun _ H' => Q .non H', rt := Q } (L2.start N_Store_document vs) H := spM_body fun ds ω W R hC => by
  obtain ⟨p, a, n, b, h, e, S, l, out, rfl, rfl, hfit, hloop, hout, rfl⟩ := hC
  generalize hR : stoL G p a n b h e S ++ W = R
  have mR : (p, stoO G a n b h e) ∈ R ∧ (a, Ow.lst (S.rows.map Row.sdat)) ∈ R := by rw [← hR]; exact ⟨sto_mp, sto_ma⟩
  refine q_new evn_dk fun pq => q_new (evn_lst eva_nil (Nat.le_of_ble_eq_true rfl)) fun fo => q_new (evn_lst (eva_cons (evf_tup (eva_cons (evf_var rfl) (eva_cons evf_c eva_nil)) (Nat.le_of_ble_eq_true rfl)) eva_nil) (Nat.le_of_ble_eq_true rfl)) fun wa => ?_
  refine st_nd fun hnd => ?_
  have nd : ∀ A B C, ((docF wa fo pq A B C R).map (·.1)).Nodup := fun A B C => hnd
  refine st_seq (N := fun δ' ω' => (∃ x5 x6 x7 x8 x9 x10, δ' = [some (.v (.ref p)), some (.i l), some (.v (.ref pq)), some (.v (.ref fo)), some (.v (.ref wa)), x5, x6, x7, x8, x9, x10]) ∧ ∃ A C, ω' = docF wa fo pq A (out.map Row.dat) C R) (st_while (m := 3000) (fun m δ' ω' => ∃ pl f st, docLoop S.rows m pl f st = some out ∧ pl.length + m ≤ 10000 ∧ f.length + m ≤ 10000 ∧ st.length + 2000 * m ≤ 6000001 ∧ (∃ x5 x6 x7 x8 x9 x10, δ' = [some (.v (.ref p)), some (.i l), some (.v (.ref pq)), some (.v (.ref fo)), some (.v (.ref wa)), x5, x6, x7, x8, x9, x10]) ∧ ω' = docF wa fo pq (st.reverse.map entD) (f.map Row.dat) (plD pl) R) ⟨[], [], [(l, false)], hloop, by decide, by decide, by simp, ⟨_, _, _, _, _, _, rfl⟩, rfl⟩ fun m δ' ω' hI => ?_) fun δ' ω' hN => ?_
  · obtain ⟨pl, f, st, hl, b1, b2, b3, ⟨x5, x6, x7, x8, x9, x10, rfl⟩, rfl⟩ := hI
    cases m with
    | zero => rw [docLoop] at hl; cases hl
    | succ m =>
    refine ⟨!decide (st = []), docF wa fo pq (st.reverse.map entD) (f.map Row.dat) (plD pl) R, evt_test ((evf_op (evf_var rfl) (evf_lst eva_nil (Nat.le_of_ble_eq_true rfl)) (rf_neO (y := .lst []) (ds := st.reverse.map entD) List.mem_cons_self (pys_ents _) rfl (shaped_ents _) (by decide))).to ?_), fun hb => ?_, fun hb => ?_⟩
    · refine congrArg (fun z => Dat.v (V.bl (!z))) ?_
      rw [PyData.eqv]
      cases st with
      | nil => rfl
      | cons q st =>
        rw [decide_eq_false (by simp), List.reverse_cons, List.map_append]
        cases (st.reverse.map entP) <;> rfl
    · cases st with
      | nil => simp at hb
      | cons q st =>
      obtain ⟨a1, op⟩ := q
      rw [docLoop] at hl
      cases e1 : L2.atI S.rows a1 with
      | none => simp only [e1] at hl; cases hl
      | some r =>
      have hr : r.fit = true := fit_mem hfit e1
      have hrp := fit_parts hr
      simp only [e1] at hl
      rw [List.reverse_cons, List.map_append]
      refine q_asg (ω1 := docF wa fo pq (st.reverse.map entD) (f.map Row.dat) (plD pl) R) (δ' := [some (.v (.ref p)), some (.i l), some (.v (.ref pq)), some (.v (.ref fo)), some (.v (.ref wa)), some (.i a1), some (.b op), x7, x8, x9, x10]) (us := [5, 6]) ?_ (tg_tup (ds := [.i a1, .b op]) (tgs_cons tg_name (tgs_cons tg_name tgs_nil)) rfl) ?_
      · have := evf_bm0 (K := K) (w := w) (δ := [some (.v (.ref p)), some (.i l), some (.v (.ref pq)), some (.v (.ref fo)), some (.v (.ref wa)), x5, x6, x7, x8, x9, x10]) (ω := docF wa fo pq (st.reverse.map entD ++ [(a1, op)].map entD) (f.map Row.dat) (plD pl) R) (to := tVar 4) (r := rPop) (T := "list") (evf_var rfl) (mf_pop (d := entD (a1, op)) List.mem_cons_self (by simp))
        rw [show putO (docF wa fo pq (st.reverse.map entD ++ [(a1, op)].map entD) (f.map Row.dat) (plD pl) R) wa (.lst (st.reverse.map entD ++ [(a1, op)].map entD).dropLast) = docF wa fo pq (st.reverse.map entD) (f.map Row.dat) (plD pl) R by
          rw [show (st.reverse.map entD ++ [(a1, op)].map entD).dropLast = st.reverse.map entD by simp]
          exact putO_at [] (nd _ _ _)] at this
        exact this
      refine q_set (d := r.sdat) (ω1 := docF wa fo pq (st.reverse.map entD) (f.map Row.dat) (plD pl) R) (evf_op (sto_fld T rfl (List.mem_cons_of_mem _ (List.mem_cons_of_mem _ (List.mem_cons_of_mem _ mR.1))) T.aStored rfl) (evf_var rfl) (rf_atO (ds := S.rows.map Row.sdat) (List.mem_cons_of_mem _ (List.mem_cons_of_mem _ (List.mem_cons_of_mem _ mR.2))) (by rw [atI_map, e1]; rfl))) ?_
      refine q_set (d := .lst (r.parts.map .i)) (ω1 := docF wa fo pq (st.reverse.map entD) (f.map Row.dat) (plD pl) R) (ev_partsL rfl) ?_
      have nin : ∀ δ, δ[5]? = some (some (.i a1)) → δ[2]? = some (some (.v (.ref pq))) → EvT K w δ (docF wa fo pq (st.reverse.map entD) (f.map Row.dat) (plD pl) R) (tTest (tOp (rNotIns K w) (tVar 5) (tVar 2))) (!(lookP a1 pl).isSome) (docF wa fo pq (st.reverse.map entD) (f.map Row.dat) (plD pl) R) := fun δ h5 h2 => by
        have := evt_test (evf_op (K := K) (w := w) (evf_var (ω := docF wa fo pq (st.reverse.map entD) (f.map Row.dat) (plD pl) R) h5) (evf_var h2) (rf_notInDk (k := .inl a1) (List.mem_cons_of_mem _ (List.mem_cons_of_mem _ List.mem_cons_self))))
        rw [plD_look, Option.isSome_map] at this
        exact this
      have isop : ∀ δ, δ[6]? = some (some (.b op)) → EvT K w δ (docF wa fo pq (st.reverse.map entD) (f.map Row.dat) (plD pl) R) (tB (tVar 6)) op (docF wa fo pq (st.reverse.map entD) (f.map Row.dat) (plD pl) R) := fun δ h => evt_B (evf_var h)
      have big : ∀ {k : Nat}, k ≤ 10000 → k < sizeLine := fun h => Nat.lt_of_le_of_lt h (by decide)
      cases e2 : lookP a1 pl with
      | some z =>
        simp only [e2] at hl nin
        refine st_no ((evt_and (isop _ rfl) (fun _ => nin _ rfl rfl) fun _ => rfl).to (by cases op <;> rfl)) (st_no (nin _ rfl rfl) (st_next ⟨m, Nat.lt_succ_self m, pl, f, st, hl, by omega, by omega, by simp only [List.length_cons] at b3; omega, ⟨_, _, _, _, _, _, rfl⟩, rfl⟩))
      | none =>
        simp only [e2] at hl nin
        cases op with
        | true =>
          cases e3 : mapP (pl ++ [(a1, (f.length : Int))]) r.parts with
          | none => simp only [e3] at hl; cases hl
          | some inner =>
          simp only [e3] at hl
          obtain ⟨m1, m2⟩ := mapP_some e3
          refine st_yes (evt_and (isop _ rfl) (fun _ => nin _ rfl rfl) fun z => nomatch z) ?_
          refine q_put (d := .i f.length) (x := .v (.ref pq)) (y := .v (kV (.inl a1))) ((evf_cb (eva_cons (evf_var rfl) eva_nil) (cf_lenO (ds := f.map Row.dat) (List.mem_cons_of_mem _ List.mem_cons_self))).to (by rw [List.length_map])) (evf_var rfl) (evf_var rfl) (wf_dk (kvs := plD pl) (List.mem_cons_of_mem _ (List.mem_cons_of_mem _ List.mem_cons_self)) (by simp only [plD, List.length_map]; exact big (by omega))) ?_
          rw [plD_put e2, show putO (docF wa fo pq (st.reverse.map entD) (f.map Row.dat) (plD pl) R) pq (.dk (plD (pl ++ [(a1, (f.length : Int))]))) = docF wa fo pq (st.reverse.map entD) (f.map Row.dat) (plD (pl ++ [(a1, (f.length : Int))])) R from putO_at [_, _] (nd _ _ _)]
          have hm := evf_map (K := K) (w := w) (ω := docF wa fo pq (st.reverse.map entD) (f.map Row.dat) (plD (pl ++ [(a1, (f.length : Int))])) R) (ω1 := docF wa fo pq (st.reverse.map entD) (f.map Row.dat) (plD (pl ++ [(a1, (f.length : Int))])) R) (δ := [some (.v (.ref p)), some (.i l), some (.v (.ref pq)), some (.v (.ref fo)), some (.v (.ref wa)), some (.i a1), some (.b true), some r.sdat, some (.lst (r.parts.map .i)), x9, x10]) (j := 10) (vs := [10]) (te := tOp (rAts K w) (tVar 2) (tVar 10)) (fun d => match d with | .v (.int q) => .i ((lookP q (pl ++ [(a1, (f.length : Int))])).getD 0) | _ => .any) (evi_list (te := tVar 8) (evf_var rfl)) (by rw [List.length_map]; exact Nat.lt_of_le_of_lt hrp (by decide)) (by simp) fun d hd q o => by
            obtain ⟨p0, hp0, rfl⟩ := List.mem_map.mp hd
            obtain ⟨b0, hb0⟩ := m1 p0 hp0
            refine evf_op (evf_var rfl) (evf_var rfl) (rf_atDk (kvs := plD (pl ++ [(a1, (f.length : Int))])) (k := .inl p0) (List.mem_cons_of_mem _ (List.mem_cons_of_mem _ (List.mem_cons_of_mem _ List.mem_cons_self))) ?_)
            show _ = some (Dat.i ((lookP p0 (pl ++ [(a1, (f.length : Int))])).getD 0))
            rw [plD_look, hb0]
            rfl
          have em : (r.parts.map Dat.i).map (fun d => match d with | .v (.int q) => Dat.i ((lookP q (pl ++ [(a1, (f.length : Int))])).getD 0) | _ => .any) = inner.map .i := by
            rw [List.map_map, ← m2, List.map_map]
            rfl
          rw [em] at hm
          refine q_set hm (st_append (p := fo) (ds := f.map Row.dat) (d := (r.put inner).dat) (evf_var rfl) (ev_rowPut rfl rfl (mapP_length e3) hr) (List.mem_cons_of_mem _ List.mem_cons_self) (List.mem_cons_of_mem _ List.mem_cons_self) (by rw [List.length_map]; exact big (by omega)) (putO_at [_] (nd _ _ _)) ⟨m, Nat.lt_succ_self m, pl ++ [(a1, (f.length : Int))], f ++ [r.put inner], st, hl, by simp; omega, by simp; omega, by simp only [List.length_cons] at b3; omega, ⟨_, _, _, _, _, _, rfl⟩, ?_⟩)
          rw [List.map_append]
          rfl
        | false =>
          simp only at hl
          refine st_no ((evt_and (c := false) (isop _ rfl) (fun z => nomatch z) fun _ => rfl).to rfl) (st_yes (nin _ rfl rfl) ?_)
          refine q_append (p := wa) (ds := st.reverse.map entD) (d := entD (a1, true)) (evf_var rfl) (evf_tup (eva_cons (evf_var rfl) (eva_cons evf_c eva_nil)) (Nat.le_of_ble_eq_true rfl)) List.mem_cons_self List.mem_cons_self (by simp only [List.length_map, List.length_reverse, List.length_cons] at b3 ⊢; exact Nat.lt_of_le_of_lt (show st.length ≤ 6000001 by omega) (by decide)) (putO_at [] (nd _ _ _)) ?_
          have hm := evf_map (K := K) (w := w) (ω := docF wa fo pq (st.reverse.map entD ++ [entD (a1, true)]) (f.map Row.dat) (plD pl) R) (ω1 := docF wa fo pq (st.reverse.map entD ++ [entD (a1, true)]) (f.map Row.dat) (plD pl) R) (δ := [some (.v (.ref p)), some (.i l), some (.v (.ref pq)), some (.v (.ref fo)), some (.v (.ref wa)), some (.i a1), some (.b false), some r.sdat, some (.lst (r.parts.map .i)), x9, x10]) (j := 10) (vs := [10]) (te := tTup (tCons (tVar 10) (tCons (tC (.bl false)) tNil))) (fun d => .tup [d, .b false]) (evi_list (te := tRevL K (tVar 8)) (evf_rev (evf_var rfl))) (by rw [List.length_reverse, List.length_map]; exact Nat.lt_of_le_of_lt hrp (by decide)) (by simp) fun d hd q o => evf_tup (eva_cons (evf_var rfl) (eva_cons evf_c eva_nil)) (Nat.le_of_ble_eq_true rfl)
          refine st_drop (evf_bm (evf_var rfl) (eva_cons hm eva_nil) (tyO_list List.mem_cons_self) (mf_extend List.mem_cons_self ?_)) ⟨m, Nat.lt_succ_self m, pl, f, r.parts.map (·, false) ++ (a1, true) :: st, hl, by omega, by omega, ?_, ⟨_, _, _, _, _, _, rfl⟩, ?_⟩
          · simp only [List.length_append, List.length_map, List.length_reverse, List.length_cons, List.length_nil] at b3 ⊢
            exact Nat.le_trans (show _ ≤ 6010000 by omega) (by decide)
          · simp only [List.length_append, List.length_map, List.length_cons] at b3 ⊢
            omega
          · refine (putO_at [] (nd _ _ _)).trans ?_
            simp only [List.nil_append, List.reverse_append, List.reverse_cons, List.map_append, List.map_cons, List.map_nil, List.map_reverse, List.map_map, docF]
            rfl
    · have : st = [] := by simpa using hb
      subst this
      rw [docLoop] at hl
      cases hl
      exact ⟨⟨_, _, _, _, _, _, rfl⟩, _, _, rfl⟩
  · obtain ⟨⟨x5, x6, x7, x8, x9, x10, rfl⟩, A, C, rfl⟩ := hN
    refine st_ret (evf_Doc T (eva_cons (evf_freeze (ω' := R) (evf_var rfl) (List.mem_cons_of_mem _ List.mem_cons_self) (((List.sublist_cons_self _ _).trans (List.sublist_cons_self _ _)).trans (List.sublist_cons_self _ _)) fun F H A => ?_) eva_nil) hout) ⟨_, ⟨rfl, rfl⟩, by rw [hR]; exact .refl _⟩
    have := A.nd
    simp only [List.map_cons, List.nodup_cons, List.mem_cons, not_or] at this
    exact this.2.1.2
end
end FL

namespace FL
open PySem PySem.Spec PyProof.Rows L2
section
variable {K : PySem.W.Frag} {w : World} {G : Gs} {δ δ' : Dts} {ω ω' ω1 ω2 ω3 W : Led} {te ta tb tc to ti tv : TE} {ta' : TA} {tt tu : TT} {d x y z : Dat} {i j : Nat} {b : Bool} {ts tz t1 t2 : TS} {O : Out}
theorem sto_turned : ("turned" : Str) ∉ ([("stored" : Str), "numbers", "bare", "hard", "direct"] : List Str) := by decide +kernel
theorem sto_document : ("document" : Str) ∉ ([("stored" : Str), "numbers", "bare", "hard", "direct"] : List Str) := by decide +kernel
/-- store.turned(row, places) -/
theorem ev_turned {p a n b h e pp : Addr} {S S' : Sto} {pl : List Int} {r : Row} {m : Int} {tr tp : TE} (T : Tx K w G) (hv : δ[i]? = some (some (.v (.ref p))))
    (hr : EvF K w δ ((pp, .lst (pl.map .i)) :: (stoL G p a n b h e S ++ W)) tr r.dat ((pp, .lst (pl.map .i)) :: (stoL G p a n b h e S ++ W))) (hp : EvF K w δ ((pp, .lst (pl.map .i)) :: (stoL G p a n b h e S ++ W)) tp (.v (.ref pp)) ((pp, .lst (pl.map .i)) :: (stoL G p a n b h e S ++ W)))
    (ok : StoOk S) (hf : S.rows.all Row.fit = true) (hrf : r.fit = true) (ht : S.turned pl r = some (S', m)) :
    EvF K w δ ((pp, .lst (pl.map .i)) :: (stoL G p a n b h e S ++ W)) (tMeth G.Store "turned" (sp_Store_turned K w G) [] E0 (tVar i) (tCons tr (tCons tp tNil))) (.i m) ((pp, .lst (pl.map .i)) :: (stoL G p a n b h e S' ++ W)) := fun F H σ E Q q =>
  evm_meth (C := turnC G) (W := W) (evf_var hv) (List.mem_cons_of_mem _ sto_mp) sto_turned (eva_cons hr (eva_cons hp eva_nil)) ⟨p, a, n, b, h, e, S, r, pp, pl, S', m, rfl, rfl, ok, hf, hrf, ht, rfl⟩ (by
    rw [List.append_assoc]
    exact List.perm_middle.symm) F H σ E Q fun d ω' x F' H' hR g E' hm => by
      obtain ⟨ω3, ⟨rfl, rfl⟩, rfl⟩ := hR
      refine q x F' H' g (E'.perm ?_) hm
      rw [List.append_assoc]
      exact List.perm_middle
def t_simplified (K : PySem.W.Frag) (w : World) (G : Gs) : TS :=
  (tSeq (tDrop (tCall (sp_check_doc K w G) [] E0 (tCons (tVar 0) tNil)))
  (tSeq (tAsg (tMake G.Store (sp_Store_init K w G) [] E0 tNil) (gName 1))
  (tSeq (tAsg (tLst tNil) (gName 2))
  (tSeq (tFor (iList K (tFld K (tVar 0) "rows")) (gName 3)
  (tDrop (tBM K "list" rAppend (tVar 2) (tCons (tMeth G.Store "turned" (sp_Store_turned K w G) [] E0 (tVar 1) (tCons (tVar 3) (tCons (tVar 2) tNil))) tNil))))
  (tRet (tMeth G.Store "document" (sp_Store_document K w G) [] E0 (tVar 1) (tCons (tOp (rAts K w) (tVar 2) (tUn rNeg (tC (.int 1)))) tNil)))))))
abbrev N_simplified : List Str := ["doc", "store", "places", "row"]
def sp_simplified (K : PySem.W.Frag) (w : World) (G : Gs) : Sp := spM K w (pureC fun ds d => ∃ rs x out, ds = [docD G rs x] ∧ rs.all Row.fit = true ∧ rs.length ≤ 1000 ∧ simp? rs = some out ∧ d = docD G out .any)
theorem pure_simplified (T : Tx K w G) : ∀ vs H Q E, sp_simplified K w G vs H Q E → t_simplified K w G { nx := fun _ H' => Q .non H', rt := Q } (L2.start N_simplified vs) H := pure_body fun ds d W hP => by
  obtain ⟨rs, x, out, rfl, hf, hl, hs, rfl⟩ := hP
  unfold simp? at hs
  cases ht : turnAll .new [] rs with
  | none => rw [ht] at hs; cases hs
  | some SP =>
  obtain ⟨S1, pl1⟩ := SP
  rw [ht] at hs
  cases hlast : L2.atI pl1 (-1) with
  | none => simp only [hlast] at hs; cases hs
  | some l =>
  simp only [hlast] at hs
  cases hd : docLoop S1.rows 3000 [] [] [(l, false)] with
  | none => simp only [hd] at hs; cases hs
  | some out' =>
  simp only [hd] at hs
  by_cases ho : docOk out' = true
  · rw [if_pos ho] at hs
    cases hs
    refine q_drop (d := .v .non) (ω1 := W) (evf_call (P := fun ds d => ∃ rs x, ds = [docD G rs x] ∧ d = .v .non) (eva_cons (evf_var rfl) eva_nil) ⟨rs, x, rfl, rfl⟩) ?_
    refine q_setM (evm_Store T) fun d ω1 hR => ?_
    obtain ⟨p, a, n, b, h, e, rfl, rfl⟩ := hR
    refine q_new (evn_lst eva_nil (Nat.le_of_ble_eq_true rfl)) fun pp => ?_
    refine st_seq (N := fun δ' ω' => (∃ x3, δ' = [some (docD G rs x), some (.v (.ref p)), some (.v (.ref pp)), x3]) ∧ ω' = (pp, .lst (pl1.map .i)) :: (stoL G p a n b h e S1 ++ W) ∧ S1.rows.all Row.fit = true) (st_for (us := [3]) (es := rs.map Row.dat) (evi_list (evf_fldI (evf_var rfl) T.kDoc T.aRows rfl)) (fun i δ' ω' => ∃ S pl, turnAll S pl (rs.drop i) = some (S1, pl1) ∧ StoOk S ∧ S.rows.all Row.fit = true ∧ pl.length = i ∧ i ≤ rs.length ∧ (∃ x3, δ' = [some (docD G rs x), some (.v (.ref p)), some (.v (.ref pp)), x3]) ∧ ω' = (pp, .lst (pl.map .i)) :: (stoL G p a n b h e S ++ W)) ⟨.new, [], ht, ⟨rfl, rfl, rfl, Nat.zero_le _⟩, rfl, rfl, Nat.zero_le _, ⟨none, rfl⟩, rfl⟩ (fun i d δ' ω' ed hI => ?_) fun δ' ω' hI => ?_) fun δ' ω' hN => ?_
    · obtain ⟨S, pl, h1, h2, h3, h4, h5, ⟨x3, rfl⟩, rfl⟩ := hI
      rw [List.getElem?_map] at ed
      obtain ⟨r, er, rfl⟩ := Option.map_eq_some_iff.mp ed
      have hi : i < rs.length := (List.getElem?_eq_some_iff.mp er).1
      have hdr : rs.drop i = r :: rs.drop (i + 1) := by
        rw [List.drop_eq_getElem_cons hi]
        congr 1
        exact (List.getElem?_eq_some_iff.mp er).2
      rw [hdr, turnAll] at h1
      cases e1 : S.turned pl r with
      | none => rw [e1] at h1; cases h1
      | some Si =>
      obtain ⟨S', m⟩ := Si
      rw [e1] at h1
      have hrf : r.fit = true := List.all_eq_true.mp hf r (List.mem_of_getElem? er)
      obtain ⟨k1, k2⟩ := Sto.turned_ok h2 h3 hrf e1
      refine ⟨_, tg_name, st_nd fun hnd => st_append (p := pp) (ds := pl.map .i) (d := .i m) (ω1 := (pp, .lst (pl.map .i)) :: (stoL G p a n b h e S ++ W)) (ω2 := (pp, .lst (pl.map .i)) :: (stoL G p a n b h e S' ++ W)) (ω' := (pp, .lst ((pl ++ [m]).map .i)) :: (stoL G p a n b h e S' ++ W)) (evf_var rfl) (ev_turned T rfl (evf_var rfl) (evf_var rfl) h2 h3 hrf e1) List.mem_cons_self List.mem_cons_self (by rw [List.length_map, h4]; exact Nat.lt_of_lt_of_le hi (Nat.le_trans hl (by decide))) ?_ ⟨S', pl ++ [m], h1, k1, k2, by simp [h4], hi, ⟨_, rfl⟩, rfl⟩⟩
      rw [List.map_append]
      exact putO_at [] hnd
    · obtain ⟨S, pl, h1, h2, h3, h4, h5, h6, rfl⟩ := hI
      rw [List.length_map, List.drop_length, turnAll] at h1
      cases h1
      exact ⟨h6, rfl, h3⟩
    · obtain ⟨⟨x3, rfl⟩, rfl, hfit⟩ := hN
      refine st_retM (evm_meth (C := docC G) (ω3 := stoL G p a n b h e S1) (W := (pp, .lst (pl1.map .i)) :: W) (evf_var rfl) (List.mem_cons_of_mem _ sto_mp) sto_document (eva_cons (x := .i l) (evf_op (evf_var rfl) (evf_un evf_c uf_neg) (rf_atO (ds := pl1.map .i) List.mem_cons_self (by rw [show (-1 : Int) = -1 from rfl, atI_map, hlast]; rfl))) eva_nil) ⟨p, a, n, b, h, e, S1, l, out, rfl, rfl, hfit, hd, ho, rfl⟩ List.perm_middle.symm) fun d ω1 hR => ?_
      obtain ⟨ω3, ⟨rfl, rfl⟩, rfl⟩ := hR
      exact ⟨rfl, (List.sublist_cons_self _ _).trans (List.sublist_append_right _ _)⟩
  · rw [if_neg ho] at hs
    cases hs
def t_is_simple (K : PySem.W.Frag) (w : World) (G : Gs) : TS :=
  (tRet (tOp (rEqC G.Doc (sp_Doc_eq K w G)) (tCall (sp_simplified K w G) [] E0 (tCons (tVar 0) tNil)) (tVar 0)))
abbrev N_is_simple : List Str := ["doc"]
def sp_is_simple (K : PySem.W.Frag) (w : World) (G : Gs) : Sp := spM K w (pureC fun ds d => ∃ rs x out, ds = [docD G rs x] ∧ rs.all Row.fit = true ∧ rs.length ≤ 1000 ∧ simp? rs = some out ∧ d = .b (decide (out = rs)))
theorem simp_fit {rs out : List Row} (h : simp? rs = some out) : docOk out = true := by
  unfold simp? at h
  split at h
  · split at h
    · split at h
      · split at h
        · rename_i h2
          cases h
          exact h2
        · cases h
      · cases h
    · cases h
  · cases h
theorem pure_is_simple (T : Tx K w G) : ∀ vs H Q E, sp_is_simple K w G vs H Q E → t_is_simple K w G { nx := fun _ H' => Q .non H', rt := Q } (L2.start N_is_simple vs) H := pure_body fun ds d W hP => by
  obtain ⟨rs, x, out, rfl, hf, hl, hs, rfl⟩ := hP
  refine st_ret (evf_eqC (P := fun ds d => ∃ rs qs x y, ds = [docD G rs x, docD G qs y] ∧ rs.all Row.fit = true ∧ qs.all Row.fit = true ∧ d = .b (decide (rs = qs))) (evf_call (P := fun ds d => ∃ rs x out, ds = [docD G rs x] ∧ rs.all Row.fit = true ∧ rs.length ≤ 1000 ∧ simp? rs = some out ∧ d = docD G out .any) (eva_cons (evf_var rfl) eva_nil) ⟨rs, x, out, rfl, hf, hl, hs, rfl⟩) (evf_var rfl) ⟨out, rs, .any, x, rfl, okRows_fit (docOk_len (simp_fit hs)).2.2, hf, rfl⟩) ⟨rfl, .refl _⟩
end
end FL

namespace FL
open PySem PySem.Spec PyProof.Rows L2
section
variable {K : PySem.W.Frag} {w : World} {G : Gs} {δ δ' : Dts} {ω ω' ω1 ω2 ω3 W : Led} {te ta tb tc to ti tv : TE} {ta' : TA} {tt tu : TT} {d x y z : Dat} {i j : Nat} {b : Bool} {ts tz t1 t2 : TS} {O : Out}
/-! ### more rules -/
/-- a new list of one's own by + -/
theorem evn_addL {xs ys : List Dat} (ha : EvF K w δ ω ta (.lst xs) ω1) (hb : EvF K w δ ω1 tb (.lst ys) ω2) (h : xs.length + ys.length ≤ sizeLine) : EvN K w δ ω (tOp (rPlus K) ta tb) (.lst (xs ++ ys)) ω2 := fun F H σ E Q q =>
  ha F H σ E _ fun v F1 H1 g1 E1 m1 => hb F1 H1 σ E1 _ fun u F2 H2 g2 E2 m2 => by
    obtain ⟨a, vs, rfl, ha, la⟩ := (m1.mono g2).atL
    obtain ⟨c, us, rfl, hc, lc⟩ := m2.atL
    exact .inr (.inr (.inl ⟨a, c, vs, us, rfl, rfl, E2.gr _ _ ha, E2.gr _ _ hc, by rw [la.length, lc.length]; exact h, fun p n => q p F2 _ (g1.trans g2) (E2.own n ⟨_, upd_same, la.append lc⟩)⟩))
theorem rf_addO {p : Addr} {xs ys : List Dat} (m : (p, Ow.lst xs) ∈ ω) (h : xs.length + ys.length ≤ sizeLine) : RF K w δ ω (rPlus K) (.v (.ref p)) (.lst ys) (.lst (xs ++ ys)) := fun F H σ E v u hv hu Q q => by
  obtain ⟨_, vs, ha, la⟩ := E.ow _ _ m
  obtain ⟨c, us, rfl, hc, lc⟩ := hu.atL
  rw [hv.eqv]
  exact .inr (.inr (.inl ⟨p, c, vs, us, rfl, rfl, ha, E.gr _ _ hc, by rw [la.length, lc.length]; exact h, fun p n => q _ _ _ (Nx.new E.gr n) ((la.append lc).lstNew (E.gr.fresh n))⟩))
/-- a new thing of one's own is returned -/
theorem st_retNew {o : Ow} (h : EvN K w δ ω te o ω1) (k : ∀ p, O.rt (.v (.ref p)) ((p, o) :: ω1)) : St K w (tRet te) δ ω O := fun F H σ D E n r b c =>
  h F H σ E _ fun p F1 H1 g1 E1 => r _ _ _ F1 H1 (k p) g1 E1.toKnA .v
theorem evm_op {r : R2} {x : Dat} {R R' : Dat → Led → Prop} (ha : EvF K w δ ω ta x ω1) (hb : EvM K w δ ω1 tb R) (hr : ∀ y ω2, R y ω2 → ∃ z, RF K w δ ω2 r x y z ∧ R' z ω2) : EvM K w δ ω (tOp r ta tb) R' := fun F H σ E Q q =>
  ha F H σ E _ fun v F1 H1 g1 E1 m1 => hb F1 H1 σ E1 _ fun y ω2 u F2 H2 hR g2 E2 m2 => by
    obtain ⟨z, h1, h2⟩ := hr y ω2 hR
    exact h1 F2 H2 σ E2 v u (m1.mono g2) m2 Q fun z' F3 H3 nx m3 => q z ω2 z' F3 H3 h2 ((g1.trans g2).trans nx.f) (E2.nx nx) m3
/-! ### the law's own draws -/
def t__law_cell_at (K : PySem.W.Frag) (w : World) (G : Gs) : TS :=
  (tSeq (tIfS (tTest (tOp rLts (tVar 1) (tCB (rLens K) (tCons (tVar 0) tNil))))
  (tRet (tOp (rAts K w) (tVar 0) (tVar 1)))
  tNext)
  (tRet (tC (.int 0))))
abbrev N__law_cell_at : List Str := ["_law_script", "_law_k"]
def sp__law_cell_at (K : PySem.W.Frag) (w : World) (G : Gs) : Sp := spM K w (pureC fun ds d => ∃ (ns : List Int) (k : Nat), ds = [.scr ns, .i k] ∧ d = .i ((ns[k]?).getD 0))
theorem pure__law_cell_at : ∀ vs H Q E, sp__law_cell_at K w G vs H Q E → t__law_cell_at K w G { nx := fun _ H' => Q .non H', rt := Q } (L2.start N__law_cell_at vs) H := pure_body fun ds d W hP => by
  obtain ⟨ns, k, rfl, rfl⟩ := hP
  refine q_if (b := decide ((k : Int) < ns.length)) (ω1 := W) (evt_test (evf_op (evf_var rfl) (evf_cb (eva_cons (evf_var rfl) eva_nil) cf_lenScr) rf_ltI)) (fun h => ?_) fun h => ?_
  · have hk : k < ns.length := by have := of_decide_eq_true h; omega
    refine q_ret (st_ret (evf_op (evf_var rfl) (evf_var rfl) (rf_atScr (n := ns[k]) (L2.atI_nat (List.getElem?_eq_getElem hk)))) ⟨?_, .refl _⟩)
    rw [List.getElem?_eq_getElem hk]
    rfl
  · have hk : ¬ k < ns.length := by have := of_decide_eq_false h; omega
    refine q_next (st_ret evf_c ⟨?_, .refl _⟩)
    rw [List.getElem?_eq_none (by omega)]
    rfl
abbrev srcO (a b c : Int) : Ow := .lst [.i a, .i b, .i c]
def t__law_source_of (K : PySem.W.Frag) (w : World) (G : Gs) : TS :=
  (tSeq (tAsg (tIf (tTest (tOp rGes (tVar 0) (tC (.int 0)))) (tVar 0) (tOp rMinus (tOp rMinus (tC (.int 0)) (tOp rTimes (tC (.int 3)) (tVar 0))) (tC (.int 1)))) (gName 0))
  (tRet (tLst (tCons (tOp rTimes (tVar 0) (tCB rInt1 (tCons (tOp rGes (tVar 0) (tOp rPow (tC (.int 10)) (tC (.int 18)))) tNil))) (tCons (tOp rMod (tCB rInt1 (tCons (tVar 0) tNil)) (tC (.int 2147483647))) (tCons (tC (.int 0)) tNil))))))
abbrev N__law_source_of : List Str := ["_law_cell"]
def srcC : List Dat → Led → (Dat → Led → Prop) → Prop := fun ds ω R => ∃ c : Int, ds = [.i c] ∧ ω = [] ∧ R = fun d ω' => ∃ p a b, d = .v (.ref p) ∧ ω' = [(p, srcO a b 0)]
def sp__law_source_of (K : PySem.W.Frag) (w : World) (G : Gs) : Sp := spM K w srcC
theorem pure__law_source_of : ∀ vs H Q E, sp__law_source_of K w G vs H Q E → t__law_source_of K w G { nx := fun _ H' => Q .non H', rt := Q } (L2.start N__law_source_of vs) H := spM_body fun ds ω W R hC => by
  obtain ⟨c, rfl, rfl, rfl⟩ := hC
  have main : ∀ c : Int, St K w (tRet (tLst (tCons (tOp rTimes (tVar 0) (tCB rInt1 (tCons (tOp rGes (tVar 0) (tOp rPow (tC (.int 10)) (tC (.int 18)))) tNil))) (tCons (tOp rMod (tCB rInt1 (tCons (tVar 0) tNil)) (tC (.int 2147483647))) (tCons (tC (.int 0)) tNil))))) [some (.i c)] W { nx := fun _ _ => False, rt := fun d ω1 => ∃ ω', (∃ p a b, d = .v (.ref p) ∧ ω' = [(p, srcO a b 0)]) ∧ (ω' ++ W).Sublist ω1 } := fun c => by
    refine st_retNew (evn_lst (eva_cons (evf_op (evf_var rfl) (evf_cb (eva_cons (evf_op (evf_var rfl) (evf_op evf_c evf_c (rf_pow (by decide))) rf_geI) eva_nil) cf_intB) (rf_mulI (.inr ?_))) (eva_cons (evf_op (evf_cb (eva_cons (evf_var rfl) eva_nil) cf_intI) evf_c (rf_mod (by decide))) (eva_cons evf_c eva_nil))) (Nat.le_of_ble_eq_true rfl)) fun p => ⟨_, ⟨p, _, _, rfl, rfl⟩, .refl _⟩
    split <;> decide
  refine q_set (d := .i (if (0 : Int) ≤ c then c else 0 - 3 * c - 1)) (ω1 := W) (evf_if (b := decide ((0 : Int) ≤ c)) (ω1 := W) (evt_test (evf_op (evf_var rfl) evf_c rf_geI)) (fun h => ?_) fun h => ?_) (st_weak (main _) (fun _ _ z => z.elim) (fun _ _ z => z) (fun _ _ z => z) fun _ _ z => z)
  · rw [if_pos (of_decide_eq_true h)]
    exact evf_var rfl
  · rw [if_neg (of_decide_eq_false h)]
    exact evf_op (evf_op evf_c (evf_op evf_c (evf_var rfl) (rf_mulI (.inl (by decide)))) rf_subI) evf_c rf_subI
def t__law_next (K : PySem.W.Frag) (w : World) (G : Gs) : TS :=
  (tSeq (tIfS (tTest (tOp rGts (tOp (rAts K w) (tVar 0) (tC (.int 0))) (tC (.int 0))))
  (tSeq (tAsg (tOp rMod (tCB rInt1 (tCons (tOp (rAts K w) (tVar 0) (tC (.int 0))) tNil)) (tVar 1)) (gName 2))
  (tSeq (tAsg (tOp rFdiv (tOp (rAts K w) (tVar 0) (tC (.int 0))) (tVar 1)) (gSub (tVar 0) (tC (.int 0)) (rSets K w)))
  (tRet (tVar 2))))
  tNext)
  (tSeq (tAsg (tOp (rPlus K) (tOp (rAts K w) (tVar 0) (tC (.int 2))) (tC (.int 1))) (gSub (tVar 0) (tC (.int 2)) (rSets K w)))
  (tSeq (tAsg (tC (.int 2147483647)) (gName 3))
  (tSeq (tAsg (tOp rMod (tCB rInt1 (tCons (tOp (rPlus K) (tOp (rPlus K) (tOp (rAts K w) (tVar 0) (tC (.int 1))) (tOp rTimes (tC (.int 104729)) (tOp (rAts K w) (tVar 0) (tC (.int 2))))) (tC (.int 7919))) tNil)) (tVar 3)) (gName 4))
  (tSeq (tAsg (tOp rMod (tCB rInt1 (tCons (tOp rTimes (tVar 4) (tC (.int 48271))) tNil)) (tVar 3)) (gName 4))
  (tSeq (tAsg (tOp rMod (tCB rInt1 (tCons (tOp rTimes (tVar 4) (tOp (rPlus K) (tOp rFdiv (tVar 4) (tC (.int 1009))) (tC (.int 69621)))) tNil)) (tVar 3)) (gName 4))
  (tSeq (tAsg (tOp rMod (tCB rInt1 (tCons (tOp rTimes (tVar 4) (tOp (rPlus K) (tOp rFdiv (tVar 4) (tC (.int 2003))) (tC (.int 40692)))) tNil)) (tC (.int 2147483399))) (gName 4))
  (tRet (tOp rMod (tCB rInt1 (tCons (tOp rFdiv (tVar 4) (tC (.int 7))) tNil)) (tVar 1))))))))))
abbrev N__law_next : List Str := ["_law_source", "_law_many", "_law_found", "_law_prime", "_law_number"]
def nextC : List Dat → Led → (Dat → Led → Prop) → Prop := fun ds ω R => ∃ (p : Addr) (m a b c : Int), ds = [.v (.ref p), .i m] ∧ 0 < m ∧ m < 1073741824 ∧ ω = [(p, srcO a b c)] ∧ R = fun d ω' => ∃ (v a' c' : Int), d = .i v ∧ 0 ≤ v ∧ v < m ∧ ω' = [(p, srcO a' b c')]
def sp__law_next (K : PySem.W.Frag) (w : World) (G : Gs) : Sp := spM K w nextC
theorem pure__law_next : ∀ vs H Q E, sp__law_next K w G vs H Q E → t__law_next K w G { nx := fun _ H' => Q .non H', rt := Q } (L2.start N__law_next vs) H := spM_body fun ds ω W R hC => by
  obtain ⟨p, m, a, b, c, rfl, hm, hm2, rfl, rfl⟩ := hC
  refine st_nd fun hnd => ?_
  have nd : ∀ a b c, ((([(p, srcO a b c)] : Led) ++ W).map (·.1)).Nodup := fun _ _ _ => hnd
  have mem : ∀ a b c, (p, srcO a b c) ∈ ([(p, srcO a b c)] : Led) ++ W := fun _ _ _ => List.mem_cons_self
  have put : ∀ a b c a' b' c', putO ([(p, srcO a b c)] ++ W) p (srcO a' b' c') = [(p, srcO a' b' c')] ++ W := fun a b c a' b' c' => putO_at [] (nd a b c)
  refine q_if (b := decide (0 < a)) (ω1 := [(p, srcO a b c)] ++ W) (evt_test (evf_op (evf_op (evf_var rfl) evf_c (rf_atO (mem a b c) rfl)) evf_c rf_gtI)) (fun h => ?_) fun h => ?_
  · refine q_seq (q_set (evf_op (evf_cb (eva_cons (evf_op (evf_var rfl) evf_c (rf_atO (d := .i a) (mem a b c) rfl)) eva_nil) cf_intI) (evf_var rfl) (rf_mod hm)) (q_seq (q_put (evf_op (evf_op (evf_var rfl) evf_c (rf_atO (d := .i a) (mem a b c) rfl)) (evf_var rfl) (rf_fdiv ⟨hm, hm2⟩)) (evf_var rfl) evf_c (wf_lst (j := 0) (mem a b c) rfl) ?_)))
    rw [show putO ([(p, srcO a b c)] ++ W) p (.lst (([.i a, .i b, .i c] : List Dat).set 0 (.i (a / m)))) = [(p, srcO (a / m) b c)] ++ W from put a b c (a / m) b c]
    exact q_ret (st_ret (evf_var rfl) ⟨_, ⟨a % m, a / m, c, rfl, Int.emod_nonneg _ (by omega), Int.emod_lt_of_pos _ hm, rfl⟩, .refl _⟩)
  · refine q_next (q_put (evf_op (evf_op (evf_var rfl) evf_c (rf_atO (d := .i c) (mem a b c) rfl)) evf_c rf_addI) (evf_var rfl) evf_c (wf_lst (j := 2) (mem a b c) rfl) ?_)
    rw [show putO ([(p, srcO a b c)] ++ W) p (.lst (([.i a, .i b, .i c] : List Dat).set 2 (.i (c + 1)))) = [(p, srcO a b (c + 1))] ++ W from put a b c a b (c + 1)]
    refine q_set evf_c (q_set (evf_op (evf_cb (eva_cons (evf_op (evf_op (evf_op (evf_var rfl) evf_c (rf_atO (d := .i b) (mem a b (c + 1)) rfl)) (evf_op evf_c (evf_op (evf_var rfl) evf_c (rf_atO (d := .i (c + 1)) (mem a b (c + 1)) rfl)) (rf_mulI (.inl (by decide)))) rf_addI) evf_c rf_addI) eva_nil) cf_intI) (evf_var rfl) (rf_mod (by decide))) ?_)
    refine q_set (evf_op (evf_cb (eva_cons (evf_op (evf_var rfl) evf_c (rf_mulI (.inr (by decide)))) eva_nil) cf_intI) (evf_var rfl) (rf_mod (by decide))) ?_
    have bnd : ∀ x p : Int, 0 < p → p ≤ 2147483647 → -(2 ^ 64) < x % p ∧ x % p < 2 ^ 64 := fun x p h1 h2 => by
      have := Int.emod_nonneg x (show p ≠ 0 by omega)
      have := Int.emod_lt_of_pos x h1
      omega
    refine q_set (evf_op (evf_cb (eva_cons (evf_op (evf_var rfl) (evf_op (evf_op (evf_var rfl) evf_c (rf_fdiv (by decide))) evf_c rf_addI) (rf_mulI (.inl (bnd _ _ (by decide) (by decide))))) eva_nil) cf_intI) (evf_var rfl) (rf_mod (by decide))) ?_
    refine q_set (evf_op (evf_cb (eva_cons (evf_op (evf_var rfl) (evf_op (evf_op (evf_var rfl) evf_c (rf_fdiv (by decide))) evf_c rf_addI) (rf_mulI (.inl (bnd _ _ (by decide) (by decide))))) eva_nil) cf_intI) evf_c (rf_mod (by decide))) ?_
    exact st_ret (evf_op (evf_cb (eva_cons (evf_op (evf_var rfl) evf_c (rf_fdiv (by decide))) eva_nil) cf_intI) (evf_var rfl) (rf_mod hm)) ⟨_, ⟨_, a, c + 1, rfl, Int.emod_nonneg _ (by omega), Int.emod_lt_of_pos _ hm, rfl⟩, .refl _⟩
def t__law_one (K : PySem.W.Frag) (w : World) (G : Gs) : TS :=
  (tRet (tOp (rAts K w) (tVar 1) (tCall (sp__law_next K w G) [] E0 (tCons (tVar 0) (tCons (tCB (rLens K) (tCons (tVar 1) tNil)) tNil)))))
abbrev N__law_one : List Str := ["_law_source", "_law_some"]
def oneC : List Dat → Led → (Dat → Led → Prop) → Prop := fun ds ω R => ∃ (p : Addr) (a b c : Int) (some : List Dat), ds = [.v (.ref p), .lst some] ∧ 0 < some.length ∧ some.length < 1073741824 ∧ ω = [(p, srcO a b c)] ∧ R = fun d ω' => ∃ (i : Nat) (a' c' : Int), some[i]? = .some d ∧ ω' = [(p, srcO a' b c')]
def sp__law_one (K : PySem.W.Frag) (w : World) (G : Gs) : Sp := spM K w oneC
theorem pure__law_one : ∀ vs H Q E, sp__law_one K w G vs H Q E → t__law_one K w G { nx := fun _ H' => Q .non H', rt := Q } (L2.start N__law_one vs) H := spM_body fun ds ω W R hC => by
  obtain ⟨p, a, b, c, so, rfl, h1, h2, rfl, rfl⟩ := hC
  have hn := evm_call (K := K) (w := w) (δ := initD N__law_one [.v (.ref p), .lst so]) (ω := [(p, srcO a b c)] ++ W) (E0' := E0) (W := W) (C := nextC) (eva_cons (evf_var (i := 0) rfl) (eva_cons (evf_cb (eva_cons (evf_var (i := 1) rfl) eva_nil) cf_lenL) eva_nil)) ⟨p, so.length, a, b, c, rfl, by omega, by omega, rfl, rfl⟩ (.refl _)
  refine st_retM (evm_op (R' := fun d ω2 => ∃ (i : Nat) (a' c' : Int), so[i]? = some d ∧ ω2 = [(p, srcO a' b c')] ++ W) (evf_var (i := 1) rfl) hn fun y ω2 hR => ?_) fun d ω1 hR => ?_
  · obtain ⟨ω3, ⟨v', a', c', rfl, k1, k2, rfl⟩, rfl⟩ := hR
    obtain ⟨n, rfl⟩ := Int.eq_ofNat_of_zero_le k1
    have hi : so[n]? = some so[n] := List.getElem?_eq_getElem (by omega)
    exact ⟨so[n], rf_atL (L2.atI_nat hi), n, a', c', hi, rfl⟩
  · obtain ⟨i, a', c', hi, rfl⟩ := hR
    exact ⟨_, ⟨i, a', c', hi, rfl⟩, .refl _⟩
end
end FL

namespace FL
open PySem PySem.Spec PyProof.Rows L2
section
variable {K : PySem.W.Frag} {w : World} {G : Gs} {δ δ' : Dts} {ω ω' ω1 ω2 ω3 W : Led} {te ta tb tc to ti tv : TE} {ta' : TA} {tt tu : TT} {d x y z : Dat} {i j : Nat} {b : Bool} {ts tz t1 t2 : TS} {O : Out}
def knownD : List Dat := known.map fun p => .tup [.lst (p.1.map Row.dat), .lst (p.2.map Row.dat)]
theorem ev_text {s : Str} : EvF K w δ ω (tTup (tCons (tC (.str "text")) (tCons (tC (.str s)) tNil))) (Row.text s).dat ω := evf_tup (eva_cons evf_c (eva_cons evf_c eva_nil)) (Nat.le_of_ble_eq_true rfl)
theorem ev_line {s : Str} : EvF K w δ ω (tTup (tCons (tC (.str "line")) (tCons (tC (.str s)) tNil))) (Row.line s).dat ω := evf_tup (eva_cons evf_c (eva_cons evf_c eva_nil)) (Nat.le_of_ble_eq_true rfl)
theorem ev_hard : EvF K w δ ω (tTup (tCons (tC (.str "hard")) tNil)) Row.hard.dat ω := evf_tup (eva_cons evf_c eva_nil) (Nat.le_of_ble_eq_true rfl)
theorem ev_nest {n j : Int} : EvF K w δ ω (tTup (tCons (tC (.str "nest")) (tCons (tC (.int n)) (tCons (tC (.int j)) tNil)))) (Row.nest n j).dat ω := evf_tup (eva_cons evf_c (eva_cons evf_c (eva_cons evf_c eva_nil))) (Nat.le_of_ble_eq_true rfl)
theorem ev_align {j : Int} : EvF K w δ ω (tTup (tCons (tC (.str "align")) (tCons (tC (.int j)) tNil))) (Row.align j).dat ω := evf_tup (eva_cons evf_c (eva_cons evf_c eva_nil)) (Nat.le_of_ble_eq_true rfl)
theorem ev_group {j : Int} : EvF K w δ ω (tTup (tCons (tC (.str "group")) (tCons (tC (.int j)) tNil))) (Row.group j).dat ω := evf_tup (eva_cons evf_c (eva_cons evf_c eva_nil)) (Nat.le_of_ble_eq_true rfl)
theorem ev_cat0 : EvF K w δ ω (tTup (tCons (tC (.str "cat")) (tCons (tLst tNil) tNil))) (Row.cat []).dat ω := evf_tup (eva_cons evf_c (eva_cons (evf_lst eva_nil (Nat.le_of_ble_eq_true rfl)) eva_nil)) (Nat.le_of_ble_eq_true rfl)
theorem ev_cat2 {a b : Int} : EvF K w δ ω (tTup (tCons (tC (.str "cat")) (tCons (tLst (tCons (tC (.int a)) (tCons (tC (.int b)) tNil))) tNil))) (Row.cat [a, b]).dat ω := evf_tup (eva_cons evf_c (eva_cons (evf_lst (eva_cons evf_c (eva_cons evf_c eva_nil)) (Nat.le_of_ble_eq_true rfl)) eva_nil)) (Nat.le_of_ble_eq_true rfl)
theorem ev_cat3 {a b c : Int} : EvF K w δ ω (tTup (tCons (tC (.str "cat")) (tCons (tLst (tCons (tC (.int a)) (tCons (tC (.int b)) (tCons (tC (.int c)) tNil)))) tNil))) (Row.cat [a, b, c]).dat ω := evf_tup (eva_cons evf_c (eva_cons (evf_lst (eva_cons evf_c (eva_cons evf_c (eva_cons evf_c eva_nil))) (Nat.le_of_ble_eq_true rfl)) eva_nil)) (Nat.le_of_ble_eq_true rfl)
/-- rows in a list -/
def EvR (K : PySem.W.Frag) (w : World) (δ : Dts) (ω : Led) (ta : TA) (rs : List Row) : Prop := EvA K w δ ω ta (rs.map Row.dat) ω
theorem evr_nil : EvR K w δ ω tNil [] := eva_nil
theorem evr_cons {r : Row} {rs : List Row} (h : EvF K w δ ω te r.dat ω) (l : EvR K w δ ω ta' rs) : EvR K w δ ω (tCons te ta') (r :: rs) := eva_cons h l
theorem evr_lst {rs : List Row} (l : EvR K w δ ω ta' rs) (hl : rs.length ≤ 1000) : EvF K w δ ω (tLst ta') (.lst (rs.map Row.dat)) ω := evf_lst l (by rw [List.length_map]; exact Nat.le_trans hl (by decide))
abbrev pairD (p : List Row × List Row) : Dat := .tup [.lst (p.1.map Row.dat), .lst (p.2.map Row.dat)]
theorem ev_pair {a b : List Row} (h1 : EvF K w δ ω ta (.lst (a.map Row.dat)) ω) (h2 : EvF K w δ ω tb (.lst (b.map Row.dat)) ω) : EvF K w δ ω (tTup (tCons ta (tCons tb tNil))) (pairD (a, b)) ω := evf_tup (eva_cons h1 (eva_cons h2 eva_nil)) (Nat.le_of_ble_eq_true rfl)
def EvP (K : PySem.W.Frag) (w : World) (δ : Dts) (ω : Led) (ta : TA) (rs : List (List Row × List Row)) : Prop := EvA K w δ ω ta (rs.map pairD) ω
theorem evp_nil : EvP K w δ ω tNil [] := eva_nil
theorem evp_cons {r : List Row × List Row} {rs : List (List Row × List Row)} (h : EvF K w δ ω te (pairD r) ω) (l : EvP K w δ ω ta' rs) : EvP K w δ ω (tCons te ta') (r :: rs) := eva_cons h l
theorem evp_lst {rs : List (List Row × List Row)} (l : EvP K w δ ω ta' rs) (hl : rs.length ≤ 1000) : EvF K w δ ω (tLst ta') (.lst (rs.map pairD)) ω := evf_lst l (by rw [List.length_map]; exact Nat.le_trans hl (by decide))
theorem evp_add {xs ys : List (List Row × List Row)} (ha : EvF K w δ ω ta (.lst (xs.map pairD)) ω) (hb : EvF K w δ ω tb (.lst (ys.map pairD)) ω) (hx : xs.length ≤ 1000) (hy : ys.length ≤ 1000) : EvF K w δ ω (tOp (rPlus K) ta tb) (.lst ((xs ++ ys).map pairD)) ω := by
  rw [List.map_append]
  exact evf_op ha hb (rf_addL (by rw [List.length_map, List.length_map]; exact Nat.le_trans (show xs.length + ys.length ≤ 2000 by omega) (by decide)))
theorem evr_add {xs ys : List Row} (ha : EvF K w δ ω ta (.lst (xs.map Row.dat)) ω) (hb : EvF K w δ ω tb (.lst (ys.map Row.dat)) ω) (hx : xs.length ≤ 1000) (hy : ys.length ≤ 1000) : EvF K w δ ω (tOp (rPlus K) ta tb) (.lst ((xs ++ ys).map Row.dat)) ω := by
  rw [List.map_append]
  exact evf_op ha hb (rf_addL (by rw [List.length_map, List.length_map]; exact Nat.le_trans (show xs.length + ys.length ≤ 2000 by omega) (by decide)))
theorem evp_addN {xs ys : List (List Row × List Row)} (ha : EvF K w δ ω ta (.lst (xs.map pairD)) ω) (hb : EvF K w δ ω tb (.lst (ys.map pairD)) ω) (hx : xs.length ≤ 1000) (hy : ys.length ≤ 1000) : EvN K w δ ω (tOp (rPlus K) ta tb) (.lst ((xs ++ ys).map pairD)) ω := by
  rw [List.map_append]
  exact evn_addL ha hb (by rw [List.length_map, List.length_map]; exact Nat.le_trans (show xs.length + ys.length ≤ 2000 by omega) (by decide))
theorem evp_addO {rp : Addr} {xs ys : List (List Row × List Row)} (ha : EvF K w δ ω ta (.v (.ref rp)) ω) (hb : EvF K w δ ω tb (.lst (ys.map pairD)) ω) (m : (rp, Ow.lst (xs.map pairD)) ∈ ω) (hx : xs.length ≤ 1000) (hy : ys.length ≤ 1000) : EvF K w δ ω (tOp (rPlus K) ta tb) (.lst ((xs ++ ys).map pairD)) ω := by
  rw [List.map_append]
  exact evf_op ha hb (rf_addO m (by rw [List.length_map, List.length_map]; exact Nat.le_trans (show xs.length + ys.length ≤ 2000 by omega) (by decide)))
abbrev LC : List (List Row × List Row) := [([.line "", .align 0, .nest 4 1], [.line "", .align 0]), ([.line "", .align 0, .align 1], [.line "", .align 0])]
abbrev K1 : List (List Row × List Row) := [([(.text "a"), (.text "b")], [(.text "b")]), ([(.text ""), (.line ""), (.cat [0, 1, 0])], [(.line "")]), ([(.text ""), (.cat [0, 0]), (.cat [])], [(.text "")])]
abbrev K2 : List (List Row × List Row) := K1 ++ [([(.text "a"), (.line ""), (.cat [0, 1]), (.nest 0 2)], [(.text "a"), (.line ""), (.cat [0, 1])]), ([(.text "a"), (.nest 3 0)], [(.text "a")])]
abbrev K3 : List (List Row × List Row) := K2 ++ [([(.text "a"), (.align 0), (.group 1)], [(.text "a")]), ([(.line ""), (.group 0), (.group 1)], [(.line ""), (.group 0)])]
abbrev K4 : List (List Row × List Row) := K3 ++ [([.hard, (.group 0)], [.hard]), (([(.text "a"), .hard, (.line ""), (.cat [0, 1, 2])] ++ [(.group 3)]), [(.text "a"), .hard, (.line ""), (.cat [0, 1, 2])])]
abbrev K5 : List (List Row × List Row) := K4 ++ LC
abbrev K6 : List (List Row × List Row) := K5 ++ [([(.line ""), (.nest 4 0), (.align 1)], [(.line ""), (.nest 4 0), (.align 1)])]
abbrev K7 : List (List Row × List Row) := K6 ++ [([(.line ""), (.nest 4 0), (.nest 4 1)], [(.line ""), (.nest 8 0)])]
abbrev K8 : List (List Row × List Row) := K7 ++ [([(.line ""), (.nest 4 0), (.nest 5 1)], [(.line ""), (.nest 4 0), (.nest 5 1)])]
abbrev K9 : List (List Row × List Row) := K8 ++ [([(.line ""), (.nest 1 0), (.nest 2 1), (.nest 3 2)], [(.line ""), (.nest 6 0)])]
abbrev K10 : List (List Row × List Row) := K9 ++ [([(.text "a"), (.line ""), (.cat [0, 1]), (.group 2), (.cat [3, 0, 3]), (.group 4)], [(.text "a"), (.line ""), (.cat [0, 1]), (.group 2), (.cat [3, 0, 3])])]
abbrev K11 : List (List Row × List Row) := K10 ++ [([(.text "a"), (.line ""), (.group 1), (.cat [2, 1]), (.group 3)], [(.line ""), (.group 0), (.cat [1, 0]), (.group 2)])]
abbrev K12 : List (List Row × List Row) := K11 ++ [([(.text "b"), (.text "a"), (.line ""), (.cat [2, 1, 0]), (.line ""), (.cat [3, 4])], [(.line ""), (.text "a"), (.text "b"), (.cat [0, 1, 2]), (.cat [3, 0])])]
abbrev K13 : List (List Row × List Row) := K12 ++ [([(.line ""), (.group 0), (.nest 2 1), (.group 2)], [(.line ""), (.group 0), (.nest 2 1)])]
def t__law_known (K : PySem.W.Frag) (w : World) (G : Gs) : TS :=
  (tSeq (tAsg (tTup (tCons (tTup (tCons (tC (.str "text")) (tCons (tC (.str "a")) tNil))) (tCons (tTup (tCons (tC (.str "text")) (tCons (tC (.str "b")) tNil))) (tCons (tTup (tCons (tC (.str "text")) (tCons (tC (.str "")) tNil))) (tCons (tTup (tCons (tC (.str "line")) (tCons (tC (.str "")) tNil))) (tCons (tTup (tCons (tC (.str "hard")) tNil)) tNil)))))) (gTup K 5 (gCons (gName 0) (gCons (gName 1) (gCons (gName 2) (gCons (gName 3) (gCons (gName 4) gNil)))))))
  (tSeq (tAsg (tLst (tCons (tTup (tCons (tLst (tCons (tVar 0) (tCons (tVar 1) tNil))) (tCons (tLst (tCons (tVar 1) tNil)) tNil))) (tCons (tTup (tCons (tLst (tCons (tVar 2) (tCons (tVar 3) (tCons (tTup (tCons (tC (.str "cat")) (tCons (tLst (tCons (tC (.int 0)) (tCons (tC (.int 1)) (tCons (tC (.int 0)) tNil)))) tNil))) tNil)))) (tCons (tLst (tCons (tVar 3) tNil)) tNil))) (tCons (tTup (tCons (tLst (tCons (tVar 2) (tCons (tTup (tCons (tC (.str "cat")) (tCons (tLst (tCons (tC (.int 0)) (tCons (tC (.int 0)) tNil))) tNil))) (tCons (tTup (tCons (tC (.str "cat")) (tCons (tLst tNil) tNil))) tNil)))) (tCons (tLst (tCons (tVar 2) tNil)) tNil))) tNil)))) (gName 5))
  (tSeq (tAsg (tOp (rPlus K) (tVar 5) (tLst (tCons (tTup (tCons (tLst (tCons (tVar 0) (tCons (tVar 3) (tCons (tTup (tCons (tC (.str "cat")) (tCons (tLst (tCons (tC (.int 0)) (tCons (tC (.int 1)) tNil))) tNil))) (tCons (tTup (tCons (tC (.str "nest")) (tCons (tC (.int 0)) (tCons (tC (.int 2)) tNil)))) tNil))))) (tCons (tLst (tCons (tVar 0) (tCons (tVar 3) (tCons (tTup (tCons (tC (.str "cat")) (tCons (tLst (tCons (tC (.int 0)) (tCons (tC (.int 1)) tNil))) tNil))) tNil)))) tNil))) (tCons (tTup (tCons (tLst (tCons (tVar 0) (tCons (tTup (tCons (tC (.str "nest")) (tCons (tC (.int 3)) (tCons (tC (.int 0)) tNil)))) tNil))) (tCons (tLst (tCons (tVar 0) tNil)) tNil))) tNil)))) (gName 5))
  (tSeq (tAsg (tOp (rPlus K) (tVar 5) (tLst (tCons (tTup (tCons (tLst (tCons (tVar 0) (tCons (tTup (tCons (tC (.str "align")) (tCons (tC (.int 0)) tNil))) (tCons (tTup (tCons (tC (.str "group")) (tCons (tC (.int 1)) tNil))) tNil)))) (tCons (tLst (tCons (tVar 0) tNil)) tNil))) (tCons (tTup (tCons (tLst (tCons (tVar 3) (tCons (tTup (tCons (tC (.str "group")) (tCons (tC (.int 0)) tNil))) (tCons (tTup (tCons (tC (.str "group")) (tCons (tC (.int 1)) tNil))) tNil)))) (tCons (tLst (tCons (tVar 3) (tCons (tTup (tCons (tC (.str "group")) (tCons (tC (.int 0)) tNil))) tNil))) tNil))) tNil)))) (gName 5))
  (tSeq (tAsg (tLst (tCons (tVar 0) (tCons (tVar 4) (tCons (tVar 3) (tCons (tTup (tCons (tC (.str "cat")) (tCons (tLst (tCons (tC (.int 0)) (tCons (tC (.int 1)) (tCons (tC (.int 2)) tNil)))) tNil))) tNil))))) (gName 6))
  (tSeq (tAsg (tOp (rPlus K) (tVar 5) (tLst (tCons (tTup (tCons (tLst (tCons (tVar 4) (tCons (tTup (tCons (tC (.str "group")) (tCons (tC (.int 0)) tNil))) tNil))) (tCons (tLst (tCons (tVar 4) tNil)) tNil))) (tCons (tTup (tCons (tOp (rPlus K) (tVar 6) (tLst (tCons (tTup (tCons (tC (.str "group")) (tCons (tC (.int 3)) tNil))) tNil))) (tCons (tVar 6) tNil))) tNil)))) (gName 5))
  (tSeq (tAsg (tOp (rPlus K) (tVar 5) (tLc (iTup K (tTup (tCons (tTup (tCons (tC (.str "nest")) (tCons (tC (.int 4)) (tCons (tC (.int 1)) tNil)))) (tCons (tTup (tCons (tC (.str "align")) (tCons (tC (.int 1)) tNil))) tNil)))) (gName 7) tYes (tTup (tCons (tLst (tCons (tVar 3) (tCons (tTup (tCons (tC (.str "align")) (tCons (tC (.int 0)) tNil))) (tCons (tVar 7) tNil)))) (tCons (tLst (tCons (tVar 3) (tCons (tTup (tCons (tC (.str "align")) (tCons (tC (.int 0)) tNil))) tNil))) tNil))) [7])) (gName 5))
  (tSeq (tAsg (tOp (rPlus K) (tVar 5) (tLst (tCons (tTup (tCons (tLst (tCons (tVar 3) (tCons (tTup (tCons (tC (.str "nest")) (tCons (tC (.int 4)) (tCons (tC (.int 0)) tNil)))) (tCons (tTup (tCons (tC (.str "align")) (tCons (tC (.int 1)) tNil))) tNil)))) (tCons (tLst (tCons (tVar 3) (tCons (tTup (tCons (tC (.str "nest")) (tCons (tC (.int 4)) (tCons (tC (.int 0)) tNil)))) (tCons (tTup (tCons (tC (.str "align")) (tCons (tC (.int 1)) tNil))) tNil)))) tNil))) tNil))) (gName 5))
  (tSeq (tAsg (tOp (rPlus K) (tVar 5) (tLst (tCons (tTup (tCons (tLst (tCons (tVar 3) (tCons (tTup (tCons (tC (.str "nest")) (tCons (tC (.int 4)) (tCons (tC (.int 0)) tNil)))) (tCons (tTup (tCons (tC (.str "nest")) (tCons (tC (.int 4)) (tCons (tC (.int 1)) tNil)))) tNil)))) (tCons (tLst (tCons (tVar 3) (tCons (tTup (tCons (tC (.str "nest")) (tCons (tC (.int 8)) (tCons (tC (.int 0)) tNil)))) tNil))) tNil))) tNil))) (gName 5))
  (tSeq (tAsg (tOp (rPlus K) (tVar 5) (tLst (tCons (tTup (tCons (tLst (tCons (tVar 3) (tCons (tTup (tCons (tC (.str "nest")) (tCons (tC (.int 4)) (tCons (tC (.int 0)) tNil)))) (tCons (tTup (tCons (tC (.str "nest")) (tCons (tC (.int 5)) (tCons (tC (.int 1)) tNil)))) tNil)))) (tCons (tLst (tCons (tVar 3) (tCons (tTup (tCons (tC (.str "nest")) (tCons (tC (.int 4)) (tCons (tC (.int 0)) tNil)))) (tCons (tTup (tCons (tC (.str "nest")) (tCons (tC (.int 5)) (tCons (tC (.int 1)) tNil)))) tNil)))) tNil))) tNil))) (gName 5))
  (tSeq (tAsg (tOp (rPlus K) (tVar 5) (tLst (tCons (tTup (tCons (tLst (tCons (tVar 3) (tCons (tTup (tCons (tC (.str "nest")) (tCons (tC (.int 1)) (tCons (tC (.int 0)) tNil)))) (tCons (tTup (tCons (tC (.str "nest")) (tCons (tC (.int 2)) (tCons (tC (.int 1)) tNil)))) (tCons (tTup (tCons (tC (.str "nest")) (tCons (tC (.int 3)) (tCons (tC (.int 2)) tNil)))) tNil))))) (tCons (tLst (tCons (tVar 3) (tCons (tTup (tCons (tC (.str "nest")) (tCons (tC (.int 6)) (tCons (tC (.int 0)) tNil)))) tNil))) tNil))) tNil))) (gName 5))
  (tSeq (tAsg (tOp (rPlus K) (tVar 5) (tLst (tCons (tTup (tCons (tLst (tCons (tVar 0) (tCons (tVar 3) (tCons (tTup (tCons (tC (.str "cat")) (tCons (tLst (tCons (tC (.int 0)) (tCons (tC (.int 1)) tNil))) tNil))) (tCons (tTup (tCons (tC (.str "group")) (tCons (tC (.int 2)) tNil))) (tCons (tTup (tCons (tC (.str "cat")) (tCons (tLst (tCons (tC (.int 3)) (tCons (tC (.int 0)) (tCons (tC (.int 3)) tNil)))) tNil))) (tCons (tTup (tCons (tC (.str "group")) (tCons (tC (.int 4)) tNil))) tNil))))))) (tCons (tLst (tCons (tVar 0) (tCons (tVar 3) (tCons (tTup (tCons (tC (.str "cat")) (tCons (tLst (tCons (tC (.int 0)) (tCons (tC (.int 1)) tNil))) tNil))) (tCons (tTup (tCons (tC (.str "group")) (tCons (tC (.int 2)) tNil))) (tCons (tTup (tCons (tC (.str "cat")) (tCons (tLst (tCons (tC (.int 3)) (tCons (tC (.int 0)) (tCons (tC (.int 3)) tNil)))) tNil))) tNil)))))) tNil))) tNil))) (gName 5))
  (tSeq (tAsg (tLst (tCons (tVar 3) (tCons (tTup (tCons (tC (.str "group")) (tCons (tC (.int 0)) tNil))) (tCons (tTup (tCons (tC (.str "cat")) (tCons (tLst (tCons (tC (.int 1)) (tCons (tC (.int 0)) tNil))) tNil))) (tCons (tTup (tCons (tC (.str "group")) (tCons (tC (.int 2)) tNil))) tNil))))) (gName 6))
  (tSeq (tDrop (tBM K "list" rAppend (tVar 5) (tCons (tTup (tCons (tLst (tCons (tVar 0) (tCons (tVar 3) (tCons (tTup (tCons (tC (.str "group")) (tCons (tC (.int 1)) tNil))) (tCons (tTup (tCons (tC (.str "cat")) (tCons (tLst (tCons (tC (.int 2)) (tCons (tC (.int 1)) tNil))) tNil))) (tCons (tTup (tCons (tC (.str "group")) (tCons (tC (.int 3)) tNil))) tNil)))))) (tCons (tVar 6) tNil))) tNil)))
  (tSeq (tAsg (tLst (tCons (tVar 3) (tCons (tVar 0) (tCons (tVar 1) (tCons (tTup (tCons (tC (.str "cat")) (tCons (tLst (tCons (tC (.int 0)) (tCons (tC (.int 1)) (tCons (tC (.int 2)) tNil)))) tNil))) (tCons (tTup (tCons (tC (.str "cat")) (tCons (tLst (tCons (tC (.int 3)) (tCons (tC (.int 0)) tNil))) tNil))) tNil)))))) (gName 6))
  (tSeq (tDrop (tBM K "list" rAppend (tVar 5) (tCons (tTup (tCons (tLst (tCons (tVar 1) (tCons (tVar 0) (tCons (tVar 3) (tCons (tTup (tCons (tC (.str "cat")) (tCons (tLst (tCons (tC (.int 2)) (tCons (tC (.int 1)) (tCons (tC (.int 0)) tNil)))) tNil))) (tCons (tVar 3) (tCons (tTup (tCons (tC (.str "cat")) (tCons (tLst (tCons (tC (.int 3)) (tCons (tC (.int 4)) tNil))) tNil))) tNil))))))) (tCons (tVar 6) tNil))) tNil)))
  (tSeq (tAsg (tOp (rPlus K) (tVar 5) (tLst (tCons (tTup (tCons (tLst (tCons (tVar 3) (tCons (tTup (tCons (tC (.str "group")) (tCons (tC (.int 0)) tNil))) (tCons (tTup (tCons (tC (.str "nest")) (tCons (tC (.int 2)) (tCons (tC (.int 1)) tNil)))) (tCons (tTup (tCons (tC (.str "group")) (tCons (tC (.int 2)) tNil))) tNil))))) (tCons (tLst (tCons (tVar 3) (tCons (tTup (tCons (tC (.str "group")) (tCons (tC (.int 0)) tNil))) (tCons (tTup (tCons (tC (.str "nest")) (tCons (tC (.int 2)) (tCons (tC (.int 1)) tNil)))) tNil)))) tNil))) tNil))) (gName 5))
  (tSeq (tAsg (tLst (tCons (tTup (tCons (tC (.str "text")) (tCons (tC (.str " ")) tNil))) (tCons (tTup (tCons (tC (.str "line")) (tCons (tC (.str " ")) tNil))) (tCons (tTup (tCons (tC (.str "cat")) (tCons (tLst (tCons (tC (.int 0)) (tCons (tC (.int 1)) (tCons (tC (.int 0)) tNil)))) tNil))) tNil)))) (gName 6))
  (tRet (tOp (rPlus K) (tVar 5) (tLst (tCons (tTup (tCons (tLst (tCons (tTup (tCons (tC (.str "line")) (tCons (tC (.str " ")) tNil))) (tCons (tTup (tCons (tC (.str "text")) (tCons (tC (.str " ")) tNil))) (tCons (tTup (tCons (tC (.str "cat")) (tCons (tLst (tCons (tC (.int 1)) (tCons (tC (.int 0)) (tCons (tC (.int 1)) tNil)))) tNil))) tNil)))) (tCons (tVar 6) tNil))) tNil))))))))))))))))))))))
abbrev N__law_known : List Str := ["_law_a", "_law_b", "_law_e", "_law_edge", "_law_hard", "_law_rows", "_law_some", "_law_row"]
def sp__law_known (K : PySem.W.Frag) (w : World) (G : Gs) : Sp := spM K w (pureC fun ds d => ds = [] ∧ d = .lst (known.map pairD))
theorem pure__law_known : ∀ vs H Q E, sp__law_known K w G vs H Q E → t__law_known K w G { nx := fun _ H' => Q .non H', rt := Q } (L2.start N__law_known vs) H := pure_body fun ds d W hP => by
  obtain ⟨rfl, rfl⟩ := hP
  refine q_asg (ω1 := W) (evf_tup (eva_cons ev_text (eva_cons ev_text (eva_cons ev_text (eva_cons ev_line (eva_cons ev_hard eva_nil))))) (Nat.le_of_ble_eq_true rfl)) (tg_tup (tgs_cons tg_name (tgs_cons tg_name (tgs_cons tg_name (tgs_cons tg_name (tgs_cons tg_name tgs_nil))))) rfl) ?_
  refine q_set (d := .lst (K1.map pairD)) (ω1 := W) (evp_lst (evp_cons (r := ([(.text "a"), (.text "b")], [(.text "b")])) (ev_pair (a := [(.text "a"), (.text "b")]) (b := [(.text "b")]) (evr_lst (evr_cons (r := (.text "a")) (evf_var rfl) (evr_cons (r := (.text "b")) (evf_var rfl) evr_nil)) (by decide)) (evr_lst (evr_cons (r := (.text "b")) (evf_var rfl) evr_nil) (by decide))) (evp_cons (r := ([(.text ""), (.line ""), (.cat [0, 1, 0])], [(.line "")])) (ev_pair (a := [(.text ""), (.line ""), (.cat [0, 1, 0])]) (b := [(.line "")]) (evr_lst (evr_cons (r := (.text "")) (evf_var rfl) (evr_cons (r := (.line "")) (evf_var rfl) (evr_cons (r := (.cat [0, 1, 0])) ev_cat3 evr_nil))) (by decide)) (evr_lst (evr_cons (r := (.line "")) (evf_var rfl) evr_nil) (by decide))) (evp_cons (r := ([(.text ""), (.cat [0, 0]), (.cat [])], [(.text "")])) (ev_pair (a := [(.text ""), (.cat [0, 0]), (.cat [])]) (b := [(.text "")]) (evr_lst (evr_cons (r := (.text "")) (evf_var rfl) (evr_cons (r := (.cat [0, 0])) ev_cat2 (evr_cons (r := (.cat [])) ev_cat0 evr_nil))) (by decide)) (evr_lst (evr_cons (r := (.text "")) (evf_var rfl) evr_nil) (by decide))) evp_nil))) (by decide)) ?_
  refine q_set (d := .lst (K2.map pairD)) (ω1 := W) (evp_add (xs := K1) (ys := [([(.text "a"), (.line ""), (.cat [0, 1]), (.nest 0 2)], [(.text "a"), (.line ""), (.cat [0, 1])]), ([(.text "a"), (.nest 3 0)], [(.text "a")])]) (evf_var rfl) (evp_lst (evp_cons (r := ([(.text "a"), (.line ""), (.cat [0, 1]), (.nest 0 2)], [(.text "a"), (.line ""), (.cat [0, 1])])) (ev_pair (a := [(.text "a"), (.line ""), (.cat [0, 1]), (.nest 0 2)]) (b := [(.text "a"), (.line ""), (.cat [0, 1])]) (evr_lst (evr_cons (r := (.text "a")) (evf_var rfl) (evr_cons (r := (.line "")) (evf_var rfl) (evr_cons (r := (.cat [0, 1])) ev_cat2 (evr_cons (r := (.nest 0 2)) ev_nest evr_nil)))) (by decide)) (evr_lst (evr_cons (r := (.text "a")) (evf_var rfl) (evr_cons (r := (.line "")) (evf_var rfl) (evr_cons (r := (.cat [0, 1])) ev_cat2 evr_nil))) (by decide))) (evp_cons (r := ([(.text "a"), (.nest 3 0)], [(.text "a")])) (ev_pair (a := [(.text "a"), (.nest 3 0)]) (b := [(.text "a")]) (evr_lst (evr_cons (r := (.text "a")) (evf_var rfl) (evr_cons (r := (.nest 3 0)) ev_nest evr_nil)) (by decide)) (evr_lst (evr_cons (r := (.text "a")) (evf_var rfl) evr_nil) (by decide))) evp_nil)) (by decide)) (by decide) (by decide)) ?_
  refine q_set (d := .lst (K3.map pairD)) (ω1 := W) (evp_add (xs := K2) (ys := [([(.text "a"), (.align 0), (.group 1)], [(.text "a")]), ([(.line ""), (.group 0), (.group 1)], [(.line ""), (.group 0)])]) (evf_var rfl) (evp_lst (evp_cons (r := ([(.text "a"), (.align 0), (.group 1)], [(.text "a")])) (ev_pair (a := [(.text "a"), (.align 0), (.group 1)]) (b := [(.text "a")]) (evr_lst (evr_cons (r := (.text "a")) (evf_var rfl) (evr_cons (r := (.align 0)) ev_align (evr_cons (r := (.group 1)) ev_group evr_nil))) (by decide)) (evr_lst (evr_cons (r := (.text "a")) (evf_var rfl) evr_nil) (by decide))) (evp_cons (r := ([(.line ""), (.group 0), (.group 1)], [(.line ""), (.group 0)])) (ev_pair (a := [(.line ""), (.group 0), (.group 1)]) (b := [(.line ""), (.group 0)]) (evr_lst (evr_cons (r := (.line "")) (evf_var rfl) (evr_cons (r := (.group 0)) ev_group (evr_cons (r := (.group 1)) ev_group evr_nil))) (by decide)) (evr_lst (evr_cons (r := (.line "")) (evf_var rfl) (evr_cons (r := (.group 0)) ev_group evr_nil)) (by decide))) evp_nil)) (by decide)) (by decide) (by decide)) ?_
  refine q_set (d := .lst (List.map Row.dat [(.text "a"), .hard, (.line ""), (.cat [0, 1, 2])])) (ω1 := W) (evr_lst (evr_cons (r := (.text "a")) (evf_var rfl) (evr_cons (r := .hard) (evf_var rfl) (evr_cons (r := (.line "")) (evf_var rfl) (evr_cons (r := (.cat [0, 1, 2])) ev_cat3 evr_nil)))) (by decide)) ?_
  refine q_set (d := .lst (K4.map pairD)) (ω1 := W) (evp_add (xs := K3) (ys := [([.hard, (.group 0)], [.hard]), (([(.text "a"), .hard, (.line ""), (.cat [0, 1, 2])] ++ [(.group 3)]), [(.text "a"), .hard, (.line ""), (.cat [0, 1, 2])])]) (evf_var rfl) (evp_lst (evp_cons (r := ([.hard, (.group 0)], [.hard])) (ev_pair (a := [.hard, (.group 0)]) (b := [.hard]) (evr_lst (evr_cons (r := .hard) (evf_var rfl) (evr_cons (r := (.group 0)) ev_group evr_nil)) (by decide)) (evr_lst (evr_cons (r := .hard) (evf_var rfl) evr_nil) (by decide))) (evp_cons (r := (([(.text "a"), .hard, (.line ""), (.cat [0, 1, 2])] ++ [(.group 3)]), [(.text "a"), .hard, (.line ""), (.cat [0, 1, 2])])) (ev_pair (a := ([(.text "a"), .hard, (.line ""), (.cat [0, 1, 2])] ++ [(.group 3)])) (b := [(.text "a"), .hard, (.line ""), (.cat [0, 1, 2])]) (evr_add (evf_var rfl) (evr_lst (evr_cons (r := (.group 3)) ev_group evr_nil) (by decide)) (by decide) (by decide)) (evf_var rfl)) evp_nil)) (by decide)) (by decide) (by decide)) ?_
  refine q_set (d := .lst (K5.map pairD)) (ω1 := W) (evp_add (xs := K4) (ys := LC) (evf_var rfl) (evf_map (ω1 := W) (j := 7) (fun d => .tup [.lst [(Row.line "").dat, (Row.align 0).dat, d], .lst [(Row.line "").dat, (Row.align 0).dat]]) (evi_tup (evf_tup (eva_cons (ev_nest (n := 4) (j := 1)) (eva_cons (ev_align (j := 1)) eva_nil)) (Nat.le_of_ble_eq_true rfl))) (by decide) (by simp) fun d hd q o => evf_tup (eva_cons (evf_lst (eva_cons (evf_var rfl) (eva_cons ev_align (eva_cons (evf_var rfl) eva_nil))) (Nat.le_of_ble_eq_true rfl)) (eva_cons (evf_lst (eva_cons (evf_var rfl) (eva_cons ev_align eva_nil)) (Nat.le_of_ble_eq_true rfl)) eva_nil)) (Nat.le_of_ble_eq_true rfl)) (by decide) (by decide)) ?_
  refine q_set (d := .lst (K6.map pairD)) (ω1 := W) (evp_add (xs := K5) (ys := [([(.line ""), (.nest 4 0), (.align 1)], [(.line ""), (.nest 4 0), (.align 1)])]) (evf_var rfl) (evp_lst (evp_cons (r := ([(.line ""), (.nest 4 0), (.align 1)], [(.line ""), (.nest 4 0), (.align 1)])) (ev_pair (a := [(.line ""), (.nest 4 0), (.align 1)]) (b := [(.line ""), (.nest 4 0), (.align 1)]) (evr_lst (evr_cons (r := (.line "")) (evf_var rfl) (evr_cons (r := (.nest 4 0)) ev_nest (evr_cons (r := (.align 1)) ev_align evr_nil))) (by decide)) (evr_lst (evr_cons (r := (.line "")) (evf_var rfl) (evr_cons (r := (.nest 4 0)) ev_nest (evr_cons (r := (.align 1)) ev_align evr_nil))) (by decide))) evp_nil) (by decide)) (by decide) (by decide)) ?_
  refine q_set (d := .lst (K7.map pairD)) (ω1 := W) (evp_add (xs := K6) (ys := [([(.line ""), (.nest 4 0), (.nest 4 1)], [(.line ""), (.nest 8 0)])]) (evf_var rfl) (evp_lst (evp_cons (r := ([(.line ""), (.nest 4 0), (.nest 4 1)], [(.line ""), (.nest 8 0)])) (ev_pair (a := [(.line ""), (.nest 4 0), (.nest 4 1)]) (b := [(.line ""), (.nest 8 0)]) (evr_lst (evr_cons (r := (.line "")) (evf_var rfl) (evr_cons (r := (.nest 4 0)) ev_nest (evr_cons (r := (.nest 4 1)) ev_nest evr_nil))) (by decide)) (evr_lst (evr_cons (r := (.line "")) (evf_var rfl) (evr_cons (r := (.nest 8 0)) ev_nest evr_nil)) (by decide))) evp_nil) (by decide)) (by decide) (by decide)) ?_
  refine q_set (d := .lst (K8.map pairD)) (ω1 := W) (evp_add (xs := K7) (ys := [([(.line ""), (.nest 4 0), (.nest 5 1)], [(.line ""), (.nest 4 0), (.nest 5 1)])]) (evf_var rfl) (evp_lst (evp_cons (r := ([(.line ""), (.nest 4 0), (.nest 5 1)], [(.line ""), (.nest 4 0), (.nest 5 1)])) (ev_pair (a := [(.line ""), (.nest 4 0), (.nest 5 1)]) (b := [(.line ""), (.nest 4 0), (.nest 5 1)]) (evr_lst (evr_cons (r := (.line "")) (evf_var rfl) (evr_cons (r := (.nest 4 0)) ev_nest (evr_cons (r := (.nest 5 1)) ev_nest evr_nil))) (by decide)) (evr_lst (evr_cons (r := (.line "")) (evf_var rfl) (evr_cons (r := (.nest 4 0)) ev_nest (evr_cons (r := (.nest 5 1)) ev_nest evr_nil))) (by decide))) evp_nil) (by decide)) (by decide) (by decide)) ?_
  refine q_set (d := .lst (K9.map pairD)) (ω1 := W) (evp_add (xs := K8) (ys := [([(.line ""), (.nest 1 0), (.nest 2 1), (.nest 3 2)], [(.line ""), (.nest 6 0)])]) (evf_var rfl) (evp_lst (evp_cons (r := ([(.line ""), (.nest 1 0), (.nest 2 1), (.nest 3 2)], [(.line ""), (.nest 6 0)])) (ev_pair (a := [(.line ""), (.nest 1 0), (.nest 2 1), (.nest 3 2)]) (b := [(.line ""), (.nest 6 0)]) (evr_lst (evr_cons (r := (.line "")) (evf_var rfl) (evr_cons (r := (.nest 1 0)) ev_nest (evr_cons (r := (.nest 2 1)) ev_nest (evr_cons (r := (.nest 3 2)) ev_nest evr_nil)))) (by decide)) (evr_lst (evr_cons (r := (.line "")) (evf_var rfl) (evr_cons (r := (.nest 6 0)) ev_nest evr_nil)) (by decide))) evp_nil) (by decide)) (by decide) (by decide)) ?_
  refine q_new (o := .lst (K10.map pairD)) (ω1 := W) (evp_addN (xs := K9) (ys := [([(.text "a"), (.line ""), (.cat [0, 1]), (.group 2), (.cat [3, 0, 3]), (.group 4)], [(.text "a"), (.line ""), (.cat [0, 1]), (.group 2), (.cat [3, 0, 3])])]) (evf_var rfl) (evp_lst (evp_cons (r := ([(.text "a"), (.line ""), (.cat [0, 1]), (.group 2), (.cat [3, 0, 3]), (.group 4)], [(.text "a"), (.line ""), (.cat [0, 1]), (.group 2), (.cat [3, 0, 3])])) (ev_pair (a := [(.text "a"), (.line ""), (.cat [0, 1]), (.group 2), (.cat [3, 0, 3]), (.group 4)]) (b := [(.text "a"), (.line ""), (.cat [0, 1]), (.group 2), (.cat [3, 0, 3])]) (evr_lst (evr_cons (r := (.text "a")) (evf_var rfl) (evr_cons (r := (.line "")) (evf_var rfl) (evr_cons (r := (.cat [0, 1])) ev_cat2 (evr_cons (r := (.group 2)) ev_group (evr_cons (r := (.cat [3, 0, 3])) ev_cat3 (evr_cons (r := (.group 4)) ev_group evr_nil)))))) (by decide)) (evr_lst (evr_cons (r := (.text "a")) (evf_var rfl) (evr_cons (r := (.line "")) (evf_var rfl) (evr_cons (r := (.cat [0, 1])) ev_cat2 (evr_cons (r := (.group 2)) ev_group (evr_cons (r := (.cat [3, 0, 3])) ev_cat3 evr_nil))))) (by decide))) evp_nil) (by decide)) (by decide) (by decide)) fun rp => st_nd fun hnd => ?_
  refine q_set (d := .lst (List.map Row.dat [(.line ""), (.group 0), (.cat [1, 0]), (.group 2)])) (ω1 := (rp, Ow.lst (K10.map pairD)) :: W) (evr_lst (evr_cons (r := (.line "")) (evf_var rfl) (evr_cons (r := (.group 0)) ev_group (evr_cons (r := (.cat [1, 0])) ev_cat2 (evr_cons (r := (.group 2)) ev_group evr_nil)))) (by decide)) ?_
  refine q_append (p := rp) (ds := K10.map pairD) (ω1 := (rp, Ow.lst (K10.map pairD)) :: W) (ω2 := (rp, Ow.lst (K10.map pairD)) :: W) (ω' := (rp, Ow.lst (K11.map pairD)) :: W) (d := pairD ([(.text "a"), (.line ""), (.group 1), (.cat [2, 1]), (.group 3)], [(.line ""), (.group 0), (.cat [1, 0]), (.group 2)])) (evf_var rfl) (ev_pair (a := [(.text "a"), (.line ""), (.group 1), (.cat [2, 1]), (.group 3)]) (b := [(.line ""), (.group 0), (.cat [1, 0]), (.group 2)]) (evr_lst (evr_cons (r := (.text "a")) (evf_var rfl) (evr_cons (r := (.line "")) (evf_var rfl) (evr_cons (r := (.group 1)) ev_group (evr_cons (r := (.cat [2, 1])) ev_cat2 (evr_cons (r := (.group 3)) ev_group evr_nil))))) (by decide)) (evf_var rfl)) List.mem_cons_self List.mem_cons_self (by rw [List.length_map]; decide) (by rw [show K11.map pairD = K10.map pairD ++ [_] from List.map_append]; exact putO_at [] hnd) ?_
  refine q_set (d := .lst (List.map Row.dat [(.line ""), (.text "a"), (.text "b"), (.cat [0, 1, 2]), (.cat [3, 0])])) (ω1 := (rp, Ow.lst (K11.map pairD)) :: W) (evr_lst (evr_cons (r := (.line "")) (evf_var rfl) (evr_cons (r := (.text "a")) (evf_var rfl) (evr_cons (r := (.text "b")) (evf_var rfl) (evr_cons (r := (.cat [0, 1, 2])) ev_cat3 (evr_cons (r := (.cat [3, 0])) ev_cat2 evr_nil))))) (by decide)) ?_
  refine q_append (p := rp) (ds := K11.map pairD) (ω1 := (rp, Ow.lst (K11.map pairD)) :: W) (ω2 := (rp, Ow.lst (K11.map pairD)) :: W) (ω' := (rp, Ow.lst (K12.map pairD)) :: W) (d := pairD ([(.text "b"), (.text "a"), (.line ""), (.cat [2, 1, 0]), (.line ""), (.cat [3, 4])], [(.line ""), (.text "a"), (.text "b"), (.cat [0, 1, 2]), (.cat [3, 0])])) (evf_var rfl) (ev_pair (a := [(.text "b"), (.text "a"), (.line ""), (.cat [2, 1, 0]), (.line ""), (.cat [3, 4])]) (b := [(.line ""), (.text "a"), (.text "b"), (.cat [0, 1, 2]), (.cat [3, 0])]) (evr_lst (evr_cons (r := (.text "b")) (evf_var rfl) (evr_cons (r := (.text "a")) (evf_var rfl) (evr_cons (r := (.line "")) (evf_var rfl) (evr_cons (r := (.cat [2, 1, 0])) ev_cat3 (evr_cons (r := (.line "")) (evf_var rfl) (evr_cons (r := (.cat [3, 4])) ev_cat2 evr_nil)))))) (by decide)) (evf_var rfl)) List.mem_cons_self List.mem_cons_self (by rw [List.length_map]; decide) (by rw [show K12.map pairD = K11.map pairD ++ [_] from List.map_append]; exact putO_at [] hnd) ?_
  refine q_set (d := .lst (K13.map pairD)) (ω1 := (rp, Ow.lst (K12.map pairD)) :: W) (evp_addO (rp := rp) (xs := K12) (ys := [([(.line ""), (.group 0), (.nest 2 1), (.group 2)], [(.line ""), (.group 0), (.nest 2 1)])]) (evf_var rfl) (evp_lst (evp_cons (r := ([(.line ""), (.group 0), (.nest 2 1), (.group 2)], [(.line ""), (.group 0), (.nest 2 1)])) (ev_pair (a := [(.line ""), (.group 0), (.nest 2 1), (.group 2)]) (b := [(.line ""), (.group 0), (.nest 2 1)]) (evr_lst (evr_cons (r := (.line "")) (evf_var rfl) (evr_cons (r := (.group 0)) ev_group (evr_cons (r := (.nest 2 1)) ev_nest (evr_cons (r := (.group 2)) ev_group evr_nil)))) (by decide)) (evr_lst (evr_cons (r := (.line "")) (evf_var rfl) (evr_cons (r := (.group 0)) ev_group (evr_cons (r := (.nest 2 1)) ev_nest evr_nil))) (by decide))) evp_nil) (by decide)) List.mem_cons_self (by decide) (by decide)) ?_
  refine q_set (d := .lst (List.map Row.dat [(.text " "), (.line " "), (.cat [0, 1, 0])])) (ω1 := (rp, Ow.lst (K12.map pairD)) :: W) (evr_lst (evr_cons (r := (.text " ")) ev_text (evr_cons (r := (.line " ")) ev_line (evr_cons (r := (.cat [0, 1, 0])) ev_cat3 evr_nil))) (by decide)) ?_
  refine st_ret (evp_add (xs := K13) (ys := [([(.line " "), (.text " "), (.cat [1, 0, 1])], [(.text " "), (.line " "), (.cat [0, 1, 0])])]) (evf_var rfl) (evp_lst (evp_cons (r := ([(.line " "), (.text " "), (.cat [1, 0, 1])], [(.text " "), (.line " "), (.cat [0, 1, 0])])) (ev_pair (a := [(.line " "), (.text " "), (.cat [1, 0, 1])]) (b := [(.text " "), (.line " "), (.cat [0, 1, 0])]) (evr_lst (evr_cons (r := (.line " ")) ev_line (evr_cons (r := (.text " ")) ev_text (evr_cons (r := (.cat [1, 0, 1])) ev_cat3 evr_nil))) (by decide)) (evf_var rfl)) evp_nil) (by decide)) (by decide) (by decide)) ⟨rfl, List.sublist_cons_self _ _⟩
end
end FL

namespace FL
open PySem PySem.Spec PyProof.Rows L2
section
variable {K : PySem.W.Frag} {w : World} {G : Gs} {δ δ' : Dts} {ω ω' ω1 ω2 ω3 W : Led} {te ta tb tc to ti tv : TE} {ta' : TA} {tt tu : TT} {d x y z : Dat} {i j : Nat} {b : Bool} {ts tz t1 t2 : TS} {O : Out}
theorem ev_simp {rs out : List Row} (h : EvF K w δ ω te (docD G rs x) ω) (hd : docOk rs = true) (hs : simp? rs = some out) : EvF K w δ ω (tCall (sp_simplified K w G) [] E0 (tCons te tNil)) (docD G out .any) ω :=
  evf_call (P := fun ds d => ∃ rs x out, ds = [docD G rs x] ∧ rs.all Row.fit = true ∧ rs.length ≤ 1000 ∧ simp? rs = some out ∧ d = docD G out .any) (eva_cons h eva_nil) ⟨rs, x, out, rfl, okRows_fit (docOk_len hd).2.2, by have := (docOk_len hd).2.1; omega, hs, rfl⟩
theorem ev_isSimple {rs out : List Row} (h : EvF K w δ ω te (docD G rs x) ω) (hd : docOk rs = true) (hs : simp? rs = some out) : EvF K w δ ω (tCall (sp_is_simple K w G) [] E0 (tCons te tNil)) (.b (decide (out = rs))) ω :=
  evf_call (P := fun ds d => ∃ rs x out, ds = [docD G rs x] ∧ rs.all Row.fit = true ∧ rs.length ≤ 1000 ∧ simp? rs = some out ∧ d = .b (decide (out = rs))) (eva_cons h eva_nil) ⟨rs, x, out, rfl, okRows_fit (docOk_len hd).2.2, by have := (docOk_len hd).2.1; omega, hs, rfl⟩
theorem ev_rowList {rs : List Row} (h : EvF K w δ ω te (docD G rs x) ω) (hl : rs.length ≤ 1000) : EvF K w δ ω (tMeth G.Doc "row_list" (sp_Doc_row_list K w G) [] E0 te tNil) (.lst (rs.map Row.dat)) ω :=
  evf_methI (P := fun ds d => ∃ rs x, ds = [docD G rs x] ∧ rs.length ≤ 1000 ∧ d = .lst (rs.map Row.dat)) h (by decide +kernel) eva_nil ⟨rs, x, rfl, hl, rfl⟩
theorem py_rows (rs : List Row) : Dat.py (.lst (rs.map Row.dat)) = some (.list (rs.map Row.py)) := by
  rw [Dat.py, pys_rows]
  rfl
theorem ev_neRows {rs qs : List Row} (ha : EvF K w δ ω ta (.lst (rs.map Row.dat)) ω) (hb : EvF K w δ ω tb (.lst (qs.map Row.dat)) ω) (h1 : rs.all Row.fit = true) (h2 : qs.all Row.fit = true) : EvF K w δ ω (tOp (rNes K) ta tb) (.b (!decide (rs = qs))) ω :=
  (evf_op ha hb (rf_neD (py_rows rs) (py_rows qs) (shaped_rows h1) (shaped_rows h2))).to (by rw [PyData.eqv, eqvAll_rows])
theorem ev_eqRows {rs qs : List Row} (ha : EvF K w δ ω ta (.lst (rs.map Row.dat)) ω) (hb : EvF K w δ ω tb (.lst (qs.map Row.dat)) ω) (h1 : rs.all Row.fit = true) (h2 : qs.all Row.fit = true) : EvF K w δ ω (tOp (rEqs K) ta tb) (.b (decide (rs = qs))) ω :=
  (evf_op ha hb (rf_eqD (py_rows rs) (py_rows qs) (shaped_rows h1) (shaped_rows h2))).to (by rw [PyData.eqv, eqvAll_rows])
theorem doc_fit {rs : List Row} (hd : docOk rs = true) : rs.all Row.fit = true := okRows_fit (docOk_len hd).2.2
theorem doc_len {rs : List Row} (hd : docOk rs = true) : rs.length ≤ 1000 := by have := (docOk_len hd).2.1; omega
/-- simplified(Doc(rows)).row_list() != wanted -/
theorem ev_wanted {rs out : List Row} {tr tw : TE} (T : Tx K w G) (h : EvF K w δ ω tr (.lst (rs.map Row.dat)) ω) (hw : EvF K w δ ω tw (.lst (out.map Row.dat)) ω) (hd : docOk rs = true) (hs : simp? rs = some out) :
    EvF K w δ ω (tOp (rNes K) (tMeth G.Doc "row_list" (sp_Doc_row_list K w G) [] E0 (tCall (sp_simplified K w G) [] E0 (tCons (tMake G.Doc (sp_Doc_init K w G) [] E0 (tCons tr tNil)) tNil)) tNil) tw) (.b false) ω :=
  (ev_neRows (ev_rowList (ev_simp (evf_Doc T (eva_cons h eva_nil) hd) hd hs) (doc_len (simp_fit hs))) hw (doc_fit (simp_fit hs)) (doc_fit (simp_fit hs))).to (by rw [decide_eq_true rfl]; rfl)
theorem rowRest {r : Row} {k : Int} (hr : r = .group 0 ∨ r = .nest 0 0 ∨ r = .align 0) : True := True.intro
def t_law (K : PySem.W.Frag) (w : World) (G : Gs) : TS :=
  (tSeq (tFor (iList K (tCall (sp__law_known K w G) [] E0 tNil)) (gTup K 2 (gCons (gName 1) (gCons (gName 2) gNil)))
  (tIfS (tOr (tTest (tOp (rNes K) (tMeth G.Doc "row_list" (sp_Doc_row_list K w G) [] E0 (tCall (sp_simplified K w G) [] E0 (tCons (tMake G.Doc (sp_Doc_init K w G) [] E0 (tCons (tVar 1) tNil)) tNil)) tNil) (tVar 2))) (tTest (tOp (rNes K) (tCall (sp_is_simple K w G) [] E0 (tCons (tMake G.Doc (sp_Doc_init K w G) [] E0 (tCons (tVar 1) tNil)) tNil)) (tOp (rEqs K) (tVar 1) (tVar 2)))))
  (tRet (tC (.bl false)))
  tNext))
  (tSeq (tAsg (tCall (sp__law_source_of K w G) [] E0 (tCons (tCall (sp__law_cell_at K w G) [] E0 (tCons (tVar 0) (tCons (tC (.int 0)) tNil))) tNil)) (gName 3))
  (tSeq (tAsg (tCall (sp__law_one K w G) [] E0 (tCons (tVar 3) (tCons (tLst (tCons (tTup (tCons (tC (.str "group")) (tCons (tC (.int 0)) tNil))) (tCons (tTup (tCons (tC (.str "nest")) (tCons (tC (.int 0)) (tCons (tC (.int 0)) tNil)))) (tCons (tTup (tCons (tC (.str "align")) (tCons (tC (.int 0)) tNil))) tNil)))) tNil))) (gName 4))
  (tSeq (tAsg (tOp (rPlus K) (tLst (tCons (tTup (tCons (tC (.str "line")) (tCons (tC (.str "")) tNil))) (tCons (tTup (tCons (tC (.str "align")) (tCons (tC (.int 0)) tNil))) tNil))) (tLc (iRng1 (tCons (tC (.int 198)) tNil)) (gName 5) tYes (tOp (rPlus K) (tSl (rCut K) (tVar 4) tNoPart (tPart (tUn rNeg (tC (.int 1))))) (tTup (tCons (tOp (rPlus K) (tVar 5) (tC (.int 1))) tNil))) [5])) (gName 1))
  (tSeq (tAsg (tOp (rPlus K) (tLst (tCons (tTup (tCons (tC (.str "line")) (tCons (tC (.str "")) tNil))) (tCons (tTup (tCons (tC (.str "align")) (tCons (tC (.int 0)) tNil))) tNil))) (tOp rTimes (tLst (tCons (tTup (tCons (tC (.str "group")) (tCons (tC (.int 1)) tNil))) tNil)) (tCB rInt1 (tCons (tOp (rEqs K) (tOp (rAts K w) (tVar 4) (tC (.int 0))) (tC (.str "group"))) tNil)))) (gName 2))
  (tSeq (tIfS (tTest (tOp (rNes K) (tMeth G.Doc "row_list" (sp_Doc_row_list K w G) [] E0 (tCall (sp_simplified K w G) [] E0 (tCons (tMake G.Doc (sp_Doc_init K w G) [] E0 (tCons (tVar 1) tNil)) tNil)) tNil) (tVar 2)))
  (tRet (tC (.bl false)))
  tNext)
  (tSeq (tAsg (tOp (rPlus K) (tLst (tCons (tTup (tCons (tC (.str "line")) (tCons (tC (.str "")) tNil))) tNil)) (tLc (iRng1 (tCons (tC (.int 199)) tNil)) (gName 5) tYes (tTup (tCons (tC (.str "nest")) (tCons (tC (.int 5)) (tCons (tVar 5) tNil)))) [5])) (gName 6))
  (tRet (tAndV (tOp (rEqC G.Doc (sp_Doc_eq K w G)) (tCall (sp_simplified K w G) [] E0 (tCons (tMake G.Doc (sp_Doc_init K w G) [] E0 (tCons (tVar 6) tNil)) tNil)) (tMake G.Doc (sp_Doc_init K w G) [] E0 (tCons (tVar 6) tNil))) (tCall (sp_is_simple K w G) [] E0 (tCons (tMake G.Doc (sp_Doc_init K w G) [] E0 (tCons (tVar 6) tNil)) tNil)))))))))))
abbrev N_law : List Str := ["_law_script", "_law_rows", "_law_wanted", "_law_source", "_law_row", "_law_at", "_law_deep"]
def sp_law (K : PySem.W.Frag) (w : World) (G : Gs) : Sp := spM K w (pureC fun ds d => ∃ ns, ds = [.scr ns] ∧ d = .b true)
theorem pure_law (T : Tx K w G) : ∀ vs H Q E, sp_law K w G vs H Q E → t_law K w G { nx := fun _ H' => Q .non H', rt := Q } (L2.start N_law vs) H := pure_body fun ds d W hP => by
  obtain ⟨ns, rfl, rfl⟩ := hP
  refine st_seq (N := fun δ' ω' => (∃ x1 x2, δ' = [some (.scr ns), x1, x2, none, none, none, none]) ∧ ω' = W) (st_for (us := [1, 2]) (es := known.map pairD) (evi_list (evf_call (P := fun ds d => ds = [] ∧ d = .lst (known.map pairD)) eva_nil ⟨rfl, rfl⟩)) (fun _ δ' ω' => (∃ x1 x2, δ' = [some (.scr ns), x1, x2, none, none, none, none]) ∧ ω' = W) ⟨⟨none, none, rfl⟩, rfl⟩ (fun i d δ' ω' ed hI => ?_) fun δ' ω' hI => hI) fun δ' ω' hN => ?_
  · obtain ⟨⟨x1, x2, rfl⟩, rfl⟩ := hI
    rw [List.getElem?_map] at ed
    obtain ⟨p, ep, rfl⟩ := Option.map_eq_some_iff.mp ed
    have hk := List.all_eq_true.mp known_ok p (List.mem_of_getElem? ep)
    unfold knownOk at hk
    simp only [Bool.and_eq_true, decide_eq_true_eq] at hk
    obtain ⟨⟨hd, _⟩, hs⟩ := hk
    refine ⟨_, tg_tup (tgs_cons tg_name (tgs_cons tg_name tgs_nil)) rfl, ?_⟩
    refine st_no (evt_or (a := false) (c := false) (evt_test (ev_wanted T (evf_var rfl) (evf_var rfl) hd hs)) (fun _ => evt_test ((evf_op (ev_isSimple (evf_Doc T (eva_cons (evf_var rfl) eva_nil) hd) hd hs) (ev_eqRows (evf_var rfl) (evf_var rfl) (doc_fit hd) (doc_fit (simp_fit hs))) (rf_neS rfl)).to ?_)) fun z => nomatch z) (st_next ⟨⟨_, _, rfl⟩, rfl⟩)
    have : decide (p.2 = p.1) = decide (p.1 = p.2) := by rw [Bool.eq_iff_iff]; simp [eq_comm]
    rw [this]
    simp
  · obtain ⟨⟨x1, x2, rfl⟩, rfl⟩ := hN
    have hsrc := evm_call (K := K) (w := w) (δ := [some (.scr ns), x1, x2, none, none, none, none]) (ω := ω') (E0' := E0) (W := ω') (ω2 := []) (C := srcC) (eva_cons (evf_call (E0' := E0) (P := fun ds d => ∃ (ns : List Int) (k : Nat), ds = [.scr ns, .i k] ∧ d = .i ((ns[k]?).getD 0)) (eva_cons (evf_var (i := 0) rfl) (eva_cons evf_c eva_nil)) ⟨ns, 0, rfl, rfl⟩) eva_nil) ⟨_, rfl, rfl, rfl⟩ (.refl _)
    refine q_setM hsrc fun d ω1 hR => ?_
    obtain ⟨ω3, ⟨sp, a, b, rfl, rfl⟩, rfl⟩ := hR
    have hone := evm_call (K := K) (w := w) (δ := ([some (.scr ns), x1, x2, none, none, none, none] : Dts).set 3 (some (.v (.ref sp)))) (ω := [(sp, srcO a b 0)] ++ ω') (E0' := E0) (W := ω') (ω2 := [(sp, srcO a b 0)]) (C := oneC) (eva_cons (evf_var (i := 3) rfl) (eva_cons (evr_lst (evr_cons (r := .group 0) ev_group (evr_cons (r := .nest 0 0) ev_nest (evr_cons (r := .align 0) ev_align evr_nil))) (by decide)) eva_nil)) ⟨sp, a, b, 0, _, rfl, by decide, by decide, rfl, rfl⟩ (.refl _)
    refine q_setM hone fun d ω1 hR => ?_
    obtain ⟨ω3, ⟨i, a', c', hi, rfl⟩, rfl⟩ := hR
    have hrow : ∃ (r : Row) (f : Int → Row) (out : List Row), d = r.dat ∧ (r.isGroup = true → out = [.line "", .align 0, .group 1]) ∧ (r.isGroup = false → out = [.line "", .align 0]) ∧ (∀ k, ∃ ds, r.dat = .tup ds ∧ .tup (cutD ds none (some (-1)) ++ [.i k]) = (f k).dat ∧ ds.length ≤ 3) ∧ docOk (longOf fun i => f ((i : Int) + 1)) = true ∧ simp? (longOf fun i => f ((i : Int) + 1)) = some out := by
      match i, hi with
      | 0, hi => cases hi; exact ⟨.group 0, .group, [.line "", .align 0, .group 1], rfl, (fun _ => rfl), (fun z => (nomatch z)), fun k => ⟨_, rfl, rfl, by decide⟩, long_group.1, long_group.2⟩
      | 1, hi => cases hi; exact ⟨.nest 0 0, .nest 0, [.line "", .align 0], rfl, (fun z => (nomatch z)), (fun _ => rfl), fun k => ⟨_, rfl, rfl, by decide⟩, long_nest.1, long_nest.2⟩
      | 2, hi => cases hi; exact ⟨.align 0, .align, [.line "", .align 0], rfl, (fun z => (nomatch z)), (fun _ => rfl), fun k => ⟨_, rfl, rfl, by decide⟩, long_align.1, long_align.2⟩
      | n + 3, hi => cases hi
    obtain ⟨r, f, out, rfl, ho1, ho2, hcut, hd, hs⟩ := hrow
    generalize hL : [(sp, srcO a' b c')] ++ ω' = L
    have sub : ω'.Sublist L := by rw [← hL]; exact List.sublist_cons_self _ _
    have hm := evf_map (K := K) (w := w) (ω := L) (ω1 := L) (δ := (([some (.scr ns), x1, x2, none, none, none, none] : Dts).set 3 (some (.v (.ref sp)))).set 4 (some r.dat)) (j := 5) (vs := [5]) (te := tOp (rPlus K) (tSl (rCut K) (tVar 4) tNoPart (tPart (tUn rNeg (tC (.int 1))))) (tTup (tCons (tOp (rPlus K) (tVar 5) (tC (.int 1))) tNil))) (fun d => match d with | .v (.int i) => (f (i + 1)).dat | _ => .any) (evi_rng1 (n := 198) (eva_cons evf_c eva_nil) (by decide) (by decide)) (by rw [rngD_length]; decide) (by simp) fun d hd q o => by
      obtain ⟨i, _, rfl⟩ := List.mem_map.mp hd
      obtain ⟨ds, e1, e2, e3⟩ := hcut (0 + (i : Nat) + 1)
      refine (evf_op (evf_sl (x := .tup ds) (by rw [← e1]; exact evf_var rfl) evo_none (evo_some (evf_un evf_c uf_neg)) sf_tup) (evf_tup (eva_cons (evf_op (evf_var rfl) evf_c rf_addI) eva_nil) (Nat.le_of_ble_eq_true rfl)) (rf_addT ?_)).to e2
      have : (cutD ds none (some (-1))).length ≤ 3 := by
        unfold cutD
        rw [List.length_take, List.length_drop]
        omega
      simp only [List.length_cons, List.length_nil]
      exact Nat.le_trans (show _ ≤ 4 by omega) (by decide)
    have em : (rngD 0 (198 : Int).toNat).map (fun d => match d with | .v (.int i) => (f (i + 1)).dat | _ => .any) = ((List.range 198).map fun (i : Nat) => f ((i : Int) + 1)).map Row.dat := by
      unfold rngD
      rw [List.map_map, List.map_map]
      refine List.map_congr_left fun i _ => ?_
      show (f (0 + (i : Int) + 1)).dat = (f ((i : Int) + 1)).dat
      rw [Int.zero_add]
    rw [em] at hm
    refine q_set (d := .lst ((longOf fun i => f ((i : Int) + 1)).map Row.dat)) (evr_add (xs := [.line "", .align 0]) (evr_lst (evr_cons (r := .line "") ev_line (evr_cons (r := .align 0) ev_align evr_nil)) (by decide)) hm (by decide) (by simp)) ?_
    have hb : EvF K w (((([some (.scr ns), x1, x2, none, none, none, none] : Dts).set 3 (some (.v (.ref sp)))).set 4 (some r.dat)).set 1 (some (.lst ((longOf fun i => f ((i : Int) + 1)).map Row.dat)))) L (tOp (rTimes) (tLst (tCons (tTup (tCons (tC (.str "group")) (tCons (tC (.int 1)) tNil))) tNil)) (tCB rInt1 (tCons (tOp (rEqs K) (tOp (rAts K w) (tVar 4) (tC (.int 0))) (tC (.str "group"))) tNil))) (.lst ((if r.isGroup then [Row.group 1] else []).map Row.dat)) L := by
      refine (evf_op (evr_lst (rs := [.group 1]) (evr_cons ev_group evr_nil) (by decide)) (evf_cb (eva_cons (ev_eqw (evd_word (evf_var rfl)) r.word_group) eva_nil) cf_intB) (rf_mulL ?_ ?_ ?_)).to ?_
      · split <;> decide
      · split <;> decide
      · split <;> decide
      · cases r.isGroup <;> rfl
    refine q_set (d := .lst (out.map Row.dat)) ((evr_add (xs := [.line "", .align 0]) (ys := if r.isGroup then [Row.group 1] else []) (evr_lst (evr_cons (r := .line "") ev_line (evr_cons (r := .align 0) ev_align evr_nil)) (by decide)) hb (by decide) (by split <;> decide)).to ?_) ?_
    · cases hg : r.isGroup with
      | true => rw [ho1 hg]; rfl
      | false => rw [ho2 hg]; rfl
    refine q_no (evt_test (ev_wanted T (evf_var rfl) (evf_var rfl) hd hs)) (q_next ?_)
    have hm2 := evf_map (K := K) (w := w) (ω := L) (ω1 := L) (δ := (((([some (.scr ns), x1, x2, none, none, none, none] : Dts).set 3 (some (.v (.ref sp)))).set 4 (some r.dat)).set 1 (some (.lst ((longOf fun i => f ((i : Int) + 1)).map Row.dat)))).set 2 (some (.lst (out.map Row.dat)))) (j := 5) (vs := [5]) (te := tTup (tCons (tC (.str "nest")) (tCons (tC (.int 5)) (tCons (tVar 5) tNil)))) (fun d => .tup [.s "nest", .i 5, d]) (evi_rng1 (n := 199) (eva_cons evf_c eva_nil) (by decide) (by decide)) (by rw [rngD_length]; decide) (by simp) fun d hd q o => evf_tup (eva_cons evf_c (eva_cons evf_c (eva_cons (evf_var rfl) eva_nil))) (Nat.le_of_ble_eq_true rfl)
    have em2 : (rngD 0 (199 : Int).toNat).map (fun d => .tup [.s "nest", .i 5, d]) = ((List.range 199).map fun (i : Nat) => Row.nest 5 (i : Int)).map Row.dat := by
      unfold rngD
      rw [List.map_map, List.map_map]
      refine List.map_congr_left fun i _ => ?_
      show Dat.tup [.s "nest", .i 5, .i (0 + (i : Int))] = (Row.nest 5 (i : Int)).dat
      rw [Int.zero_add]
      rfl
    rw [em2] at hm2
    refine q_set (d := .lst (deep.map Row.dat)) (evr_add (xs := [.line ""]) (evr_lst (evr_cons (r := .line "") ev_line evr_nil) (by decide)) hm2 (by decide) (by simp)) ?_
    refine st_ret ((evf_andV (a := true) (c := true) ((evf_eqC (P := fun ds d => ∃ rs qs x y, ds = [docD G rs x, docD G qs y] ∧ rs.all Row.fit = true ∧ qs.all Row.fit = true ∧ d = .b (decide (rs = qs))) (ev_simp (evf_Doc T (eva_cons (evf_var rfl) eva_nil) deep_ok.1) deep_ok.1 deep_ok.2) (evf_Doc T (eva_cons (evf_var rfl) eva_nil) deep_ok.1) ⟨deep, deep, .any, .any, rfl, doc_fit deep_ok.1, doc_fit deep_ok.1, ?_⟩)) (fun _ => (ev_isSimple (evf_Doc T (eva_cons (evf_var rfl) eva_nil) deep_ok.1) deep_ok.1 deep_ok.2).to ?_) fun z => nomatch z).to rfl) ⟨rfl, sub⟩
    · rw [decide_eq_true rfl]
    · rw [decide_eq_true rfl]
end
end FL

namespace FL
open PySem PySem.Spec PyProof.Rows L2
def top (i : Nat) : Stmt := PySem.Challenge.pw_farlayout_k61_known_rewritings.main.body.getD i (.Pass ⟨0, 0, 0, 0⟩)
/-- a def that keeps its promise -/
structure Fc (P : Program) (w : World) (K : PySem.W.Frag) (mg : Str → Option Value) (base : Heap) (k : Nat) (ps : List Str) (sp : Sp) (f : Addr) (fd : FuncData) : Prop where
  ok : FnOk P w K mg base CX0 k f fd ps sp
  kp : PySem.W.keepIn K (.ref f) = true
  b : Binds K fd ps []
theorem Fc.of {P : Program} {w : World} {K : PySem.W.Frag} {mg : Str → Option Value} {base : Heap} {k : Nat} {N ps : List Str} {sp : Sp} {f : Addr} {fd : FuncData} {x qual : Str} {params : Arguments} {body : List Stmt} {scope : Scope} (F : FunD K x qual params body scope [] [] f fd) (S : FnScope N ps scope) (len : ∀ vs H Q E, sp vs H Q E → vs.length = ps.length)
    (hbody : ∀ (cdv : Value) (A : Around) (outer : List Env) (s : Shared) (H : Hp) (vs : List V) (Q : VK) (E : XK), Room k (A.deeper (envOfC qual scope s.heap.objs.size f cdv)) → sp vs H Q E → ∃ t, PSs (cxOf CX0 P w K mg base N qual scope f cdv A outer s H E) body t ∧ t { nx := fun _ H' => Q .non H', rt := Q } (L2.start N vs) H)
    (h : ∀ (kV doc pm : Value) (an : Option Addr) (cdv ct : Value) (us : List Value), us.length = ps.length → bindArgs (PySem.W.fnOf x qual params body scope .none kV doc pm an cdv ct) ⟨us, []⟩ = pure (ps.zip us)) : Fc P w K mg base (k + 1) ps sp f fd := ⟨F.ok S len hbody, F.kp, F.bindsN h⟩
/-- what the module's names stand for -/
structure Tn (K : PySem.W.Frag) (mg : Str → Option Value) (G : Gs) : Prop where
  n_all : mg "all" = none
  n_any : mg "any" = none
  n_bool : mg "bool" = none
  n_enumerate : mg "enumerate" = none
  n_int : mg "int" = none
  n_isinstance : mg "isinstance" = none
  n_len : mg "len" = none
  n_list : mg "list" = none
  n_range : mg "range" = none
  n_str : mg "str" = none
  n_tuple : mg "tuple" = none
  c_MOST_NEST : ∃ t, mg "MOST_NEST" = some (.int 8 t)
  c_MOST_PARTS : ∃ t, mg "MOST_PARTS" = some (.int 8 t)
  c_MOST_ROWS : ∃ t, mg "MOST_ROWS" = some (.int 200 t)
  c_Doc : mg "Doc" = some (.ref G.Doc)
  c_EMPTY : mg "EMPTY" = some (.ref G.EMPTY)
  c_MOST_SIGNS : mg "MOST_SIGNS" = some (.ref G.MOST_SIGNS)
  c_SIZES : mg "SIZES" = some (.ref G.SIZES)
  c_Store : mg "Store" = some (.ref G.Store)
  k_Doc : Cls K G.Doc
  k_Store : Cls K G.Store
section
variable {P : Program} {w : World} {K : PySem.W.Frag} {mg : Str → Option Value} {base : Heap} {G : Gs}
abbrev s_is_integer : Stmt := (top 5)
theorem sc_is_integer : FnScope N_is_integer ["value"] (defScope s_is_integer) := ⟨rfl, rfl, rfl, by decide +kernel, rfl, by decide +kernel, by decide +kernel⟩
theorem len_is_integer : ∀ vs H Q E, sp_is_integer K w G vs H Q E → vs.length = 1 := fun vs H Q E h => by
  obtain ⟨F, ds, ω, W, R, hC, _, l, _⟩ := h
  rw [l.length]
  obtain ⟨_, _, ⟨_, _, rfl, _⟩, _⟩ := hC
  rfl
theorem ok_is_integer (T : Tn K mg G) (T0 : Tx K w G)  {f : Addr} {fd : FuncData} (F : FunD K "is_integer" "is_integer" (defArgs s_is_integer) (defBody s_is_integer) (defScope s_is_integer) [] [] f fd) : Fc P w K mg base 1 ["value"] (sp_is_integer K w G) f fd := by
  have S := sc_is_integer
  refine Fc.of (k := 0) F S len_is_integer (fun cdv A outer s H vs Q E hr h => ⟨t_is_integer K w G, PSs.nox ?_, pure_is_integer vs H Q E h⟩) fun _ _ _ _ _ _ us hl => match us, hl with | [_], _ => rfl
  exact (pss_one (ps_ret (pe_and (pe_callB call_isi (by rfl) T.n_isinstance (by decide +kernel) (pa_cons (pv 0) (pa_cons (pe_bltn (v := .ty "int") (by rfl) T.n_int (by decide +kernel) rfl) pa_nil))) (pe_one (pe_not (pe_callB call_isi (by rfl) T.n_isinstance (by decide +kernel) (pa_cons (pv 0) (pa_cons (pe_bltn (v := .ty "bool") (by rfl) T.n_bool (by decide +kernel) rfl) pa_nil))))))))
abbrev s_is_between : Stmt := (top 6)
theorem sc_is_between : FnScope N_is_between ["value", "low", "high"] (defScope s_is_between) := ⟨rfl, rfl, rfl, by decide +kernel, rfl, by decide +kernel, by decide +kernel⟩
theorem len_is_between : ∀ vs H Q E, sp_is_between K w G vs H Q E → vs.length = 3 := fun vs H Q E h => by
  obtain ⟨F, ds, ω, W, R, hC, _, l, _⟩ := h
  rw [l.length]
  obtain ⟨_, _, ⟨_, _, _, _, rfl, _⟩, _⟩ := hC
  rfl
theorem ok_is_between (T : Tn K mg G) (T0 : Tx K w G) {f_is_integer : Addr} {fd_is_integer : FuncData} (C_is_integer : Fc P w K mg base 1 ["value"] (sp_is_integer K w G) f_is_integer fd_is_integer) (g_is_integer : mg "is_integer" = some (.ref f_is_integer)) {f : Addr} {fd : FuncData} (F : FunD K "is_between" "is_between" (defArgs s_is_between) (defBody s_is_between) (defScope s_is_between) [] [] f fd) : Fc P w K mg base 2 ["value", "low", "high"] (sp_is_between K w G) f fd := by
  have S := sc_is_between
  refine Fc.of (k := 1) F S len_is_between (fun cdv A outer s H vs Q E hr h => ⟨t_is_between K w G, PSs.nox ?_, pure_is_between vs H Q E h⟩) fun _ _ _ _ _ _ us hl => match us, hl with | [_, _, _], _ => rfl
  exact (pss_one (ps_ret (pe_and (pe_call C_is_integer.ok (hr.mono (by decide)) (by rfl) g_is_integer C_is_integer.kp C_is_integer.b .nil pass0 (pa_cons (pv 0) pa_nil)) (pe_one (pe_chain op_les op_les (pv 1) (pv 0) (pv 2))))))
abbrev s_is_signs : Stmt := (top 13)
theorem sc_is_signs : FnScope N_is_signs ["value", "most"] (defScope s_is_signs) := ⟨rfl, rfl, rfl, by decide +kernel, rfl, by decide +kernel, by decide +kernel⟩
theorem len_is_signs : ∀ vs H Q E, sp_is_signs K w G vs H Q E → vs.length = 2 := fun vs H Q E h => by
  obtain ⟨F, ds, ω, W, R, hC, _, l, _⟩ := h
  rw [l.length]
  obtain ⟨_, _, ⟨_, _, rfl, _⟩, _⟩ := hC
  rfl
theorem ok_is_signs (T : Tn K mg G) (T0 : Tx K w G)  {f : Addr} {fd : FuncData} (F : FunD K "is_signs" "is_signs" (defArgs s_is_signs) (defBody s_is_signs) (defScope s_is_signs) [] [] f fd) : Fc P w K mg base 1 ["value", "most"] (sp_is_signs K w G) f fd := by
  have S := sc_is_signs
  refine Fc.of (k := 0) F S len_is_signs (fun cdv A outer s H vs Q E hr h => ⟨t_is_signs K w G, PSs.nox ?_, pure_is_signs vs H Q E h⟩) fun _ _ _ _ _ _ us hl => match us, hl with | [_, _], _ => rfl
  exact (pss_one (ps_ret (pe_and (pe_callB call_isi (by rfl) T.n_isinstance (by decide +kernel) (pa_cons (pv 0) (pa_cons (pe_bltn (v := .ty "str") (by rfl) T.n_str (by decide +kernel) rfl) pa_nil))) (pe_and (pe_cmpR op_les (pe_callB call_lens (by rfl) T.n_len (by decide +kernel) (pa_cons (pv 0) pa_nil)) (pv 1) (nomark _)) (pe_one (pe_callB (cr_all rfl) (by rfl) T.n_all (by decide +kernel) (pa_cons (pe_lc (own := [("sign", 2)]) (g := (gName 2)) rfl S.nd (pi_str (pv 0)) (blkOk_by (own := [("sign", 2)]) (N := N_is_signs) (sc := defScope s_is_signs) (by decide +kernel)) (fun _ _ _ _ _ => (pg_name (i := 2) S.nd rfl (.inl rfl))) (fun _ _ _ _ _ => pts_nil) (fun _ _ _ _ _ => (pe_chain op_les op_les pe_str (pv 2) pe_str))) pa_nil)))))))
abbrev s_is_row : Stmt := (top 14)
theorem sc_is_row : FnScope N_is_row ["value", "number"] (defScope s_is_row) := ⟨rfl, rfl, rfl, by decide +kernel, rfl, by decide +kernel, by decide +kernel⟩
theorem len_is_row : ∀ vs H Q E, sp_is_row K w G vs H Q E → vs.length = 2 := fun vs H Q E h => by
  obtain ⟨F, ds, ω, W, R, hC, _, l, _⟩ := h
  rw [l.length]
  obtain ⟨_, _, ⟨_, _, rfl, _⟩, _⟩ := hC
  rfl
theorem ok_is_row (T : Tn K mg G) (T0 : Tx K w G) {f_is_between : Addr} {fd_is_between : FuncData} (C_is_between : Fc P w K mg base 2 ["value", "low", "high"] (sp_is_between K w G) f_is_between fd_is_between) (g_is_between : mg "is_between" = some (.ref f_is_between)) {f_is_signs : Addr} {fd_is_signs : FuncData} (C_is_signs : Fc P w K mg base 1 ["value", "most"] (sp_is_signs K w G) f_is_signs fd_is_signs) (g_is_signs : mg "is_signs" = some (.ref f_is_signs)) {f : Addr} {fd : FuncData} (F : FunD K "is_row" "is_row" (defArgs s_is_row) (defBody s_is_row) (defScope s_is_row) [] [] f fd) : Fc P w K mg base 3 ["value", "number"] (sp_is_row K w G) f fd := by
  have S := sc_is_row
  refine Fc.of (k := 2) F S len_is_row (fun cdv A outer s H vs Q E hr h => ⟨t_is_row K w G, PSs.nox ?_, pure_is_row T0 vs H Q E h⟩) fun _ _ _ _ _ _ us hl => match us, hl with | [_, _], _ => rfl
  exact (pss_cons (ps_if (PW.pt (pw_or (pt_not (pt_val (pe_callB call_isi (by rfl) T.n_isinstance (by decide +kernel) (pa_cons (pv 0) (pa_cons (pe_bltn (v := .ty "tuple") (by rfl) T.n_tuple (by decide +kernel) rfl) pa_nil))))) (pw_or (pt_cmpR (op_eqs hr.units) (pe_callB call_lens (by rfl) T.n_len (by decide +kernel) (pa_cons (pv 0) pa_nil)) pe_int (nomark _)) (pw_or1 (pt_not (pt_val (pe_callB call_isi (by rfl) T.n_isinstance (by decide +kernel) (pa_cons (pe_ix (ix_ats hr.units) (pv 0) pe_int (fun _ _ => rfl)) (pa_cons (pe_bltn (v := .ty "str") (by rfl) T.n_str (by decide +kernel) rfl) pa_nil)))))))))
  (pss_one (ps_ret pe_bl))
  pss_nil)
  (pss_cons (ps_set (i := 2) S.nd rfl (.inl rfl) (pe_ix (ix_ats hr.units) (pv 0) pe_int (fun _ _ => rfl)))
  (pss_cons (ps_if (PW.pt (pw_or (pt_cmpR (op_notIns hr.units) (pv 2) (pe_gref (by rfl) T.c_SIZES) (by rfl)) (pw_or1 (pt_cmpR (op_nes hr.units) (pe_callB call_lens (by rfl) T.n_len (by decide +kernel) (pa_cons (pv 0) pa_nil)) (pe_ix (ix_ats hr.units) (pe_gref (by rfl) T.c_SIZES) (pv 2) (fun _ _ => rfl)) (nomark _)))))
  (pss_one (ps_ret pe_bl))
  pss_nil)
  (pss_cons (ps_if (pt_cmpR (op_ins hr.units) (pv 2) (pe_gref (by rfl) T.c_MOST_SIGNS) (by rfl))
  (pss_one (ps_ret (pe_call C_is_signs.ok (hr.mono (by decide)) (by rfl) g_is_signs C_is_signs.kp C_is_signs.b .nil pass0 (pa_cons (pe_ix (ix_ats hr.units) (pv 0) pe_int (fun _ _ => rfl)) (pa_cons (pe_ix (ix_ats hr.units) (pe_gref (by rfl) T.c_MOST_SIGNS) (pv 2) (fun _ _ => rfl)) pa_nil)))))
  pss_nil)
  (pss_cons (ps_if (pt_cmpR (op_eqs hr.units) (pv 2) pe_str (nomark _))
  (pss_cons (ps_set (i := 3) S.nd rfl (.inl rfl) (pe_and (pe_callB call_isi (by rfl) T.n_isinstance (by decide +kernel) (pa_cons (pe_ix (ix_ats hr.units) (pv 0) pe_int (fun _ _ => rfl)) (pa_cons (pe_bltn (v := .ty "list") (by rfl) T.n_list (by decide +kernel) rfl) pa_nil))) (pe_one (pe_cmpR op_les (pe_callB call_lens (by rfl) T.n_len (by decide +kernel) (pa_cons (pe_ix (ix_ats hr.units) (pv 0) pe_int (fun _ _ => rfl)) pa_nil)) (pe_gint (by rfl) T.c_MOST_PARTS) (nomark _)))))
  (pss_one (ps_ret (pe_and (pv 3) (pe_one (pe_callB (cr_all rfl) (by rfl) T.n_all (by decide +kernel) (pa_cons (pe_lc (own := [("part", 4)]) (g := (gName 4)) rfl S.nd (pi_list (pe_ix (ix_ats hr.units) (pv 0) pe_int (fun _ _ => rfl))) (blkOk_by (own := [("part", 4)]) (N := N_is_row) (sc := defScope s_is_row) (by decide +kernel)) (fun _ _ _ _ _ => (pg_name (i := 4) S.nd rfl (.inl rfl))) (fun _ _ _ _ _ => pts_nil) (fun _ _ _ _ _ => (pe_call C_is_between.ok (hr.mono (by decide)) (by rfl) g_is_between C_is_between.kp C_is_between.b .nil pass0 (pa_cons (pv 4) (pa_cons pe_int (pa_cons (pe_op op_minus (pv 1) pe_int) pa_nil)))))) pa_nil)))))))
  pss_nil)
  (pss_cons (ps_if (PW.pt (pw_and (pt_cmpR (op_eqs hr.units) (pv 2) pe_str (nomark _)) (pw_and1 (pt_not (pt_val (pe_call C_is_between.ok (hr.mono (by decide)) (by rfl) g_is_between C_is_between.kp C_is_between.b .nil pass0 (pa_cons (pe_ix (ix_ats hr.units) (pv 0) pe_int (fun _ _ => rfl)) (pa_cons pe_int (pa_cons (pe_gint (by rfl) T.c_MOST_NEST) pa_nil)))))))))
  (pss_one (ps_ret pe_bl))
  pss_nil)
  (pss_one (ps_ret (pe_or (pe_cmpR (op_eqs hr.units) (pv 2) pe_str (nomark _)) (pe_one (pe_call C_is_between.ok (hr.mono (by decide)) (by rfl) g_is_between C_is_between.kp C_is_between.b .nil pass0 (pa_cons (pe_ix (ix_ats hr.units) (pv 0) (pe_un un_negs pe_int) (fun _ _ => rfl)) (pa_cons pe_int (pa_cons (pe_op op_minus (pv 1) pe_int) pa_nil))))))))))))))
abbrev s_copied_row : Stmt := (top 15)
theorem sc_copied_row : FnScope N_copied_row ["row"] (defScope s_copied_row) := ⟨rfl, rfl, rfl, by decide +kernel, rfl, by decide +kernel, by decide +kernel⟩
theorem len_copied_row : ∀ vs H Q E, sp_copied_row K w G vs H Q E → vs.length = 1 := fun vs H Q E h => by
  obtain ⟨F, ds, ω, W, R, hC, _, l, _⟩ := h
  rw [l.length]
  obtain ⟨_, _, ⟨_, rfl, _⟩, _⟩ := hC
  rfl
theorem ok_copied_row (T : Tn K mg G) (T0 : Tx K w G)  {f : Addr} {fd : FuncData} (F : FunD K "copied_row" "copied_row" (defArgs s_copied_row) (defBody s_copied_row) (defScope s_copied_row) [] [] f fd) : Fc P w K mg base 1 ["row"] (sp_copied_row K w G) f fd := by
  have S := sc_copied_row
  refine Fc.of (k := 0) F S len_copied_row (fun cdv A outer s H vs Q E hr h => ⟨t_copied_row K w G, PSs.nox ?_, pure_copied_row vs H Q E h⟩) fun _ _ _ _ _ _ us hl => match us, hl with | [_], _ => rfl
  exact (pss_one (ps_ret (pe_ifExp (pt_cmpR (op_eqs hr.units) (pe_ix (ix_ats hr.units) (pv 0) pe_int (fun _ _ => rfl)) pe_str (nomark _)) (pe_tup (pa_cons pe_str (pa_cons (pe_callTy call_listOf (by rfl) T.n_list (by decide +kernel) (pa_cons (pe_ix (ix_ats hr.units) (pv 0) pe_int (fun _ _ => rfl)) pa_nil)) pa_nil))) (pv 0))))
abbrev s_parts_of : Stmt := (top 16)
theorem sc_parts_of : FnScope N_parts_of ["row"] (defScope s_parts_of) := ⟨rfl, rfl, rfl, by decide +kernel, rfl, by decide +kernel, by decide +kernel⟩
theorem len_parts_of : ∀ vs H Q E, sp_parts_of K w G vs H Q E → vs.length = 1 := fun vs H Q E h => by
  obtain ⟨F, ds, ω, W, R, hC, _, l, _⟩ := h
  rw [l.length]
  obtain ⟨_, _, ⟨_, rfl, _⟩, _⟩ := hC
  rfl
theorem ok_parts_of (T : Tn K mg G) (T0 : Tx K w G)  {f : Addr} {fd : FuncData} (F : FunD K "parts_of" "parts_of" (defArgs s_parts_of) (defBody s_parts_of) (defScope s_parts_of) [] [] f fd) : Fc P w K mg base 1 ["row"] (sp_parts_of K w G) f fd := by
  have S := sc_parts_of
  refine Fc.of (k := 0) F S len_parts_of (fun cdv A outer s H vs Q E hr h => ⟨t_parts_of K w G, PSs.nox ?_, pure_parts_of vs H Q E h⟩) fun _ _ _ _ _ _ us hl => match us, hl with | [_], _ => rfl
  exact (pss_cons (ps_if (pt_cmpR (op_eqs hr.units) (pe_ix (ix_ats hr.units) (pv 0) pe_int (fun _ _ => rfl)) pe_str (nomark _))
  (pss_one (ps_ret (pe_ix (ix_ats hr.units) (pv 0) pe_int (fun _ _ => rfl))))
  pss_nil)
  (pss_one (ps_ret (pe_ifExp (pt_cmpR (op_ins hr.units) (pe_ix (ix_ats hr.units) (pv 0) pe_int (fun _ _ => rfl)) (pe_tup (pa_cons pe_str (pa_cons pe_str (pa_cons pe_str pa_nil)))) (by rfl)) (pe_lst pa_nil) (pe_lst (pa_cons (pe_ix (ix_ats hr.units) (pv 0) (pe_un un_negs pe_int) (fun _ _ => rfl)) pa_nil))))))
abbrev s_Doc_init : Stmt := (inClass (top 17) 0)
theorem sc_Doc_init : FnScope N_Doc_init ["self", "rows"] (defScope s_Doc_init) := ⟨rfl, rfl, rfl, by decide +kernel, rfl, by decide +kernel, by decide +kernel⟩
theorem len_Doc_init : ∀ vs H Q E, sp_Doc_init K w G vs H Q E → vs.length = 2 := fun vs H Q E h => by
  obtain ⟨F, ds, ω, W, R, hC, _, l, _⟩ := h
  rw [l.length]
  obtain ⟨_, _, rfl, _⟩ := hC
  rfl
theorem ok_Doc_init (T : Tn K mg G) (T0 : Tx K w G) {f_copied_row : Addr} {fd_copied_row : FuncData} (C_copied_row : Fc P w K mg base 1 ["row"] (sp_copied_row K w G) f_copied_row fd_copied_row) (g_copied_row : mg "copied_row" = some (.ref f_copied_row)) {f_is_row : Addr} {fd_is_row : FuncData} (C_is_row : Fc P w K mg base 3 ["value", "number"] (sp_is_row K w G) f_is_row fd_is_row) (g_is_row : mg "is_row" = some (.ref f_is_row)) {f : Addr} {fd : FuncData} (F : FunD K "__init__" "Doc.__init__" (defArgs s_Doc_init) (defBody s_Doc_init) (defScope s_Doc_init) [] [] f fd) : Fc P w K mg base 4 ["self", "rows"] (sp_Doc_init K w G) f fd := by
  have S := sc_Doc_init
  refine Fc.of (k := 3) F S len_Doc_init (fun cdv A outer s H vs Q E hr h => ⟨t_Doc_init K w G, PSs.nox ?_, pure_Doc_init T0 vs H Q E h⟩) fun _ _ _ _ _ _ us hl => match us, hl with | [_, _], _ => rfl
  exact (pss_cons (ps_if (PW.pt (pw_or (pt_not (pt_val (pe_callB call_isi (by rfl) T.n_isinstance (by decide +kernel) (pa_cons (pv 1) (pa_cons (pe_bltn (v := .ty "list") (by rfl) T.n_list (by decide +kernel) rfl) pa_nil))))) (pw_or1 (pt_not (pt_chain op_les op_les pe_int (pe_callB call_lens (by rfl) T.n_len (by decide +kernel) (pa_cons (pv 1) pa_nil)) (pe_gint (by rfl) T.c_MOST_ROWS))))))
  pss_never
  pss_nil)
  (pss_cons (ps_for PassesOwn.never rfl (pi_enum (by rfl) T.n_enumerate (pa_cons (pv 1) pa_nil)) (pg_tup rfl (pgs_cons (pg_name (i := 2) S.nd rfl (.inl rfl)) (pgs_cons (pg_name (i := 3) S.nd rfl (.inl rfl)) pgs_nil)))
  (pss_one (ps_if (pt_not (pt_val (pe_call C_is_row.ok (hr.mono (by decide)) (by rfl) g_is_row C_is_row.kp C_is_row.b .nil pass0 (pa_cons (pv 3) (pa_cons (pv 2) pa_nil)))))
  pss_never
  pss_nil)))
  (pss_cons (ps_fld (pv 0) (pe_lc (own := [("row", 3)]) (g := (gName 3)) rfl S.nd (pi_list (pv 1)) (blkOk_by (own := [("row", 3)]) (N := N_Doc_init) (sc := defScope s_Doc_init) (by decide +kernel)) (fun _ _ _ _ _ => (pg_name (i := 3) S.nd rfl (.inl rfl))) (fun _ _ _ _ _ => pts_nil) (fun _ _ _ _ _ => (pe_call C_copied_row.ok (hr.mono (by decide)) (by rfl) g_copied_row C_copied_row.kp C_copied_row.b .nil pass0 (pa_cons (pv 3) pa_nil)))) rfl)
  (pss_one (ps_fld (pv 0) pe_dnewK rfl)))))
abbrev s_Doc_eq : Stmt := (inClass (top 17) 1)
theorem sc_Doc_eq : FnScope N_Doc_eq ["self", "other"] (defScope s_Doc_eq) := ⟨rfl, rfl, rfl, by decide +kernel, rfl, by decide +kernel, by decide +kernel⟩
theorem len_Doc_eq : ∀ vs H Q E, sp_Doc_eq K w G vs H Q E → vs.length = 2 := fun vs H Q E h => by
  obtain ⟨F, ds, ω, W, R, hC, _, l, _⟩ := h
  rw [l.length]
  obtain ⟨_, _, ⟨_, _, _, _, rfl, _⟩, _⟩ := hC
  rfl
theorem ok_Doc_eq (T : Tn K mg G) (T0 : Tx K w G)  {f : Addr} {fd : FuncData} (F : FunD K "__eq__" "Doc.__eq__" (defArgs s_Doc_eq) (defBody s_Doc_eq) (defScope s_Doc_eq) [] [] f fd) : Fc P w K mg base 1 ["self", "other"] (sp_Doc_eq K w G) f fd := by
  have S := sc_Doc_eq
  refine Fc.of (k := 0) F S len_Doc_eq (fun cdv A outer s H vs Q E hr h => ⟨t_Doc_eq K w G, PSs.nox ?_, pure_Doc_eq T0 vs H Q E h⟩) fun _ _ _ _ _ _ us hl => match us, hl with | [_, _], _ => rfl
  exact (pss_one (ps_ret (pe_and (pe_callB call_isi (by rfl) T.n_isinstance (by decide +kernel) (pa_cons (pv 1) (pa_cons (pe_gref (by rfl) T.c_Doc) pa_nil))) (pe_one (pe_cmpR (op_eqs hr.units) (pe_fld (pv 0) rfl) (pe_fld (pv 1) rfl) (nomark _))))))
abbrev s_Doc_row_list : Stmt := (inClass (top 17) 2)
theorem sc_Doc_row_list : FnScope N_Doc_row_list ["self"] (defScope s_Doc_row_list) := ⟨rfl, rfl, rfl, by decide +kernel, rfl, by decide +kernel, by decide +kernel⟩
theorem len_Doc_row_list : ∀ vs H Q E, sp_Doc_row_list K w G vs H Q E → vs.length = 1 := fun vs H Q E h => by
  obtain ⟨F, ds, ω, W, R, hC, _, l, _⟩ := h
  rw [l.length]
  obtain ⟨_, _, ⟨_, _, rfl, _⟩, _⟩ := hC
  rfl
theorem ok_Doc_row_list (T : Tn K mg G) (T0 : Tx K w G) {f_copied_row : Addr} {fd_copied_row : FuncData} (C_copied_row : Fc P w K mg base 1 ["row"] (sp_copied_row K w G) f_copied_row fd_copied_row) (g_copied_row : mg "copied_row" = some (.ref f_copied_row)) {f : Addr} {fd : FuncData} (F : FunD K "row_list" "Doc.row_list" (defArgs s_Doc_row_list) (defBody s_Doc_row_list) (defScope s_Doc_row_list) [] [] f fd) : Fc P w K mg base 2 ["self"] (sp_Doc_row_list K w G) f fd := by
  have S := sc_Doc_row_list
  refine Fc.of (k := 1) F S len_Doc_row_list (fun cdv A outer s H vs Q E hr h => ⟨t_Doc_row_list K w G, PSs.nox ?_, pure_Doc_row_list T0 vs H Q E h⟩) fun _ _ _ _ _ _ us hl => match us, hl with | [_], _ => rfl
  exact (pss_one (ps_ret (pe_lc (own := [("row", 1)]) (g := (gName 1)) rfl S.nd (pi_list (pe_fld (pv 0) rfl)) (blkOk_by (own := [("row", 1)]) (N := N_Doc_row_list) (sc := defScope s_Doc_row_list) (by decide +kernel)) (fun _ _ _ _ _ => (pg_name (i := 1) S.nd rfl (.inl rfl))) (fun _ _ _ _ _ => pts_nil) (fun _ _ _ _ _ => (pe_call C_copied_row.ok (hr.mono (by decide)) (by rfl) g_copied_row C_copied_row.kp C_copied_row.b .nil pass0 (pa_cons (pv 1) pa_nil))))))
abbrev s_check_doc : Stmt := (top 18)
theorem sc_check_doc : FnScope N_check_doc ["doc"] (defScope s_check_doc) := ⟨rfl, rfl, rfl, by decide +kernel, rfl, by decide +kernel, by decide +kernel⟩
theorem len_check_doc : ∀ vs H Q E, sp_check_doc K w G vs H Q E → vs.length = 1 := fun vs H Q E h => by
  obtain ⟨F, ds, ω, W, R, hC, _, l, _⟩ := h
  rw [l.length]
  obtain ⟨_, _, ⟨_, _, rfl, _⟩, _⟩ := hC
  rfl
theorem ok_check_doc (T : Tn K mg G) (T0 : Tx K w G)  {f : Addr} {fd : FuncData} (F : FunD K "check_doc" "check_doc" (defArgs s_check_doc) (defBody s_check_doc) (defScope s_check_doc) [] [] f fd) : Fc P w K mg base 1 ["doc"] (sp_check_doc K w G) f fd := by
  have S := sc_check_doc
  refine Fc.of (k := 0) F S len_check_doc (fun cdv A outer s H vs Q E hr h => ⟨t_check_doc K w G, PSs.nox ?_, pure_check_doc T0 vs H Q E h⟩) fun _ _ _ _ _ _ us hl => match us, hl with | [_], _ => rfl
  exact (pss_one (ps_if (pt_not (pt_val (pe_callB call_isi (by rfl) T.n_isinstance (by decide +kernel) (pa_cons (pv 0) (pa_cons (pe_gref (by rfl) T.c_Doc) pa_nil)))))
  pss_never
  pss_nil))
abbrev s_Store_init : Stmt := (inClass (top 21) 0)
theorem sc_Store_init : FnScope N_Store_init ["self"] (defScope s_Store_init) := ⟨rfl, rfl, rfl, by decide +kernel, rfl, by decide +kernel, by decide +kernel⟩
theorem len_Store_init : ∀ vs H Q E, sp_Store_init K w G vs H Q E → vs.length = 1 := fun vs H Q E h => by
  obtain ⟨F, ds, ω, W, R, hC, _, l, _⟩ := h
  rw [l.length]
  obtain ⟨_, rfl, _⟩ := hC
  rfl
theorem ok_Store_init (T : Tn K mg G) (T0 : Tx K w G)  {f : Addr} {fd : FuncData} (F : FunD K "__init__" "Store.__init__" (defArgs s_Store_init) (defBody s_Store_init) (defScope s_Store_init) [] [] f fd) : Fc P w K mg base 1 ["self"] (sp_Store_init K w G) f fd := by
  have S := sc_Store_init
  refine Fc.of (k := 0) F S len_Store_init (fun cdv A outer s H vs Q E hr h => ⟨t_Store_init K w G, PSs.nox ?_, pure_Store_init T0 vs H Q E h⟩) fun _ _ _ _ _ _ us hl => match us, hl with | [_], _ => rfl
  exact (pss_cons (ps_fld (pv 0) (pe_lst pa_nil) rfl)
  (pss_cons (ps_fld (pv 0) pe_dnewN rfl)
  (pss_cons (ps_fld (pv 0) (pe_lst pa_nil) rfl)
  (pss_cons (ps_fld (pv 0) (pe_lst pa_nil) rfl)
  (pss_one (ps_fld (pv 0) (pe_lst pa_nil) rfl))))))
abbrev s_Store_put : Stmt := (inClass (top 21) 1)
theorem sc_Store_put : FnScope N_Store_put ["self", "row"] (defScope s_Store_put) := ⟨rfl, rfl, rfl, by decide +kernel, rfl, by decide +kernel, by decide +kernel⟩
theorem len_Store_put : ∀ vs H Q E, sp_Store_put K w G vs H Q E → vs.length = 2 := fun vs H Q E h => by
  obtain ⟨F, ds, ω, W, R, hC, _, l, _⟩ := h
  rw [l.length]
  obtain ⟨_, _, _, _, _, _, _, _, _, _, rfl, _⟩ := hC
  rfl
theorem ok_Store_put (T : Tn K mg G) (T0 : Tx K w G) {f_parts_of : Addr} {fd_parts_of : FuncData} (C_parts_of : Fc P w K mg base 1 ["row"] (sp_parts_of K w G) f_parts_of fd_parts_of) (g_parts_of : mg "parts_of" = some (.ref f_parts_of)) {f : Addr} {fd : FuncData} (F : FunD K "put" "Store.put" (defArgs s_Store_put) (defBody s_Store_put) (defScope s_Store_put) [] [] f fd) : Fc P w K mg base 2 ["self", "row"] (sp_Store_put K w G) f fd := by
  have S := sc_Store_put
  refine Fc.of (k := 1) F S len_Store_put (fun cdv A outer s H vs Q E hr h => ⟨t_Store_put K w G, PSs.nox ?_, pure_Store_put T0 vs H Q E h⟩) fun _ _ _ _ _ _ us hl => match us, hl with | [_, _], _ => rfl
  exact (pss_cons (ps_if (pt_cmpR (op_notIns hr.units) (pv 1) (pe_fld (pv 0) rfl) (by rfl))
  (pss_cons (ps_set (i := 2) S.nd rfl (.inl rfl) (pe_ifExp (pt_cmpR (op_eqs hr.units) (pe_ix (ix_ats hr.units) (pv 1) pe_int (fun _ _ => rfl)) pe_str (nomark _)) (pe_ix (ix_ats hr.units) (pv 1) pe_int (fun _ _ => rfl)) (pe_call C_parts_of.ok (hr.mono (by decide)) (by rfl) g_parts_of C_parts_of.kp C_parts_of.b .nil pass0 (pa_cons (pv 1) pa_nil))))
  (pss_cons (ps_asg (pe_callB call_lens (by rfl) T.n_len (by decide +kernel) (pa_cons (pe_fld (pv 0) rfl) pa_nil)) (pg_sub (pe_fld (pv 0) rfl) (pv 1) (set_any hr.units) (fun _ => rfl)))
  (pss_cons (ps_expr (pe_bm PySem.F.plainAttrs_list PySem.F.slot_list_append PySem.F.type_list_append mt_append (pe_fld (pv 0) rfl) (pa_cons (pv 1) pa_nil)))
  (pss_cons (ps_set (i := 3) S.nd rfl (.inl rfl) (pe_cmpR (op_ins hr.units) (pe_ix (ix_ats hr.units) (pv 1) pe_int (fun _ _ => rfl)) (pe_tup (pa_cons pe_str (pa_cons pe_str pa_nil))) (by rfl)))
  (pss_cons (ps_expr (pe_bm PySem.F.plainAttrs_list PySem.F.slot_list_append PySem.F.type_list_append mt_append (pe_fld (pv 0) rfl) (pa_cons (pe_and (pe_not (pv 3)) (pe_one (pe_callB (cr_all rfl) (by rfl) T.n_all (by decide +kernel) (pa_cons (pe_lc (own := [("part", 4)]) (g := (gName 4)) rfl S.nd (pi_seq (pv 2)) (blkOk_by (own := [("part", 4)]) (N := N_Store_put) (sc := defScope s_Store_put) (by decide +kernel)) (fun _ _ _ _ _ => (pg_name (i := 4) S.nd rfl (.inl rfl))) (fun _ _ _ _ _ => pts_nil) (fun _ _ _ _ _ => (pe_ix (ix_ats hr.units) (pe_fld (pv 0) rfl) (pv 4) (fun _ _ => rfl)))) pa_nil)))) pa_nil)))
  (pss_cons (ps_expr (pe_bm PySem.F.plainAttrs_list PySem.F.slot_list_append PySem.F.type_list_append mt_append (pe_fld (pv 0) rfl) (pa_cons (pe_or (pe_cmpR (op_eqs hr.units) (pe_ix (ix_ats hr.units) (pv 1) pe_int (fun _ _ => rfl)) pe_str (nomark _)) (pe_one (pe_callB (cr_any rfl) (by rfl) T.n_any (by decide +kernel) (pa_cons (pe_lc (own := [("part", 4)]) (g := (gName 4)) rfl S.nd (pi_seq (pv 2)) (blkOk_by (own := [("part", 4)]) (N := N_Store_put) (sc := defScope s_Store_put) (by decide +kernel)) (fun _ _ _ _ _ => (pg_name (i := 4) S.nd rfl (.inl rfl))) (fun _ _ _ _ _ => pts_nil) (fun _ _ _ _ _ => (pe_ix (ix_ats hr.units) (pe_fld (pv 0) rfl) (pv 4) (fun _ _ => rfl)))) pa_nil)))) pa_nil)))
  (pss_one (ps_expr (pe_bm PySem.F.plainAttrs_list PySem.F.slot_list_append PySem.F.type_list_append mt_append (pe_fld (pv 0) rfl) (pa_cons (pe_or (pv 3) (pe_one (pe_and (pe_cmpR (op_nes hr.units) (pe_ix (ix_ats hr.units) (pv 1) pe_int (fun _ _ => rfl)) pe_str (nomark _)) (pe_one (pe_callB (cr_any rfl) (by rfl) T.n_any (by decide +kernel) (pa_cons (pe_lc (own := [("part", 4)]) (g := (gName 4)) rfl S.nd (pi_seq (pv 2)) (blkOk_by (own := [("part", 4)]) (N := N_Store_put) (sc := defScope s_Store_put) (by decide +kernel)) (fun _ _ _ _ _ => (pg_name (i := 4) S.nd rfl (.inl rfl))) (fun _ _ _ _ _ => pts_nil) (fun _ _ _ _ _ => (pe_ix (ix_ats hr.units) (pe_fld (pv 0) rfl) (pv 4) (fun _ _ => rfl)))) pa_nil)))))) pa_nil))))))))))
  pss_nil)
  (pss_one (ps_ret (pe_ix (ix_ats hr.units) (pe_fld (pv 0) rfl) (pv 1) (fun _ _ => rfl)))))
abbrev s_Store_turned : Stmt := (inClass (top 21) 2)
theorem sc_Store_turned : FnScope N_Store_turned ["self", "row", "places"] (defScope s_Store_turned) := ⟨rfl, rfl, rfl, by decide +kernel, rfl, by decide +kernel, by decide +kernel⟩
theorem len_Store_turned : ∀ vs H Q E, sp_Store_turned K w G vs H Q E → vs.length = 3 := fun vs H Q E h => by
  obtain ⟨F, ds, ω, W, R, hC, _, l, _⟩ := h
  rw [l.length]
  obtain ⟨_, _, _, _, _, _, _, _, _, _, _, _, rfl, _⟩ := hC
  rfl
theorem ok_Store_turned (T : Tn K mg G) (T0 : Tx K w G) {f_Store_put : Addr} {fd_Store_put : FuncData} (C_Store_put : Fc P w K mg base 2 ["self", "row"] (sp_Store_put K w G) f_Store_put fd_Store_put) (m_Store_put : Meth K G.Store "put" f_Store_put) {f : Addr} {fd : FuncData} (F : FunD K "turned" "Store.turned" (defArgs s_Store_turned) (defBody s_Store_turned) (defScope s_Store_turned) [] [] f fd) : Fc P w K mg base 3 ["self", "row", "places"] (sp_Store_turned K w G) f fd := by
  have S := sc_Store_turned
  refine Fc.of (k := 2) F S len_Store_turned (fun cdv A outer s H vs Q E hr h => ⟨t_Store_turned K w G, PSs.nox ?_, pure_Store_turned T0 vs H Q E h⟩) fun _ _ _ _ _ _ us hl => match us, hl with | [_, _, _], _ => rfl
  exact (pss_cons (ps_if (pt_cmpR (op_ins hr.units) (pe_ix (ix_ats hr.units) (pv 1) pe_int (fun _ _ => rfl)) (pe_tup (pa_cons pe_str (pa_cons pe_str (pa_cons pe_str pa_nil)))) (by rfl))
  (pss_one (ps_ret (pe_meth (pv 0) T.k_Store m_Store_put C_Store_put.ok (hr.mono (by decide)) C_Store_put.b .nil pass0 (pa_cons (pv 1) pa_nil))))
  pss_nil)
  (pss_cons (ps_if (pt_cmpR (op_eqs hr.units) (pe_ix (ix_ats hr.units) (pv 1) pe_int (fun _ _ => rfl)) pe_str (nomark _))
  (pss_cons (ps_setLc (i := 3) (own := [("part", 4)]) (g := (gName 4)) rfl S.nd rfl rfl (sw_true rfl rfl rfl (by decide +kernel)) (pi_list (pe_ix (ix_ats hr.units) (pv 1) pe_int (fun _ _ => rfl))) (blkOk_by (own := [("part", 4)]) (N := N_Store_turned) (sc := defScope s_Store_turned) (by decide +kernel)) (fun _ _ _ _ _ => (pg_name (i := 4) S.nd rfl (.inl rfl))) (fun _ _ _ _ _ => pts_one (pt_cmpR (op_nes hr.units) (pe_ix (ix_ats hr.units) (pe_fld (pv 0) rfl) (pe_ix (ix_ats hr.units) (pv 2) (pv 4) (fun _ _ => rfl)) (fun _ _ => rfl)) (pe_gref (by rfl) T.c_EMPTY) (nomark _))) (fun _ _ _ _ _ => (pe_ix (ix_ats hr.units) (pv 2) (pv 4) (fun _ _ => rfl))))
  (pss_cons (ps_if (pt_cmpR op_gts (pe_callB call_lens (by rfl) T.n_len (by decide +kernel) (pa_cons (pv 3) pa_nil)) pe_int (nomark _))
  (pss_one (ps_ret (pe_meth (pv 0) T.k_Store m_Store_put C_Store_put.ok (hr.mono (by decide)) C_Store_put.b .nil pass0 (pa_cons (pe_tup (pa_cons pe_str (pa_cons (pe_callTy call_tupOf (by rfl) T.n_tuple (by decide +kernel) (pa_cons (pv 3) pa_nil)) pa_nil))) pa_nil))))
  pss_nil)
  (pss_one (ps_ret (pe_ifExp (pt_cmpR (op_eqs hr.units) (pe_callB call_lens (by rfl) T.n_len (by decide +kernel) (pa_cons (pv 3) pa_nil)) pe_int (nomark _)) (pe_ix (ix_ats hr.units) (pv 3) pe_int (fun _ _ => rfl)) (pe_meth (pv 0) T.k_Store m_Store_put C_Store_put.ok (hr.mono (by decide)) C_Store_put.b .nil pass0 (pa_cons (pe_gref (by rfl) T.c_EMPTY) pa_nil)))))))
  pss_nil)
  (pss_cons (ps_set (i := 4) S.nd rfl (.inl rfl) (pe_ix (ix_ats hr.units) (pv 2) (pe_ix (ix_ats hr.units) (pv 1) (pe_un un_negs pe_int) (fun _ _ => rfl)) (fun _ _ => rfl)))
  (pss_cons (ps_if (PW.pt (pw_or (pt_val (pe_ix (ix_ats hr.units) (pe_fld (pv 0) rfl) (pv 4) (fun _ _ => rfl))) (pw_or1 (pt_cmpR (op_eqs hr.units) (pe_slice sl_cut (pv 1) po_none (po_some pe_int)) (pe_tup (pa_cons pe_str (pa_cons pe_int pa_nil))) (nomark _)))))
  (pss_one (ps_ret (pv 4)))
  pss_nil)
  (pss_cons (ps_set (i := 5) S.nd rfl (.inl rfl) (pe_ix (ix_ats hr.units) (pe_fld (pv 0) rfl) (pv 4) (fun _ _ => rfl)))
  (pss_cons (ps_if (pt_cmpR (op_eqs hr.units) (pe_ix (ix_ats hr.units) (pv 1) pe_int (fun _ _ => rfl)) pe_str (nomark _))
  (pss_one (ps_ret (pe_ifExp (PW.pt (pw_or (pt_val (pe_ix (ix_ats hr.units) (pe_fld (pv 0) rfl) (pv 4) (fun _ _ => rfl))) (pw_or1 (pt_not (pt_val (pe_ix (ix_ats hr.units) (pe_fld (pv 0) rfl) (pv 4) (fun _ _ => rfl))))))) (pv 4) (pe_meth (pv 0) T.k_Store m_Store_put C_Store_put.ok (hr.mono (by decide)) C_Store_put.b .nil pass0 (pa_cons (pe_tup (pa_cons pe_str (pa_cons (pv 4) pa_nil))) pa_nil)))))
  pss_nil)
  (pss_cons (ps_if (pt_cmpR (op_eqs hr.units) (pe_ix (ix_ats hr.units) (pv 5) pe_int (fun _ _ => rfl)) pe_str (nomark _))
  (pss_one (ps_ret (pv 4)))
  pss_nil)
  (pss_cons (ps_if (PW.pt (pw_and (pt_cmpR (op_eqs hr.units) (pe_ix (ix_ats hr.units) (pv 1) pe_int (fun _ _ => rfl)) pe_str (nomark _)) (pw_and (pt_cmpR (op_eqs hr.units) (pe_ix (ix_ats hr.units) (pv 5) pe_int (fun _ _ => rfl)) pe_str (nomark _)) (pw_and1 (pt_cmpR op_les (pe_op op_plus (pe_ix (ix_ats hr.units) (pv 1) pe_int (fun _ _ => rfl)) (pe_ix (ix_ats hr.units) (pv 5) pe_int (fun _ _ => rfl))) (pe_gint (by rfl) T.c_MOST_NEST) (nomark _))))))
  (pss_one (ps_ret (pe_meth (pv 0) T.k_Store m_Store_put C_Store_put.ok (hr.mono (by decide)) C_Store_put.b .nil pass0 (pa_cons (pe_tup (pa_cons pe_str (pa_cons (pe_op op_plus (pe_ix (ix_ats hr.units) (pv 1) pe_int (fun _ _ => rfl)) (pe_ix (ix_ats hr.units) (pv 5) pe_int (fun _ _ => rfl))) (pa_cons (pe_ix (ix_ats hr.units) (pv 5) pe_int (fun _ _ => rfl)) pa_nil)))) pa_nil))))
  pss_nil)
  (pss_one (ps_ret (pe_meth (pv 0) T.k_Store m_Store_put C_Store_put.ok (hr.mono (by decide)) C_Store_put.b .nil pass0 (pa_cons (pe_op op_plus (pe_slice sl_cut (pv 1) po_none (po_some (pe_un un_negs pe_int))) (pe_tup (pa_cons (pv 4) pa_nil))) pa_nil))))))))))))
abbrev s_Store_document : Stmt := (inClass (top 21) 3)
theorem sc_Store_document : FnScope N_Store_document ["self", "last"] (defScope s_Store_document) := ⟨rfl, rfl, rfl, by decide +kernel, rfl, by decide +kernel, by decide +kernel⟩
theorem len_Store_document : ∀ vs H Q E, sp_Store_document K w G vs H Q E → vs.length = 2 := fun vs H Q E h => by
  obtain ⟨F, ds, ω, W, R, hC, _, l, _⟩ := h
  rw [l.length]
  obtain ⟨_, _, _, _, _, _, _, _, _, rfl, _⟩ := hC
  rfl
theorem ok_Store_document (T : Tn K mg G) (T0 : Tx K w G) {f_parts_of : Addr} {fd_parts_of : FuncData} (C_parts_of : Fc P w K mg base 1 ["row"] (sp_parts_of K w G) f_parts_of fd_parts_of) (g_parts_of : mg "parts_of" = some (.ref f_parts_of)) {f_Doc_init : Addr} {fd_Doc_init : FuncData} (C_Doc_init : Fc P w K mg base 4 ["self", "rows"] (sp_Doc_init K w G) f_Doc_init fd_Doc_init) (k_Doc_init : Mk K G.Doc f_Doc_init) {f : Addr} {fd : FuncData} (F : FunD K "document" "Store.document" (defArgs s_Store_document) (defBody s_Store_document) (defScope s_Store_document) [] [] f fd) : Fc P w K mg base 6 ["self", "last"] (sp_Store_document K w G) f fd := by
  have S := sc_Store_document
  refine Fc.of (k := 5) F S len_Store_document (fun cdv A outer s H vs Q E hr h => ⟨t_Store_document K w G, PSs.nox ?_, pure_Store_document T0 vs H Q E h⟩) fun _ _ _ _ _ _ us hl => match us, hl with | [_, _], _ => rfl
  exact (pss_cons (ps_set (i := 2) S.nd rfl (.inr rfl) pe_dnewK)
  (pss_cons (ps_set (i := 3) S.nd rfl (.inl rfl) (pe_lst pa_nil))
  (pss_cons (ps_set (i := 4) S.nd rfl (.inl rfl) (pe_lst (pa_cons (pe_tup (pa_cons (pv 1) (pa_cons pe_bl pa_nil))) pa_nil)))
  (pss_cons (ps_while PassesOwn.never (pt_cmpR (op_nes hr.units) (pv 4) (pe_lst pa_nil) (nomark _))
  (pss_cons (ps_asg (pe_bm0 PySem.F.plainAttrs_list PySem.F.slot_list_pop PySem.F.type_list_pop mt_pop (pv 4)) (pg_tup rfl (pgs_cons (pg_name (i := 5) S.nd rfl (.inl rfl)) (pgs_cons (pg_name (i := 6) S.nd rfl (.inl rfl)) pgs_nil))))
  (pss_cons (ps_set (i := 7) S.nd rfl (.inl rfl) (pe_ix (ix_ats hr.units) (pe_fld (pv 0) rfl) (pv 5) (fun _ _ => rfl)))
  (pss_cons (ps_set (i := 8) S.nd rfl (.inl rfl) (pe_ifExp (pt_cmpR (op_eqs hr.units) (pe_ix (ix_ats hr.units) (pv 7) pe_int (fun _ _ => rfl)) pe_str (nomark _)) (pe_callTy call_listOf (by rfl) T.n_list (by decide +kernel) (pa_cons (pe_ix (ix_ats hr.units) (pv 7) pe_int (fun _ _ => rfl)) pa_nil)) (pe_call C_parts_of.ok (hr.mono (by decide)) (by rfl) g_parts_of C_parts_of.kp C_parts_of.b .nil pass0 (pa_cons (pv 7) pa_nil))))
  (pss_one (ps_if (PW.pt (pw_and (pt_val (pv 6)) (pw_and1 (pt_cmpR (op_notIns hr.units) (pv 5) (pv 2) (by rfl)))))
  (pss_cons (ps_asg (pe_callB call_lens (by rfl) T.n_len (by decide +kernel) (pa_cons (pv 3) pa_nil)) (pg_sub (pv 2) (pv 5) (set_any hr.units) (fun _ => rfl)))
  (pss_cons (ps_setLc (i := 9) (own := [("part", 10)]) (g := (gName 10)) rfl S.nd rfl rfl (sw_true rfl rfl rfl (by decide +kernel)) (pi_list (pv 8)) (blkOk_by (own := [("part", 10)]) (N := N_Store_document) (sc := defScope s_Store_document) (by decide +kernel)) (fun _ _ _ _ _ => (pg_name (i := 10) S.nd rfl (.inl rfl))) (fun _ _ _ _ _ => pts_nil) (fun _ _ _ _ _ => (pe_ix (ix_ats hr.units) (pv 2) (pv 10) (fun _ _ => rfl))))
  (pss_one (ps_expr (pe_bm PySem.F.plainAttrs_list PySem.F.slot_list_append PySem.F.type_list_append mt_append (pv 3) (pa_cons (pe_ifExp (pt_cmpR (op_eqs hr.units) (pe_ix (ix_ats hr.units) (pv 7) pe_int (fun _ _ => rfl)) pe_str (nomark _)) (pe_tup (pa_cons pe_str (pa_cons (pv 9) pa_nil))) (pe_op op_plus (pe_slice sl_cut (pv 7) po_none (po_some (pe_op op_minus (pe_callB call_lens (by rfl) T.n_len (by decide +kernel) (pa_cons (pv 7) pa_nil)) (pe_callB call_lens (by rfl) T.n_len (by decide +kernel) (pa_cons (pv 9) pa_nil))))) (pe_callTy call_tupOf (by rfl) T.n_tuple (by decide +kernel) (pa_cons (pv 9) pa_nil)))) pa_nil))))))
  (pss_one (ps_if (pt_cmpR (op_notIns hr.units) (pv 5) (pv 2) (by rfl))
  (pss_cons (ps_expr (pe_bm PySem.F.plainAttrs_list PySem.F.slot_list_append PySem.F.type_list_append mt_append (pv 4) (pa_cons (pe_tup (pa_cons (pv 5) (pa_cons pe_bl pa_nil))) pa_nil)))
  (pss_one (ps_expr (pe_bm PySem.F.plainAttrs_list PySem.F.slot_list_extend PySem.F.type_list_extend mt_extend (pv 4) (pa_cons (pe_lc (own := [("part", 10)]) (g := (gName 10)) rfl S.nd (pi_list (pe_revL (pv 8))) (blkOk_by (own := [("part", 10)]) (N := N_Store_document) (sc := defScope s_Store_document) (by decide +kernel)) (fun _ _ _ _ _ => (pg_name (i := 10) S.nd rfl (.inl rfl))) (fun _ _ _ _ _ => pts_nil) (fun _ _ _ _ _ => (pe_tup (pa_cons (pv 10) (pa_cons pe_bl pa_nil))))) pa_nil)))))
  pss_nil))))))))
  (pss_one (ps_ret (pe_make k_Doc_init C_Doc_init.ok (hr.mono (by decide)) (by rfl) T.c_Doc C_Doc_init.b .nil pass0 (pa_cons (pv 3) pa_nil))))))))
abbrev s_simplified : Stmt := (top 22)
theorem sc_simplified : FnScope N_simplified ["doc"] (defScope s_simplified) := ⟨rfl, rfl, rfl, by decide +kernel, rfl, by decide +kernel, by decide +kernel⟩
theorem len_simplified : ∀ vs H Q E, sp_simplified K w G vs H Q E → vs.length = 1 := fun vs H Q E h => by
  obtain ⟨F, ds, ω, W, R, hC, _, l, _⟩ := h
  rw [l.length]
  obtain ⟨_, _, ⟨_, _, _, rfl, _⟩, _⟩ := hC
  rfl
theorem ok_simplified (T : Tn K mg G) (T0 : Tx K w G) {f_Store_document : Addr} {fd_Store_document : FuncData} (C_Store_document : Fc P w K mg base 6 ["self", "last"] (sp_Store_document K w G) f_Store_document fd_Store_document) (m_Store_document : Meth K G.Store "document" f_Store_document) {f_Store_turned : Addr} {fd_Store_turned : FuncData} (C_Store_turned : Fc P w K mg base 3 ["self", "row", "places"] (sp_Store_turned K w G) f_Store_turned fd_Store_turned) (m_Store_turned : Meth K G.Store "turned" f_Store_turned) {f_check_doc : Addr} {fd_check_doc : FuncData} (C_check_doc : Fc P w K mg base 1 ["doc"] (sp_check_doc K w G) f_check_doc fd_check_doc) (g_check_doc : mg "check_doc" = some (.ref f_check_doc)) {f_Store_init : Addr} {fd_Store_init : FuncData} (C_Store_init : Fc P w K mg base 1 ["self"] (sp_Store_init K w G) f_Store_init fd_Store_init) (k_Store_init : Mk K G.Store f_Store_init) {f : Addr} {fd : FuncData} (F : FunD K "simplified" "simplified" (defArgs s_simplified) (defBody s_simplified) (defScope s_simplified) [] [] f fd) : Fc P w K mg base 7 ["doc"] (sp_simplified K w G) f fd := by
  have S := sc_simplified
  refine Fc.of (k := 6) F S len_simplified (fun cdv A outer s H vs Q E hr h => ⟨t_simplified K w G, PSs.nox ?_, pure_simplified T0 vs H Q E h⟩) fun _ _ _ _ _ _ us hl => match us, hl with | [_], _ => rfl
  exact (pss_cons (ps_expr (pe_call C_check_doc.ok (hr.mono (by decide)) (by rfl) g_check_doc C_check_doc.kp C_check_doc.b .nil pass0 (pa_cons (pv 0) pa_nil)))
  (pss_cons (ps_set (i := 1) S.nd rfl (.inl rfl) (pe_make0 k_Store_init C_Store_init.ok (hr.mono (by decide)) (by rfl) T.c_Store C_Store_init.b .nil pass0))
  (pss_cons (ps_set (i := 2) S.nd rfl (.inl rfl) (pe_lst pa_nil))
  (pss_cons (ps_for PassesOwn.never rfl (pi_list (pe_fld (pv 0) rfl)) (pg_name (i := 3) S.nd rfl (.inl rfl))
  (pss_one (ps_expr (pe_bm PySem.F.plainAttrs_list PySem.F.slot_list_append PySem.F.type_list_append mt_append (pv 2) (pa_cons (pe_meth (pv 1) T.k_Store m_Store_turned C_Store_turned.ok (hr.mono (by decide)) C_Store_turned.b .nil pass0 (pa_cons (pv 3) (pa_cons (pv 2) pa_nil))) pa_nil)))))
  (pss_one (ps_ret (pe_meth (pv 1) T.k_Store m_Store_document C_Store_document.ok (hr.mono (by decide)) C_Store_document.b .nil pass0 (pa_cons (pe_ix (ix_ats hr.units) (pv 2) (pe_un un_negs pe_int) (fun _ _ => rfl)) pa_nil))))))))
abbrev s_is_simple : Stmt := (top 23)
theorem sc_is_simple : FnScope N_is_simple ["doc"] (defScope s_is_simple) := ⟨rfl, rfl, rfl, by decide +kernel, rfl, by decide +kernel, by decide +kernel⟩
theorem len_is_simple : ∀ vs H Q E, sp_is_simple K w G vs H Q E → vs.length = 1 := fun vs H Q E h => by
  obtain ⟨F, ds, ω, W, R, hC, _, l, _⟩ := h
  rw [l.length]
  obtain ⟨_, _, ⟨_, _, _, rfl, _⟩, _⟩ := hC
  rfl
theorem ok_is_simple (T : Tn K mg G) (T0 : Tx K w G) {f_Doc_eq : Addr} {fd_Doc_eq : FuncData} (C_Doc_eq : Fc P w K mg base 1 ["self", "other"] (sp_Doc_eq K w G) f_Doc_eq fd_Doc_eq) (m_Doc_eq : Meth K G.Doc "__eq__" f_Doc_eq) {f_simplified : Addr} {fd_simplified : FuncData} (C_simplified : Fc P w K mg base 7 ["doc"] (sp_simplified K w G) f_simplified fd_simplified) (g_simplified : mg "simplified" = some (.ref f_simplified)) {f : Addr} {fd : FuncData} (F : FunD K "is_simple" "is_simple" (defArgs s_is_simple) (defBody s_is_simple) (defScope s_is_simple) [] [] f fd) : Fc P w K mg base 8 ["doc"] (sp_is_simple K w G) f fd := by
  have S := sc_is_simple
  refine Fc.of (k := 7) F S len_is_simple (fun cdv A outer s H vs Q E hr h => ⟨t_is_simple K w G, PSs.nox ?_, pure_is_simple T0 vs H Q E h⟩) fun _ _ _ _ _ _ us hl => match us, hl with | [_], _ => rfl
  exact (pss_one (ps_ret (pe_cmpR (op_eqC C_Doc_eq.ok m_Doc_eq.at_ m_Doc_eq.fn C_Doc_eq.b pass0 (hr.mono (by decide))) (pe_call C_simplified.ok (hr.mono (by decide)) (by rfl) g_simplified C_simplified.kp C_simplified.b .nil pass0 (pa_cons (pv 0) pa_nil)) (pv 0) (nomark _))))
abbrev s__law_cell_at : Stmt := (top 25)
theorem sc__law_cell_at : FnScope N__law_cell_at ["_law_script", "_law_k"] (defScope s__law_cell_at) := ⟨rfl, rfl, rfl, by decide +kernel, rfl, by decide +kernel, by decide +kernel⟩
theorem len__law_cell_at : ∀ vs H Q E, sp__law_cell_at K w G vs H Q E → vs.length = 2 := fun vs H Q E h => by
  obtain ⟨F, ds, ω, W, R, hC, _, l, _⟩ := h
  rw [l.length]
  obtain ⟨_, _, ⟨_, _, rfl, _⟩, _⟩ := hC
  rfl
theorem ok__law_cell_at (T : Tn K mg G) (T0 : Tx K w G)  {f : Addr} {fd : FuncData} (F : FunD K "_law_cell_at" "_law_cell_at" (defArgs s__law_cell_at) (defBody s__law_cell_at) (defScope s__law_cell_at) [] [] f fd) : Fc P w K mg base 1 ["_law_script", "_law_k"] (sp__law_cell_at K w G) f fd := by
  have S := sc__law_cell_at
  refine Fc.of (k := 0) F S len__law_cell_at (fun cdv A outer s H vs Q E hr h => ⟨t__law_cell_at K w G, PSs.nox ?_, pure__law_cell_at vs H Q E h⟩) fun _ _ _ _ _ _ us hl => match us, hl with | [_, _], _ => rfl
  exact (pss_cons (ps_if (pt_cmpR op_lts (pv 1) (pe_callB call_lens (by rfl) T.n_len (by decide +kernel) (pa_cons (pv 0) pa_nil)) (nomark _))
  (pss_one (ps_ret (pe_ix (ix_ats hr.units) (pv 0) (pv 1) (fun _ _ => rfl))))
  pss_nil)
  (pss_one (ps_ret pe_int)))
abbrev s__law_source_of : Stmt := (top 26)
theorem sc__law_source_of : FnScope N__law_source_of ["_law_cell"] (defScope s__law_source_of) := ⟨rfl, rfl, rfl, by decide +kernel, rfl, by decide +kernel, by decide +kernel⟩
theorem len__law_source_of : ∀ vs H Q E, sp__law_source_of K w G vs H Q E → vs.length = 1 := fun vs H Q E h => by
  obtain ⟨F, ds, ω, W, R, hC, _, l, _⟩ := h
  rw [l.length]
  obtain ⟨_, rfl, _⟩ := hC
  rfl
theorem ok__law_source_of (T : Tn K mg G) (T0 : Tx K w G)  {f : Addr} {fd : FuncData} (F : FunD K "_law_source_of" "_law_source_of" (defArgs s__law_source_of) (defBody s__law_source_of) (defScope s__law_source_of) [] [] f fd) : Fc P w K mg base 1 ["_law_cell"] (sp__law_source_of K w G) f fd := by
  have S := sc__law_source_of
  refine Fc.of (k := 0) F S len__law_source_of (fun cdv A outer s H vs Q E hr h => ⟨t__law_source_of K w G, PSs.nox ?_, pure__law_source_of vs H Q E h⟩) fun _ _ _ _ _ _ us hl => match us, hl with | [_], _ => rfl
  exact (pss_cons (ps_set (i := 0) S.nd rfl (.inl rfl) (pe_ifExp (pt_cmpR op_ges (pv 0) pe_int (nomark _)) (pv 0) (pe_op op_minus (pe_op op_minus pe_int (pe_op op_times pe_int (pv 0))) pe_int)))
  (pss_one (ps_ret (pe_lst (pa_cons (pe_op op_times (pv 0) (pe_callTy call_int1' (by rfl) T.n_int (by decide +kernel) (pa_cons (pe_cmpR op_ges (pv 0) (pe_op op_pows pe_int pe_int) (nomark _)) pa_nil))) (pa_cons (pe_op op_mods (pe_callTy call_int1' (by rfl) T.n_int (by decide +kernel) (pa_cons (pv 0) pa_nil)) pe_int) (pa_cons pe_int pa_nil)))))))
abbrev s__law_next : Stmt := (top 27)
theorem sc__law_next : FnScope N__law_next ["_law_source", "_law_many"] (defScope s__law_next) := ⟨rfl, rfl, rfl, by decide +kernel, rfl, by decide +kernel, by decide +kernel⟩
theorem len__law_next : ∀ vs H Q E, sp__law_next K w G vs H Q E → vs.length = 2 := fun vs H Q E h => by
  obtain ⟨F, ds, ω, W, R, hC, _, l, _⟩ := h
  rw [l.length]
  obtain ⟨_, _, _, _, _, rfl, _⟩ := hC
  rfl
theorem ok__law_next (T : Tn K mg G) (T0 : Tx K w G)  {f : Addr} {fd : FuncData} (F : FunD K "_law_next" "_law_next" (defArgs s__law_next) (defBody s__law_next) (defScope s__law_next) [] [] f fd) : Fc P w K mg base 1 ["_law_source", "_law_many"] (sp__law_next K w G) f fd := by
  have S := sc__law_next
  refine Fc.of (k := 0) F S len__law_next (fun cdv A outer s H vs Q E hr h => ⟨t__law_next K w G, PSs.nox ?_, pure__law_next vs H Q E h⟩) fun _ _ _ _ _ _ us hl => match us, hl with | [_, _], _ => rfl
  exact (pss_cons (ps_if (pt_cmpR op_gts (pe_ix (ix_ats hr.units) (pv 0) pe_int (fun _ _ => rfl)) pe_int (nomark _))
  (pss_cons (ps_set (i := 2) S.nd rfl (.inl rfl) (pe_op op_mods (pe_callTy call_int1' (by rfl) T.n_int (by decide +kernel) (pa_cons (pe_ix (ix_ats hr.units) (pv 0) pe_int (fun _ _ => rfl)) pa_nil)) (pv 1)))
  (pss_cons (ps_asg (pe_op op_fdivs (pe_ix (ix_ats hr.units) (pv 0) pe_int (fun _ _ => rfl)) (pv 1)) (pg_sub (pv 0) pe_int (set_any hr.units) (fun _ => rfl)))
  (pss_one (ps_ret (pv 2)))))
  pss_nil)
  (pss_cons (ps_asg (pe_op op_plus (pe_ix (ix_ats hr.units) (pv 0) pe_int (fun _ _ => rfl)) pe_int) (pg_sub (pv 0) pe_int (set_any hr.units) (fun _ => rfl)))
  (pss_cons (ps_set (i := 3) S.nd rfl (.inl rfl) pe_int)
  (pss_cons (ps_set (i := 4) S.nd rfl (.inl rfl) (pe_op op_mods (pe_callTy call_int1' (by rfl) T.n_int (by decide +kernel) (pa_cons (pe_op op_plus (pe_op op_plus (pe_ix (ix_ats hr.units) (pv 0) pe_int (fun _ _ => rfl)) (pe_op op_times pe_int (pe_ix (ix_ats hr.units) (pv 0) pe_int (fun _ _ => rfl)))) pe_int) pa_nil)) (pv 3)))
  (pss_cons (ps_set (i := 4) S.nd rfl (.inl rfl) (pe_op op_mods (pe_callTy call_int1' (by rfl) T.n_int (by decide +kernel) (pa_cons (pe_op op_times (pv 4) pe_int) pa_nil)) (pv 3)))
  (pss_cons (ps_set (i := 4) S.nd rfl (.inl rfl) (pe_op op_mods (pe_callTy call_int1' (by rfl) T.n_int (by decide +kernel) (pa_cons (pe_op op_times (pv 4) (pe_op op_plus (pe_op op_fdivs (pv 4) pe_int) pe_int)) pa_nil)) (pv 3)))
  (pss_cons (ps_set (i := 4) S.nd rfl (.inl rfl) (pe_op op_mods (pe_callTy call_int1' (by rfl) T.n_int (by decide +kernel) (pa_cons (pe_op op_times (pv 4) (pe_op op_plus (pe_op op_fdivs (pv 4) pe_int) pe_int)) pa_nil)) pe_int))
  (pss_one (ps_ret (pe_op op_mods (pe_callTy call_int1' (by rfl) T.n_int (by decide +kernel) (pa_cons (pe_op op_fdivs (pv 4) pe_int) pa_nil)) (pv 1)))))))))))
abbrev s__law_one : Stmt := (top 28)
theorem sc__law_one : FnScope N__law_one ["_law_source", "_law_some"] (defScope s__law_one) := ⟨rfl, rfl, rfl, by decide +kernel, rfl, by decide +kernel, by decide +kernel⟩
theorem len__law_one : ∀ vs H Q E, sp__law_one K w G vs H Q E → vs.length = 2 := fun vs H Q E h => by
  obtain ⟨F, ds, ω, W, R, hC, _, l, _⟩ := h
  rw [l.length]
  obtain ⟨_, _, _, _, _, rfl, _⟩ := hC
  rfl
theorem ok__law_one (T : Tn K mg G) (T0 : Tx K w G) {f__law_next : Addr} {fd__law_next : FuncData} (C__law_next : Fc P w K mg base 1 ["_law_source", "_law_many"] (sp__law_next K w G) f__law_next fd__law_next) (g__law_next : mg "_law_next" = some (.ref f__law_next)) {f : Addr} {fd : FuncData} (F : FunD K "_law_one" "_law_one" (defArgs s__law_one) (defBody s__law_one) (defScope s__law_one) [] [] f fd) : Fc P w K mg base 2 ["_law_source", "_law_some"] (sp__law_one K w G) f fd := by
  have S := sc__law_one
  refine Fc.of (k := 1) F S len__law_one (fun cdv A outer s H vs Q E hr h => ⟨t__law_one K w G, PSs.nox ?_, pure__law_one vs H Q E h⟩) fun _ _ _ _ _ _ us hl => match us, hl with | [_, _], _ => rfl
  exact (pss_one (ps_ret (pe_ix (ix_ats hr.units) (pv 1) (pe_call C__law_next.ok (hr.mono (by decide)) (by rfl) g__law_next C__law_next.kp C__law_next.b .nil pass0 (pa_cons (pv 0) (pa_cons (pe_callB call_lens (by rfl) T.n_len (by decide +kernel) (pa_cons (pv 1) pa_nil)) pa_nil))) (fun _ _ => rfl))))
abbrev s__law_known : Stmt := (top 29)
theorem sc__law_known : FnScope N__law_known [] (defScope s__law_known) := ⟨rfl, rfl, rfl, by decide +kernel, rfl, by decide +kernel, by decide +kernel⟩
theorem len__law_known : ∀ vs H Q E, sp__law_known K w G vs H Q E → vs.length = 0 := fun vs H Q E h => by
  obtain ⟨F, ds, ω, W, R, hC, _, l, _⟩ := h
  rw [l.length]
  obtain ⟨_, _, ⟨rfl, _⟩, _⟩ := hC
  rfl
theorem ok__law_known (T : Tn K mg G) (T0 : Tx K w G)  {f : Addr} {fd : FuncData} (F : FunD K "_law_known" "_law_known" (defArgs s__law_known) (defBody s__law_known) (defScope s__law_known) [] [] f fd) : Fc P w K mg base 1 [] (sp__law_known K w G) f fd := by
  have S := sc__law_known
  refine Fc.of (k := 0) F S len__law_known (fun cdv A outer s H vs Q E hr h => ⟨t__law_known K w G, PSs.nox ?_, pure__law_known vs H Q E h⟩) fun _ _ _ _ _ _ us hl => match us, hl with | [], _ => rfl
  exact (pss_cons (ps_asg (pe_tup (pa_cons (pe_tup (pa_cons pe_str (pa_cons pe_str pa_nil))) (pa_cons (pe_tup (pa_cons pe_str (pa_cons pe_str pa_nil))) (pa_cons (pe_tup (pa_cons pe_str (pa_cons pe_str pa_nil))) (pa_cons (pe_tup (pa_cons pe_str (pa_cons pe_str pa_nil))) (pa_cons (pe_tup (pa_cons pe_str pa_nil)) pa_nil)))))) (pg_tup rfl (pgs_cons (pg_name (i := 0) S.nd rfl (.inl rfl)) (pgs_cons (pg_name (i := 1) S.nd rfl (.inl rfl)) (pgs_cons (pg_name (i := 2) S.nd rfl (.inl rfl)) (pgs_cons (pg_name (i := 3) S.nd rfl (.inr rfl)) (pgs_cons (pg_name (i := 4) S.nd rfl (.inl rfl)) pgs_nil)))))))
  (pss_cons (ps_set (i := 5) S.nd rfl (.inl rfl) (pe_lst (pa_cons (pe_tup (pa_cons (pe_lst (pa_cons (pv 0) (pa_cons (pv 1) pa_nil))) (pa_cons (pe_lst (pa_cons (pv 1) pa_nil)) pa_nil))) (pa_cons (pe_tup (pa_cons (pe_lst (pa_cons (pv 2) (pa_cons (pv 3) (pa_cons (pe_tup (pa_cons pe_str (pa_cons (pe_lst (pa_cons pe_int (pa_cons pe_int (pa_cons pe_int pa_nil)))) pa_nil))) pa_nil)))) (pa_cons (pe_lst (pa_cons (pv 3) pa_nil)) pa_nil))) (pa_cons (pe_tup (pa_cons (pe_lst (pa_cons (pv 2) (pa_cons (pe_tup (pa_cons pe_str (pa_cons (pe_lst (pa_cons pe_int (pa_cons pe_int pa_nil))) pa_nil))) (pa_cons (pe_tup (pa_cons pe_str (pa_cons (pe_lst pa_nil) pa_nil))) pa_nil)))) (pa_cons (pe_lst (pa_cons (pv 2) pa_nil)) pa_nil))) pa_nil)))))
  (pss_cons (ps_set (i := 5) S.nd rfl (.inl rfl) (pe_op op_plus (pv 5) (pe_lst (pa_cons (pe_tup (pa_cons (pe_lst (pa_cons (pv 0) (pa_cons (pv 3) (pa_cons (pe_tup (pa_cons pe_str (pa_cons (pe_lst (pa_cons pe_int (pa_cons pe_int pa_nil))) pa_nil))) (pa_cons (pe_tup (pa_cons pe_str (pa_cons pe_int (pa_cons pe_int pa_nil)))) pa_nil))))) (pa_cons (pe_lst (pa_cons (pv 0) (pa_cons (pv 3) (pa_cons (pe_tup (pa_cons pe_str (pa_cons (pe_lst (pa_cons pe_int (pa_cons pe_int pa_nil))) pa_nil))) pa_nil)))) pa_nil))) (pa_cons (pe_tup (pa_cons (pe_lst (pa_cons (pv 0) (pa_cons (pe_tup (pa_cons pe_str (pa_cons pe_int (pa_cons pe_int pa_nil)))) pa_nil))) (pa_cons (pe_lst (pa_cons (pv 0) pa_nil)) pa_nil))) pa_nil)))))
  (pss_cons (ps_set (i := 5) S.nd rfl (.inl rfl) (pe_op op_plus (pv 5) (pe_lst (pa_cons (pe_tup (pa_cons (pe_lst (pa_cons (pv 0) (pa_cons (pe_tup (pa_cons pe_str (pa_cons pe_int pa_nil))) (pa_cons (pe_tup (pa_cons pe_str (pa_cons pe_int pa_nil))) pa_nil)))) (pa_cons (pe_lst (pa_cons (pv 0) pa_nil)) pa_nil))) (pa_cons (pe_tup (pa_cons (pe_lst (pa_cons (pv 3) (pa_cons (pe_tup (pa_cons pe_str (pa_cons pe_int pa_nil))) (pa_cons (pe_tup (pa_cons pe_str (pa_cons pe_int pa_nil))) pa_nil)))) (pa_cons (pe_lst (pa_cons (pv 3) (pa_cons (pe_tup (pa_cons pe_str (pa_cons pe_int pa_nil))) pa_nil))) pa_nil))) pa_nil)))))
  (pss_cons (ps_set (i := 6) S.nd rfl (.inl rfl) (pe_lst (pa_cons (pv 0) (pa_cons (pv 4) (pa_cons (pv 3) (pa_cons (pe_tup (pa_cons pe_str (pa_cons (pe_lst (pa_cons pe_int (pa_cons pe_int (pa_cons pe_int pa_nil)))) pa_nil))) pa_nil))))))
  (pss_cons (ps_set (i := 5) S.nd rfl (.inl rfl) (pe_op op_plus (pv 5) (pe_lst (pa_cons (pe_tup (pa_cons (pe_lst (pa_cons (pv 4) (pa_cons (pe_tup (pa_cons pe_str (pa_cons pe_int pa_nil))) pa_nil))) (pa_cons (pe_lst (pa_cons (pv 4) pa_nil)) pa_nil))) (pa_cons (pe_tup (pa_cons (pe_op op_plus (pv 6) (pe_lst (pa_cons (pe_tup (pa_cons pe_str (pa_cons pe_int pa_nil))) pa_nil))) (pa_cons (pv 6) pa_nil))) pa_nil)))))
  (pss_cons (ps_set (i := 5) S.nd rfl (.inl rfl) (pe_op op_plus (pv 5) (pe_lc (own := [("_law_row", 7)]) (g := (gName 7)) rfl S.nd (pi_tup (pe_tup (pa_cons (pe_tup (pa_cons pe_str (pa_cons pe_int (pa_cons pe_int pa_nil)))) (pa_cons (pe_tup (pa_cons pe_str (pa_cons pe_int pa_nil))) pa_nil)))) (blkOk_by (own := [("_law_row", 7)]) (N := N__law_known) (sc := defScope s__law_known) (by decide +kernel)) (fun _ _ _ _ _ => (pg_name (i := 7) S.nd rfl (.inl rfl))) (fun _ _ _ _ _ => pts_nil) (fun _ _ _ _ _ => (pe_tup (pa_cons (pe_lst (pa_cons (pv 3) (pa_cons (pe_tup (pa_cons pe_str (pa_cons pe_int pa_nil))) (pa_cons (pv 7) pa_nil)))) (pa_cons (pe_lst (pa_cons (pv 3) (pa_cons (pe_tup (pa_cons pe_str (pa_cons pe_int pa_nil))) pa_nil))) pa_nil)))))))
  (pss_cons (ps_set (i := 5) S.nd rfl (.inl rfl) (pe_op op_plus (pv 5) (pe_lst (pa_cons (pe_tup (pa_cons (pe_lst (pa_cons (pv 3) (pa_cons (pe_tup (pa_cons pe_str (pa_cons pe_int (pa_cons pe_int pa_nil)))) (pa_cons (pe_tup (pa_cons pe_str (pa_cons pe_int pa_nil))) pa_nil)))) (pa_cons (pe_lst (pa_cons (pv 3) (pa_cons (pe_tup (pa_cons pe_str (pa_cons pe_int (pa_cons pe_int pa_nil)))) (pa_cons (pe_tup (pa_cons pe_str (pa_cons pe_int pa_nil))) pa_nil)))) pa_nil))) pa_nil))))
  (pss_cons (ps_set (i := 5) S.nd rfl (.inl rfl) (pe_op op_plus (pv 5) (pe_lst (pa_cons (pe_tup (pa_cons (pe_lst (pa_cons (pv 3) (pa_cons (pe_tup (pa_cons pe_str (pa_cons pe_int (pa_cons pe_int pa_nil)))) (pa_cons (pe_tup (pa_cons pe_str (pa_cons pe_int (pa_cons pe_int pa_nil)))) pa_nil)))) (pa_cons (pe_lst (pa_cons (pv 3) (pa_cons (pe_tup (pa_cons pe_str (pa_cons pe_int (pa_cons pe_int pa_nil)))) pa_nil))) pa_nil))) pa_nil))))
  (pss_cons (ps_set (i := 5) S.nd rfl (.inl rfl) (pe_op op_plus (pv 5) (pe_lst (pa_cons (pe_tup (pa_cons (pe_lst (pa_cons (pv 3) (pa_cons (pe_tup (pa_cons pe_str (pa_cons pe_int (pa_cons pe_int pa_nil)))) (pa_cons (pe_tup (pa_cons pe_str (pa_cons pe_int (pa_cons pe_int pa_nil)))) pa_nil)))) (pa_cons (pe_lst (pa_cons (pv 3) (pa_cons (pe_tup (pa_cons pe_str (pa_cons pe_int (pa_cons pe_int pa_nil)))) (pa_cons (pe_tup (pa_cons pe_str (pa_cons pe_int (pa_cons pe_int pa_nil)))) pa_nil)))) pa_nil))) pa_nil))))
  (pss_cons (ps_set (i := 5) S.nd rfl (.inl rfl) (pe_op op_plus (pv 5) (pe_lst (pa_cons (pe_tup (pa_cons (pe_lst (pa_cons (pv 3) (pa_cons (pe_tup (pa_cons pe_str (pa_cons pe_int (pa_cons pe_int pa_nil)))) (pa_cons (pe_tup (pa_cons pe_str (pa_cons pe_int (pa_cons pe_int pa_nil)))) (pa_cons (pe_tup (pa_cons pe_str (pa_cons pe_int (pa_cons pe_int pa_nil)))) pa_nil))))) (pa_cons (pe_lst (pa_cons (pv 3) (pa_cons (pe_tup (pa_cons pe_str (pa_cons pe_int (pa_cons pe_int pa_nil)))) pa_nil))) pa_nil))) pa_nil))))
  (pss_cons (ps_set (i := 5) S.nd rfl (.inl rfl) (pe_op op_plus (pv 5) (pe_lst (pa_cons (pe_tup (pa_cons (pe_lst (pa_cons (pv 0) (pa_cons (pv 3) (pa_cons (pe_tup (pa_cons pe_str (pa_cons (pe_lst (pa_cons pe_int (pa_cons pe_int pa_nil))) pa_nil))) (pa_cons (pe_tup (pa_cons pe_str (pa_cons pe_int pa_nil))) (pa_cons (pe_tup (pa_cons pe_str (pa_cons (pe_lst (pa_cons pe_int (pa_cons pe_int (pa_cons pe_int pa_nil)))) pa_nil))) (pa_cons (pe_tup (pa_cons pe_str (pa_cons pe_int pa_nil))) pa_nil))))))) (pa_cons (pe_lst (pa_cons (pv 0) (pa_cons (pv 3) (pa_cons (pe_tup (pa_cons pe_str (pa_cons (pe_lst (pa_cons pe_int (pa_cons pe_int pa_nil))) pa_nil))) (pa_cons (pe_tup (pa_cons pe_str (pa_cons pe_int pa_nil))) (pa_cons (pe_tup (pa_cons pe_str (pa_cons (pe_lst (pa_cons pe_int (pa_cons pe_int (pa_cons pe_int pa_nil)))) pa_nil))) pa_nil)))))) pa_nil))) pa_nil))))
  (pss_cons (ps_set (i := 6) S.nd rfl (.inl rfl) (pe_lst (pa_cons (pv 3) (pa_cons (pe_tup (pa_cons pe_str (pa_cons pe_int pa_nil))) (pa_cons (pe_tup (pa_cons pe_str (pa_cons (pe_lst (pa_cons pe_int (pa_cons pe_int pa_nil))) pa_nil))) (pa_cons (pe_tup (pa_cons pe_str (pa_cons pe_int pa_nil))) pa_nil))))))
  (pss_cons (ps_expr (pe_bm PySem.F.plainAttrs_list PySem.F.slot_list_append PySem.F.type_list_append mt_append (pv 5) (pa_cons (pe_tup (pa_cons (pe_lst (pa_cons (pv 0) (pa_cons (pv 3) (pa_cons (pe_tup (pa_cons pe_str (pa_cons pe_int pa_nil))) (pa_cons (pe_tup (pa_cons pe_str (pa_cons (pe_lst (pa_cons pe_int (pa_cons pe_int pa_nil))) pa_nil))) (pa_cons (pe_tup (pa_cons pe_str (pa_cons pe_int pa_nil))) pa_nil)))))) (pa_cons (pv 6) pa_nil))) pa_nil)))
  (pss_cons (ps_set (i := 6) S.nd rfl (.inl rfl) (pe_lst (pa_cons (pv 3) (pa_cons (pv 0) (pa_cons (pv 1) (pa_cons (pe_tup (pa_cons pe_str (pa_cons (pe_lst (pa_cons pe_int (pa_cons pe_int (pa_cons pe_int pa_nil)))) pa_nil))) (pa_cons (pe_tup (pa_cons pe_str (pa_cons (pe_lst (pa_cons pe_int (pa_cons pe_int pa_nil))) pa_nil))) pa_nil)))))))
  (pss_cons (ps_expr (pe_bm PySem.F.plainAttrs_list PySem.F.slot_list_append PySem.F.type_list_append mt_append (pv 5) (pa_cons (pe_tup (pa_cons (pe_lst (pa_cons (pv 1) (pa_cons (pv 0) (pa_cons (pv 3) (pa_cons (pe_tup (pa_cons pe_str (pa_cons (pe_lst (pa_cons pe_int (pa_cons pe_int (pa_cons pe_int pa_nil)))) pa_nil))) (pa_cons (pv 3) (pa_cons (pe_tup (pa_cons pe_str (pa_cons (pe_lst (pa_cons pe_int (pa_cons pe_int pa_nil))) pa_nil))) pa_nil))))))) (pa_cons (pv 6) pa_nil))) pa_nil)))
  (pss_cons (ps_set (i := 5) S.nd rfl (.inl rfl) (pe_op op_plus (pv 5) (pe_lst (pa_cons (pe_tup (pa_cons (pe_lst (pa_cons (pv 3) (pa_cons (pe_tup (pa_cons pe_str (pa_cons pe_int pa_nil))) (pa_cons (pe_tup (pa_cons pe_str (pa_cons pe_int (pa_cons pe_int pa_nil)))) (pa_cons (pe_tup (pa_cons pe_str (pa_cons pe_int pa_nil))) pa_nil))))) (pa_cons (pe_lst (pa_cons (pv 3) (pa_cons (pe_tup (pa_cons pe_str (pa_cons pe_int pa_nil))) (pa_cons (pe_tup (pa_cons pe_str (pa_cons pe_int (pa_cons pe_int pa_nil)))) pa_nil)))) pa_nil))) pa_nil))))
  (pss_cons (ps_set (i := 6) S.nd rfl (.inl rfl) (pe_lst (pa_cons (pe_tup (pa_cons pe_str (pa_cons pe_str pa_nil))) (pa_cons (pe_tup (pa_cons pe_str (pa_cons pe_str pa_nil))) (pa_cons (pe_tup (pa_cons pe_str (pa_cons (pe_lst (pa_cons pe_int (pa_cons pe_int (pa_cons pe_int pa_nil)))) pa_nil))) pa_nil)))))
  (pss_one (ps_ret (pe_op op_plus (pv 5) (pe_lst (pa_cons (pe_tup (pa_cons (pe_lst (pa_cons (pe_tup (pa_cons pe_str (pa_cons pe_str pa_nil))) (pa_cons (pe_tup (pa_cons pe_str (pa_cons pe_str pa_nil))) (pa_cons (pe_tup (pa_cons pe_str (pa_cons (pe_lst (pa_cons pe_int (pa_cons pe_int (pa_cons pe_int pa_nil)))) pa_nil))) pa_nil)))) (pa_cons (pv 6) pa_nil))) pa_nil)))))))))))))))))))))))
abbrev s_law : Stmt := (top 30)
theorem sc_law : FnScope N_law ["_law_script"] (defScope s_law) := ⟨rfl, rfl, rfl, by decide +kernel, rfl, by decide +kernel, by decide +kernel⟩
theorem len_law : ∀ vs H Q E, sp_law K w G vs H Q E → vs.length = 1 := fun vs H Q E h => by
  obtain ⟨F, ds, ω, W, R, hC, _, l, _⟩ := h
  rw [l.length]
  obtain ⟨_, _, ⟨_, rfl, _⟩, _⟩ := hC
  rfl
theorem ok_law (T : Tn K mg G) (T0 : Tx K w G) {f_Doc_eq : Addr} {fd_Doc_eq : FuncData} (C_Doc_eq : Fc P w K mg base 1 ["self", "other"] (sp_Doc_eq K w G) f_Doc_eq fd_Doc_eq) (m_Doc_eq : Meth K G.Doc "__eq__" f_Doc_eq) {f_Doc_row_list : Addr} {fd_Doc_row_list : FuncData} (C_Doc_row_list : Fc P w K mg base 2 ["self"] (sp_Doc_row_list K w G) f_Doc_row_list fd_Doc_row_list) (m_Doc_row_list : Meth K G.Doc "row_list" f_Doc_row_list) {f__law_cell_at : Addr} {fd__law_cell_at : FuncData} (C__law_cell_at : Fc P w K mg base 1 ["_law_script", "_law_k"] (sp__law_cell_at K w G) f__law_cell_at fd__law_cell_at) (g__law_cell_at : mg "_law_cell_at" = some (.ref f__law_cell_at)) {f__law_known : Addr} {fd__law_known : FuncData} (C__law_known : Fc P w K mg base 1 [] (sp__law_known K w G) f__law_known fd__law_known) (g__law_known : mg "_law_known" = some (.ref f__law_known)) {f__law_one : Addr} {fd__law_one : FuncData} (C__law_one : Fc P w K mg base 2 ["_law_source", "_law_some"] (sp__law_one K w G) f__law_one fd__law_one) (g__law_one : mg "_law_one" = some (.ref f__law_one)) {f__law_source_of : Addr} {fd__law_source_of : FuncData} (C__law_source_of : Fc P w K mg base 1 ["_law_cell"] (sp__law_source_of K w G) f__law_source_of fd__law_source_of) (g__law_source_of : mg "_law_source_of" = some (.ref f__law_source_of)) {f_is_simple : Addr} {fd_is_simple : FuncData} (C_is_simple : Fc P w K mg base 8 ["doc"] (sp_is_simple K w G) f_is_simple fd_is_simple) (g_is_simple : mg "is_simple" = some (.ref f_is_simple)) {f_simplified : Addr} {fd_simplified : FuncData} (C_simplified : Fc P w K mg base 7 ["doc"] (sp_simplified K w G) f_simplified fd_simplified) (g_simplified : mg "simplified" = some (.ref f_simplified)) {f_Doc_init : Addr} {fd_Doc_init : FuncData} (C_Doc_init : Fc P w K mg base 4 ["self", "rows"] (sp_Doc_init K w G) f_Doc_init fd_Doc_init) (k_Doc_init : Mk K G.Doc f_Doc_init) {f : Addr} {fd : FuncData} (F : FunD K "law" "law" (defArgs s_law) (defBody s_law) (defScope s_law) [] [] f fd) : Fc P w K mg base 9 ["_law_script"] (sp_law K w G) f fd := by
  have S := sc_law
  refine Fc.of (k := 8) F S len_law (fun cdv A outer s H vs Q E hr h => ⟨t_law K w G, PSs.nox ?_, pure_law T0 vs H Q E h⟩) fun _ _ _ _ _ _ us hl => match us, hl with | [_], _ => rfl
  exact (pss_cons (ps_for PassesOwn.never rfl (pi_list (pe_call0 C__law_known.ok (hr.mono (by decide)) (by rfl) g__law_known C__law_known.kp C__law_known.b .nil pass0)) (pg_tup rfl (pgs_cons (pg_name (i := 1) S.nd rfl (.inl rfl)) (pgs_cons (pg_name (i := 2) S.nd rfl (.inl rfl)) pgs_nil)))
  (pss_one (ps_if (PW.pt (pw_or (pt_cmpR (op_nes hr.units) (pe_meth0 (pe_call C_simplified.ok (hr.mono (by decide)) (by rfl) g_simplified C_simplified.kp C_simplified.b .nil pass0 (pa_cons (pe_make k_Doc_init C_Doc_init.ok (hr.mono (by decide)) (by rfl) T.c_Doc C_Doc_init.b .nil pass0 (pa_cons (pv 1) pa_nil)) pa_nil)) T.k_Doc m_Doc_row_list C_Doc_row_list.ok (hr.mono (by decide)) C_Doc_row_list.b .nil pass0) (pv 2) (nomark _)) (pw_or1 (pt_cmpR (op_nes hr.units) (pe_call C_is_simple.ok (hr.mono (by decide)) (by rfl) g_is_simple C_is_simple.kp C_is_simple.b .nil pass0 (pa_cons (pe_make k_Doc_init C_Doc_init.ok (hr.mono (by decide)) (by rfl) T.c_Doc C_Doc_init.b .nil pass0 (pa_cons (pv 1) pa_nil)) pa_nil)) (pe_cmpR (op_eqs hr.units) (pv 1) (pv 2) (nomark _)) (nomark _)))))
  (pss_one (ps_ret pe_bl))
  pss_nil)))
  (pss_cons (ps_set (i := 3) S.nd rfl (.inl rfl) (pe_call C__law_source_of.ok (hr.mono (by decide)) (by rfl) g__law_source_of C__law_source_of.kp C__law_source_of.b .nil pass0 (pa_cons (pe_call C__law_cell_at.ok (hr.mono (by decide)) (by rfl) g__law_cell_at C__law_cell_at.kp C__law_cell_at.b .nil pass0 (pa_cons (pv 0) (pa_cons pe_int pa_nil))) pa_nil)))
  (pss_cons (ps_set (i := 4) S.nd rfl (.inr rfl) (pe_call C__law_one.ok (hr.mono (by decide)) (by rfl) g__law_one C__law_one.kp C__law_one.b .nil pass0 (pa_cons (pv 3) (pa_cons (pe_lst (pa_cons (pe_tup (pa_cons pe_str (pa_cons pe_int pa_nil))) (pa_cons (pe_tup (pa_cons pe_str (pa_cons pe_int (pa_cons pe_int pa_nil)))) (pa_cons (pe_tup (pa_cons pe_str (pa_cons pe_int pa_nil))) pa_nil)))) pa_nil))))
  (pss_cons (ps_set (i := 1) S.nd rfl (.inl rfl) (pe_op op_plus (pe_lst (pa_cons (pe_tup (pa_cons pe_str (pa_cons pe_str pa_nil))) (pa_cons (pe_tup (pa_cons pe_str (pa_cons pe_int pa_nil))) pa_nil))) (pe_lc (own := [("_law_at", 5)]) (g := (gName 5)) rfl S.nd (pi_range1 (by rfl) T.n_range (pa_cons pe_int pa_nil)) (blkOk_by (own := [("_law_at", 5)]) (N := N_law) (sc := defScope s_law) (by decide +kernel)) (fun _ _ _ _ _ => (pg_name (i := 5) S.nd rfl (.inl rfl))) (fun _ _ _ _ _ => pts_nil) (fun _ _ _ _ _ => (pe_op op_plus (pe_slice sl_cut (pv 4) po_none (po_some (pe_un un_negs pe_int))) (pe_tup (pa_cons (pe_op op_plus (pv 5) pe_int) pa_nil)))))))
  (pss_cons (ps_set (i := 2) S.nd rfl (.inl rfl) (pe_op op_plus (pe_lst (pa_cons (pe_tup (pa_cons pe_str (pa_cons pe_str pa_nil))) (pa_cons (pe_tup (pa_cons pe_str (pa_cons pe_int pa_nil))) pa_nil))) (pe_op op_times (pe_lst (pa_cons (pe_tup (pa_cons pe_str (pa_cons pe_int pa_nil))) pa_nil)) (pe_callTy call_int1' (by rfl) T.n_int (by decide +kernel) (pa_cons (pe_cmpR (op_eqs hr.units) (pe_ix (ix_ats hr.units) (pv 4) pe_int (fun _ _ => rfl)) pe_str (nomark _)) pa_nil)))))
  (pss_cons (ps_if (pt_cmpR (op_nes hr.units) (pe_meth0 (pe_call C_simplified.ok (hr.mono (by decide)) (by rfl) g_simplified C_simplified.kp C_simplified.b .nil pass0 (pa_cons (pe_make k_Doc_init C_Doc_init.ok (hr.mono (by decide)) (by rfl) T.c_Doc C_Doc_init.b .nil pass0 (pa_cons (pv 1) pa_nil)) pa_nil)) T.k_Doc m_Doc_row_list C_Doc_row_list.ok (hr.mono (by decide)) C_Doc_row_list.b .nil pass0) (pv 2) (nomark _))
  (pss_one (ps_ret pe_bl))
  pss_nil)
  (pss_cons (ps_set (i := 6) S.nd rfl (.inl rfl) (pe_op op_plus (pe_lst (pa_cons (pe_tup (pa_cons pe_str (pa_cons pe_str pa_nil))) pa_nil)) (pe_lc (own := [("_law_at", 5)]) (g := (gName 5)) rfl S.nd (pi_range1 (by rfl) T.n_range (pa_cons pe_int pa_nil)) (blkOk_by (own := [("_law_at", 5)]) (N := N_law) (sc := defScope s_law) (by decide +kernel)) (fun _ _ _ _ _ => (pg_name (i := 5) S.nd rfl (.inl rfl))) (fun _ _ _ _ _ => pts_nil) (fun _ _ _ _ _ => (pe_tup (pa_cons pe_str (pa_cons pe_int (pa_cons (pv 5) pa_nil))))))))
  (pss_one (ps_ret (pe_and (pe_cmpR (op_eqC C_Doc_eq.ok m_Doc_eq.at_ m_Doc_eq.fn C_Doc_eq.b pass0 (hr.mono (by decide))) (pe_call C_simplified.ok (hr.mono (by decide)) (by rfl) g_simplified C_simplified.kp C_simplified.b .nil pass0 (pa_cons (pe_make k_Doc_init C_Doc_init.ok (hr.mono (by decide)) (by rfl) T.c_Doc C_Doc_init.b .nil pass0 (pa_cons (pv 6) pa_nil)) pa_nil)) (pe_make k_Doc_init C_Doc_init.ok (hr.mono (by decide)) (by rfl) T.c_Doc C_Doc_init.b .nil pass0 (pa_cons (pv 6) pa_nil)) (nomark _)) (pe_one (pe_call C_is_simple.ok (hr.mono (by decide)) (by rfl) g_is_simple C_is_simple.kp C_is_simple.b .nil pass0 (pa_cons (pe_make k_Doc_init C_Doc_init.ok (hr.mono (by decide)) (by rfl) T.c_Doc C_Doc_init.b .nil pass0 (pa_cons (pv 6) pa_nil)) pa_nil)))))))))))))
end
end FL

namespace FLH
open PySem PySem.Spec PyProof.Rows L2 FL
def d_is_integer : He.DefD := ⟨("is_integer", none), "is_integer", "is_integer", defArgs s_is_integer, defBody s_is_integer, defScope s_is_integer, [], []⟩
def d_is_between : He.DefD := ⟨("is_between", none), "is_between", "is_between", defArgs s_is_between, defBody s_is_between, defScope s_is_between, [], []⟩
def d_is_signs : He.DefD := ⟨("is_signs", none), "is_signs", "is_signs", defArgs s_is_signs, defBody s_is_signs, defScope s_is_signs, [], []⟩
def d_is_row : He.DefD := ⟨("is_row", none), "is_row", "is_row", defArgs s_is_row, defBody s_is_row, defScope s_is_row, [], []⟩
def d_copied_row : He.DefD := ⟨("copied_row", none), "copied_row", "copied_row", defArgs s_copied_row, defBody s_copied_row, defScope s_copied_row, [], []⟩
def d_parts_of : He.DefD := ⟨("parts_of", none), "parts_of", "parts_of", defArgs s_parts_of, defBody s_parts_of, defScope s_parts_of, [], []⟩
def d_Doc_init : He.DefD := ⟨("Doc", some "__init__"), "__init__", "Doc.__init__", defArgs s_Doc_init, defBody s_Doc_init, defScope s_Doc_init, [], []⟩
def d_Doc_eq : He.DefD := ⟨("Doc", some "__eq__"), "__eq__", "Doc.__eq__", defArgs s_Doc_eq, defBody s_Doc_eq, defScope s_Doc_eq, [], []⟩
def d_Doc_row_list : He.DefD := ⟨("Doc", some "row_list"), "row_list", "Doc.row_list", defArgs s_Doc_row_list, defBody s_Doc_row_list, defScope s_Doc_row_list, [], []⟩
def d_check_doc : He.DefD := ⟨("check_doc", none), "check_doc", "check_doc", defArgs s_check_doc, defBody s_check_doc, defScope s_check_doc, [], []⟩
def d_Store_init : He.DefD := ⟨("Store", some "__init__"), "__init__", "Store.__init__", defArgs s_Store_init, defBody s_Store_init, defScope s_Store_init, [], []⟩
def d_Store_put : He.DefD := ⟨("Store", some "put"), "put", "Store.put", defArgs s_Store_put, defBody s_Store_put, defScope s_Store_put, [], []⟩
def d_Store_turned : He.DefD := ⟨("Store", some "turned"), "turned", "Store.turned", defArgs s_Store_turned, defBody s_Store_turned, defScope s_Store_turned, [], []⟩
def d_Store_document : He.DefD := ⟨("Store", some "document"), "document", "Store.document", defArgs s_Store_document, defBody s_Store_document, defScope s_Store_document, [], []⟩
def d_simplified : He.DefD := ⟨("simplified", none), "simplified", "simplified", defArgs s_simplified, defBody s_simplified, defScope s_simplified, [], []⟩
def d_is_simple : He.DefD := ⟨("is_simple", none), "is_simple", "is_simple", defArgs s_is_simple, defBody s_is_simple, defScope s_is_simple, [], []⟩
def d__law_cell_at : He.DefD := ⟨("_law_cell_at", none), "_law_cell_at", "_law_cell_at", defArgs s__law_cell_at, defBody s__law_cell_at, defScope s__law_cell_at, [], []⟩
def d__law_source_of : He.DefD := ⟨("_law_source_of", none), "_law_source_of", "_law_source_of", defArgs s__law_source_of, defBody s__law_source_of, defScope s__law_source_of, [], []⟩
def d__law_next : He.DefD := ⟨("_law_next", none), "_law_next", "_law_next", defArgs s__law_next, defBody s__law_next, defScope s__law_next, [], []⟩
def d__law_one : He.DefD := ⟨("_law_one", none), "_law_one", "_law_one", defArgs s__law_one, defBody s__law_one, defScope s__law_one, [], []⟩
def d__law_known : He.DefD := ⟨("_law_known", none), "_law_known", "_law_known", defArgs s__law_known, defBody s__law_known, defScope s__law_known, [], []⟩
def d_law : He.DefD := ⟨("law", none), "law", "law", defArgs s_law, defBody s_law, defScope s_law, [], []⟩
def fn : List He.DefD := [d_is_integer, d_is_between, d_is_signs, d_is_row, d_copied_row, d_parts_of, d_Doc_init, d_Doc_eq, d_Doc_row_list, d_check_doc, d_Store_init, d_Store_put, d_Store_turned, d_Store_document, d_simplified, d_is_simple, d__law_cell_at, d__law_source_of, d__law_next, d__law_one, d__law_known, d_law]
def fa : List He.Fa := [.free "all", .free "any", .free "bool", .free "enumerate", .free "int", .free "isinstance", .free "len", .free "list", .free "range", .free "str", .free "tuple", .int "MOST_NEST" 8, .int "MOST_PARTS" 8, .int "MOST_ROWS" 200, .glo "Doc", .glo "EMPTY", .glo "MOST_SIGNS", .glo "SIZES", .glo "Store", .glo "is_integer", .glo "is_between", .glo "is_signs", .glo "is_row", .glo "copied_row", .glo "parts_of", .glo "check_doc", .glo "simplified", .glo "is_simple", .glo "_law_cell_at", .glo "_law_source_of", .glo "_law_next", .glo "_law_one", .glo "_law_known", .glo "law", .cls "Doc", .cls "Store", .meth "Doc" "__eq__", .meth "Doc" "row_list", .meth "Store" "document", .meth "Store" "put", .meth "Store" "turned", .mkr "Doc", .mkr "Store", .noat "Doc" "rows", .noat "Doc" "layouts", .noat "Store" "stored", .noat "Store" "numbers", .noat "Store" "bare", .noat "Store" "hard", .noat "Store" "direct"]
def gOf (K : PySem.W.Frag) : Gs := ⟨He.ga K "Doc", He.ga K "Store", He.ga K "SIZES", He.ga K "MOST_SIGNS", He.ga K "EMPTY"⟩
def sizesV : List (Str × He.Dv) := [("text", .int 2), ("line", .int 2), ("hard", .int 1), ("cat", .int 2), ("nest", .int 3), ("align", .int 2), ("group", .int 2)]
def signsV : List (Str × He.Dv) := [("text", .int 20), ("line", .int 3)]
def noneV : List Str := ["hard", "cat", "nest", "align", "group"]
def ts : List He.Tab := [((fun K => He.ga K "SIZES"), sizesV.map (·.1)), ((fun K => He.ga K "MOST_SIGNS"), signsV.map (·.1))]
def insB (K : PySem.W.Frag) (C : Addr) : Bool := He.eqO (PySem.W.findIn K (.ref C) "__class__") (some (some (.builtin "object.__class__"))) && (He.eqO (PySem.W.specialIn K (.builtin "object.__class__") "__get__") (some (some (.builtin "getset_descriptor.__get__"))) && (decide (PySem.W.takesIn K (.builtin "object.__class__") = some true) && (decide (PySem.W.mroIn K C (.type "object") = some true) && decide (PySem.W.kitOne K (.ref C) (.ref C) = some true))))
theorem insB_ok {K : PySem.W.Frag} {C : Addr} (h : insB K C = true) (c : Cls K C) : C8.InsC K C := by
  obtain ⟨h1, h⟩ := He.ba h
  obtain ⟨h2, h⟩ := He.ba h
  obtain ⟨h3, h⟩ := He.ba h
  obtain ⟨h4, h5⟩ := He.ba h
  exact ⟨c, He.eqO_ok h1, He.eqO_ok h2, of_decide_eq_true h3, of_decide_eq_true h4, of_decide_eq_true h5⟩
def ex (K : PySem.W.Frag) : Bool := He.valsB K (He.ga K "SIZES") sizesV && (He.valsB K (He.ga K "MOST_SIGNS") signsV && ((noneV.all fun z => He.eqO (PySem.W.nsIn K (He.ga K "MOST_SIGNS") z) (some none)) && (He.tupB K "EMPTY" [.str "text", .str ""] && insB K (He.ga K "Doc"))))
theorem kdct_of {K : PySem.W.Frag} {w : World} {a : Addr} {kvs : List (Str × He.Dv)} (hd : ∃ es n, KDict K w a es n) (h : He.valsB K a kvs = true) (q : Str × He.Dv) (hq : q ∈ kvs) : KDct K w a q.1 (q.2.v K) ∧ KHas K w a q.1 true := by
  obtain ⟨es, n, k⟩ := hd
  obtain ⟨u, e, r⟩ := He.valsB_ok h hq
  exact ⟨⟨es, n, u, k.at_, k.lit, e, r⟩, es, n, _, k, e, rfl⟩
theorem khas_no {K : PySem.W.Frag} {w : World} {a : Addr} {z : Str} (hd : ∃ es n, KDict K w a es n) (h : He.eqO (PySem.W.nsIn K a z) (some none) = true) : KHas K w a z false := by
  obtain ⟨es, n, k⟩ := hd
  exact ⟨es, n, _, k, He.eqO_ok h, rfl⟩
theorem tx_of {w : World} {h : Heap} {K : PySem.W.Frag} (c : He.SaysX fa fn ts [] ex w h K) : Tx K w (gOf K) := by
  obtain ⟨e1, q⟩ := He.ba c.more
  obtain ⟨e2, q⟩ := He.ba q
  obtain ⟨e3, q⟩ := He.ba q
  obtain ⟨e4, e5⟩ := He.ba q
  have t0 := c.t.tab 0 rfl
  have t1 := c.t.tab 1 rfl
  have kD := He.cls_ok (c.t.d.facts (f := .cls "Doc") (by simp [fa]))
  have kS := He.cls_ok (c.t.d.facts (f := .cls "Store") (by simp [fa]))
  have no : ∀ z ∈ noneV, KHas K w (He.ga K "MOST_SIGNS") z false := fun z hz => khas_no t1 (List.all_eq_true.mp e3 z hz)
  refine { szT := (kdct_of t0 e1 ("text", .int 2) (by simp [sizesV])).1, szL := (kdct_of t0 e1 ("line", .int 2) (by simp [sizesV])).1, szH := (kdct_of t0 e1 ("hard", .int 1) (by simp [sizesV])).1, szC := (kdct_of t0 e1 ("cat", .int 2) (by simp [sizesV])).1, szN := (kdct_of t0 e1 ("nest", .int 3) (by simp [sizesV])).1, szA := (kdct_of t0 e1 ("align", .int 2) (by simp [sizesV])).1, szG := (kdct_of t0 e1 ("group", .int 2) (by simp [sizesV])).1, hsT := (kdct_of t0 e1 ("text", .int 2) (by simp [sizesV])).2, hsL := (kdct_of t0 e1 ("line", .int 2) (by simp [sizesV])).2, hsH := (kdct_of t0 e1 ("hard", .int 1) (by simp [sizesV])).2, hsC := (kdct_of t0 e1 ("cat", .int 2) (by simp [sizesV])).2, hsN := (kdct_of t0 e1 ("nest", .int 3) (by simp [sizesV])).2, hsA := (kdct_of t0 e1 ("align", .int 2) (by simp [sizesV])).2, hsG := (kdct_of t0 e1 ("group", .int 2) (by simp [sizesV])).2, msT := (kdct_of t1 e2 ("text", .int 20) (by simp [signsV])).1, msL := (kdct_of t1 e2 ("line", .int 3) (by simp [signsV])).1, hmT := (kdct_of t1 e2 ("text", .int 20) (by simp [signsV])).2, hmL := (kdct_of t1 e2 ("line", .int 3) (by simp [signsV])).2, hmH := no _ (by simp [noneV]), hmC := no _ (by simp [noneV]), hmN := no _ (by simp [noneV]), hmA := no _ (by simp [noneV]), hmG := no _ (by simp [noneV]), kDoc := kD, isDoc := insB_ok e5 kD, aRows := He.noat_ok (c.t.d.facts (f := .noat "Doc" "rows") (by simp [fa])), aLayouts := He.noat_ok (c.t.d.facts (f := .noat "Doc" "layouts") (by simp [fa])), kStore := kS, aStored := He.noat_ok (c.t.d.facts (f := .noat "Store" "stored") (by simp [fa])), aNumbers := He.noat_ok (c.t.d.facts (f := .noat "Store" "numbers") (by simp [fa])), aBare := He.noat_ok (c.t.d.facts (f := .noat "Store" "bare") (by simp [fa])), aHard := He.noat_ok (c.t.d.facts (f := .noat "Store" "hard") (by simp [fa])), aDirect := He.noat_ok (c.t.d.facts (f := .noat "Store" "direct") (by simp [fa])), empty := fun F => He.tupB_ok e4 F }
abbrev R : PySem.W.OpenRow := PySem.W.OpenLaw.row PySem.Challenge.rw_farlayout_k61_known_rewritings
abbrev hk : PySem.W.Hook := He.hookX 5 fa fn ts [] ex
def ob (s : PySem.W.SharedT) : He.AlX := He.obsX 5 fa fn ts [] ex (HandSHeadRun.getT s)
theorem ob_eq (s : PySem.W.SharedT) : ob s = hk.obs s.abs := He.obsX_eq (HandSHeadRun.getT_eq s)
def names : List PySem.Str := ["__name__", "LayoutError", "InvalidDoc", "InvalidBound", "is_integer", "is_between", "MOST_ROWS", "MOST_PARTS", "MOST_NEST", "MOST_SIGNS", "SIZES", "is_signs", "is_row", "copied_row", "parts_of", "Doc", "check_doc", "EMPTY", "Store", "simplified", "is_simple", "_law_cell_at", "_law_source_of", "_law_next", "_law_one", "_law_known"]
theorem run (w : World) : HandSHeadRun.RunEq R (PySem.W.view R.prog [30]) hk ob 6000 names w :=
  PySem.W.byRow2 "special-get-raises" (P := fun w => HandSHeadRun.RunEq R (PySem.W.view R.prog [30]) hk ob 6000 names w) (fun w => by intro os; kernel_rfl) (fun w => by intro os; kernel_rfl) w
theorem facts {P : Program} {w : World} {K : PySem.W.Frag} {h : Heap} {mg : Str → Option Value} {f : Addr} (X : K.In h) (Gn : h.Ns mainGlobals mg) (hfa : mg ("law" : Str) = some (.ref f)) (c : He.SaysX fa fn ts [] ex w h K) :
    ∃ fd : FuncData, (∀ (s : Shared) (v : Value), BindsTo s fd ⟨[v], []⟩ [("_law_script", v)]) ∧ ∀ base : Heap, K.In base → base.Ns mainGlobals mg → FnOk P w K mg base CX0 9 f fd ["_law_script"] (sp_law K w (gOf K)) := by
  have T0 : Tx K w (gOf K) := tx_of c
  have T : Tn K mg (gOf K) := by
    refine { n_all := ?_, n_any := ?_, n_bool := ?_, n_enumerate := ?_, n_int := ?_, n_isinstance := ?_, n_len := ?_, n_list := ?_, n_range := ?_, n_str := ?_, n_tuple := ?_, c_MOST_NEST := ?_, c_MOST_PARTS := ?_, c_MOST_ROWS := ?_, c_Doc := ?_, c_EMPTY := ?_, c_MOST_SIGNS := ?_, c_SIZES := ?_, c_Store := ?_, k_Doc := ?_, k_Store := ?_ }
    · exact He.free_ok X Gn (c.t.d.fact 0 (f := .free "all") rfl)
    · exact He.free_ok X Gn (c.t.d.fact 1 (f := .free "any") rfl)
    · exact He.free_ok X Gn (c.t.d.fact 2 (f := .free "bool") rfl)
    · exact He.free_ok X Gn (c.t.d.fact 3 (f := .free "enumerate") rfl)
    · exact He.free_ok X Gn (c.t.d.fact 4 (f := .free "int") rfl)
    · exact He.free_ok X Gn (c.t.d.fact 5 (f := .free "isinstance") rfl)
    · exact He.free_ok X Gn (c.t.d.fact 6 (f := .free "len") rfl)
    · exact He.free_ok X Gn (c.t.d.fact 7 (f := .free "list") rfl)
    · exact He.free_ok X Gn (c.t.d.fact 8 (f := .free "range") rfl)
    · exact He.free_ok X Gn (c.t.d.fact 9 (f := .free "str") rfl)
    · exact He.free_ok X Gn (c.t.d.fact 10 (f := .free "tuple") rfl)
    · exact He.int_ok X Gn (c.t.d.fact 11 (f := .int "MOST_NEST" 8) rfl)
    · exact He.int_ok X Gn (c.t.d.fact 12 (f := .int "MOST_PARTS" 8) rfl)
    · exact He.int_ok X Gn (c.t.d.fact 13 (f := .int "MOST_ROWS" 200) rfl)
    · exact He.glo_ok X Gn (c.t.d.fact 14 (f := .glo "Doc") rfl)
    · exact He.glo_ok X Gn (c.t.d.fact 15 (f := .glo "EMPTY") rfl)
    · exact He.glo_ok X Gn (c.t.d.fact 16 (f := .glo "MOST_SIGNS") rfl)
    · exact He.glo_ok X Gn (c.t.d.fact 17 (f := .glo "SIZES") rfl)
    · exact He.glo_ok X Gn (c.t.d.fact 18 (f := .glo "Store") rfl)
    · exact He.cls_ok (c.t.d.fact 34 (f := .cls "Doc") rfl)
    · exact He.cls_ok (c.t.d.fact 35 (f := .cls "Store") rfl)
  have g_is_integer := He.glo_ok X Gn (c.t.d.fact 19 (f := .glo "is_integer") rfl)
  have g_is_between := He.glo_ok X Gn (c.t.d.fact 20 (f := .glo "is_between") rfl)
  have g_is_signs := He.glo_ok X Gn (c.t.d.fact 21 (f := .glo "is_signs") rfl)
  have g_is_row := He.glo_ok X Gn (c.t.d.fact 22 (f := .glo "is_row") rfl)
  have g_copied_row := He.glo_ok X Gn (c.t.d.fact 23 (f := .glo "copied_row") rfl)
  have g_parts_of := He.glo_ok X Gn (c.t.d.fact 24 (f := .glo "parts_of") rfl)
  have g_check_doc := He.glo_ok X Gn (c.t.d.fact 25 (f := .glo "check_doc") rfl)
  have g_simplified := He.glo_ok X Gn (c.t.d.fact 26 (f := .glo "simplified") rfl)
  have g_is_simple := He.glo_ok X Gn (c.t.d.fact 27 (f := .glo "is_simple") rfl)
  have g__law_cell_at := He.glo_ok X Gn (c.t.d.fact 28 (f := .glo "_law_cell_at") rfl)
  have g__law_source_of := He.glo_ok X Gn (c.t.d.fact 29 (f := .glo "_law_source_of") rfl)
  have g__law_next := He.glo_ok X Gn (c.t.d.fact 30 (f := .glo "_law_next") rfl)
  have g__law_one := He.glo_ok X Gn (c.t.d.fact 31 (f := .glo "_law_one") rfl)
  have g__law_known := He.glo_ok X Gn (c.t.d.fact 32 (f := .glo "_law_known") rfl)
  have m_Doc_eq := He.meth_ok (c.t.d.fact 36 (f := .meth "Doc" "__eq__") rfl)
  have m_Doc_row_list := He.meth_ok (c.t.d.fact 37 (f := .meth "Doc" "row_list") rfl)
  have m_Store_document := He.meth_ok (c.t.d.fact 38 (f := .meth "Store" "document") rfl)
  have m_Store_put := He.meth_ok (c.t.d.fact 39 (f := .meth "Store" "put") rfl)
  have m_Store_turned := He.meth_ok (c.t.d.fact 40 (f := .meth "Store" "turned") rfl)
  have k_Doc_init := He.mkr_ok (c.t.d.fact 41 (f := .mkr "Doc") rfl)
  have k_Store_init := He.mkr_ok (c.t.d.fact 42 (f := .mkr "Store") rfl)
  have e := hfa.symm.trans (He.glo_ok X Gn (c.t.d.fact 33 (f := .glo "law") rfl))
  cases e
  obtain ⟨fd_is_integer, F_is_integer⟩ := c.t.d.def_ 0 (d := d_is_integer) rfl
  obtain ⟨fd_is_between, F_is_between⟩ := c.t.d.def_ 1 (d := d_is_between) rfl
  obtain ⟨fd_is_signs, F_is_signs⟩ := c.t.d.def_ 2 (d := d_is_signs) rfl
  obtain ⟨fd_is_row, F_is_row⟩ := c.t.d.def_ 3 (d := d_is_row) rfl
  obtain ⟨fd_copied_row, F_copied_row⟩ := c.t.d.def_ 4 (d := d_copied_row) rfl
  obtain ⟨fd_parts_of, F_parts_of⟩ := c.t.d.def_ 5 (d := d_parts_of) rfl
  obtain ⟨fd_Doc_init, F_Doc_init⟩ := c.t.d.def_ 6 (d := d_Doc_init) rfl
  obtain ⟨fd_Doc_eq, F_Doc_eq⟩ := c.t.d.def_ 7 (d := d_Doc_eq) rfl
  obtain ⟨fd_Doc_row_list, F_Doc_row_list⟩ := c.t.d.def_ 8 (d := d_Doc_row_list) rfl
  obtain ⟨fd_check_doc, F_check_doc⟩ := c.t.d.def_ 9 (d := d_check_doc) rfl
  obtain ⟨fd_Store_init, F_Store_init⟩ := c.t.d.def_ 10 (d := d_Store_init) rfl
  obtain ⟨fd_Store_put, F_Store_put⟩ := c.t.d.def_ 11 (d := d_Store_put) rfl
  obtain ⟨fd_Store_turned, F_Store_turned⟩ := c.t.d.def_ 12 (d := d_Store_turned) rfl
  obtain ⟨fd_Store_document, F_Store_document⟩ := c.t.d.def_ 13 (d := d_Store_document) rfl
  obtain ⟨fd_simplified, F_simplified⟩ := c.t.d.def_ 14 (d := d_simplified) rfl
  obtain ⟨fd_is_simple, F_is_simple⟩ := c.t.d.def_ 15 (d := d_is_simple) rfl
  obtain ⟨fd__law_cell_at, F__law_cell_at⟩ := c.t.d.def_ 16 (d := d__law_cell_at) rfl
  obtain ⟨fd__law_source_of, F__law_source_of⟩ := c.t.d.def_ 17 (d := d__law_source_of) rfl
  obtain ⟨fd__law_next, F__law_next⟩ := c.t.d.def_ 18 (d := d__law_next) rfl
  obtain ⟨fd__law_one, F__law_one⟩ := c.t.d.def_ 19 (d := d__law_one) rfl
  obtain ⟨fd__law_known, F__law_known⟩ := c.t.d.def_ 20 (d := d__law_known) rfl
  obtain ⟨fd_law, F_law⟩ := c.t.d.def_ 21 (d := d_law) rfl
  have b := FunD.bindsA (ps := ["_law_script"]) F_law fun _ _ _ _ _ _ us hl => match us, hl with | [_], _ => rfl
  refine ⟨fd_law, fun s v => b s [v] rfl, fun base _ _ => ?_⟩
  have C_is_integer := ok_is_integer (P := P) (w := w) (base := base) T T0  F_is_integer
  have C_is_between := ok_is_between (P := P) (w := w) (base := base) T T0 C_is_integer g_is_integer F_is_between
  have C_is_signs := ok_is_signs (P := P) (w := w) (base := base) T T0  F_is_signs
  have C_is_row := ok_is_row (P := P) (w := w) (base := base) T T0 C_is_between g_is_between C_is_signs g_is_signs F_is_row
  have C_copied_row := ok_copied_row (P := P) (w := w) (base := base) T T0  F_copied_row
  have C_parts_of := ok_parts_of (P := P) (w := w) (base := base) T T0  F_parts_of
  have C_Doc_init := ok_Doc_init (P := P) (w := w) (base := base) T T0 C_copied_row g_copied_row C_is_row g_is_row F_Doc_init
  have C_Doc_eq := ok_Doc_eq (P := P) (w := w) (base := base) T T0  F_Doc_eq
  have C_Doc_row_list := ok_Doc_row_list (P := P) (w := w) (base := base) T T0 C_copied_row g_copied_row F_Doc_row_list
  have C_check_doc := ok_check_doc (P := P) (w := w) (base := base) T T0  F_check_doc
  have C_Store_init := ok_Store_init (P := P) (w := w) (base := base) T T0  F_Store_init
  have C_Store_put := ok_Store_put (P := P) (w := w) (base := base) T T0 C_parts_of g_parts_of F_Store_put
  have C_Store_turned := ok_Store_turned (P := P) (w := w) (base := base) T T0 C_Store_put m_Store_put F_Store_turned
  have C_Store_document := ok_Store_document (P := P) (w := w) (base := base) T T0 C_parts_of g_parts_of C_Doc_init k_Doc_init F_Store_document
  have C_simplified := ok_simplified (P := P) (w := w) (base := base) T T0 C_Store_document m_Store_document C_Store_turned m_Store_turned C_check_doc g_check_doc C_Store_init k_Store_init F_simplified
  have C_is_simple := ok_is_simple (P := P) (w := w) (base := base) T T0 C_Doc_eq m_Doc_eq C_simplified g_simplified F_is_simple
  have C__law_cell_at := ok__law_cell_at (P := P) (w := w) (base := base) T T0  F__law_cell_at
  have C__law_source_of := ok__law_source_of (P := P) (w := w) (base := base) T T0  F__law_source_of
  have C__law_next := ok__law_next (P := P) (w := w) (base := base) T T0  F__law_next
  have C__law_one := ok__law_one (P := P) (w := w) (base := base) T T0 C__law_next g__law_next F__law_one
  have C__law_known := ok__law_known (P := P) (w := w) (base := base) T T0  F__law_known
  exact (ok_law (P := P) (w := w) (base := base) T T0 C_Doc_eq m_Doc_eq C_Doc_row_list m_Doc_row_list C__law_cell_at g__law_cell_at C__law_known g__law_known C__law_one g__law_one C__law_source_of g__law_source_of C_is_simple g_is_simple C_simplified g_simplified C_Doc_init k_Doc_init F_law).ok
end FLH
open PySem PySem.W PySem.Calls PyProof.Rows
theorem PySem.Challenge.cw_farlayout_k61_known_rewritings_holds : PySem.Challenge.rw_farlayout_k61_known_rewritings.Holds := by
  w_on; o_law
  refine HandSHeadRun.head_any (r := OpenLaw.row PySem.Challenge.rw_farlayout_k61_known_rewritings) (q := view (OpenLaw.row PySem.Challenge.rw_farlayout_k61_known_rewritings).prog [30]) (H := FLH.hk) (ob := FLH.ob) (M := 6000) (loose := FLH.names) (d := HandSHeadRun.topDef (OpenLaw.row PySem.Challenge.rw_farlayout_k61_known_rewritings).prog 30) (kwd := []) FLH.ob_eq
    (by kernel_rfl) (fun s => by kernel_rfl) FLH.run (by kernel_rfl) (by kernel_rfl) (by kernel_rfl) (by rfl) (by first | assumption | decide +kernel) (by decide +kernel) ⟨rfl, rfl, rfl, rfl, rfl, by decide +kernel⟩ ?hw ?hc
  case hw => w_witness2
  case hc =>
    refine L2.walk_ofE (l := PySem.Challenge.rw_farlayout_k61_known_rewritings) (n := 63) (k := 9) (x := "_law_script") (CX := L2.CX0) rfl (by decide) (by kernel_rfl) ⟨rfl, by decide, by decide⟩ ?F (fun _ _ _ _ z => z)
    intro w mg fa h Y Gn hmg0
    obtain ⟨K, KX, c⟩ := Y
    have hmg : mg ("law" : PySem.Str) = some (.ref fa) := by
      have e : (HandSHeadRun.topDef (OpenLaw.row PySem.Challenge.rw_farlayout_k61_known_rewritings).prog 30).name = ("law" : PySem.Str) := by kernel_rfl
      rw [← e]
      exact hmg0
    obtain ⟨fd, hb, hF⟩ := FLH.facts (P := (PySem.Challenge.rw_farlayout_k61_known_rewritings).prog) (w := w) KX Gn hmg c
    refine ⟨K, fd, FL.sp_law K w (FLH.gOf K), KX, hb, fun H a ns hl _ hS => ?_, hF⟩
    exact ⟨H, _, [], [], _, ⟨rfl, _, ⟨ns, rfl, rfl⟩, rfl⟩, ⟨FL.gr_refl H, (fun _ _ m => (nomatch m)), List.nodup_nil⟩, .cons (.scr hS) .nil, fun d ω' x F' H' hR _ _ m => by
      obtain ⟨rfl, _⟩ := hR
      exact m.eqv⟩

