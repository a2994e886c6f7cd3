import PyProof.Rows.All
import Wide.All
import OpenK.AllK
import Wide.FinOn
import HandS.ForMost
import HandS.Walk
import HandS.Zip
import KE.GoesMore
import HandS.Deep
import HandS.DictComp
import HandS.IsInst
import HandS.RaiseMore
import HandS.ExcOwn
import PyProof.Rows.TmSorted
import PyProof.Rows.SortStr
import PyProof.Rows.StrMeet
import PySem.Challenge.RW_latticewish_k21_formulas_made_of_formula
set_option Elab.async false
set_option linter.all false
set_option maxRecDepth 100000
set_option maxHeartbeats 4000000
namespace Lw
open PySem L2
local macro_rules | `(tactic| walk_at "up") => `(tactic| first | assumption | (refine Same.at (by assumption) ?_; walk_at "up") | (refine Same.seq (by assumption) ?_; walk_at "up"))
local macro_rules | `(tactic| walk_at "rd") => `(tactic| repeat (first | (refine ⟨_, rfl, ?_⟩) | (refine ⟨_, _, rfl, rfl, ?_⟩) | (refine ⟨(by decide), ?_⟩)))
theorem _root_.L2.Same.new {H : Hp} {p : Addr} (h : H p = none) (o : HO) : Same H (upd H p o) := fun b u q => by rw [upd_ne (ne_of_none q h)]; exact q
theorem _root_.L2.Same.mut {H H' : Hp} {p : Addr} (s : Same H H') (h : H p = none) (o : HO) : Same H (upd H' p o) := fun b u q => by
  rw [upd_ne (ne_of_none q h)]; exact s b u q
theorem _root_.L2.Same.at {H H' : Hp} {p : Addr} {o : HO} (s : Same H H') (h : H p = some o) : H' p = some o := s p o h
/-- a new object, its heap told by what is known of it -/
theorem newO {H : Hp} {o : HO} {Q : Addr → Hp → Prop} (h : ∀ p H', H p = none → Same H H' → H' p = some o → Q p H') : ∀ p, H p = none → Q p (upd H p o) :=
  fun p hp => h p _ hp (Same.new hp o) upd_same
/-- the same, the object said, the heap as it is -/
theorem newQ {H : Hp} (o : HO) {G : Addr → Prop} (h : ∀ p, H p = none → Same H (upd H p o) → upd H p o p = some o → G p) : ∀ p, H p = none → G p :=
  fun p hp => h p hp (Same.new hp o) upd_same
theorem ans_run {t : TT} {σ : L2.St} {H : Hp} {Q : Bool → Hp → Prop} (b : Bool) (h : ∀ Q' : Bool → Hp → Prop, Q' b H → t σ H Q') (q : Q b H) : t σ H Q := h Q q
theorem iteN {c A B : Prop} [Decidable c] (hc : ¬ c) (h : B) : if decide c = true then A else B := by
  rw [decide_eq_false hc]
  exact iteF h
theorem iteY {c A B : Prop} [Decidable c] (hc : c) (h : A) : if decide c = true then A else B := by
  rw [decide_eq_true hc]
  exact iteT h
theorem lcY {σ : L2.St} {H : Hp} {A B : Hp → Prop} (h : A H) : tYes σ H (fun b H3 => if b = true then A H3 else B H3) := by
  show (if true = true then A H else B H)
  exact iteT h
theorem abs_map (ns : List Int) : ∀ z ∈ ns.map (fun i : Int => if i < 0 then -i else i), 0 ≤ z := by
  intro z hz
  obtain ⟨i, _, rfl⟩ := List.mem_map.mp hz
  split <;> omega
theorem map_at {ns : List Int} {i : Nat} {x : V} (h : (ns.map V.int)[i]? = some x) : ∃ z, ns[i]? = some z ∧ x = .int z := by
  rw [List.getElem?_map] at h
  cases e : ns[i]? with
  | none => rw [e] at h; cases h
  | some z => rw [e] at h; exact ⟨z, rfl, (Option.some.inj h).symm⟩
theorem take_snoc {α : Type} {l : List α} {i : Nat} {x : α} (h : l[i]? = some x) : l.take (i + 1) = l.take i ++ [x] := by
  obtain ⟨hl, rfl⟩ := List.getElem?_eq_some_iff.mp h
  rw [List.take_succ, List.getElem?_eq_getElem hl]; rfl
/-- what draws are made of -/
structure SrcIs (K : PySem.W.Frag) (H : Hp) (p c : Addr) (cs : List Int) (i : Nat) (l m : Int) : Prop where
  at_ : H p = some (.lst [.ref c, .int i, .int l, .int m])
  cel : SqL K H c (cs.map V.int)
  ne : c ≠ p
  hi : i ≤ cs.length
  hl : 0 ≤ l
  hc : ∀ z ∈ cs, 0 ≤ z
  m0 : 0 ≤ m
  m1 : m < 2147483563
def Src (K : PySem.W.Frag) (c : Addr) (H : Hp) (p : Addr) : Prop := ∃ cs i l m, SrcIs K H p c cs i l m
/-- all but p is as it was -/
def But (p : Addr) (H H' : Hp) : Prop := ∀ b o, b ≠ p → H b = some o → H' b = some o
theorem But.refl (p : Addr) (H : Hp) : But p H H := fun _ _ _ h => h
theorem But.trans {p : Addr} {H H1 H2 : Hp} (a : But p H H1) (b : But p H1 H2) : But p H H2 := fun c o n h => b c o n (a c o n h)
theorem But.upd {p : Addr} {H H' : Hp} (s : But p H H') (o : HO) : But p H (upd H' p o) := fun b u n h => by rw [upd_ne n]; exact s b u n h
theorem _root_.L2.Same.but {H H' : Hp} (s : Same H H') (p : Addr) : But p H H' := fun b o _ h => s b o h
theorem But.seq {K : PySem.W.Frag} {H H' : Hp} {p a : Addr} {xs : List V} (e : But p H H') (n : a ≠ p) (h : SqL K H a xs) : SqL K H' a xs := by
  rcases h with (h | ⟨o, h⟩) | h
  · exact .inl (.inl (e _ _ n h))
  · exact .inl (.inr ⟨o, e _ _ n h⟩)
  · exact .inr h
theorem SrcIs.put {K : PySem.W.Frag} {H : Hp} {p c : Addr} {cs : List Int} {i : Nat} {l m : Int} (h : SrcIs K H p c cs i l m) {i' : Nat} {l' m' : Int} (a : i' ≤ cs.length) (b : 0 ≤ l') (d : 0 ≤ m') (e : m' < 2147483563) :
    SrcIs K (upd H p (.lst [.ref c, .int i', .int l', .int m'])) p c cs i' l' m' :=
  ⟨upd_same, (But.upd (But.refl p H) _).seq h.ne h.cel, h.ne, a, b, h.hc, d, e⟩
theorem smallM {n : Nat} (h : n ≤ 1000000) : n < sizeLine := Nat.lt_of_le_of_lt h (by decide)
/-- a comprehension: R i H ys: what is known of the list made so far; F: what is kept of the heap; the list itself stands at D -/
theorem lc_foldF {J : It} {n : Nat} {G : Hp → Prop} {Yw : Nat → Hp → V → Hp → Prop} (w : Walk J n G Yw) {g : TG} {tt : TT} {te : TE} {vs : List Nat} {σ : L2.St} {H1 : Hp} {D : Addr} {Qd : Hp → Prop}
    (F : Hp → Prop) (R : Nat → Hp → List V → Prop) (f0 : F (upd H1 D (.lst []))) (fD : ∀ H ys zs, F H → H D = some (.lst ys) → F (upd H D (.lst zs))) (r0 : R 0 (upd H1 D (.lst [])) [])
    (rD : ∀ i H ys zs xs, R i H xs → H D = some (.lst ys) → R i (upd H D (.lst zs)) xs) (len : ∀ i H ys, R i H ys → ys.length ≤ 1000000) (hG : ∀ H, F H → G H)
    (hs : ∀ i x H H' ys (Nx : V → Hp → Prop) (Ex : Hp → Prop), i < n → F H → H D = some (.lst ys) → R i H ys → Yw i H x H' →
      (∀ y H2, F H2 → H2 D = some (.lst ys) → R (i + 1) H2 (ys ++ [y]) → Nx y H2) → (∀ H2, F H2 → H2 D = some (.lst ys) → R (i + 1) H2 ys → Ex H2) →
      g x (wipe σ vs) H' fun σ2 H2 => wipe σ2 vs = wipe σ vs ∧ tt σ2 H2 fun b H3 => if b = true then te σ2 H3 Nx else Ex H3)
    (hd : ∀ H ys, F H → H D = some (.lst ys) → R n H ys → Qd H) :
    ∃ W : Nat → Nat → Hp → Prop, (∃ m, W 0 m (upd H1 D (.lst []))) ∧ ∀ i m H, W i m H →
      (J.stop i H ∧ Qd H) ∨ (J.go i H ∧ ∃ Nx : Hp → Prop, (∀ H', Nx H' → ∃ m', m' < m ∧ W (i + 1) m' H') ∧ ∀ x H', J.yld i H x H' → g x (wipe σ vs) H' fun σ2 H2 => wipe σ2 vs = wipe σ vs ∧ tt σ2 H2 fun b H3 =>
        if b = true then te σ2 H3 fun y H4 => ∃ acc, H4 D = some (.lst acc) ∧ acc.length < sizeLine ∧ Nx (upd H4 D (.lst (acc ++ [y]))) else Nx H3) := by
  refine lc_it w (fun i H => F H ∧ ∃ ys, H D = some (.lst ys) ∧ R i H ys) ⟨f0, [], upd_same, r0⟩ (fun i H _ h => hG H h.1) ?_ ?_
  · rintro i x H H' hi ⟨f, ys, hy, r⟩ y
    refine hs i x H H' ys _ _ hi f hy r y (fun z H2 f2 h2 r2 => ?_) (fun H2 f2 h2 r2 => ⟨f2, ys, h2, r2⟩)
    exact ⟨ys, h2, smallM (len i H ys r), fD _ _ _ f2 h2, _, upd_same, rD _ _ _ _ _ r2 h2⟩
  · rintro H ⟨f, ys, hy, r⟩
    exact hd H ys f hy r
theorem snoc_at {α : Type} {l : List α} {x y : α} {j : Nat} (h : (l ++ [x])[j]? = some y) : l[j]? = some y ∨ (j = l.length ∧ y = x) := by
  rcases Nat.lt_or_ge j l.length with hj | hj
  · rw [List.getElem?_append_left hj] at h; exact .inl h
  · rw [List.getElem?_append_right hj] at h
    have := (List.getElem?_eq_some_iff.mp h).1
    simp at this
    have e : j = l.length := by omega
    subst e
    rw [Nat.sub_self] at h
    cases h
    exact .inr ⟨rfl, rfl⟩
theorem _root_.L2.Room.un2 {k : Nat} {A : Around} (r : Room k A) : A.units + 200 < cLine := by have := r.un; omega
theorem ixN_nat {n : Nat} {z : Int} (h0 : 0 ≤ z) (h : z.toNat < n) : ixN n z = some z.toNat := by
  unfold ixN
  rw [if_pos h0, if_pos (by omega : z < (n : Int))]
theorem sIx_some (n d k : Nat) : HT.sIx n d (some (k : Int)) = min k n := by first | exact HT.sIx_nat n d k | exact HT.sIx_some n d k | simp [HT.sIx]
theorem sIx_none (n d : Nat) : HT.sIx n d none = d := by first | rfl | simp [HT.sIx]
theorem cut1 (x : V) (xs : List V) : cutV (x :: xs) (some 1) none = xs := by
  unfold cutV
  rw [show (some (1 : Int)) = some ((1 : Nat) : Int) from rfl, sIx_some, sIx_none]
  have e : min 1 (x :: xs).length = 1 := by rw [List.length_cons]; omega
  rw [e]
  show List.take ((x :: xs).length - 1) xs = xs
  exact List.take_of_length_le (by rw [List.length_cons]; omega)
theorem cut1_not (x : V) (xs : List V) : ¬ (HT.sIx (x :: xs).length 0 (some 1) = 0 ∧ HT.sIx (x :: xs).length (x :: xs).length none = (x :: xs).length) := by
  rw [show (some (1 : Int)) = some ((1 : Nat) : Int) from rfl, sIx_some, List.length_cons]
  omega
/-! ### further rules: data compared and looked for at greater depths, dict.update, get of a written dict, zip of a tuple and a list -/
section
open PySem.Spec PyProof.Rows
variable {X : Cx}
/-- a datum that may be compared: n deep at most -/
def Shp (n : Nat) (d : PyData) : Prop := d.canLay0 = true ∧ d.depth ≤ n
def rEqX (K : PySem.W.Frag) : R2 := fun x y H Q => ∃ d e, Dp K H x d ∧ Dp K H y e ∧ Shp 190 d ∧ Shp 190 e ∧ Q (.bl (PyData.eqv d e)) H
def rNeX (K : PySem.W.Frag) : R2 := fun x y H Q => ∃ d e, Dp K H x d ∧ Dp K H y e ∧ Shp 190 d ∧ Shp 190 e ∧ Q (.bl (!PyData.eqv d e)) H
theorem op_eqX (hu : X.A.units + 200 < cLine) : OpR X (compareOp .Eq) (rEqX X.K) := by
  intro pins s σ H x y v u Q I rx ry ⟨d, e, hd, he, ⟨c1, d1⟩, ⟨c2, d2⟩, q⟩
  obtain ⟨as, r1⟩ := Dp.reads I d x v hd rx
  obtain ⟨bs, r2⟩ := Dp.reads I e y u he ry
  exact SeqAt.compareEq_reads r1 r2 c1 c2 (by have := Nat.min_le_left d.depth e.depth; omega) ⟨.bl _, H, I, rfl, q⟩
theorem op_neX (hu : X.A.units + 200 < cLine) : OpR X (compareOp .NotEq) (rNeX X.K) := by
  intro pins s σ H x y v u Q I rx ry ⟨d, e, hd, he, ⟨c1, d1⟩, ⟨c2, d2⟩, q⟩
  obtain ⟨as, r1⟩ := Dp.reads I d x v hd rx
  obtain ⟨bs, r2⟩ := Dp.reads I e y u he ry
  exact SeqAt.compareNe_reads r1 r2 c1 c2 (by have := Nat.min_le_left d.depth e.depth; omega) ⟨.bl _, H, I, rfl, q⟩
/-- x in (a, b, ..): data of any kind in a tuple -/
def rInTX (K : PySem.W.Frag) : R2 := fun x y H Q => ∃ d ds, Dp K H x d ∧ Dp K H y (.tuple ds) ∧ Shp 190 d ∧ PyData.canLayAll0 ds = true ∧ Q (.bl (ds.any fun z => PyData.eqv z d)) H
theorem op_inTX (hu : X.A.units + 200 < cLine) : OpR X (compareOp .In) (rInTX X.K) := by
  intro pins s σ H x y v u Q I rx ry ⟨d, ds, hd, he, ⟨c1, d1⟩, c2, q⟩
  obtain ⟨as, r1⟩ := Dp.reads I d x v hd rx
  obtain ⟨bs, r2⟩ := Dp.reads I (.tuple ds) y u he ry
  exact SeqAt.in_tuple_reads r2 r1 c2 c1 (by have := Nat.min_le_right (PyData.depthAll ds) d.depth; omega) ⟨.bl _, H, I, rfl, q⟩
/-- x in [a, b, ..]: the same in a list -/
def rInLX (K : PySem.W.Frag) : R2 := fun x y H Q => ∃ d ds, Dp K H x d ∧ Dp K H y (.list ds) ∧ Shp 190 d ∧ PyData.canLayAll0 ds = true ∧ Q (.bl (ds.any fun z => PyData.eqv z d)) H
theorem op_inLX (hu : X.A.units + 200 < cLine) : OpR X (compareOp .In) (rInLX X.K) := by
  intro pins s σ H x y v u Q I rx ry ⟨d, ds, hd, he, ⟨c1, d1⟩, c2, q⟩
  obtain ⟨as, r1⟩ := Dp.reads I d x v hd rx
  obtain ⟨bs, r2⟩ := Dp.reads I (.list ds) y u he ry
  exact SeqAt.in_list_reads r2 r1 c2 c1 (by have := Nat.min_le_right (PyData.depthAll ds) d.depth; omega) ⟨.bl _, H, I, rfl, q⟩
/-- d.update(e), two dicts of the call's own -/
def rUpdate : V → List V → Hp → VK → Prop := fun x vs H Q => ∃ (a b : Addr) (kvs more : List (Key × V)), x = .ref a ∧ vs = [.ref b] ∧ a ≠ b ∧ H a = some (.dK kvs) ∧ H b = some (.dK more) ∧ kvs.length + more.length ≤ sizeLine ∧ Q .non (upd H a (.dK (mergeK kvs more)))
theorem mt_update : MtR X "dict.update" rUpdate := by
  intro pins s σ H x vs v us Q I rx rv ⟨a, b, kvs, more, e1, e2, ne, ha, hb, hz, q⟩
  subst e1 e2
  cases rx
  obtain ⟨u, rfl, ru⟩ := rv.one
  cases ru
  obtain ⟨z1, lo1, ws, k1, D1⟩ := I.hok a _ ha
  obtain ⟨z2, lo2, rs, k2, D2⟩ := I.hok b _ hb
  have l1 := k1.length
  have l2 := k2.length
  refine call_meetsIn PySem.F.slot_dict_update D1.typeIs PySem.F.entry_dict_update (PySem.F.args_dict_update_2 _ _) (meets_dict_update (mixKind X.prog X.w) a b ne lo2)
    ⟨ws, rs, D1, D2, by omega, fun h' m1 m2 sb => ?_⟩
  have hm : Mut (H a) := by rw [ha]; trivial
  have new : ObjOk X.prog X.w (upd H a (.dK (mergeK kvs more))) h' a (.dK (mergeK kvs more)) :=
    ⟨Nat.le_trans (length_mergeK more kvs) hz, lo1, _, k2.merge k1, m1⟩
  obtain ⟨ob, _, _, q1, _⟩ := id m1
  refine ⟨.non, _, I.write (t' := s.toks) hm (.inl rfl) (fun c o n e => (sb.2 c n).trans e) ⟨ob, q1⟩ new, rfl, q⟩
/-- a dict that stands in the written part, its keys texts -/
structure KdAt (K : PySem.W.Frag) (w : World) (a : Addr) : Prop where
  at_ : ∃ es n, K.lookup a = some ⟨.type "dict", none, .dict es n, #[]⟩ ∧ PySem.W.KeysLit w.params es.toList
  low : (a == sysModules) = false
/-- D.get(k, d) of a written dict: r is what stands at k -/
theorem pe_kget2 {o e f : Expr} {td ty tx : TE} {apos cpos : Pos} (ho : PE X o td) (he : PE X e ty) (hf : PE X f tx) (m : M2 X o "get" apos e f cpos) :
    PE X (.Call (.Attribute o "get" apos) [e, f] [] cpos) (fun σ H Q => td σ H fun x H1 => ∃ a, x = .ref a ∧ KdAt X.K X.w a ∧ ty σ H1 fun y H2 => tx σ H2 fun z H3 =>
      ∃ (k : Str) (r : Option Value), y = .str k ∧ PySem.W.nsIn X.K a k = some r ∧ ∃ v, RelO (some v) (some (r.getD (.none))) ∧ Q (if r.isSome then v else z) H3) := by
  refine ⟨fun pins s σ H Q I h => ?_⟩
  refine wpAny_Call_method m.base m.few m.line PySem.F.plainAttrs_dict PySem.F.slot_dict_get PySem.F.type_dict_get (thn (ho.run pins s σ H _ I h) fun u s1 ⟨x, H1, I1, rx, a, ex, ⟨⟨es, n, hl, hk⟩, lo⟩, q1⟩ => ?_)
  subst ex
  obtain rfl : u = Value.ref a := rx
  have hm := PySem.W.mapOf_K (prog := X.prog) (w := X.w) I1.kIn hl hk
  refine ⟨hm.typeIs, fun b eb => ?_, ?_⟩
  · cases eb
    exact ⟨_, I1.kIn _ _ hl, rfl⟩
  rw [m.trees]
  refine Calls.callWith_builtin rfl (Calls.evalArgs_plain (Calls.spliced_cons (thn (he.run pins s1 σ H1 _ I1 q1) fun iv s2 ⟨y, H2, I2, ry, q2⟩ =>
    Calls.spliced_cons (thn (hf.run pins s2 σ H2 _ I2 q2) fun fv s3 ⟨z, H3, I3, rz, k, r, ey, hn, v, rv, q3⟩ => Calls.spliced_nil ?_))))
  subst ey
  obtain ⟨t, rfl⟩ := ry
  have hm3 := PySem.W.mapOf_K (prog := X.prog) (w := X.w) I3.kIn hl hk
  refine call_meetsIn PySem.F.slot_dict_get hm3.typeIs PySem.F.entry_dict_get (PySem.F.args_dict_get_3 _ _ _) (meets_dict_get_default (strKind X.prog X.w) a (strKind_is X.prog X.w k t) lo fv) ⟨_, hm3, ?_⟩
  rw [PySem.W.find_K hl hn]
  cases r with
  | none => exact ⟨_, H3, I3.tok _, rz, q3⟩
  | some u => exact ⟨_, H3, I3.tok _, rv, q3⟩
end

section
open PySem.Spec PyProof.Rows
/-- zip of the tuple at a and the list at b: their items in new pairs -/
def ItzM (K : PySem.W.Frag) (a b : Addr) : It where
  go := fun i H => ∃ (xs ys : List V) (x y : V), SqT K H a xs ∧ SqL K H b ys ∧ xs[i]? = some x ∧ ys[i]? = some y
  yld := fun i H v H' => ∃ T x y, v = .ref T ∧ H T = none ∧ H' = upd H T (.tup [x, y]) ∧ (∀ xs, SqT K H a xs → xs[i]? = some x) ∧ ∀ ys, SqL K H b ys → ys[i]? = some y
  stop := fun i H => ∃ xs ys : List V, SqT K H a xs ∧ SqL K H b ys ∧ i ≤ xs.length ∧ i ≤ ys.length ∧ (i = xs.length ∨ i = ys.length)
theorem turn_zipM {P : Program} {w : World} {K : PySem.W.Frag} {elts : List Expr} {kk : Nat} {tpos : Pos} {a b z TI TO i1 i2 : Addr} (D : ZipApart z TI TO i1 i2 a b) :
    Turn P w K (.Tuple elts kk tpos) (ItzM K a b) [z, TI, TO, i1, i2] z (fun i h => IsZip h z TI TO .none ∧ IsTupOf2 h TI (.ref i1) (.ref i2) ∧ (∃ x y, IsTupOf2 h TO x y) ∧ h.IsTupleIter i1 a i ∧ h.IsListIter i2 b i) := by
  have S : ZipSep2 z TI TO i1 i2 [i1, a] [i2, b] := by
    obtain ⟨d1, d2, d3, d4, d5, d6, d7, d8, d9, d10, d11, d12, d13, d14, d15, d16, d17, d18⟩ := D
    exact ⟨d1, d2, d5, d6, by simp, by simp [d3.symm, d11.symm], by simp [d8, d12.symm], d7, by simp, by simp [d4.symm, d15.symm], by simp [d9, d16.symm], by simp [d10, d17.symm], by simp [d10.symm, d14.symm]⟩
  have five : ∀ {c : Addr} {p : Addr → Prop}, c ∈ [z, TI, TO, i1, i2] → p z → p TI → p TO → p i1 → p i2 → p c := fun {c p} hc p1 p2 p3 p4 p5 => by
    rcases (by simpa using hc : c = z ∨ c = TI ∨ c = TO ∨ c = i1 ∨ c = i2) with r | r | r | r | r <;> rw [r] <;> assumption
  constructor
  case mem => simp
  case obj =>
    intro i h ⟨hz, hTI, ⟨x, y, hTO⟩, ⟨o1, e1, _, f1⟩, ⟨o2, e2, _, f2⟩⟩ c hc
    refine five (p := fun c => ∃ o, h.get? c = some o ∧ ∀ v, o.data ≠ .cell v) hc ⟨_, hz, fun v q => nomatch q⟩ ⟨_, hTI, fun v q => nomatch q⟩ ⟨_, hTO, fun v q => nomatch q⟩ ⟨o1, e1, fun v q => ?_⟩ ⟨o2, e2, fun v q => ?_⟩
    · rw [f1] at q; cases q
    · rw [f2] at q; cases q
  case keep =>
    intro i h h' ⟨hz, hTI, ⟨x, y, hTO⟩, h1, h2⟩ k
    exact ⟨k _ (by simp) _ hz, k _ (by simp) _ hTI, ⟨_, _, k _ (by simp) _ hTO⟩, h1.at fun o q => k _ (by simp) o q, h2.at fun o q => k _ (by simp) o q⟩
  case item =>
    intro X hP hw hK hc i pins s σ H E I hf ⟨hz, hTI, ⟨x0, y0, hTO⟩, h1, h2⟩ ⟨xs, ys, x, y, hqx, hqy, hx, hy⟩
    subst hP hw hK
    have hh := I.ok.hd hc
    obtain ⟨its, rv, p, _⟩ := I.tuple hqx
    obtain ⟨its2, rv2, p2, _⟩ := I.list hqy
    obtain ⟨u, hu, ru⟩ := rv.get hx
    obtain ⟨u2, hu2, ru2⟩ := rv2.get hy
    have hzl : z < s.heap.objs.size := Heap.lt_size hz
    have g1 : i < its.toArray.size := by simpa using (List.getElem?_eq_some_iff.mp hu).1
    have g2 : i < its2.toArray.size := by simpa using (List.getElem?_eq_some_iff.mp hu2).1
    refine wpAny_pyNext_zipD2_item S (Draws.tuple (A := X.A.in1) hh i1 a D.l1i1 its.toArray) (Draws.list (A := X.A.in1) hh i2 b D.l2i2 its2.toArray) hz hTI hTO ⟨h1, p⟩ ⟨h2, p2.isList⟩ g1 g2 fun v1 v2 h' tk w1 w2 z' TO' s1 s2 hT hsz hk => ?_
    have ev1 : v1 = u := by
      have q : its[i]? = some v1 := by simpa using w1
      rw [hu] at q; exact (Option.some.inj q).symm
    have ev2 : v2 = u2 := by
      have q : its2[i]? = some v2 := by simpa using w2
      rw [hu2] at q; exact (Option.some.inj q).symm
    subst ev1 ev2
    refine ⟨_, rfl, wpAny_letOwnedTupleGo_zip (s := { s with heap := h', toks := tk }) z' fun h'' z'' sb => ?_⟩
    have hT2 : h''.get? s.heap.objs.size = some { cls := .type "tuple", data := .seq #[v1, v2] } := (sb.2 _ (Nat.ne_of_gt hzl)).trans hT
    have new : ObjOk X.prog X.w (upd H s.heap.objs.size (.tup [x, y])) h'' s.heap.objs.size (.tup [x, y]) :=
      ⟨by show 2 ≤ sizeLine; decide, [v1, v2], .cons ru (.cons ru2 .nil), ⟨_, hT2, rfl, _, rfl⟩⟩
    have out : ∀ {c : Addr}, c ∉ [z, TI, TO, i1, i2] → c ≠ z ∧ c ≠ TO ∧ c ≠ i1 ∧ c ≠ i2 := fun {c} hc => by
      simp only [List.mem_cons, not_or] at hc
      exact ⟨hc.1, hc.2.2.1, hc.2.2.2.1, hc.2.2.2.2.1⟩
    have I1 : Inv X pins σ (upd H s.heap.objs.size (.tup [x, y])) { s with heap := h'', toks := tk } :=
      I.turnedNew (t' := tk) (ch := [z, TI, TO, i1, i2]) (fun c o hb q => let ⟨n1, n2, n3, n4⟩ := out hb; (sb.2 c n1).trans (hk c o n1 n2 n3 n4 q)) hf (Nat.le_refl _) new
    refine ⟨.ref s.heap.objs.size, _, I1, rfl, ⟨_, x, y, rfl, I.hok.fresh (Nat.le_refl _), rfl, fun l hl => ?_, fun l hl => ?_⟩, ⟨z'', ?_, ⟨v1, v2, ?_⟩, ?_, ?_⟩, fun c hcm => ?_⟩
    · rw [I.tuple_inj hl hqx]; exact hx
    · rw [I.list_inj hl hqy]; exact hy
    · exact (sb.2 _ D.TIz).trans (hk _ _ D.TIz D.TITO D.TIi1 D.TIi2 hTI)
    · exact (sb.2 _ D.TOz).trans TO'
    · exact s1.1.at fun o q => (sb.2 _ D.i1z).trans q
    · exact s2.1.at fun o q => (sb.2 _ D.i2z).trans q
    · have lt1 : i1 < s.heap.objs.size := by obtain ⟨_, e1, _⟩ := h1; exact Heap.lt_size e1
      have lt2 : i2 < s.heap.objs.size := by obtain ⟨_, e1, _⟩ := h2; exact Heap.lt_size e1
      have hlt : c < s.heap.objs.size := five (p := fun c => c < s.heap.objs.size) hcm hzl (Heap.lt_size hTI) (Heap.lt_size hTO) lt1 lt2
      rw [upd_ne (Nat.ne_of_lt hlt)]
      exact (hf c hcm).1
  case done =>
    intro X hP hw hK hc i pins s σ H E I hf ⟨hz, hTI, ⟨x0, y0, hTO⟩, h1, h2⟩ ⟨xs, ys, hqx, hqy, b1, b2, hend⟩
    subst hP hw hK
    have hh := I.ok.hd hc
    obtain ⟨its, rv, p, _⟩ := I.tuple hqx
    obtain ⟨its2, rv2, p2, _⟩ := I.list hqy
    have l1 : xs.length = its.toArray.size := by simpa using rv.length
    have l2 : ys.length = its2.toArray.size := by simpa using rv2.length
    refine wpAny_pyNext_zipD2_end S (Draws.tuple (A := X.A.in1) hh i1 a D.l1i1 its.toArray) (Draws.list (A := X.A.in1) hh i2 b D.l2i2 its2.toArray) hz hTI hTO ⟨h1, p⟩ ⟨h2, p2.isList⟩ (by omega) (by omega) (by omega) fun h' tk hk => ⟨rfl, ?_⟩
    refine I.turnedL (t' := tk) (ch := [z, TI, TO, i1, i2]) (fun c o hb q => ?_) hf
    simp only [List.mem_cons, not_or] at hb
    exact hk c o hb.1 hb.2.2.1 hb.2.2.2.1 hb.2.2.2.2.1 q
  case self => exact fun A i s Q E st h => wpAny_pyIter_zip st.1 h
def iZipM (K : PySem.W.Frag) (ta : TA) : TI := fun σ H R => ta σ H fun vs H1 => ∃ a b xs ys, vs = [.ref a, .ref b] ∧ SqT K H1 a xs ∧ SqL K H1 b ys ∧ R (ItzM K a b) H1
theorem pi_zipM {X : Cx} {e e2 : Expr} {ta : TA} {p pos tpos : Pos} {elts : List Expr} {kk : Nat} (hg : Gl X "zip") (hm : X.mg "zip" = none) (ha : PA X [e, e2] ta)
    (hs : starEach [e, e2] X.env = (false, eval e X.env) :: starEach [e2] X.env := by rfl) (hpl : (backTo pos (starEach [e2] X.env)).any (·.1) = false := by rfl) :
    PI X (.Tuple elts kk tpos) (.Call (.Name "zip" p) [e, e2] [] pos) (iZipM X.K ta) := by
  refine ⟨fun pins s σ H R I h => ?_⟩
  refine Call_ (ld_blt I hg hm PyProof.Rows.boot_zip (PyProof.Rows.callWith_type1 (thn (ha.run pos pins s σ H _ I h) fun us s1 ⟨vs, H1, I1, r1, a, b, xs, ys, ex, hqx, hqy, q⟩ => ?_) hs hpl))
  subst ex
  obtain ⟨u, u', rfl, r, r'⟩ := r1.two
  cases r
  cases r'
  obtain ⟨its, rv, p1, _⟩ := I1.tuple hqx
  obtain ⟨its2, rv2, p2, _⟩ := I1.list hqy
  have la : a < s1.heap.objs.size := by obtain ⟨o1, ho1, _⟩ := id p1; exact Heap.lt_size ho1
  refine zip_begins2 (begins_tuple a its.toArray) (begins_list b its2.toArray) p1 p2.isList fun h' hz hTI hTO h1 h2 hsz hk => wpAny_pyIter_zip hz ?_
  have I2 : Inv X pins σ H1 { s1 with heap := h' } := I1.kept (t' := s1.toks) hk
  refine ⟨s1.heap.objs.size + 4, [s1.heap.objs.size + 4, s1.heap.objs.size + 2, s1.heap.objs.size + 3, s1.heap.objs.size, s1.heap.objs.size + 1], _, _, H1, rfl, I2, turn_zipM (PySem.W.ktu_apart s1.heap.objs.size a b la p2.lt), ⟨hz, hTI, ⟨_, _, hTO⟩, ⟨_, h1, rfl, rfl⟩, ⟨_, h2, rfl, rfl⟩⟩, fun c hcm => ?_, q⟩
  have hle : s1.heap.objs.size ≤ c := by
    rcases (by simpa using hcm : c = s1.heap.objs.size + 4 ∨ c = s1.heap.objs.size + 2 ∨ c = s1.heap.objs.size + 3 ∨ c = s1.heap.objs.size ∨ c = s1.heap.objs.size + 1) with r | r | r | r | r <;> rw [r]
    · exact Nat.le_add_right _ _
    · exact Nat.le_add_right _ _
    · exact Nat.le_add_right _ _
    · exact Nat.le_refl _
    · exact Nat.le_add_right _ _
  exact I1.fpOk hle (I1.hok.fresh hle)
/-- a loop over such a zip, as many items on both sides -/
theorem for_zipM {K : PySem.W.Frag} {a b : Addr} {xs ys : List V} {g : TG} {tb : TS} {D : Ends} {σ : L2.St} {H : Hp} (hl : xs.length = ys.length) (Pv : Nat → L2.St → Hp → Prop) (h0 : Pv 0 σ H) (hq : ∀ i σ H, Pv i σ H → SqT K H a xs ∧ SqL K H b ys)
    (hs : ∀ (i : Nat) (x y : V) (T : Addr) (σ : L2.St) (H : Hp), xs[i]? = some x → ys[i]? = some y → Pv i σ H → H T = none → g (.ref T) σ (upd H T (.tup [x, y])) fun σ2 H2 => tb { D with nx := Pv (i + 1), ct := Pv (i + 1), bk := D.nx } σ2 H2) (hd : ∀ σ H, Pv xs.length σ H → D.nx σ H) :
    ∃ W : Nat → Nat → L2.St → Hp → Prop, (∃ m, W 0 m σ H) ∧ ∀ i m σ H, W i m σ H →
      ((ItzM K a b).stop i H ∧ D.nx σ H) ∨ ((ItzM K a b).go i H ∧ ∃ N : L2.St → Hp → Prop, (∀ σ' H', N σ' H' → ∃ m', m' < m ∧ W (i + 1) m' σ' H') ∧ ∀ v H', (ItzM K a b).yld i H v H' → g v σ H' fun σ2 H2 => tb { D with nx := N, ct := N, bk := D.nx } σ2 H2) := by
  refine ⟨fun i m σ H => m = xs.length - i ∧ i ≤ xs.length ∧ Pv i σ H, ⟨xs.length, rfl, Nat.zero_le _, h0⟩, fun i m σ H ⟨em, hi, p⟩ => ?_⟩
  subst em
  obtain ⟨qx, qy⟩ := hq i σ H p
  rcases Nat.lt_or_ge i xs.length with hlt | hge
  · refine .inr ⟨⟨xs, ys, _, _, qx, qy, List.getElem?_eq_getElem hlt, List.getElem?_eq_getElem (by omega : i < ys.length)⟩, Pv (i + 1), fun σ' H' p' => ⟨xs.length - (i + 1), by omega, rfl, hlt, p'⟩, fun v H' ⟨T, x', y', e1, hT, e2, f1, f2⟩ => ?_⟩
    subst e1 e2
    exact hs i x' y' T σ H (f1 xs qx) (f2 ys qy) p hT
  · have e : i = xs.length := by omega
    subst e
    exact .inl ⟨⟨xs, ys, qx, qy, Nat.le_refl _, by omega, .inl rfl⟩, hd σ H p⟩
end
/-! ### rules for a comprehension's block: the written part by its name -/
section
variable {X : Cx} (K : PySem.W.Frag)
theorem kx_ix_tup (h : X.K = K := by rfl) : IxR X (rIxT K) := h ▸ ix_tup
theorem kx_ix_list (h : X.K = K := by rfl) : IxR X (rIxL K) := h ▸ ix_list
theorem kx_ix_kdict (w : World) (h : X.K = K := by rfl) (hw : X.w = w := by rfl) : IxR X (rIxD K w) := by subst h hw; exact ix_kdict
theorem kx_op_eqX (hu : X.A.units + 200 < cLine) (h : X.K = K := by rfl) : OpR X (compareOp .Eq) (rEqX K) := h ▸ op_eqX hu
theorem kx_op_neX (hu : X.A.units + 200 < cLine) (h : X.K = K := by rfl) : OpR X (compareOp .NotEq) (rNeX K) := h ▸ op_neX hu
theorem kx_op_in_seq (h : X.K = K := by rfl) : OpR X (compareOp .In) (rIn K false) := h ▸ op_in_seq
theorem kx_op_notIn_seq (h : X.K = K := by rfl) : OpR X (compareOp .NotIn) (rIn K true) := h ▸ op_notIn_seq
theorem kx_call_isi (h : X.K = K := by rfl) : CallR X (.builtin "isinstance") (rIsi K) := h ▸ call_isi
def rLenQ (K : PySem.W.Frag) : List V → Hp → VK → Prop := fun xs H Q => ∃ p ys, xs = [.ref p] ∧ (SqL K H p ys ∨ SqT K H p ys) ∧ Q (.int ys.length) H
theorem kx_call_len_seq (h : X.K = K := by rfl) : CallR X (.builtin "len") (rLenQ K) := h ▸ call_len_seq
theorem kx_bm {e : Expr} {ty : String} {r : V → List V → Hp → VK → Prop} {to : TE} {t : TA} (p : PE X e (tBM X.K ty r to t)) (h : X.K = K := by rfl) : PE X e (tBM K ty r to t) := h ▸ p
theorem kx_bm0 {e : Expr} {ty : String} {r : V → List V → Hp → VK → Prop} {to : TE} (p : PE X e (tBM0 X.K ty r to)) (h : X.K = K := by rfl) : PE X e (tBM0 K ty r to) := h ▸ p
theorem kx_cr_sum (hc : X.calm = true := by rfl) (h : X.K = K := by rfl) : CallR X (.builtin "sum") (rSum K) := h ▸ cr_sum hc
end

section
variable {X : Cx}
/-- a new thing is locked as soon as it is there (a dict that is walked and dropped) -/
def tFrz (t : TE) : TE := fun σ H Q => t σ H fun x H1 => ∃ d u, x = .ref d ∧ H1 d = some u ∧ Mut (some u) ∧ ∀ od, Q x (upd H1 d (.frz od u))
theorem pe_frz {e : Expr} {t : TE} (he : PE X e t) : PE X e (tFrz t) := by
  refine ⟨fun pins s σ H Q I hw => ?_⟩
  refine thn (he.run pins s σ H _ I hw) fun v s1 ⟨x, H1, I1, r, d, u, ex, hd, mu, q⟩ => ?_
  obtain ⟨od, I2⟩ := I1.lock hd mu
  exact ⟨x, _, I2, r, q od⟩
end
/-! ### formulas as data -/
inductive Fm where
  | lit (b : Bool)
  | val (v : Str)
  | mark (m : Str)
  | name (x : Str)
  | bin (b : Bool) (l r : Fm)
  | un (b : Bool) (a : Fm)
  | fix (b : Bool) (x : Str) (a : Fm)
  deriving DecidableEq
namespace Fm
def hLit : Bool → Str | true => "true" | false => "false"
def hBin : Bool → Str | true => "and" | false => "or"
def hUn : Bool → Str | true => "some" | false => "all"
def hFix : Bool → Str | true => "least" | false => "most"
def head : Fm → Str
  | .lit b => hLit b
  | .val _ => "value"
  | .mark _ => "mark"
  | .name _ => "name"
  | .bin b _ _ => hBin b
  | .un b _ => hUn b
  | .fix b _ _ => hFix b
def parts : Fm → List Fm
  | .lit _ | .val _ | .mark _ | .name _ => []
  | .bin _ l r => [l, r]
  | .un _ a => [a]
  | .fix _ _ a => [a]
/-- the field behind the head that is a text -/
def text : Fm → Str
  | .val s | .mark s | .name s | .fix _ s _ => s
  | _ => ""
def depth : Fm → Nat
  | .lit _ | .val _ | .mark _ | .name _ => 1
  | .bin _ l r => max l.depth r.depth + 1
  | .un _ a => a.depth + 1
  | .fix _ _ a => a.depth + 1
def size : Fm → Nat
  | .lit _ | .val _ | .mark _ | .name _ => 1
  | .bin _ l r => l.size + r.size + 1
  | .un _ a => a.size + 1
  | .fix _ _ a => a.size + 1
/-- all texts in it keep p -/
def Texts (p : Str → Prop) : Fm → Prop
  | .lit _ => True
  | .val s | .mark s | .name s => p s
  | .bin _ l r => l.Texts p ∧ r.Texts p
  | .un _ a => a.Texts p
  | .fix _ x a => p x ∧ a.Texts p
theorem depth_pos : ∀ f : Fm, 1 ≤ f.depth
  | .lit _ | .val _ | .mark _ | .name _ => Nat.le_refl _
  | .bin _ _ _ | .un _ _ | .fix _ _ _ => Nat.le_add_left _ _
theorem depth_size : ∀ f : Fm, f.depth ≤ f.size
  | .lit _ | .val _ | .mark _ | .name _ => Nat.le_refl _
  | .bin _ l r => by have := depth_size l; have := depth_size r; simp only [depth, size]; omega
  | .un _ a => by have := depth_size a; simp only [depth, size]; omega
  | .fix _ _ a => by have := depth_size a; simp only [depth, size]; omega
theorem parts_depth {f g : Fm} (h : g ∈ f.parts) : g.depth < f.depth := by
  cases f with
  | lit _ | val _ | mark _ | name _ => simp [parts] at h
  | bin b l r =>
    simp only [parts, List.mem_cons, List.not_mem_nil, or_false] at h
    rcases h with rfl | rfl <;> simp only [depth] <;> omega
  | un b a => simp only [parts, List.mem_cons, List.not_mem_nil, or_false] at h; subst h; simp only [depth]; omega
  | fix b x a => simp only [parts, List.mem_cons, List.not_mem_nil, or_false] at h; subst h; simp only [depth]; omega
theorem parts_two : ∀ f : Fm, f.parts.length ≤ 2
  | .lit _ | .val _ | .mark _ | .name _ => Nat.zero_le _
  | .bin _ _ _ => Nat.le_refl _
  | .un _ _ | .fix _ _ _ => by show 1 ≤ 2; omega
/-- with other parts -/
def withParts : Fm → List Fm → Fm
  | .bin b _ _, [l, r] => .bin b l r
  | .un b _, [a] => .un b a
  | .fix b x _, [a] => .fix b x a
  | f, _ => f
def toD : Fm → PyData
  | .lit b => .tuple [.str (hLit b)]
  | .val s => .tuple [.str "value", .str s]
  | .mark s => .tuple [.str "mark", .str s]
  | .name s => .tuple [.str "name", .str s]
  | .bin b l r => .tuple [.str (hBin b), l.toD, r.toD]
  | .un b a => .tuple [.str (hUn b), a.toD]
  | .fix b x a => .tuple [.str (hFix b), .str x, a.toD]
theorem toD_depth : ∀ f : Fm, f.toD.depth = f.depth
  | .lit _ | .val _ | .mark _ | .name _ => by simp [toD, depth, PyData.depth, PyData.depthAll]
  | .bin _ l r => by have := toD_depth l; have := toD_depth r; simp only [toD, depth, PyData.depth, PyData.depthAll]; omega
  | .un _ a => by have := toD_depth a; simp only [toD, depth, PyData.depth, PyData.depthAll]; omega
  | .fix _ _ a => by have := toD_depth a; simp only [toD, depth, PyData.depth, PyData.depthAll]; omega
theorem ok_bin : ∀ b, PyData.strOk (hBin b) = true := by decide +kernel
theorem ok_un : ∀ b, PyData.strOk (hUn b) = true := by decide +kernel
theorem ok_fix : ∀ b, PyData.strOk (hFix b) = true := by decide +kernel
theorem toD_lay : ∀ f : Fm, f.Texts (fun s => PyData.strOk s = true) → f.toD.canLay0 = true
  | .lit b, _ => by cases b <;> decide +kernel
  | .val s, h | .mark s, h | .name s, h => by
    have h : PyData.strOk s = true := h
    simp only [toD, PyData.canLay0, PyData.canLayAll0, h, Bool.and_true]
    decide +kernel
  | .bin b l r, ⟨h1, h2⟩ => by
    simp only [toD, PyData.canLay0, PyData.canLayAll0, toD_lay l h1, toD_lay r h2, Bool.and_true]
    exact ok_bin b
  | .un b a, h => by
    simp only [toD, PyData.canLay0, PyData.canLayAll0, toD_lay a h, Bool.and_true]
    exact ok_un b
  | .fix b x a, ⟨h1, h2⟩ => by
    simp only [toD, PyData.canLay0, PyData.canLayAll0, toD_lay a h2, show PyData.strOk x = true from h1, Bool.and_true]
    exact ok_fix b
/-- kinds of heads, as a number -/
theorem hLit_inj {b c : Bool} (h : hLit b = hLit c) : b = c := by cases b <;> cases c <;> first | rfl | (exact absurd h (by decide +kernel))
theorem hBin_inj {b c : Bool} (h : hBin b = hBin c) : b = c := by cases b <;> cases c <;> first | rfl | (exact absurd h (by decide +kernel))
theorem hUn_inj {b c : Bool} (h : hUn b = hUn c) : b = c := by cases b <;> cases c <;> first | rfl | (exact absurd h (by decide +kernel))
theorem hFix_inj {b c : Bool} (h : hFix b = hFix c) : b = c := by cases b <;> cases c <;> first | rfl | (exact absurd h (by decide +kernel))
def kindOf : Fm → Nat
  | .lit _ => 0 | .val _ => 1 | .mark _ => 2 | .name _ => 3 | .bin _ _ _ => 4 | .un _ _ => 5 | .fix _ _ _ => 6
def kindStr (s : Str) : Nat :=
  if s = "true" then 0 else if s = "false" then 0 else if s = "value" then 1 else if s = "mark" then 2 else if s = "name" then 3
  else if s = "and" then 4 else if s = "or" then 4 else if s = "some" then 5 else if s = "all" then 5 else if s = "least" then 6 else if s = "most" then 6 else 7
theorem kind_lit : ∀ b, kindStr (hLit b) = 0 := by decide +kernel
theorem kind_bin : ∀ b, kindStr (hBin b) = 4 := by decide +kernel
theorem kind_un : ∀ b, kindStr (hUn b) = 5 := by decide +kernel
theorem kind_fix : ∀ b, kindStr (hFix b) = 6 := by decide +kernel
theorem kind_head : ∀ f : Fm, kindStr f.head = f.kindOf
  | .lit b => kind_lit b
  | .val _ => by show kindStr "value" = 1; decide +kernel
  | .mark _ => by show kindStr "mark" = 2; decide +kernel
  | .name _ => by show kindStr "name" = 3; decide +kernel
  | .bin b _ _ => kind_bin b
  | .un b _ => kind_un b
  | .fix b _ _ => kind_fix b
theorem head_kind {f g : Fm} (h : f.head = g.head) : f.kindOf = g.kindOf := by rw [← kind_head, ← kind_head, h]
theorem eqv_one {a b : Str} : PyData.eqv (.tuple [.str a]) (.tuple [.str b]) = (a == b) := by simp [PyData.eqv, PyData.eqvAll]
/-- two formulas' data are equal just if they are -/
theorem eqv_toD : ∀ f g : Fm, PyData.eqv f.toD g.toD = decide (f = g) := by
  have up : ∀ {x y : Str} {xs ys : List PyData} {c : Bool}, PyData.eqvAll xs ys = c → PyData.eqv (.tuple (.str x :: xs)) (.tuple (.str y :: ys)) = ((x == y) && c) := fun {x y xs ys c} h => by
    simp only [PyData.eqv, PyData.eqvAll, h]
  have e1 : ∀ x : PyData, ∀ y : PyData, PyData.eqvAll [x] [y] = PyData.eqv x y := fun x y => by simp only [PyData.eqvAll, Bool.and_true]
  have no : ∀ f g : Fm, f.kindOf ≠ g.kindOf → PyData.eqv f.toD g.toD = decide (f = g) := fun f g h => by
    have h1 : ¬ f = g := fun e => h (by rw [e])
    have h2 : ∀ {xs ys : List PyData}, PyData.eqv (.tuple (.str f.head :: xs)) (.tuple (.str g.head :: ys)) = false := fun {xs ys} => by
      rw [up rfl, beq_eq_false_iff_ne.mpr fun e => h (head_kind e), Bool.false_and]
    rw [decide_eq_false h1]
    cases f <;> cases g <;> exact h2
  intro f
  induction f with
  | lit b =>
    intro g
    cases g with
    | lit c =>
      show PyData.eqv (.tuple [.str (hLit b)]) (.tuple [.str (hLit c)]) = _
      rw [eqv_one]
      by_cases e : b = c
      · subst e; simp
      · rw [decide_eq_false (by intro z; cases z; exact e rfl), beq_eq_false_iff_ne.mpr fun z => e (hLit_inj z)]
    | _ => exact no _ _ (by simp [kindOf])
  | val s =>
    intro g
    cases g with
    | val u =>
      show PyData.eqv (.tuple [.str "value", .str s]) (.tuple [.str "value", .str u]) = _
      rw [up (e1 _ _), beq_self_eq_true, Bool.true_and]
      simp only [PyData.eqv, val.injEq]
      by_cases e : s = u
      · subst e; simp
      · rw [decide_eq_false e, beq_eq_false_iff_ne.mpr e]
    | _ => exact no _ _ (by simp [kindOf])
  | mark s =>
    intro g
    cases g with
    | mark u =>
      show PyData.eqv (.tuple [.str "mark", .str s]) (.tuple [.str "mark", .str u]) = _
      rw [up (e1 _ _), beq_self_eq_true, Bool.true_and]
      simp only [PyData.eqv, mark.injEq]
      by_cases e : s = u
      · subst e; simp
      · rw [decide_eq_false e, beq_eq_false_iff_ne.mpr e]
    | _ => exact no _ _ (by simp [kindOf])
  | name s =>
    intro g
    cases g with
    | name u =>
      show PyData.eqv (.tuple [.str "name", .str s]) (.tuple [.str "name", .str u]) = _
      rw [up (e1 _ _), beq_self_eq_true, Bool.true_and]
      simp only [PyData.eqv, name.injEq]
      by_cases e : s = u
      · subst e; simp
      · rw [decide_eq_false e, beq_eq_false_iff_ne.mpr e]
    | _ => exact no _ _ (by simp [kindOf])
  | bin b l r il ir =>
    intro g
    cases g with
    | bin c l' r' =>
      show PyData.eqv (.tuple [.str (hBin b), l.toD, r.toD]) (.tuple [.str (hBin c), l'.toD, r'.toD]) = _
      rw [up (c := decide (l = l') && decide (r = r')) (by simp only [PyData.eqvAll, il l', ir r', Bool.and_true])]
      by_cases e : b = c
      · subst e
        rw [beq_self_eq_true, Bool.true_and, ← Bool.decide_and]
        simp only [bin.injEq, true_and]
      · rw [beq_eq_false_iff_ne.mpr fun z => e (hBin_inj z), Bool.false_and]
        exact (decide_eq_false fun z => e (by injection z)).symm
    | _ => exact no _ _ (by simp [kindOf])
  | un b a ia =>
    intro g
    cases g with
    | un c a' =>
      show PyData.eqv (.tuple [.str (hUn b), a.toD]) (.tuple [.str (hUn c), a'.toD]) = _
      rw [up (e1 _ _), ia a']
      by_cases e : b = c
      · subst e
        rw [beq_self_eq_true, Bool.true_and]
        simp only [un.injEq, true_and]
      · rw [beq_eq_false_iff_ne.mpr fun z => e (hUn_inj z), Bool.false_and]
        exact (decide_eq_false fun z => e (by injection z)).symm
    | _ => exact no _ _ (by simp [kindOf])
  | fix b x a ia =>
    intro g
    cases g with
    | fix c y a' =>
      show PyData.eqv (.tuple [.str (hFix b), .str x, a.toD]) (.tuple [.str (hFix c), .str y, a'.toD]) = _
      rw [up (c := (x == y) && decide (a = a')) (by simp only [PyData.eqvAll, PyData.eqv, ia a', Bool.and_true])]
      by_cases e : b = c
      · subst e
        rw [beq_self_eq_true, Bool.true_and]
        by_cases e2 : x = y
        · subst e2
          simp only [beq_self_eq_true, Bool.true_and, fix.injEq, true_and]
        · rw [beq_eq_false_iff_ne.mpr e2, Bool.false_and]
          exact (decide_eq_false fun z => e2 (by injection z)).symm
      · rw [beq_eq_false_iff_ne.mpr fun z => e (hFix_inj z), Bool.false_and]
        exact (decide_eq_false fun z => e (by injection z)).symm
    | _ => exact no _ _ (by simp [kindOf])
end Fm
/-! ### formulas in the heap -/
/-- tuples (and what is locked) stay -/
structure Keeps (H H' : Hp) : Prop where
  tup : ∀ a xs, H a = some (.tup xs) → H' a = some (.tup xs)
  frz : ∀ a o xs, H a = some (.frz o (.tup xs)) → H' a = some (.frz o (.tup xs))
theorem Keeps.refl (H : Hp) : Keeps H H := ⟨fun _ _ h => h, fun _ _ _ h => h⟩
theorem Keeps.trans {H H1 H2 : Hp} (a : Keeps H H1) (b : Keeps H1 H2) : Keeps H H2 := ⟨fun c xs h => b.tup c xs (a.tup c xs h), fun c o u h => b.frz c o u (a.frz c o u h)⟩
theorem _root_.L2.Same.keeps {H H' : Hp} (s : Same H H') : Keeps H H' := ⟨fun a xs h => s a _ h, fun a o u h => s a _ h⟩
theorem Keeps.mut {H H' : Hp} {D : Addr} {o o' : HO} (k : Keeps H H') (h : H' D = some o) (m : Mut (some o)) : Keeps H (upd H' D o') := by
  refine ⟨fun a xs q => ?_, fun a ob u q => ?_⟩
  · have q' := k.tup a xs q
    rw [upd_ne (ne_of q' h (by intro e; subst e; exact m))]; exact q'
  · have q' := k.frz a ob u q
    rw [upd_ne (ne_of q' h (by intro e; subst e; exact m))]; exact q'
theorem But.keeps {H H' : Hp} {D : Addr} {o : HO} (b : But D H H') (h : H D = some o) (m : Mut (some o)) : Keeps H H' :=
  ⟨fun a xs q => b a _ (ne_of q h (by intro e; subst e; exact m)) q, fun a ob u q => b a _ (ne_of q h (by intro e; subst e; exact m)) q⟩
theorem Keeps.sqT {K : PySem.W.Frag} {H H' : Hp} {a : Addr} {xs : List V} (k : Keeps H H') (h : SqT K H a xs) : SqT K H' a xs := by
  rcases h with (h | ⟨o, h⟩) | h
  · exact .inl (.inl (k.tup _ _ h))
  · exact .inl (.inr ⟨o, k.frz _ _ _ h⟩)
  · exact .inr h
/-- the formula f stands at v -/
def Rf (K : PySem.W.Frag) (H : Hp) : Fm → V → Prop
  | .lit b, v => ∃ p, v = .ref p ∧ SqT K H p [.str (Fm.hLit b)]
  | .val s, v => ∃ p, v = .ref p ∧ SqT K H p [.str "value", .str s]
  | .mark s, v => ∃ p, v = .ref p ∧ SqT K H p [.str "mark", .str s]
  | .name s, v => ∃ p, v = .ref p ∧ SqT K H p [.str "name", .str s]
  | .bin b l r, v => ∃ p x y, v = .ref p ∧ SqT K H p [.str (Fm.hBin b), x, y] ∧ Rf K H l x ∧ Rf K H r y
  | .un b a, v => ∃ p x, v = .ref p ∧ SqT K H p [.str (Fm.hUn b), x] ∧ Rf K H a x
  | .fix b s a, v => ∃ p x, v = .ref p ∧ SqT K H p [.str (Fm.hFix b), .str s, x] ∧ Rf K H a x
theorem Rf.keep {K : PySem.W.Frag} {H H' : Hp} (k : Keeps H H') : ∀ {f : Fm} {v : V}, Rf K H f v → Rf K H' f v
  | .lit _, _, ⟨p, e, h⟩ => ⟨p, e, k.sqT h⟩
  | .val _, _, ⟨p, e, h⟩ => ⟨p, e, k.sqT h⟩
  | .mark _, _, ⟨p, e, h⟩ => ⟨p, e, k.sqT h⟩
  | .name _, _, ⟨p, e, h⟩ => ⟨p, e, k.sqT h⟩
  | .bin _ _ _, _, ⟨p, x, y, e, h, h1, h2⟩ => ⟨p, x, y, e, k.sqT h, h1.keep k, h2.keep k⟩
  | .un _ _, _, ⟨p, x, e, h, h1⟩ => ⟨p, x, e, k.sqT h, h1.keep k⟩
  | .fix _ _ _, _, ⟨p, x, e, h, h1⟩ => ⟨p, x, e, k.sqT h, h1.keep k⟩
theorem Rf.same {K : PySem.W.Frag} {H H' : Hp} {f : Fm} {v : V} (h : Rf K H f v) (s : Same H H') : Rf K H' f v := h.keep s.keeps
theorem Rf.dp {K : PySem.W.Frag} {H : Hp} : ∀ {f : Fm} {v : V}, Rf K H f v → Dp K H v f.toD
  | .lit _, _, ⟨p, e, h⟩ => by subst e; exact .tup h (.cons (.str _) .nil)
  | .val _, _, ⟨p, e, h⟩ => by subst e; exact .tup h (.cons (.str _) (.cons (.str _) .nil))
  | .mark _, _, ⟨p, e, h⟩ => by subst e; exact .tup h (.cons (.str _) (.cons (.str _) .nil))
  | .name _, _, ⟨p, e, h⟩ => by subst e; exact .tup h (.cons (.str _) (.cons (.str _) .nil))
  | .bin _ _ _, _, ⟨p, x, y, e, h, h1, h2⟩ => by subst e; exact .tup h (.cons (.str _) (.cons h1.dp (.cons h2.dp .nil)))
  | .un _ _, _, ⟨p, x, e, h, h1⟩ => by subst e; exact .tup h (.cons (.str _) (.cons h1.dp .nil))
  | .fix _ _ _, _, ⟨p, x, e, h, h1⟩ => by subst e; exact .tup h (.cons (.str _) (.cons (.str _) (.cons h1.dp .nil)))
/-- the fields behind the head -/
def Rest (K : PySem.W.Frag) (H : Hp) : Fm → List V → Prop
  | .lit _, xs => xs = []
  | .val s, xs | .mark s, xs | .name s, xs => xs = [.str s]
  | .bin _ l r, xs => ∃ x y, xs = [x, y] ∧ Rf K H l x ∧ Rf K H r y
  | .un _ a, xs => ∃ x, xs = [x] ∧ Rf K H a x
  | .fix _ s a, xs => ∃ x, xs = [.str s, x] ∧ Rf K H a x
theorem Rf.out {K : PySem.W.Frag} {H : Hp} : ∀ {f : Fm} {v : V}, Rf K H f v → ∃ p xs, v = .ref p ∧ SqT K H p (.str f.head :: xs) ∧ Rest K H f xs
  | .lit _, _, ⟨p, e, h⟩ => ⟨p, _, e, h, rfl⟩
  | .val _, _, ⟨p, e, h⟩ => ⟨p, _, e, h, rfl⟩
  | .mark _, _, ⟨p, e, h⟩ => ⟨p, _, e, h, rfl⟩
  | .name _, _, ⟨p, e, h⟩ => ⟨p, _, e, h, rfl⟩
  | .bin _ _ _, _, ⟨p, x, y, e, h, h1, h2⟩ => ⟨p, _, e, h, x, y, rfl, h1, h2⟩
  | .un _ _, _, ⟨p, x, e, h, h1⟩ => ⟨p, _, e, h, x, rfl, h1⟩
  | .fix _ _ _, _, ⟨p, x, e, h, h1⟩ => ⟨p, _, e, h, x, rfl, h1⟩
theorem Rf.in_ {K : PySem.W.Frag} {H : Hp} : ∀ {f : Fm} {p : Addr} {xs : List V}, SqT K H p (.str f.head :: xs) → Rest K H f xs → Rf K H f (.ref p)
  | .lit _, _, _, h, rfl => ⟨_, rfl, h⟩
  | .val _, _, _, h, rfl => ⟨_, rfl, h⟩
  | .mark _, _, _, h, rfl => ⟨_, rfl, h⟩
  | .name _, _, _, h, rfl => ⟨_, rfl, h⟩
  | .bin _ _ _, _, _, h, ⟨x, y, e, h1, h2⟩ => by subst e; exact ⟨_, x, y, rfl, h, h1, h2⟩
  | .un _ _, _, _, h, ⟨x, e, h1⟩ => by subst e; exact ⟨_, x, rfl, h, h1⟩
  | .fix _ _ _, _, _, h, ⟨x, e, h1⟩ => by subst e; exact ⟨_, x, rfl, h, h1⟩
/-- where the parts stand -/
def Fm.places : Fm → List Int
  | .lit _ | .val _ | .mark _ | .name _ => []
  | .bin _ _ _ => [1, 2]
  | .un _ _ => [1]
  | .fix _ _ _ => [2]
theorem Fm.places_length : ∀ f : Fm, f.places.length = f.parts.length
  | .lit _ | .val _ | .mark _ | .name _ | .bin _ _ _ | .un _ _ | .fix _ _ _ => rfl
/-- the part at the i-th place -/
theorem Rest.part {K : PySem.W.Frag} {H : Hp} {f : Fm} {xs : List V} (r : Rest K H f xs) {i : Nat} {z : Int} (hz : f.places[i]? = some z) :
    ∃ g x, f.parts[i]? = some g ∧ atI (V.str f.head :: xs) z = some x ∧ Rf K H g x := by
  cases f with
  | lit _ | val _ | mark _ | name _ => simp [Fm.places] at hz
  | bin b l r' =>
    obtain ⟨x, y, rfl, h1, h2⟩ := r
    match i, hz with
    | 0, e => cases e; exact ⟨_, _, rfl, atI_nat (j := 1) rfl, h1⟩
    | 1, e => cases e; exact ⟨_, _, rfl, atI_nat (j := 2) rfl, h2⟩
    | n + 2, e => simp [Fm.places] at e
  | un b a =>
    obtain ⟨x, rfl, h1⟩ := r
    match i, hz with
    | 0, e => cases e; exact ⟨_, _, rfl, atI_nat (j := 1) rfl, h1⟩
    | n + 1, e => simp [Fm.places] at e
  | fix b s a =>
    obtain ⟨x, rfl, h1⟩ := r
    match i, hz with
    | 0, e => cases e; exact ⟨_, _, rfl, atI_nat (j := 2) rfl, h1⟩
    | n + 1, e => simp [Fm.places] at e
theorem lc_fold {J : It} {n : Nat} {G : Hp → Prop} {Yw : Nat → Hp → V → Hp → Prop} (w : Walk J n G Yw) {g : TG} {tt : TT} {te : TE} {vs : List Nat} {σ : L2.St} {H1 : Hp} {D : Addr} {Qd : Hp → Prop} (hD : H1 D = none)
    (R : Nat → Hp → List V → Prop) (r0 : ∀ H, R 0 H []) (mono : ∀ i H H' xs, Keeps H H' → R i H xs → R i H' xs) (len : ∀ i H ys, R i H ys → ys.length ≤ 1000000) (hG : ∀ H, Same H1 H → G H)
    (hs : ∀ i x H H' ys (Nx : V → Hp → Prop) (Ex : Hp → Prop), i < n → Same H1 H → R i H ys → Yw i H x H' →
      (∀ y H2, Same H H2 → R (i + 1) H2 (ys ++ [y]) → Nx y H2) → (∀ H2, Same H H2 → R (i + 1) H2 ys → Ex H2) →
      g x (wipe σ vs) H' fun σ2 H2 => wipe σ2 vs = wipe σ vs ∧ tt σ2 H2 fun b H3 => if b = true then te σ2 H3 Nx else Ex H3)
    (hd : ∀ H ys, Same H1 H → H D = some (.lst ys) → R n H ys → Qd H) :
    ∃ W : Nat → Nat → Hp → Prop, (∃ m, W 0 m (upd H1 D (.lst []))) ∧ ∀ i m H, W i m H →
      (J.stop i H ∧ Qd H) ∨ (J.go i H ∧ ∃ Nx : Hp → Prop, (∀ H', Nx H' → ∃ m', m' < m ∧ W (i + 1) m' H') ∧ ∀ x H', J.yld i H x H' → g x (wipe σ vs) H' fun σ2 H2 => wipe σ2 vs = wipe σ vs ∧ tt σ2 H2 fun b H3 =>
        if b = true then te σ2 H3 fun y H4 => ∃ acc, H4 D = some (.lst acc) ∧ acc.length < sizeLine ∧ Nx (upd H4 D (.lst (acc ++ [y]))) else Nx H3) :=
  lc_foldF w (Same H1) R (Same.new hD _) (fun H ys zs s _ => s.mut hD _) (r0 _) (fun i H ys zs xs r h => mono _ _ _ _ ((Keeps.refl H).mut h trivial) r) len hG
    (fun i x H H' ys Nx Ex hi s hy r y k1 k2 => hs i x H H' ys Nx Ex hi s r y (fun z H2 s2 r2 => k1 z H2 (s.trans s2) (s2 _ _ hy) r2) (fun H2 s2 r2 => k2 H2 (s.trans s2) (s2 _ _ hy) r2)) hd
/-- a dict comprehension over any walk, as lc_it -/
theorem dc_it {J : It} {n : Nat} {G : Hp → Prop} {Y : Nat → Hp → V → Hp → Prop} (w : Walk J n G Y) {g : TG} {tt : TT} {tk tv : TE} {vs : List Nat} {σ : L2.St} {H1 : Hp} {D : Addr} {Qd : Hp → Prop} (Pv : Nat → Hp → Prop) (h0 : Pv 0 (upd H1 D (.dK []))) (hG : ∀ i H, i ≤ n → Pv i H → G H)
    (hs : ∀ i x H H', i < n → Pv i H → Y i H x H' → g x (wipe σ vs) H' fun σ2 H2 => wipe σ2 vs = wipe σ vs ∧ tt σ2 H2 fun b H3 =>
      if b = true then tk σ2 H3 fun y H4 => tv σ2 H4 fun z H5 => ∃ kvs k, y = kV k ∧ H5 D = some (.dK kvs) ∧ kvs.length < sizeLine ∧ Pv (i + 1) (upd H5 D (.dK (putK kvs k z))) else Pv (i + 1) H3) (hd : ∀ H, Pv n H → Qd H) :
    ∃ W : Nat → Nat → Hp → Prop, (∃ m, W 0 m (upd H1 D (.dK []))) ∧ ∀ i m H, W i m H →
      (J.stop i H ∧ Qd H) ∨ (J.go i H ∧ ∃ Nx : Hp → Prop, (∀ H', Nx H' → ∃ m', m' < m ∧ W (i + 1) m' H') ∧ ∀ x H', J.yld i H x H' → g x (wipe σ vs) H' fun σ2 H2 => wipe σ2 vs = wipe σ vs ∧ tt σ2 H2 fun b H3 =>
        if b = true then tk σ2 H3 fun y H4 => tv σ2 H4 fun z H5 => ∃ kvs k, y = kV k ∧ H5 D = some (.dK kvs) ∧ kvs.length < sizeLine ∧ Nx (upd H5 D (.dK (putK kvs k z))) else Nx H3) := by
  refine ⟨fun i m H => m = n - i ∧ i ≤ n ∧ Pv i H, ⟨n, rfl, Nat.zero_le _, h0⟩, fun i m H ⟨em, hi, p⟩ => ?_⟩
  subst em
  have q := hG i H hi p
  rcases Nat.lt_or_ge i n with hlt | hge
  · exact .inr ⟨w.goes i H hlt q, Pv (i + 1), fun H' p' => ⟨n - (i + 1), by omega, rfl, hlt, p'⟩, fun x H' y => hs i x H H' hlt p (w.yields i H x H' hlt q y)⟩
  · have e : i = n := by omega
    subst e
    exact .inl ⟨w.stops H q, hd H p⟩
/-- R i H kvs: what is known of the dict made so far -/
theorem dc_fold {J : It} {n : Nat} {G : Hp → Prop} {Yw : Nat → Hp → V → Hp → Prop} (w : Walk J n G Yw) {g : TG} {tt : TT} {tk tv : TE} {vs : List Nat} {σ : L2.St} {H1 : Hp} {D : Addr} {Qd : Hp → Prop} (hD : H1 D = none)
    (R : Nat → Hp → List (Key × V) → Prop) (r0 : ∀ H, R 0 H []) (mono : ∀ i H H' xs, Keeps H H' → R i H xs → R i H' xs) (len : ∀ i H ys, R i H ys → ys.length ≤ 1000000) (hG : ∀ H, Same H1 H → G H)
    (hs : ∀ i x H H' ys (Nx : V → V → Hp → Prop) (Ex : Hp → Prop), i < n → Same H1 H → R i H ys → Yw i H x H' →
      (∀ k z H2, Same H H2 → R (i + 1) H2 (putK ys k z) → Nx (kV k) z H2) → (∀ H2, Same H H2 → R (i + 1) H2 ys → Ex H2) →
      g x (wipe σ vs) H' fun σ2 H2 => wipe σ2 vs = wipe σ vs ∧ tt σ2 H2 fun b H3 => if b = true then tk σ2 H3 fun y H4 => tv σ2 H4 fun z H5 => Nx y z H5 else Ex H3)
    (hd : ∀ H ys, Same H1 H → H D = some (.dK ys) → R n H ys → Qd H) :
    ∃ W : Nat → Nat → Hp → Prop, (∃ m, W 0 m (upd H1 D (.dK []))) ∧ ∀ i m H, W i m H →
      (J.stop i H ∧ Qd H) ∨ (J.go i H ∧ ∃ Nx : Hp → Prop, (∀ H', Nx H' → ∃ m', m' < m ∧ W (i + 1) m' H') ∧ ∀ x H', J.yld i H x H' → g x (wipe σ vs) H' fun σ2 H2 => wipe σ2 vs = wipe σ vs ∧ tt σ2 H2 fun b H3 =>
        if b = true then tk σ2 H3 fun y H4 => tv σ2 H4 fun z H5 => ∃ kvs k, y = kV k ∧ H5 D = some (.dK kvs) ∧ kvs.length < sizeLine ∧ Nx (upd H5 D (.dK (putK kvs k z))) else Nx H3) := by
  refine dc_it w (fun i H => Same H1 H ∧ ∃ ys, H D = some (.dK ys) ∧ R i H ys) ⟨Same.new hD _, [], upd_same, r0 _⟩ (fun i H _ h => hG H h.1) ?_ ?_
  · rintro i x H H' hi ⟨s, ys, hy, r⟩ y
    refine hs i x H H' ys (fun y z H5 => ∃ kvs k, y = kV k ∧ H5 D = some (.dK kvs) ∧ kvs.length < sizeLine ∧ (Same H1 (upd H5 D (.dK (putK kvs k z))) ∧ ∃ ys, (upd H5 D (.dK (putK kvs k z))) D = some (.dK ys) ∧ R (i + 1) (upd H5 D (.dK (putK kvs k z))) ys)) _ hi s r y (fun k z H2 s2 r2 => ?_) (fun H2 s2 r2 => ⟨s.trans s2, ys, s2 _ _ hy, r2⟩)
    have h2 := s2 _ _ hy
    exact ⟨ys, k, rfl, h2, smallM (len i H ys r), (s.trans s2).mut hD _, _, upd_same, mono _ _ _ _ ((Keeps.refl H2).mut h2 trivial) r2⟩
  · rintro H ⟨s, ys, hy, r⟩
    exact hd H ys s hy r
/-! ### heads asked for -/
theorem beq_comm_str (s t : Str) : (s == t) = (t == s) := by
  by_cases h : s = t
  · subst h; rfl
  · rw [beq_eq_false_iff_ne.mpr h, beq_eq_false_iff_ne.mpr fun q => h q.symm]
theorem inV_str (s a b : Str) : inV (.str s) [.str a, .str b] = (s == a || s == b) := by
  show (eqV (.str a) (.str s) || (eqV (.str b) (.str s) || false)) = _
  show ((a == s) || ((b == s) || false)) = _
  rw [Bool.or_false, beq_comm_str a, beq_comm_str b]
theorem eq_str (s a : Str) : decide (V.str s = V.str a) = (s == a) := dec_str
theorem kind_by (a b : Str) (n : Nat) (ha : Fm.kindStr a = n) (hb : Fm.kindStr b = n) (h : ∀ s, Fm.kindStr s = n → s = a ∨ s = b) (f : Fm) : (f.head == a || f.head == b) = decide (f.kindOf = n) := by
  rw [← Fm.kind_head]
  by_cases e : Fm.kindStr f.head = n
  · rw [decide_eq_true e]
    rcases h _ e with q | q <;> rw [q] <;> simp
  · have h1 : ¬ f.head = a := fun q => e (by rw [q, ha])
    have h2 : ¬ f.head = b := fun q => e (by rw [q, hb])
    rw [decide_eq_false e, beq_eq_false_iff_ne.mpr h1, beq_eq_false_iff_ne.mpr h2]
    rfl
theorem kindStr_inv (s : Str) : (Fm.kindStr s = 0 → s = "true" ∨ s = "false") ∧ (Fm.kindStr s = 3 → s = "name" ∨ s = "name") ∧ (Fm.kindStr s = 4 → s = "and" ∨ s = "or") ∧ (Fm.kindStr s = 6 → s = "least" ∨ s = "most") := by
  unfold Fm.kindStr
  refine ⟨?_, ?_, ?_, ?_⟩ <;> (repeat' split) <;> intro h <;> first | (exact absurd h (by decide)) | (left; assumption) | (right; assumption)
theorem head_fix (f : Fm) : (f.head == "least" || f.head == "most") = decide (f.kindOf = 6) := kind_by _ _ 6 (by decide +kernel) (by decide +kernel) (fun s => (kindStr_inv s).2.2.2) f
theorem head_bin (f : Fm) : (f.head == "and" || f.head == "or") = decide (f.kindOf = 4) := kind_by _ _ 4 (by decide +kernel) (by decide +kernel) (fun s => (kindStr_inv s).2.2.1) f
theorem head_lit (f : Fm) : (f.head == "true" || f.head == "false") = decide (f.kindOf = 0) := kind_by _ _ 0 (by decide +kernel) (by decide +kernel) (fun s => (kindStr_inv s).1) f
theorem head_name (f : Fm) : (f.head == "name") = decide (f.kindOf = 3) := by
  have h := kind_by "name" "name" 3 (by decide +kernel) (by decide +kernel) (fun s => (kindStr_inv s).2.1) f
  rwa [Bool.or_self] at h
theorem kind_fix {f : Fm} (h : f.kindOf = 6) : ∃ b x a, f = .fix b x a := by cases f <;> first | exact ⟨_, _, _, rfl⟩ | (simp [Fm.kindOf] at h)
theorem kind_bin {f : Fm} (h : f.kindOf = 4) : ∃ b l r, f = .bin b l r := by cases f <;> first | exact ⟨_, _, _, rfl⟩ | (simp [Fm.kindOf] at h)
theorem kind_name {f : Fm} (h : f.kindOf = 3) : ∃ x, f = .name x := by cases f <;> first | exact ⟨_, rfl⟩ | (simp [Fm.kindOf] at h)
theorem kind_lit {f : Fm} (h : f.kindOf = 0) : ∃ b, f = .lit b := by cases f <;> first | exact ⟨_, rfl⟩ | (simp [Fm.kindOf] at h)
/-! ### the plain law of formulas -/
namespace Fm
/-- the free names, in the order of a dict's keys -/
def join (xs ys : List Str) : List Str := xs ++ ys.filter fun y => decide (y ∉ xs)
def free : Fm → List Str
  | .lit _ | .val _ | .mark _ => []
  | .name x => [x]
  | .bin _ l r => join l.free r.free
  | .un _ a => a.free
  | .fix _ x a => a.free.filter fun y => decide (y ≠ x)
def dual : Fm → Fm
  | .lit b => .lit !b
  | .val s => .val s
  | .mark s => .mark s
  | .name s => .name s
  | .bin b l r => .bin (!b) l.dual r.dual
  | .un b a => .un (!b) a.dual
  | .fix b x a => .fix (!b) x a.dual
def sPair (b : Bool) (l r : Fm) : Fm :=
  if l = .lit b ∨ l = r then r else if r = .lit b then l else if l = .lit (!b) ∨ r = .lit (!b) then .lit (!b) else .bin b l r
def sFix (b : Bool) (x : Str) (a : Fm) : Fm := if a = .name x then .lit (!b) else if x ∈ a.free then .fix b x a else a
def sUn (b : Bool) (a : Fm) : Fm := if a = .lit (!b) then a else .un b a
def simp : Fm → Fm
  | .bin b l r => sPair b l.simp r.simp
  | .fix b x a => sFix b x a.simp
  | .un b a => sUn b a.simp
  | .lit b => .lit b
  | .val s => .val s
  | .mark s => .mark s
  | .name s => .name s
abbrev Im := List (Str × Fm)
def getI (im : Im) (x : Str) : Option Fm := (im.find? fun p => decide (p.1 = x)).map (·.2)
def dropI (im : Im) (x : Str) : Im := im.filter fun p => decide (p.1 ≠ x)
def putIn (im : Im) : Fm → Fm
  | .name x => (getI im x).getD (.name x)
  | .fix b x a => .fix b x (a.putIn (dropI im x))
  | .bin b l r => .bin b (l.putIn im) (r.putIn im)
  | .un b a => .un b (a.putIn im)
  | .lit b => .lit b
  | .val s => .val s
  | .mark s => .mark s
def unfold : Fm → Fm
  | .fix b x a => a.putIn [(x, .fix b x a)]
  | f => f
theorem mem_join {xs ys : List Str} {z : Str} : z ∈ join xs ys ↔ z ∈ xs ∨ z ∈ ys := by
  unfold join
  simp only [List.mem_append, List.mem_filter, decide_eq_true_eq]
  by_cases h : z ∈ xs <;> simp [h]
theorem nodup_join {xs ys : List Str} (h1 : xs.Nodup) (h2 : ys.Nodup) : (join xs ys).Nodup := by
  unfold join
  refine List.nodup_append.mpr ⟨h1, h2.filter _, fun a ha b hb e => ?_⟩
  subst e
  have := (List.mem_filter.mp hb).2
  simp at this
  exact this ha
theorem free_nodup : ∀ f : Fm, f.free.Nodup
  | .lit _ | .val _ | .mark _ => List.nodup_nil
  | .name _ => List.nodup_cons.mpr ⟨by simp, List.nodup_nil⟩
  | .bin _ l r => nodup_join l.free_nodup r.free_nodup
  | .un _ a => a.free_nodup
  | .fix _ _ a => a.free_nodup.filter _
theorem join_le (xs ys : List Str) : (join xs ys).length ≤ xs.length + ys.length := by
  unfold join
  rw [List.length_append]
  have := List.length_filter_le (fun y => decide (y ∉ xs)) ys
  omega
theorem free_size : ∀ f : Fm, f.free.length ≤ f.size
  | .lit _ | .val _ | .mark _ => Nat.zero_le _
  | .name _ => Nat.le_refl _
  | .bin _ l r => by have := l.free_size; have := r.free_size; have := join_le l.free r.free; simp only [free, size]; omega
  | .un _ a => by have := a.free_size; simp only [free, size]; omega
  | .fix _ x a => by have := a.free_size; have := List.length_filter_le (fun y => decide (y ≠ x)) a.free; simp only [free, size]; omega
theorem free_dual : ∀ f : Fm, f.dual.free = f.free
  | .lit _ | .val _ | .mark _ | .name _ => rfl
  | .bin _ l r => by simp only [dual, free, free_dual l, free_dual r]
  | .un _ a => by simp only [dual, free, free_dual a]
  | .fix _ _ a => by simp only [dual, free, free_dual a]
theorem dual_dual : ∀ f : Fm, f.dual.dual = f
  | .lit b => by simp only [dual, Bool.not_not]
  | .val _ | .mark _ | .name _ => rfl
  | .bin _ l r => by simp only [dual, dual_dual l, dual_dual r, Bool.not_not]
  | .un _ a => by simp only [dual, dual_dual a, Bool.not_not]
  | .fix _ _ a => by simp only [dual, dual_dual a, Bool.not_not]
theorem dual_inj {f g : Fm} : f.dual = g.dual ↔ f = g := ⟨fun h => by rw [← dual_dual f, h, dual_dual], fun h => by rw [h]⟩
theorem dual_size : ∀ f : Fm, f.dual.size = f.size
  | .lit _ | .val _ | .mark _ | .name _ => rfl
  | .bin _ l r => by simp only [dual, size, dual_size l, dual_size r]
  | .un _ a => by simp only [dual, size, dual_size a]
  | .fix _ _ a => by simp only [dual, size, dual_size a]
theorem dual_depth : ∀ f : Fm, f.dual.depth = f.depth
  | .lit _ | .val _ | .mark _ | .name _ => rfl
  | .bin _ l r => by simp only [dual, depth, dual_depth l, dual_depth r]
  | .un _ a => by simp only [dual, depth, dual_depth a]
  | .fix _ _ a => by simp only [dual, depth, dual_depth a]
theorem dual_texts (p : Str → Prop) : ∀ f : Fm, f.Texts p → f.dual.Texts p
  | .lit _, _ => trivial
  | .val _, h | .mark _, h | .name _, h => h
  | .bin _ l r, h => ⟨dual_texts p l h.1, dual_texts p r h.2⟩
  | .un _ a, h => dual_texts p a h
  | .fix _ _ a, h => ⟨h.1, dual_texts p a h.2⟩
theorem sPair_dual (b : Bool) (l r : Fm) : sPair (!b) l.dual r.dual = (sPair b l r).dual := by
  have e : ∀ (c : Bool) (f : Fm), (f.dual = .lit (!c)) ↔ f = .lit c := fun c f => by rw [show Fm.lit (!c) = (Fm.lit c).dual from rfl, dual_inj]
  have e1 := e b
  have e2 := e (!b)
  unfold sPair
  simp only [dual_inj, e1, e2]
  split
  · rfl
  · split
    · rfl
    · split <;> rfl
theorem sFix_dual (b : Bool) (x : Str) (a : Fm) : sFix (!b) x a.dual = (sFix b x a).dual := by
  have e : (a.dual = .name x) ↔ a = .name x := by rw [show Fm.name x = (Fm.name x).dual from rfl, dual_inj]; exact Iff.rfl
  unfold sFix
  simp only [e, free_dual]
  split
  · rfl
  · split <;> rfl
theorem sUn_dual (b : Bool) (a : Fm) : sUn (!b) a.dual = (sUn b a).dual := by
  have e : (a.dual = .lit (!!b)) ↔ a = .lit (!b) := by rw [show Fm.lit (!!b) = (Fm.lit (!b)).dual from rfl, dual_inj]
  unfold sUn
  simp only [e]
  split <;> rfl
theorem simp_dual : ∀ f : Fm, f.dual.simp = f.simp.dual
  | .lit _ | .val _ | .mark _ | .name _ => rfl
  | .bin b l r => by simp only [dual, simp, simp_dual l, simp_dual r, sPair_dual]
  | .un b a => by simp only [dual, simp, simp_dual a, sUn_dual]
  | .fix b x a => by simp only [dual, simp, simp_dual a, sFix_dual]
theorem free_sPair {b : Bool} {l r : Fm} {z : Str} (h : z ∈ (sPair b l r).free) : z ∈ l.free ∨ z ∈ r.free := by
  unfold sPair at h
  split at h
  · exact .inr h
  · split at h
    · exact .inl h
    · split at h
      · simp [free] at h
      · exact mem_join.mp h
theorem free_simp : ∀ (f : Fm) {z : Str}, z ∈ f.simp.free → z ∈ f.free
  | .lit _, _, h | .val _, _, h | .mark _, _, h | .name _, _, h => h
  | .bin b l r, _, h => mem_join.mpr ((free_sPair h).imp (free_simp l) (free_simp r))
  | .un b a, z, h => by
    simp only [simp, sUn] at h
    split at h <;> exact free_simp a h
  | .fix b x a, z, h => by
    simp only [simp, sFix] at h
    split at h
    · simp [free] at h
    · split at h
      · obtain ⟨h1, h2⟩ := List.mem_filter.mp h
        exact List.mem_filter.mpr ⟨free_simp a h1, h2⟩
      · rename_i hx
        exact List.mem_filter.mpr ⟨free_simp a h, by simp; rintro rfl; exact hx h⟩
theorem simp_size : ∀ f : Fm, f.simp.size ≤ f.size
  | .lit _ | .val _ | .mark _ | .name _ => Nat.le_refl _
  | .bin b l r => by
    have := simp_size l; have := simp_size r
    simp only [simp, sPair]
    repeat (first | split | (simp only [size]; omega))
  | .un b a => by
    have := simp_size a
    simp only [simp, sUn]
    repeat (first | split | (simp only [size]; omega))
  | .fix b x a => by
    have := simp_size a
    simp only [simp, sFix]
    repeat (first | split | (simp only [size]; omega))
theorem simp_depth : ∀ f : Fm, f.simp.depth ≤ f.depth
  | .lit _ | .val _ | .mark _ | .name _ => Nat.le_refl _
  | .bin b l r => by
    have := simp_depth l; have := simp_depth r
    simp only [simp, sPair]
    repeat (first | split | (simp only [depth]; omega))
  | .un b a => by
    have := simp_depth a
    simp only [simp, sUn]
    repeat (first | split | (simp only [depth]; omega))
  | .fix b x a => by
    have := simp_depth a
    simp only [simp, sFix]
    repeat (first | split | (simp only [depth]; omega))
theorem simp_texts (p : Str → Prop) : ∀ f : Fm, f.Texts p → f.simp.Texts p
  | .lit _, h | .val _, h | .mark _, h | .name _, h => h
  | .bin b l r, h => by
    have h1 := simp_texts p l h.1; have h2 := simp_texts p r h.2
    simp only [simp, sPair]
    repeat (first | split | assumption | trivial | exact ⟨h1, h2⟩)
  | .un b a, h => by
    have h1 := simp_texts p a h
    simp only [simp, sUn]
    repeat (first | split | assumption | trivial)
  | .fix b x a, h => by
    have h1 := simp_texts p a h.2
    simp only [simp, sFix]
    repeat (first | split | assumption | trivial | exact ⟨h.1, h1⟩)
def dualI (im : Im) : Im := im.map fun p => (p.1, p.2.dual)
theorem getI_dual (im : Im) (x : Str) : getI (dualI im) x = (getI im x).map dual := by
  unfold getI dualI
  rw [List.find?_map, Option.map_map, Option.map_map]
  rfl
theorem dropI_dual (im : Im) (x : Str) : dropI (dualI im) x = dualI (dropI im x) := by
  unfold dropI dualI
  rw [List.filter_map]
  rfl
theorem putIn_dual : ∀ (f : Fm) (im : Im), f.dual.putIn (dualI im) = (f.putIn im).dual
  | .lit _, _ | .val _, _ | .mark _, _ => rfl
  | .name x, im => by
    simp only [dual, putIn, getI_dual]
    cases getI im x <;> rfl
  | .bin b l r, im => by simp only [dual, putIn, putIn_dual l, putIn_dual r]
  | .un b a, im => by simp only [dual, putIn, putIn_dual a]
  | .fix b x a, im => by simp only [dual, putIn, dropI_dual, putIn_dual a]
theorem unfold_dual : ∀ f : Fm, f.dual.unfold = f.unfold.dual
  | .lit _ | .val _ | .mark _ | .name _ | .bin _ _ _ | .un _ _ => rfl
  | .fix b x a => by
    show a.dual.putIn [(x, .fix (!b) x a.dual)] = (a.putIn [(x, .fix b x a)]).dual
    rw [← putIn_dual]
    rfl
theorem getI_mem {im : Im} {x : Str} {g : Fm} (h : getI im x = some g) : (x, g) ∈ im := by
  unfold getI at h
  obtain ⟨p, hp, e⟩ := Option.map_eq_some_iff.mp h
  have h1 := List.mem_of_find?_eq_some hp
  have h2 : p.1 = x := by simpa using List.find?_some hp
  obtain ⟨a, b⟩ := p
  simp only at e h2
  subst e h2
  exact h1
theorem putIn_depth {n : Nat} : ∀ (f : Fm) (im : Im), (∀ p ∈ im, p.2.depth ≤ n) → (f.putIn im).depth ≤ f.depth + n
  | .lit _, _, _ | .val _, _, _ | .mark _, _, _ => by simp only [putIn, depth]; omega
  | .name x, im, h => by
    simp only [putIn, depth]
    cases e : getI im x with
    | none => simp only [Option.getD, depth]; omega
    | some g => have := h _ (getI_mem e); simp only [Option.getD] at *; omega
  | .bin b l r, im, h => by have := putIn_depth l im h; have := putIn_depth r im h; simp only [putIn, depth]; omega
  | .un b a, im, h => by have := putIn_depth a im h; simp only [putIn, depth]; omega
  | .fix b x a, im, h => by have := putIn_depth a (dropI im x) (fun p hp => h p (List.mem_filter.mp hp).1); simp only [putIn, depth]; omega
theorem putIn_texts (p : Str → Prop) : ∀ (f : Fm) (im : Im), f.Texts p → (∀ q ∈ im, q.2.Texts p) → (f.putIn im).Texts p
  | .lit _, _, h, _ | .val _, _, h, _ | .mark _, _, h, _ => h
  | .name x, im, h, hi => by
    simp only [putIn]
    cases e : getI im x with
    | none => exact h
    | some g => exact hi _ (getI_mem e)
  | .bin b l r, im, h, hi => ⟨putIn_texts p l im h.1 hi, putIn_texts p r im h.2 hi⟩
  | .un b a, im, h, hi => putIn_texts p a im h hi
  | .fix b x a, im, h, hi => ⟨h.1, putIn_texts p a (dropI im x) h.2 fun q hq => hi q (List.mem_filter.mp hq).1⟩
theorem unfold_depth (f : Fm) : f.unfold.depth ≤ 2 * f.depth := by
  cases f with
  | fix b x a =>
    have := putIn_depth (n := (Fm.fix b x a).depth) a [(x, .fix b x a)] (fun p hp => by simp at hp; subst hp; exact Nat.le_refl _)
    simp only [unfold, depth] at *
    omega
  | _ => simp only [unfold]; omega
theorem unfold_texts (p : Str → Prop) (f : Fm) (h : f.Texts p) : f.unfold.Texts p := by
  cases f with
  | fix b x a => exact putIn_texts p a _ h.2 fun q hq => by simp at hq; subst hq; exact h
  | _ => exact h
theorem Texts.mono {p q : Str → Prop} (i : ∀ s, p s → q s) : ∀ {f : Fm}, f.Texts p → f.Texts q
  | .lit _, _ => trivial
  | .val _, h | .mark _, h | .name _, h => i _ h
  | .bin _ l r, h => ⟨Texts.mono i h.1, Texts.mono i h.2⟩
  | .un _ a, h => Texts.mono (f := a) i h
  | .fix _ _ a, h => ⟨i _ h.1, Texts.mono i h.2⟩
theorem free_texts {p : Str → Prop} : ∀ {f : Fm}, f.Texts p → ∀ z ∈ f.free, p z
  | .lit _, _, z, hz | .val _, _, z, hz | .mark _, _, z, hz => by simp [free] at hz
  | .name x, h, z, hz => by simp [free] at hz; subst hz; exact h
  | .bin _ l r, h, z, hz => (mem_join.mp hz).elim (free_texts h.1 z) (free_texts h.2 z)
  | .un _ a, h, z, hz => free_texts (f := a) h z hz
  | .fix _ _ a, h, z, hz => free_texts h.2 z (List.mem_filter.mp hz).1
end Fm
/-! ### texts in ascending order: there is one such list -/
section
open PyProof.Rows PySem.Spec
def leS (a b : Str) : Bool := !ltCps b.cps.toList a.cps.toList
theorem ltCps_trans : ∀ a b c : List Nat, ltCps b a = false → ltCps c b = false → ltCps c a = false
  | [], _, [], _, _ => rfl
  | [], [], _ :: _, _, h => by simp [ltCps] at h ⊢
  | [], _ :: _, _ :: _, _, _ => by simp [ltCps]
  | _ :: _, [], _, h, _ => by simp [ltCps] at h
  | _ :: _, _ :: _, [], _, h => by simp [ltCps] at h
  | x :: a, y :: b, z :: c, h1, h2 => by
    have ih := ltCps_trans a b c
    simp only [ltCps, Bool.or_eq_false_iff, Bool.and_eq_false_iff, decide_eq_false_iff_not, beq_eq_false_iff_ne] at *
    obtain ⟨p1, q1⟩ := h1
    obtain ⟨p2, q2⟩ := h2
    refine ⟨by omega, ?_⟩
    by_cases e : z = x
    · subst e
      have e' : y = z := by omega
      subst e'
      exact .inr (ih (q1.resolve_left fun q => q rfl) (q2.resolve_left fun q => q rfl))
    · exact .inl e
theorem ltCps_antisymm : ∀ a b : List Nat, ltCps b a = false → ltCps a b = false → a = b
  | [], [], _, _ => rfl
  | [], _ :: _, _, h => by simp [ltCps] at h
  | _ :: _, [], h, _ => by simp [ltCps] at h
  | x :: a, y :: b, h1, h2 => by
    have ih := ltCps_antisymm a b
    simp only [ltCps, Bool.or_eq_false_iff, Bool.and_eq_false_iff, decide_eq_false_iff_not, beq_eq_false_iff_ne] at *
    have e : x = y := by omega
    subst e
    rw [ih (by rcases h1.2 with q | q; exact absurd rfl q; exact q) (by rcases h2.2 with q | q; exact absurd rfl q; exact q)]
theorem ltCps_total : ∀ a b : List Nat, ltCps b a = false ∨ ltCps a b = false
  | [], [] => .inl rfl
  | [], _ :: _ => .inl rfl
  | _ :: _, [] => .inr rfl
  | x :: a, y :: b => by
    have ih := ltCps_total a b
    simp only [ltCps, Bool.or_eq_false_iff, Bool.and_eq_false_iff, decide_eq_false_iff_not, beq_eq_false_iff_ne]
    rcases ih with q | q <;> simp only [q, or_true, and_true] <;> omega
theorem leS_trans (a b c : Str) (h1 : leS a b = true) (h2 : leS b c = true) : leS a c = true := by
  unfold leS at *
  simp only [Bool.not_eq_true'] at *
  exact ltCps_trans _ _ _ h1 h2
theorem leS_total (a b : Str) : (leS a b || leS b a) = true := by
  unfold leS
  rcases ltCps_total a.cps.toList b.cps.toList with q | q <;> rw [q] <;> simp
theorem leS_antisymm (a b : Str) (h1 : leS a b = true) (h2 : leS b a = true) : a = b := by
  unfold leS at *
  simp only [Bool.not_eq_true'] at *
  have e := ltCps_antisymm _ _ h1 h2
  have e2 : a.cps = b.cps := by rw [← Array.toList_inj]; exact e
  cases a; cases b
  simp only at e2
  rw [e2]
theorem rising_pair : ∀ (l : List Str) (x : Str), risingS x l = true → (∀ y ∈ l, leS x y = true) ∧ l.Pairwise fun a b => leS a b = true
  | [], x, _ => ⟨fun y h => by simp at h, List.Pairwise.nil⟩
  | y :: r, x, h => by
    have h' : (!ltCps y.cps.toList x.cps.toList && risingS y r) = true := h
    obtain ⟨h1, h2⟩ := Bool.and_eq_true_iff.mp h'
    obtain ⟨i1, i2⟩ := rising_pair r y h2
    have h1 : leS x y = true := h1
    refine ⟨fun z hz => ?_, List.Pairwise.cons i1 i2⟩
    rcases List.mem_cons.mp hz with rfl | hz
    · exact h1
    · exact leS_trans _ _ _ h1 (i1 z hz)
theorem sorted_pair {l : List Str} (h : sortedS l = true) : l.Pairwise fun a b => leS a b = true := by
  cases l with
  | nil => exact List.Pairwise.nil
  | cons x r => exact List.Pairwise.cons (rising_pair r x h).1 (rising_pair r x h).2
def srt (xs : List Str) : List Str := xs.mergeSort leS
theorem srt_perm (xs : List Str) : (srt xs).Perm xs := List.mergeSort_perm xs leS
theorem srt_of {ys xs : List Str} (h : ys.Perm xs) (hs : sortedS ys = true) : ys = srt xs :=
  List.Perm.eq_of_pairwise (le := fun a b => leS a b = true) (fun a b _ _ h1 h2 => leS_antisymm a b h1 h2) (sorted_pair hs) (List.pairwise_mergeSort leS_trans leS_total xs) (h.trans (srt_perm xs).symm)
theorem mem_srt {xs : List Str} {z : Str} : z ∈ srt xs ↔ z ∈ xs := (srt_perm xs).mem_iff
theorem srt_length (xs : List Str) : (srt xs).length = xs.length := (srt_perm xs).length_eq
end
def topS (i : Nat) : Stmt := PySem.Challenge.pw_latticewish_k21_formulas_made_of_formula.main.body.getD i (.Pass ⟨0, 0, 0, 0⟩)
abbrev St_parts_of : Stmt := topS 5
abbrev N_parts_of : List Str := ["formula", "at"]
theorem sc_parts_of : FnScope N_parts_of ["formula"] (defScope St_parts_of) := ⟨rfl, rfl, rfl, by decide +kernel, rfl, by decide +kernel, by decide +kernel⟩
abbrev St_with_parts : Stmt := topS 6
abbrev N_with_parts : List Str := ["formula", "parts", "row", "at", "part"]
theorem sc_with_parts : FnScope N_with_parts ["formula", "parts"] (defScope St_with_parts) := ⟨rfl, rfl, rfl, by decide +kernel, rfl, by decide +kernel, by decide +kernel⟩
abbrev St_free_rows : Stmt := topS 7
abbrev N_free_rows : List Str := ["formula", "found", "part", "name"]
theorem sc_free_rows : FnScope N_free_rows ["formula"] (defScope St_free_rows) := ⟨rfl, rfl, rfl, by decide +kernel, rfl, by decide +kernel, by decide +kernel⟩
abbrev St_free_names : Stmt := topS 8
abbrev N_free_names : List Str := ["formula", "name"]
theorem sc_free_names : FnScope N_free_names ["formula"] (defScope St_free_names) := ⟨rfl, rfl, rfl, by decide +kernel, rfl, by decide +kernel, by decide +kernel⟩
abbrev St_put_in : Stmt := topS 9
abbrev N_put_in : List Str := ["formula", "images", "name", "image", "part"]
theorem sc_put_in : FnScope N_put_in ["formula", "images"] (defScope St_put_in) := ⟨rfl, rfl, rfl, by decide +kernel, rfl, by decide +kernel, by decide +kernel⟩
abbrev St_dual : Stmt := topS 10
abbrev N_dual : List Str := ["formula", "turned", "part"]
theorem sc_dual : FnScope N_dual ["formula"] (defScope St_dual) := ⟨rfl, rfl, rfl, by decide +kernel, rfl, by decide +kernel, by decide +kernel⟩
abbrev St_unfolded : Stmt := topS 11
abbrev N_unfolded : List Str := ["formula"]
theorem sc_unfolded : FnScope N_unfolded ["formula"] (defScope St_unfolded) := ⟨rfl, rfl, rfl, by decide +kernel, rfl, by decide +kernel, by decide +kernel⟩
abbrev St_simpler : Stmt := topS 12
abbrev N_simpler : List Str := ["formula", "found", "part", "head"]
theorem sc_simpler : FnScope N_simpler ["formula"] (defScope St_simpler) := ⟨rfl, rfl, rfl, by decide +kernel, rfl, by decide +kernel, by decide +kernel⟩
abbrev St_simpler_pair : Stmt := topS 13
abbrev N_simpler_pair : List Str := ["formula", "neutral", "taking", "first", "second"]
theorem sc_simpler_pair : FnScope N_simpler_pair ["formula", "neutral", "taking"] (defScope St_simpler_pair) := ⟨rfl, rfl, rfl, by decide +kernel, rfl, by decide +kernel, by decide +kernel⟩
abbrev St__law_cells : Stmt := topS 15
abbrev N__law_cells : List Str := ["script", "mixed", "cell"]
theorem sc__law_cells : FnScope N__law_cells ["script"] (defScope St__law_cells) := ⟨rfl, rfl, rfl, by decide +kernel, rfl, by decide +kernel, by decide +kernel⟩
abbrev St__law_pick : Stmt := topS 16
abbrev N__law_pick : List Str := ["source", "many", "digit", "number"]
theorem sc__law_pick : FnScope N__law_pick ["source", "many"] (defScope St__law_pick) := ⟨rfl, rfl, rfl, by decide +kernel, rfl, by decide +kernel, by decide +kernel⟩
abbrev St__law_name : Stmt := topS 17
abbrev N__law_name : List Str := ["source", "signs", "name", "many", "k"]
theorem sc__law_name : FnScope N__law_name ["source"] (defScope St__law_name) := ⟨rfl, rfl, rfl, by decide +kernel, rfl, by decide +kernel, by decide +kernel⟩
abbrev St__law_any : Stmt := topS 18
abbrev N__law_any : List Str := ["source", "names", "depth", "pick", "name", "first"]
theorem sc__law_any : FnScope N__law_any ["source", "names", "depth"] (defScope St__law_any) := ⟨rfl, rfl, rfl, by decide +kernel, rfl, by decide +kernel, by decide +kernel⟩
abbrev St__law_parts : Stmt := topS 19
abbrev N__law_parts : List Str := ["formula", "field"]
theorem sc__law_parts : FnScope N__law_parts ["formula"] (defScope St__law_parts) := ⟨rfl, rfl, rfl, by decide +kernel, rfl, by decide +kernel, by decide +kernel⟩
abbrev St__law_with : Stmt := topS 20
abbrev N__law_with : List Str := ["formula", "parts", "left", "field"]
theorem sc__law_with : FnScope N__law_with ["formula", "parts"] (defScope St__law_with) := ⟨rfl, rfl, rfl, by decide +kernel, rfl, by decide +kernel, by decide +kernel⟩
abbrev St__law_free : Stmt := topS 21
abbrev N__law_free : List Str := ["formula", "bound", "inside", "found", "part", "name"]
theorem sc__law_free : FnScope N__law_free ["formula", "bound"] (defScope St__law_free) := ⟨rfl, rfl, rfl, by decide +kernel, rfl, by decide +kernel, by decide +kernel⟩
abbrev St__law_dual : Stmt := topS 22
abbrev N__law_dual : List Str := ["formula", "pairs", "row", "part", "pair"]
theorem sc__law_dual : FnScope N__law_dual ["formula"] (defScope St__law_dual) := ⟨rfl, rfl, rfl, by decide +kernel, rfl, by decide +kernel, by decide +kernel⟩
abbrev St__law_put : Stmt := topS 23
abbrev N__law_put : List Str := ["formula", "name", "image", "part"]
theorem sc__law_put : FnScope N__law_put ["formula", "name", "image"] (defScope St__law_put) := ⟨rfl, rfl, rfl, by decide +kernel, rfl, by decide +kernel, by decide +kernel⟩
abbrev St__law_once : Stmt := topS 24
abbrev N__law_once : List Str := ["formula", "head", "neutral", "taking"]
theorem sc__law_once : FnScope N__law_once ["formula"] (defScope St__law_once) := ⟨rfl, rfl, rfl, by decide +kernel, rfl, by decide +kernel, by decide +kernel⟩
abbrev St__law_simpler : Stmt := topS 25
abbrev N__law_simpler : List Str := ["formula", "found", "part", "other"]
theorem sc__law_simpler : FnScope N__law_simpler ["formula"] (defScope St__law_simpler) := ⟨rfl, rfl, rfl, by decide +kernel, rfl, by decide +kernel, by decide +kernel⟩
abbrev St_law : Stmt := topS 26
abbrev N_law : List Str := ["script", "source", "names", "k", "formula", "rows", "free", "found", "name", "simple", "due"]
theorem sc_law : FnScope N_law ["script"] (defScope St_law) := ⟨rfl, rfl, rfl, by decide +kernel, rfl, by decide +kernel, by decide +kernel⟩
structure Tx (K : PySem.W.Frag) (mg : Str → Option Value) (W_ : World) where
  n_abs : mg "abs" = none
  n_int : mg "int" = none
  n_isinstance : mg "isinstance" = none
  n_len : mg "len" = none
  n_list : mg "list" = none
  n_range : mg "range" = none
  n_sorted : mg "sorted" = none
  n_str : mg "str" = none
  n_tuple : mg "tuple" = none
  n_zip : mg "zip" = none
  a_parts_of : Addr
  d_parts_of : FuncData
  F_parts_of : Fun K "parts_of" "parts_of" St_parts_of a_parts_of d_parts_of
  b_parts_of : Binds K d_parts_of ["formula"] []
  g_parts_of : mg "parts_of" = some (.ref a_parts_of)
  a_with_parts : Addr
  d_with_parts : FuncData
  F_with_parts : Fun K "with_parts" "with_parts" St_with_parts a_with_parts d_with_parts
  b_with_parts : Binds K d_with_parts ["formula", "parts"] []
  g_with_parts : mg "with_parts" = some (.ref a_with_parts)
  a_free_rows : Addr
  d_free_rows : FuncData
  F_free_rows : Fun K "free_rows" "free_rows" St_free_rows a_free_rows d_free_rows
  b_free_rows : Binds K d_free_rows ["formula"] []
  g_free_rows : mg "free_rows" = some (.ref a_free_rows)
  a_free_names : Addr
  d_free_names : FuncData
  F_free_names : Fun K "free_names" "free_names" St_free_names a_free_names d_free_names
  b_free_names : Binds K d_free_names ["formula"] []
  g_free_names : mg "free_names" = some (.ref a_free_names)
  a_put_in : Addr
  d_put_in : FuncData
  F_put_in : Fun K "put_in" "put_in" St_put_in a_put_in d_put_in
  b_put_in : Binds K d_put_in ["formula", "images"] []
  g_put_in : mg "put_in" = some (.ref a_put_in)
  a_dual : Addr
  d_dual : FuncData
  F_dual : Fun K "dual" "dual" St_dual a_dual d_dual
  b_dual : Binds K d_dual ["formula"] []
  g_dual : mg "dual" = some (.ref a_dual)
  a_unfolded : Addr
  d_unfolded : FuncData
  F_unfolded : Fun K "unfolded" "unfolded" St_unfolded a_unfolded d_unfolded
  b_unfolded : Binds K d_unfolded ["formula"] []
  g_unfolded : mg "unfolded" = some (.ref a_unfolded)
  a_simpler : Addr
  d_simpler : FuncData
  F_simpler : Fun K "simpler" "simpler" St_simpler a_simpler d_simpler
  b_simpler : Binds K d_simpler ["formula"] []
  g_simpler : mg "simpler" = some (.ref a_simpler)
  a_simpler_pair : Addr
  d_simpler_pair : FuncData
  F_simpler_pair : Fun K "simpler_pair" "simpler_pair" St_simpler_pair a_simpler_pair d_simpler_pair
  b_simpler_pair : Binds K d_simpler_pair ["formula", "neutral", "taking"] []
  g_simpler_pair : mg "simpler_pair" = some (.ref a_simpler_pair)
  a__law_cells : Addr
  d__law_cells : FuncData
  F__law_cells : Fun K "_law_cells" "_law_cells" St__law_cells a__law_cells d__law_cells
  b__law_cells : Binds K d__law_cells ["script"] []
  g__law_cells : mg "_law_cells" = some (.ref a__law_cells)
  a__law_pick : Addr
  d__law_pick : FuncData
  F__law_pick : Fun K "_law_pick" "_law_pick" St__law_pick a__law_pick d__law_pick
  b__law_pick : Binds K d__law_pick ["source", "many"] []
  g__law_pick : mg "_law_pick" = some (.ref a__law_pick)
  a__law_name : Addr
  d__law_name : FuncData
  F__law_name : Fun K "_law_name" "_law_name" St__law_name a__law_name d__law_name
  b__law_name : Binds K d__law_name ["source"] []
  g__law_name : mg "_law_name" = some (.ref a__law_name)
  a__law_any : Addr
  d__law_any : FuncData
  F__law_any : Fun K "_law_any" "_law_any" St__law_any a__law_any d__law_any
  b__law_any : Binds K d__law_any ["source", "names", "depth"] []
  g__law_any : mg "_law_any" = some (.ref a__law_any)
  a__law_parts : Addr
  d__law_parts : FuncData
  F__law_parts : Fun K "_law_parts" "_law_parts" St__law_parts a__law_parts d__law_parts
  b__law_parts : Binds K d__law_parts ["formula"] []
  g__law_parts : mg "_law_parts" = some (.ref a__law_parts)
  a__law_with : Addr
  d__law_with : FuncData
  F__law_with : Fun K "_law_with" "_law_with" St__law_with a__law_with d__law_with
  b__law_with : Binds K d__law_with ["formula", "parts"] []
  g__law_with : mg "_law_with" = some (.ref a__law_with)
  a__law_free : Addr
  d__law_free : FuncData
  F__law_free : Fun K "_law_free" "_law_free" St__law_free a__law_free d__law_free
  b__law_free : Binds K d__law_free ["formula", "bound"] []
  g__law_free : mg "_law_free" = some (.ref a__law_free)
  a__law_dual : Addr
  d__law_dual : FuncData
  F__law_dual : Fun K "_law_dual" "_law_dual" St__law_dual a__law_dual d__law_dual
  b__law_dual : Binds K d__law_dual ["formula"] []
  g__law_dual : mg "_law_dual" = some (.ref a__law_dual)
  a__law_put : Addr
  d__law_put : FuncData
  F__law_put : Fun K "_law_put" "_law_put" St__law_put a__law_put d__law_put
  b__law_put : Binds K d__law_put ["formula", "name", "image"] []
  g__law_put : mg "_law_put" = some (.ref a__law_put)
  a__law_once : Addr
  d__law_once : FuncData
  F__law_once : Fun K "_law_once" "_law_once" St__law_once a__law_once d__law_once
  b__law_once : Binds K d__law_once ["formula"] []
  g__law_once : mg "_law_once" = some (.ref a__law_once)
  a__law_simpler : Addr
  d__law_simpler : FuncData
  F__law_simpler : Fun K "_law_simpler" "_law_simpler" St__law_simpler a__law_simpler d__law_simpler
  b__law_simpler : Binds K d__law_simpler ["formula"] []
  g__law_simpler : mg "_law_simpler" = some (.ref a__law_simpler)
  a_law : Addr
  d_law : FuncData
  F_law : Fun K "law" "law" St_law a_law d_law
  b_law : Binds K d_law ["script"] []
  g_law : mg "law" = some (.ref a_law)
  a_PART_PLACES : Addr
  g_PART_PLACES : mg "PART_PLACES" = some (.ref a_PART_PLACES)
  e_PART_PLACES : Array DictEntry
  m_PART_PLACES : Nat
  l_PART_PLACES : K.lookup a_PART_PLACES = some ⟨.type "dict", none, .dict e_PART_PLACES m_PART_PLACES, #[]⟩
  y_PART_PLACES : PySem.W.KeysLit W_.params e_PART_PLACES.toList
  lo_PART_PLACES : (a_PART_PLACES == sysModules) = false
  k_PART_PLACES_true : ∃ t, PySem.W.nsIn K a_PART_PLACES "true" = some (some (.ref t)) ∧ ∀ H, SqT K H t []
  k_PART_PLACES_false : ∃ t, PySem.W.nsIn K a_PART_PLACES "false" = some (some (.ref t)) ∧ ∀ H, SqT K H t []
  k_PART_PLACES_value : ∃ t, PySem.W.nsIn K a_PART_PLACES "value" = some (some (.ref t)) ∧ ∀ H, SqT K H t []
  k_PART_PLACES_mark : ∃ t, PySem.W.nsIn K a_PART_PLACES "mark" = some (some (.ref t)) ∧ ∀ H, SqT K H t []
  k_PART_PLACES_name : ∃ t, PySem.W.nsIn K a_PART_PLACES "name" = some (some (.ref t)) ∧ ∀ H, SqT K H t []
  k_PART_PLACES_and : ∃ t, PySem.W.nsIn K a_PART_PLACES "and" = some (some (.ref t)) ∧ ∀ H, SqT K H t [.int 1, .int 2]
  k_PART_PLACES_or : ∃ t, PySem.W.nsIn K a_PART_PLACES "or" = some (some (.ref t)) ∧ ∀ H, SqT K H t [.int 1, .int 2]
  k_PART_PLACES_some : ∃ t, PySem.W.nsIn K a_PART_PLACES "some" = some (some (.ref t)) ∧ ∀ H, SqT K H t [.int 1]
  k_PART_PLACES_all : ∃ t, PySem.W.nsIn K a_PART_PLACES "all" = some (some (.ref t)) ∧ ∀ H, SqT K H t [.int 1]
  k_PART_PLACES_least : ∃ t, PySem.W.nsIn K a_PART_PLACES "least" = some (some (.ref t)) ∧ ∀ H, SqT K H t [.int 2]
  k_PART_PLACES_most : ∃ t, PySem.W.nsIn K a_PART_PLACES "most" = some (some (.ref t)) ∧ ∀ H, SqT K H t [.int 2]
  a_EXCHANGED : Addr
  g_EXCHANGED : mg "EXCHANGED" = some (.ref a_EXCHANGED)
  e_EXCHANGED : Array DictEntry
  m_EXCHANGED : Nat
  l_EXCHANGED : K.lookup a_EXCHANGED = some ⟨.type "dict", none, .dict e_EXCHANGED m_EXCHANGED, #[]⟩
  y_EXCHANGED : PySem.W.KeysLit W_.params e_EXCHANGED.toList
  lo_EXCHANGED : (a_EXCHANGED == sysModules) = false
  x_EXCHANGED_value : PySem.W.nsIn K a_EXCHANGED "value" = some none
  x_EXCHANGED_mark : PySem.W.nsIn K a_EXCHANGED "mark" = some none
  x_EXCHANGED_name : PySem.W.nsIn K a_EXCHANGED "name" = some none
  k_EXCHANGED_true : ∃ u, PySem.W.nsIn K a_EXCHANGED "true" = some (some (.str "false" u))
  k_EXCHANGED_false : ∃ u, PySem.W.nsIn K a_EXCHANGED "false" = some (some (.str "true" u))
  k_EXCHANGED_and : ∃ u, PySem.W.nsIn K a_EXCHANGED "and" = some (some (.str "or" u))
  k_EXCHANGED_or : ∃ u, PySem.W.nsIn K a_EXCHANGED "or" = some (some (.str "and" u))
  k_EXCHANGED_some : ∃ u, PySem.W.nsIn K a_EXCHANGED "some" = some (some (.str "all" u))
  k_EXCHANGED_all : ∃ u, PySem.W.nsIn K a_EXCHANGED "all" = some (some (.str "some" u))
  k_EXCHANGED_least : ∃ u, PySem.W.nsIn K a_EXCHANGED "least" = some (some (.str "most" u))
  k_EXCHANGED_most : ∃ u, PySem.W.nsIn K a_EXCHANGED "most" = some (some (.str "least" u))
  a_TRUE : Addr
  g_TRUE : mg "TRUE" = some (.ref a_TRUE)
  t_TRUE : ∀ H, SqT K H a_TRUE [.str "true"]
  a_FALSE : Addr
  g_FALSE : mg "FALSE" = some (.ref a_FALSE)
  t_FALSE : ∀ H, SqT K H a_FALSE [.str "false"]
section
variable {P : Program} {w W_ : World} {K : PySem.W.Frag} {mg : Str → Option Value} {base : Heap}
/-! the law's draws -/
def sp_cells (K : PySem.W.Frag) : Sp := fun vs H Q _ => ∃ (a : Addr) (ns : List Int), vs = [.ref a] ∧ SqL K H a (ns.map V.int) ∧ ns.length ≤ 63 ∧
  ∀ (p c : Addr) (m : Int) (cs : List Int) (H' : Hp), Same H H' → c ≠ p → H' c = some (.lst (cs.map V.int)) → (∀ z ∈ cs, 0 ≤ z) → H' p = some (.lst [.ref c, .int 0, .int 1, .int m]) → 0 ≤ m → m < 2147483563 → Q (.ref p) H'
theorem ok__law_cells (T : Tx K mg W_) : FnOk P w K mg base CX0 1 T.a__law_cells T.d__law_cells ["script"] (sp_cells K) := by
  refine T.F__law_cells.ok sc__law_cells (fun vs H Q E h => ?_) (fun cdv A outer s H vs Q E hr h => ?_)
  · obtain ⟨a, ns, rfl, _⟩ := h
    rfl
  obtain ⟨a, ns, rfl, hS, h63, q⟩ := h
  refine ⟨_, pss_cons (ps_set (i := 1) sc__law_cells.nd rfl (Or.inl rfl) pe_int)
    (pss_cons (ps_for PassesOwn.never rfl (pi_list (pv 0)) (pg_name (i := 2) sc__law_cells.nd rfl (Or.inl rfl))
      (pss_one (ps_set (i := 1) sc__law_cells.nd rfl (Or.inl rfl) (pe_op op_mod (pe_callTy call_int1 (by rfl) T.n_int (by decide +kernel) (pa_cons (pe_op op_add (pe_op op_add (pe_op op_mul (pv 1) pe_int) (pe_op op_mul (pv 2) pe_int)) pe_int) pa_nil)) pe_int))))
    (pss_one (ps_ret (pe_lst (pa_cons (pe_lc (own := [("cell", 2)]) (g := gName 2) (tt := tYes) rfl sc__law_cells.nd (pi_list (pv 0)) (blkOk_by (N := ["script", "mixed", "cell"]) (sc := defScope St__law_cells) (by decide +kernel)) (fun _ _ _ _ _ => pg_name (i := 2) sc__law_cells.nd rfl (Or.inl rfl)) (fun _ _ _ _ _ => pts_nil)
        (fun _ _ _ _ _ => pe_callB call_abs (by rfl) T.n_abs (by decide +kernel) (pa_cons (pv 2) pa_nil)))
      (pa_cons pe_int (pa_cons pe_int (pa_cons (pv 1) pa_nil)))))))), ?_⟩
  refine ⟨_, rfl, a, rfl, ⟨_, hS⟩, for_list (K := K) (a := a) (xs := ns.map V.int) (fun i σ H2 => ∃ (m : Int) (v : Option V), σ = [some (.ref a), some (.int m), v] ∧ H2 = H ∧ 0 ≤ m ∧ m < 2147483563)
    ⟨3, none, rfl, rfl, by decide, by decide⟩ (fun i σ H2 _ ⟨_, _, _, e, _⟩ => by rw [e]; exact hS) ?_ ?_⟩
  · rintro i x σ H2 hi ⟨m, v, rfl, rfl, m0, m1⟩
    obtain ⟨z, _, rfl⟩ := map_at hi
    refine ⟨_, rfl, _, _, rfl, rfl, .inr (by decide), _, rfl, _, _, rfl, rfl, .inr (by decide), _, _, rfl, rfl, _, _, rfl, rfl, .inl ⟨_, rfl, _, _, rfl, rfl, (by show (0 : Int) < 2147483563; decide), ?_⟩⟩
    exact ⟨_, _, rfl, rfl, Int.emod_nonneg _ (by decide), Int.emod_lt_of_pos _ (by decide)⟩
  · rintro σ H2 ⟨m, v, rfl, rfl, m0, m1⟩
    refine ⟨_, rfl, a, rfl, ⟨_, hS⟩, fun D hD => lc_list (K := K) (a := a) (xs := ns.map V.int) (fun i H3 => Same H2 H3 ∧ H3 D = some (.lst (((ns.take i).map fun i : Int => if i < 0 then -i else i).map V.int)))
      ⟨Same.new hD _, upd_same⟩ (fun i H3 _ h => h.1.seq hS) ?_ ?_⟩
    · rintro i x H3 hi ⟨s3, h3⟩
      obtain ⟨z, hz, rfl⟩ := map_at hi
      have hl : i < ns.length := (List.getElem?_eq_some_iff.mp hz).1
      refine ⟨rfl, ?_⟩
      refine lcY ?_
      refine ⟨_, rfl, _, rfl, _, h3, ?_, s3.mut hD _, ?_⟩
      · rw [List.length_map, List.length_map, List.length_take]; exact small1000 (by omega)
      · rw [upd_same, take_snoc hz, List.map_append, List.map_append]; rfl
    · rintro H3 ⟨s3, h3⟩
      refine ⟨_, rfl, (by show 4 ≤ sizeLine; decide), newO fun p H4 hp s4 h4 => ?_⟩
      rw [List.length_map, List.take_length] at h3
      exact q p D m _ H4 (s3.trans s4) (ne_of_none h3 hp) (s4.at h3) (abs_map ns) h4 m0 m1
def sp_pick (K : PySem.W.Frag) : Sp := fun vs H Q _ => ∃ (p ce : Addr) (n : Int), vs = [.ref p, .int n] ∧ Src K ce H p ∧ n ≤ 10000000 ∧
  ∀ (d : Int) (H' : Hp), But p H H' → Src K ce H' p → 0 ≤ d → (d < n ∨ d = 0) → Q (.int d) H'
theorem ok__law_pick (T : Tx K mg W_) : FnOk P w K mg base CX0 1 T.a__law_pick T.d__law_pick ["source", "many"] (sp_pick K) := by
  refine T.F__law_pick.ok sc__law_pick (fun vs H Q E h => ?_) (fun cdv A outer s H vs Q E hr h => ?_)
  · obtain ⟨a, ce, n, rfl, _⟩ := h
    rfl
  obtain ⟨p, c, n, rfl, ⟨cs, i, l, m, S⟩, hn, q⟩ := h
  refine ⟨_, pss_cons (ps_if (pt_cmpR op_lt (pv 1) pe_int (nomark _)) (pss_one (ps_ret pe_int)) pss_nil)
    (pss_cons (ps_while PassesOwn.never (PW.pt (pw_and (pt_cmpR op_lt (pe_ix ix_list (pv 0) pe_int (fun _ _ => rfl)) pe_int (nomark _)) (pw_and1 (pt_cmpR op_lt (pe_ix ix_list (pv 0) pe_int (fun _ _ => rfl)) (pe_callB call_len_seq (by rfl) T.n_len PySem.boot_len (pa_cons (pe_ix ix_list (pv 0) pe_int (fun _ _ => rfl)) pa_nil)) (nomark _)))))
      (pss_cons (ps_asg (pe_ix ix_list (pe_ix ix_list (pv 0) pe_int (fun _ _ => rfl)) (pe_ix ix_list (pv 0) pe_int (fun _ _ => rfl)) (fun _ _ => rfl)) (pg_sub (pv 0) pe_int set_list))
      (pss_one (ps_asg (pe_op op_add (pe_ix ix_list (pv 0) pe_int (fun _ _ => rfl)) pe_int) (pg_sub (pv 0) pe_int set_list)))))
    (pss_cons (ps_if (pt_cmpR op_gt (pe_ix ix_list (pv 0) pe_int (fun _ _ => rfl)) pe_int (nomark _))
      (pss_cons (ps_set (i := 2) sc__law_pick.nd rfl (Or.inl rfl) (pe_op op_mod (pe_callTy call_int1 (by rfl) T.n_int (by decide +kernel) (pa_cons (pe_ix ix_list (pv 0) pe_int (fun _ _ => rfl)) pa_nil)) (pv 1)))
      (pss_cons (ps_asg (pe_op op_fdiv (pe_ix ix_list (pv 0) pe_int (fun _ _ => rfl)) (pv 1)) (pg_sub (pv 0) pe_int set_list))
      (pss_one (ps_ret (pv 2))))) pss_nil)
    (pss_cons (ps_asg (pe_op op_mod (pe_callTy call_int1 (by rfl) T.n_int (by decide +kernel) (pa_cons (pe_op op_add (pe_op op_mul (pe_ix ix_list (pv 0) pe_int (fun _ _ => rfl)) pe_int) pe_int) pa_nil)) pe_int) (pg_sub (pv 0) pe_int set_list))
    (pss_cons (ps_set (i := 3) sc__law_pick.nd rfl (Or.inl rfl) (pe_op op_fdiv (pe_ix ix_list (pv 0) pe_int (fun _ _ => rfl)) pe_int))
    (pss_cons (ps_if (pt_cmpR op_gt (pv 1) (pe_op op_pow pe_int pe_int) (nomark _)) (pss_one (ps_set (i := 3) sc__law_pick.nd rfl (Or.inl rfl) (pe_op op_pow (pv 3) pe_int))) pss_nil)
    (pss_one (ps_ret (pe_op op_mod (pe_callTy call_int1 (by rfl) T.n_int (by decide +kernel) (pa_cons (pv 3) pa_nil)) (pv 1))))))))), ?_⟩
  refine ⟨_, rfl, _, _, rfl, rfl, _, rfl, ?_⟩
  refine ite2 (fun c1 => ?_) (fun c1 => ?_)
  · exact q 0 H (But.refl p H) ⟨cs, i, l, m, S⟩ (by decide) (.inr rfl)
  have hn2 : 2 ≤ n := by have := of_decide_eq_false (Bool.eq_false_iff.mpr c1); omega
  refine ⟨fun k σ H2 => ∃ (i : Nat) (l : Int), k = cs.length - i ∧ σ = [some (.ref p), some (.int n), none, none] ∧ But p H H2 ∧ SrcIs K H2 p c cs i l m, ⟨_, i, l, rfl, rfl, But.refl p H, S⟩, ?_⟩
  rintro k σ H2 ⟨i, l, rfl, rfl, b, S⟩
  have sq := SqL.of (K := K) S.at_
  refine ans_run (b := decide (l < 2) && decide ((i : Int) < cs.length)) (fun Q' q' => ?_) ?_
  · refine ⟨_, rfl, _, _, _, _, rfl, rfl, sq, atI_nat (j := 2) rfl, _, _, rfl, rfl, _, rfl, ?_⟩
    refine ite2 (fun c2 => ?_) (fun c2 => ?_)
    · refine ⟨_, rfl, _, _, _, _, rfl, rfl, sq, atI_nat (j := 1) rfl, _, rfl, _, _, _, _, rfl, rfl, sq, atI_nat (j := 0) rfl, c, _, rfl, .inl S.cel, _, _, rfl, rfl, _, rfl, ?_⟩
      have e : (decide (l < 2) && decide ((i : Int) < cs.length)) = decide ((i : Int) < (cs.map V.int).length) := by rw [c2, Bool.true_and, List.length_map]
      rw [e] at q'
      exact q'
    · rw [Bool.eq_false_iff.mpr c2, Bool.false_and] at q'
      exact q'
  refine ite2 (fun c2 => ?_) (fun c2 => ?_)
  · obtain ⟨e1, e2⟩ := Bool.and_eq_true_iff.mp c2
    have e1 := of_decide_eq_true e1
    have e2 := of_decide_eq_true e2
    have hic : i < cs.length := by omega
    refine ⟨fun σ' H' => ∃ m' < cs.length - i, _, fun _ _ h => h, ?_⟩
    refine ⟨_, rfl, _, _, _, _, rfl, rfl, sq, atI_nat (j := 0) rfl, _, rfl, _, _, _, _, rfl, rfl, sq, atI_nat (j := 1) rfl, c, _, (i : Int), .int cs[i], rfl, rfl, S.cel, atI_nat (by rw [List.getElem?_map, List.getElem?_eq_getElem hic]; rfl), ?_⟩
    refine ⟨_, rfl, p, _, _, 2, rfl, rfl, S.at_, rfl, ?_⟩
    have S1 := S.put (i' := i) (l' := cs[i]) (m' := m) S.hi (S.hc _ (List.getElem_mem hic)) S.m0 S.m1
    refine ⟨_, rfl, _, _, _, _, rfl, rfl, SqL.of (K := K) S1.at_, atI_nat (j := 1) rfl, _, _, rfl, rfl, ?_⟩
    refine ⟨_, rfl, p, _, _, 1, rfl, rfl, S1.at_, rfl, ?_⟩
    exact ⟨_, by omega, i + 1, cs[i], rfl, rfl, (b.upd _).upd _, S1.put (i' := i + 1) (l' := cs[i]) (m' := m) hic S1.hl S1.m0 S1.m1⟩
  refine ⟨_, rfl, _, _, _, _, rfl, rfl, sq, atI_nat (j := 2) rfl, _, _, rfl, rfl, _, rfl, ?_⟩
  refine ite2 (fun c3 => ?_) (fun c3 => ?_)
  · have c3 := of_decide_eq_true c3
    refine ⟨_, rfl, _, _, _, _, rfl, rfl, sq, atI_nat (j := 2) rfl, .inl ⟨_, rfl, _, rfl, _, _, rfl, rfl, (by show 0 < n; omega), ?_⟩⟩
    refine ⟨_, rfl, _, _, _, _, rfl, rfl, sq, atI_nat (j := 2) rfl, _, rfl, _, _, rfl, rfl, ⟨by omega, by omega⟩, ?_⟩
    refine ⟨_, rfl, p, _, _, 2, rfl, rfl, S.at_, rfl, _, rfl, ?_⟩
    exact q _ _ (b.upd _) ⟨cs, i, l / n, m, S.put S.hi (Int.ediv_nonneg S.hl (by omega)) S.m0 S.m1⟩ (Int.emod_nonneg _ (by omega)) (.inl (Int.emod_lt_of_pos _ (by omega)))
  refine ⟨_, rfl, _, _, _, _, rfl, rfl, sq, atI_nat (j := 3) rfl, _, _, rfl, rfl, .inr (by decide), _, _, rfl, rfl, .inl ⟨_, rfl, _, _, rfl, rfl, (by show (0 : Int) < 2147483563; decide), ?_⟩⟩
  refine ⟨_, rfl, p, _, _, 3, rfl, rfl, S.at_, rfl, ?_⟩
  have S1 := S.put (i' := i) (l' := l) (m' := (m * 40014 + 12345) % 2147483563) S.hi S.hl (Int.emod_nonneg _ (by decide)) (Int.emod_lt_of_pos _ (by decide))
  refine ⟨_, rfl, _, _, _, _, rfl, rfl, SqL.of (K := K) S1.at_, atI_nat (j := 3) rfl, _, _, rfl, rfl, ⟨by decide, by decide⟩, ?_⟩
  refine ⟨_, rfl, _, _, rfl, rfl, (by show CPow 10 7; exact ⟨by decide, by decide, by decide⟩), _, _, rfl, rfl, _, rfl, ?_⟩
  refine iteN (by show ¬ (10 : Int) ^ (7 : Int).toNat < n; have : (10 : Int) ^ (7 : Int).toNat = 10000000 := by decide
                  omega) ?_
  refine ⟨_, rfl, .inl ⟨_, rfl, _, rfl, _, _, rfl, rfl, (by show 0 < n; omega), ?_⟩⟩
  exact q _ _ (b.upd _) ⟨cs, i, l, _, S1⟩ (Int.emod_nonneg _ (by omega)) (.inl (Int.emod_lt_of_pos _ (by omega)))
end
/-! ### parts_of, with_parts -/
section
variable {P : Program} {w : World} {K : PySem.W.Frag} {mg : Str → Option Value} {base : Heap}
theorem Tx.places (T : Tx K mg w) (f : Fm) : ∃ t, KDct K w T.a_PART_PLACES f.head (.ref t) ∧ ∀ H, SqT K H t (f.places.map V.int) := by
  have one : ∀ {x : Str} {zs : List Int}, (∃ t, PySem.W.nsIn K T.a_PART_PLACES x = some (some (.ref t)) ∧ ∀ H, SqT K H t (zs.map V.int)) → ∃ t, KDct K w T.a_PART_PLACES x (.ref t) ∧ ∀ H, SqT K H t (zs.map V.int) := fun {x zs} ⟨t, h, q⟩ => ⟨t, ⟨_, _, _, T.l_PART_PLACES, T.y_PART_PLACES, h, rfl⟩, q⟩
  cases f with
  | lit b => cases b; exact one T.k_PART_PLACES_false; exact one T.k_PART_PLACES_true
  | val _ => exact one T.k_PART_PLACES_value
  | mark _ => exact one T.k_PART_PLACES_mark
  | name _ => exact one T.k_PART_PLACES_name
  | bin b _ _ => cases b; exact one T.k_PART_PLACES_or; exact one T.k_PART_PLACES_and
  | un b _ => cases b; exact one T.k_PART_PLACES_all; exact one T.k_PART_PLACES_some
  | fix b _ _ => cases b; exact one T.k_PART_PLACES_most; exact one T.k_PART_PLACES_least
def sp_parts (K : PySem.W.Frag) : Sp := fun vs H Q _ => ∃ (f : Fm) (v : V), vs = [v] ∧ Rf K H f v ∧
  ∀ (p : Addr) (xs : List V) (H' : Hp), Same H H' → H p = none → H' p = some (.lst xs) → xs.length = f.parts.length → (∀ (i : Nat) (x : V), xs[i]? = some x → ∃ g, f.parts[i]? = some g ∧ Rf K H' g x) → Q (.ref p) H'
theorem ok_parts_of (T : Tx K mg w) : FnOk P w K mg base CX0 1 T.a_parts_of T.d_parts_of ["formula"] (sp_parts K) := by
  refine T.F_parts_of.ok sc_parts_of (fun vs H Q E h => ?_) (fun cdv A outer s H vs Q E hr h => ?_)
  · obtain ⟨f, v, rfl, _⟩ := h
    rfl
  obtain ⟨f, v, rfl, hf, q⟩ := h
  refine ⟨_, pss_one (ps_ret (pe_lc (own := [("at", 1)]) (g := gName 1) (tt := tYes) rfl sc_parts_of.nd (pi_tup (pe_ix ix_kdict (pe_glob (v := .ref T.a_PART_PLACES) (by rfl) T.g_PART_PLACES rfl) (pe_ix ix_tup (pv 0) pe_int (fun _ _ => rfl)) (fun _ _ => rfl))) (blkOk_by (N := N_parts_of) (sc := defScope St_parts_of) (by decide +kernel)) (fun _ _ _ _ _ => (pg_name (i := 1) sc_parts_of.nd rfl (Or.inl rfl))) (fun _ _ _ _ _ => pts_nil) (fun _ _ _ _ _ => (pe_ix (kx_ix_tup K) (pv 0) (pv 1) (fun _ _ => rfl))))), ?_⟩
  obtain ⟨p, xs, rfl, hp, rs⟩ := hf.out
  obtain ⟨t, kt, ht⟩ := T.places f
  refine ⟨_, rfl, _, _, _, _, rfl, rfl, hp, atI_nat (j := 0) rfl, _, _, _, rfl, rfl, kt, t, rfl, ⟨_, ht H⟩, fun D hD => ?_⟩
  refine lc_fold (walk_tup (K := K) (a := t) (xs := f.places.map V.int)) hD (fun i H ys => ys.length = i ∧ i ≤ f.parts.length ∧ ∀ (j : Nat) (y : V), ys[j]? = some y → ∃ g, f.parts[j]? = some g ∧ Rf K H g y) ?_ ?_ ?_ (fun H _ => ht H) ?_ ?_
  · exact fun H => ⟨rfl, Nat.zero_le _, fun j y e => by simp at e⟩
  · exact fun i H H' ys k ⟨e, hi, h⟩ => ⟨e, hi, fun j y q => let ⟨g, h1, h2⟩ := h j y q; ⟨g, h1, h2.keep k⟩⟩
  · exact fun i H ys ⟨e, hi, _⟩ => by have := f.parts_two; omega
  · rintro i x H2 H3 ys Nx Ex hi s2 ⟨e, hil, hY⟩ ⟨rfl, hx⟩ k1 k2
    obtain ⟨z, hz, rfl⟩ := map_at hx
    obtain ⟨g, x, hg, hx, rg⟩ := rs.part hz
    refine ⟨rfl, ?_⟩
    refine lcY ?_
    refine ⟨_, rfl, _, rfl, _, _, _, _, rfl, rfl, s2.keeps.sqT hp, hx, ?_⟩
    refine k1 x H3 (Same.refl _) ⟨by rw [List.length_append, e]; rfl, (List.getElem?_eq_some_iff.mp hg).1, fun j y q => ?_⟩
    rcases snoc_at q with q | ⟨ej, ey⟩
    · exact hY j y q
    · subst ey
      rw [e] at ej
      subst ej
      exact ⟨g, hg, rg.same s2⟩
  · intro H' ys s' hD' ⟨e, hl, h⟩
    rw [List.length_map, f.places_length] at e
    exact q D ys H' s' hD hD' e h
/-- with_parts: the formula with other parts, as many as it has -/
theorem Rest.with_ {H : Hp} {f : Fm} {xs : List V} (r : Rest K H f xs) {gs : List Fm} {ys : List V} (hl : ys.length = f.parts.length) (hg : gs.length = f.parts.length) (h : ∀ (i : Nat) (y : V), ys[i]? = some y → ∃ g, gs[i]? = some g ∧ Rf K H g y) :
    ∃ zs, Rest K H (f.withParts gs) zs ∧ (f.withParts gs).head = f.head ∧ zs.length = xs.length ∧
      (f.places.zip ys).foldl (fun (l : List V) (p : Int × V) => l.set p.1.toNat p.2) (V.str f.head :: xs) = V.str f.head :: zs := by
  cases f with
  | lit b => exact ⟨xs, by cases gs <;> exact r, by cases gs <;> rfl, rfl, rfl⟩
  | val b => exact ⟨xs, by cases gs <;> exact r, by cases gs <;> rfl, rfl, rfl⟩
  | mark b => exact ⟨xs, by cases gs <;> exact r, by cases gs <;> rfl, rfl, rfl⟩
  | name b => exact ⟨xs, by cases gs <;> exact r, by cases gs <;> rfl, rfl, rfl⟩
  | bin b l r' =>
    obtain ⟨x, y, rfl, h1, h2⟩ := r
    match gs, hg, ys, hl with
    | [g1, g2], _, [y1, y2], _ =>
      obtain ⟨g, e, q1⟩ := h 0 _ rfl
      obtain ⟨g', e', q2⟩ := h 1 _ rfl
      cases e; cases e'
      exact ⟨[y1, y2], ⟨_, _, rfl, q1, q2⟩, rfl, rfl, rfl⟩
  | un b a =>
    obtain ⟨x, rfl, h1⟩ := r
    match gs, hg, ys, hl with
    | [g1], _, [y1], _ =>
      obtain ⟨g, e, q1⟩ := h 0 _ rfl
      cases e
      exact ⟨[y1], ⟨_, rfl, q1⟩, rfl, rfl, rfl⟩
  | fix b s a =>
    obtain ⟨x, rfl, h1⟩ := r
    match gs, hg, ys, hl with
    | [g1], _, [y1], _ =>
      obtain ⟨g, e, q1⟩ := h 0 _ rfl
      cases e
      exact ⟨[.str s, y1], ⟨_, rfl, q1⟩, rfl, rfl, rfl⟩
theorem Rest.keep {H H' : Hp} (k : Keeps H H') {f : Fm} {xs : List V} (r : Rest K H f xs) : Rest K H' f xs := by
  cases f with
  | lit _ | val _ | mark _ | name _ => exact r
  | bin b l r' => obtain ⟨x, y, e, h1, h2⟩ := r; exact ⟨x, y, e, h1.keep k, h2.keep k⟩
  | un b a => obtain ⟨x, e, h1⟩ := r; exact ⟨x, e, h1.keep k⟩
  | fix b s a => obtain ⟨x, e, h1⟩ := r; exact ⟨x, e, h1.keep k⟩
theorem Rest.place {H : Hp} {f : Fm} {xs : List V} (r : Rest K H f xs) {i : Nat} {z : Int} (h : f.places[i]? = some z) : 0 ≤ z ∧ z.toNat < xs.length + 1 := by
  cases f with
  | lit _ | val _ | mark _ | name _ => simp [Fm.places] at h
  | bin b l r' =>
    obtain ⟨x, y, rfl, h1, h2⟩ := r
    match i, h with
    | 0, e => cases e; exact ⟨by decide, by show 1 < 3; decide⟩
    | 1, e => cases e; exact ⟨by decide, by show 2 < 3; decide⟩
  | un b a =>
    obtain ⟨x, rfl, h1⟩ := r
    match i, h with
    | 0, e => cases e; exact ⟨by decide, by show 1 < 2; decide⟩
  | fix b s a =>
    obtain ⟨x, rfl, h1⟩ := r
    match i, h with
    | 0, e => cases e; exact ⟨by decide, by show 2 < 3; decide⟩
def sp_with (K : PySem.W.Frag) : Sp := fun vs H Q _ => ∃ (f : Fm) (v : V) (p : Addr) (gs : List Fm) (ys : List V), vs = [v, .ref p] ∧ Rf K H f v ∧ SqL K H p ys ∧ ys.length = f.parts.length ∧ gs.length = f.parts.length ∧
  (∀ (i : Nat) (y : V), ys[i]? = some y → ∃ g, gs[i]? = some g ∧ Rf K H g y) ∧ ∀ (v' : V) (H' : Hp), Same H H' → Rf K H' (f.withParts gs) v' → Q v' H'
theorem fold_len (zs : List (Int × V)) : ∀ l : List V, (zs.foldl (fun (l : List V) (p : Int × V) => l.set p.1.toNat p.2) l).length = l.length := by
  induction zs with
  | nil => intro l; rfl
  | cons z r ih => intro l; rw [List.foldl_cons, ih, List.length_set]
theorem ok_with_parts (T : Tx K mg w) : FnOk P w K mg base CX0 1 T.a_with_parts T.d_with_parts ["formula", "parts"] (sp_with K) := by
  refine T.F_with_parts.ok sc_with_parts (fun vs H Q E h => ?_) (fun cdv A outer s H vs Q E hr h => ?_)
  · obtain ⟨f, v, p, gs, ys, rfl, _⟩ := h
    rfl
  obtain ⟨f, v, p, gs, ys, rfl, hf, hp, hl, hg, hY, q⟩ := h
  refine ⟨_, pss_cons (ps_set (i := 2) sc_with_parts.nd rfl (Or.inl rfl) (pe_callTy call_list_of (by rfl) T.n_list (by decide +kernel) (pa_cons (pv 0) pa_nil)))
    (pss_cons (ps_for PassesOwn.never rfl (pi_zipM (by rfl) T.n_zip (pa_cons (pe_ix ix_kdict (pe_glob (v := .ref T.a_PART_PLACES) (by rfl) T.g_PART_PLACES rfl) (pe_ix ix_tup (pv 0) pe_int (fun _ _ => rfl)) (fun _ _ => rfl)) (pa_cons (pv 1) pa_nil))) (pg_tup rfl (pgs_cons (pg_name (i := 3) sc_with_parts.nd rfl (Or.inl rfl)) (pgs_cons (pg_name (i := 4) sc_with_parts.nd rfl (Or.inl rfl)) pgs_nil))) (pss_one (ps_asg (pv 4) (pg_sub (pv 2) (pv 3) set_list))))
    (pss_one (ps_ret (pe_callTy call_tuple_of (by rfl) T.n_tuple (by decide +kernel) (pa_cons (pv 2) pa_nil))))), ?_⟩
  obtain ⟨a, xs, rfl, ha, rs⟩ := hf.out
  obtain ⟨t, kt, ht⟩ := T.places f
  refine ⟨_, rfl, a, _, rfl, .inr ha, newO fun l H1 hl0 s1 h1 => ?_⟩
  refine ⟨_, rfl, _, _, _, _, rfl, rfl, s1.keeps.sqT ha, atI_nat (j := 0) rfl, _, _, _, rfl, rfl, kt, _, rfl, t, p, _, _, rfl, ht H1, s1.seq hp, ?_⟩
  have lp : (f.places.map V.int).length = ys.length := by rw [List.length_map, f.places_length, hl]
  obtain ⟨zs, rz, hh, lz, ez⟩ := rs.with_ hl hg hY
  refine for_zipM lp (fun i σ H2 => ∃ v3 v4, σ = [some (.ref a), some (.ref p), some (.ref l), v3, v4] ∧ Same H H2 ∧ i ≤ f.places.length ∧
    H2 l = some (.lst (((f.places.zip ys).take i).foldl (fun (l : List V) (p : Int × V) => l.set p.1.toNat p.2) (V.str f.head :: xs)))) ⟨none, none, rfl, s1, Nat.zero_le _, h1⟩ (fun i σ H2 ⟨_, _, _, s2, _, _⟩ => ⟨ht H2, s2.seq hp⟩) ?_ ?_
  · rintro i x y TT σ H2 hx hy ⟨v3, v4, rfl, s2, hi, h2⟩ hT
    obtain ⟨z, hz, rfl⟩ := map_at hx
    obtain ⟨z0, zl⟩ := rs.place hz
    have fz : f.places[i]? = some z ∧ ys[i]? = some y := ⟨hz, hy⟩
    have il : i < f.places.length := (List.getElem?_eq_some_iff.mp hz).1
    have h2' := (Same.new hT (.tup [.int z, y])) l _ h2
    have ll : (((f.places.zip ys).take i).foldl (fun (l : List V) (p : Int × V) => l.set p.1.toNat p.2) (V.str f.head :: xs)).length = xs.length + 1 := by rw [fold_len]; rfl
    refine ⟨TT, _, rfl, SqT.of (K := K) upd_same, rfl, _, _, rfl, _, _, rfl, rfl, _, rfl, _, rfl, _, rfl, l, _, z, z.toNat, rfl, rfl, h2', ?_, _, _, rfl, (s2.trans (Same.new hT _)).mut hl0 _, il, ?_⟩
    · rw [ll]; exact ixN_nat z0 zl
    · rw [upd_same]
      have e : (f.places.zip ys)[i]? = some (z, y) := by rw [List.getElem?_zip_eq_some]; exact ⟨hz, hy⟩
      rw [take_snoc e, List.foldl_append]
      rfl
  · rintro σ H2 ⟨v3, v4, rfl, s2, hi, h2⟩
    rw [List.length_map, List.take_of_length_le (by rw [List.length_zip]; exact Nat.min_le_left _ _), ez] at h2
    refine ⟨_, rfl, l, _, rfl, .inl ⟨SqL.of (K := K) h2, newO fun r H3 hr0 s3 h3 => ?_⟩⟩
    refine q _ H3 (s2.trans s3) (Rf.in_ ?_ ((rz.keep s2.keeps).keep s3.keeps))
    rw [hh]
    exact SqT.of (K := K) h3
end
/-! ### free_rows, free_names -/
def fk (xs : List Str) : List (Key × V) := xs.map fun x => ((Sum.inr x : Key), V.bl true)
theorem fk_has (xs : List Str) (x : Str) : valV (fk xs) (Sum.inr x : Key) = if x ∈ xs then some (.bl true) else none := by
  induction xs with
  | nil => rfl
  | cons y r ih =>
    by_cases h : y = x
    · subst h
      rw [if_pos List.mem_cons_self]
      simp [fk, valV]
    · have e : valV (fk (y :: r)) (Sum.inr x : Key) = valV (fk r) (Sum.inr x : Key) := by
        have hk : ¬ (Sum.inr y : Key) = Sum.inr x := fun q => h (Sum.inr.inj q)
        simp [fk, valV, hk]
      rw [e, ih]
      by_cases hx : x ∈ r
      · rw [if_pos hx, if_pos (List.mem_cons_of_mem _ hx)]
      · rw [if_neg hx, if_neg fun q => (List.mem_cons.mp q).elim (fun q => h q.symm) hx]
theorem fk_put (xs : List Str) (x : Str) : putK (fk xs) (Sum.inr x : Key) (.bl true) = if x ∈ xs then fk xs else fk (xs ++ [x]) := by
  by_cases h : x ∈ xs
  · rw [if_pos h]
    unfold putK
    rw [if_pos]
    · unfold fk
      rw [List.map_map]
      refine List.map_congr_left fun y _ => ?_
      show (if (Sum.inr y : Key) = Sum.inr x then ((Sum.inr y : Key), V.bl true) else ((Sum.inr y : Key), V.bl true)) = _
      split <;> rfl
    · refine List.any_eq_true.mpr ⟨(Sum.inr x, .bl true), List.mem_map.mpr ⟨x, h, rfl⟩, by simp⟩
  · rw [if_neg h, putK_new _ (by rw [fk_has, if_neg h])]
    simp [fk]
theorem fk_merge (ys : List Str) : ∀ xs : List Str, ys.Nodup → mergeK (fk xs) (fk ys) = fk (Fm.join xs ys) := by
  induction ys with
  | nil => intro xs _; show fk xs = fk (xs ++ []); rw [List.append_nil]
  | cons y r ih =>
    intro xs hn
    obtain ⟨h1, h2⟩ := List.nodup_cons.mp hn
    show mergeK (putK (fk xs) (Sum.inr y) (.bl true)) (fk r) = _
    rw [fk_put]
    by_cases h : y ∈ xs
    · rw [if_pos h, ih xs h2]
      unfold Fm.join
      rw [List.filter_cons, if_neg (by simp [h])]
    · rw [if_neg h, ih _ h2]
      unfold Fm.join
      rw [List.filter_cons, if_pos (by simp [h]), List.append_assoc]
      have e : (r.filter fun z => decide (z ∉ xs ++ [y])) = r.filter fun z => decide (z ∉ xs) := by
        refine List.filter_congr fun z hz => ?_
        have : z ≠ y := fun q => h1 (q ▸ hz)
        simp [this]
      rw [e]; rfl
def joinAll (gs : List Fm) : List Str := gs.foldl (fun acc g => Fm.join acc g.free) []
theorem joinAll_nodup (gs : List Fm) : (joinAll gs).Nodup := by
  have : ∀ (gs : List Fm) (acc : List Str), acc.Nodup → (gs.foldl (fun acc g => Fm.join acc g.free) acc).Nodup := by
    intro gs
    induction gs with
    | nil => exact fun _ h => h
    | cons g r ih => exact fun acc h => ih _ (Fm.nodup_join h g.free_nodup)
  exact this gs [] List.nodup_nil
theorem join_nil (xs : List Str) : Fm.join [] xs = xs := by
  unfold Fm.join
  simp
theorem joinAll_parts (f : Fm) (h : f.kindOf ≠ 3) : f.free = if f.kindOf = 6 then (joinAll f.parts).filter (fun y => decide (y ≠ f.text)) else joinAll f.parts := by
  cases f with
  | fix b x a =>
    have e : joinAll [a] = a.free := by simp only [joinAll, List.foldl, join_nil]
    rw [if_pos (show (Fm.fix b x a).kindOf = 6 from rfl)]
    show (a.free.filter fun y => decide (y ≠ x)) = (joinAll [a]).filter fun y => decide (y ≠ x)
    rw [e]
  | _ => simp [Fm.kindOf, Fm.free, Fm.parts, joinAll, join_nil] at *
section
variable {P : Program} {w : World} {K : PySem.W.Frag} {mg : Str → Option Value} {base : Heap}
theorem Rest.text1 {H : Hp} {f : Fm} {xs : List V} (r : Rest K H f xs) (h : f.kindOf = 1 ∨ f.kindOf = 2 ∨ f.kindOf = 3 ∨ f.kindOf = 6) : ∃ ys, xs = .str f.text :: ys := by
  cases f with
  | val s | mark s | name s => exact ⟨[], r⟩
  | fix b s a => obtain ⟨x, e, _⟩ := r; exact ⟨[x], e⟩
  | _ => simp [Fm.kindOf] at h
def sp_free (K : PySem.W.Frag) (n : Nat) : Sp := fun vs H Q _ => ∃ (f : Fm) (v : V), vs = [v] ∧ Rf K H f v ∧ f.depth ≤ n ∧ f.size ≤ 500 ∧
  ∀ (d : Addr) (H' : Hp), Same H H' → H d = none → H' d = some (.dK (fk f.free)) → Q (.ref d) H'
theorem size_parts {f g : Fm} (h : g ∈ f.parts) : g.size < f.size := by
  cases f with
  | lit _ | val _ | mark _ | name _ => simp [Fm.parts] at h
  | bin b l r =>
    simp only [Fm.parts, List.mem_cons, List.not_mem_nil, or_false] at h
    rcases h with rfl | rfl <;> simp only [Fm.size] <;> omega
  | un b a => simp only [Fm.parts, List.mem_cons, List.not_mem_nil, or_false] at h; subst h; simp only [Fm.size]; omega
  | fix b x a => simp only [Fm.parts, List.mem_cons, List.not_mem_nil, or_false] at h; subst h; simp only [Fm.size]; omega
theorem joinAll_take {f : Fm} (i : Nat) : (joinAll (f.parts.take i)).length ≤ f.size := by
  have one : ∀ g : Fm, g.free.length ≤ g.size := Fm.free_size
  cases f with
  | lit _ | val _ | mark _ | name _ => simp [Fm.parts, joinAll]
  | bin b l r =>
    match i with
    | 0 => simp [joinAll]
    | 1 => simp only [Fm.parts, List.take, joinAll, List.foldl, join_nil, Fm.size]; have := one l; omega
    | n + 2 =>
      have e : ([l, r] : List Fm).take (n + 2) = [l, r] := by simp
      simp only [Fm.parts, e, joinAll, List.foldl, join_nil, Fm.size]
      have := Fm.join_le l.free r.free; have := one l; have := one r; omega
  | un b a =>
    match i with
    | 0 => simp [joinAll]
    | n + 1 => simp [Fm.parts, joinAll, join_nil, Fm.size]; have := one a; omega
  | fix b x a =>
    match i with
    | 0 => simp [joinAll]
    | n + 1 => simp [Fm.parts, joinAll, join_nil, Fm.size]; have := one a; omega
theorem ok_free (T : Tx K mg w) : ∀ n, FnOk P w K mg base CX0 (n + 2) T.a_free_rows T.d_free_rows ["formula"] (sp_free K n)
  | 0 => by
    have no : ∀ vs H Q E, ¬ sp_free K 0 vs H Q E := fun vs H Q E ⟨f, v, _, _, hd, _⟩ => by have := f.depth_pos; omega
    exact ⟨fun vs H Q E h => absurd h (no vs H Q E), fun A outer s H args us vs Q E _ _ _ _ h => absurd h (no vs H Q E)⟩
  | n + 1 => by
    have G_free_rows := ok_free T n
    have G_parts_of := ok_parts_of (P := P) (base := base) T
    refine T.F_free_rows.ok sc_free_rows (fun vs H Q E h => ?_) (fun cdv A outer s H vs Q E hr h => ?_)
    · obtain ⟨f, v, rfl, _⟩ := h
      rfl
    obtain ⟨f, v, rfl, hf, hd, hz, q⟩ := h
    refine ⟨_, pss_cons (ps_if (pt_cmpR op_eq (pe_ix ix_tup (pv 0) pe_int (fun _ _ => rfl)) pe_str (nomark _)) (pss_one (ps_ret (pe_disp (pps_cons (pe_ix ix_tup (pv 0) pe_int (fun _ _ => rfl)) pe_bl pps_nil) (by rfl) (by rfl) (fun z => by cases z) (by decide)))) pss_nil)
    (pss_cons (ps_set (i := 1) sc_free_rows.nd rfl (Or.inl rfl) pe_dnewK)
    (pss_cons (ps_for PassesOwn.never rfl (pi_list (pe_call G_parts_of (hr.mono (by omega)) (by rfl) T.g_parts_of T.F_parts_of.kp T.b_parts_of .nil pass0 (pa_cons (pv 0) pa_nil))) (pg_name (i := 2) sc_free_rows.nd rfl (Or.inl rfl)) (pss_one (ps_expr (pe_bm PySem.F.plainAttrs_dict PySem.F.slot_dict_update PySem.F.type_dict_update mt_update (pv 1) (pa_cons (pe_call G_free_rows (hr.mono (by omega)) (by rfl) T.g_free_rows T.F_free_rows.kp T.b_free_rows .nil pass0 (pa_cons (pv 2) pa_nil)) pa_nil)))))
    (pss_cons (ps_if (pt_cmpR op_in_seq (pe_ix ix_tup (pv 0) pe_int (fun _ _ => rfl)) (pe_tup (pa_cons pe_str (pa_cons pe_str pa_nil))) (by rfl)) (pss_one (ps_ret (pe_dc (own := [("name", 3)]) (g := gName 3) rfl sc_free_rows.nd (pi_keys (pe_frz (pv 1))) (blkOk_by (N := N_free_rows) (sc := defScope St_free_rows) (by decide +kernel)) (fun _ _ _ _ _ => (pg_name (i := 3) sc_free_rows.nd rfl (Or.inl rfl))) (fun _ _ _ _ _ => (pts_one (pt_cmpR op_ne (pv 3) (pe_ix (kx_ix_tup K) (pv 0) pe_int (fun _ _ => rfl)) (nomark _)))) (fun _ _ _ _ _ => (pv 3)) (fun _ _ _ _ _ => pe_bl)))) pss_nil)
    (pss_one (ps_ret (pv 1)))))), ?_⟩
    obtain ⟨p, xs, rfl, hp, rs⟩ := hf.out
    refine ⟨_, rfl, _, _, _, _, rfl, rfl, hp, atI_nat (j := 0) rfl, rfl, _, rfl, ?_⟩
    rw [eq_str, head_name]
    refine ite2 (fun c => ?_) (fun c => ?_)
    · obtain ⟨x, rfl⟩ := kind_name (of_decide_eq_true c)
      obtain rfl := rs
      refine fun d hd0 => ⟨_, rfl, _, _, _, _, rfl, rfl, (Same.new hd0 _).keeps.sqT hp, atI_nat (j := 1) rfl, upd_same, [(Sum.inr x, .bl true)], rfl, (by show 1 ≤ 15; decide), ?_⟩
      refine q d _ ((Same.new hd0 _).mut hd0 _) hd0 ?_
      rw [upd_same]
      rfl
    · have c3 : f.kindOf ≠ 3 := fun e => c (decide_eq_true e)
      refine newO fun d H1 hd0 s1 h1 => ?_
      refine ⟨_, rfl, f, _, rfl, hf.same s1, fun l ys H2 s2 hl0 hl el hY => ⟨l, rfl, ⟨_, SqL.of (K := K) hl⟩, ?_⟩⟩
      have dl : d ≠ l := ne_of_none h1 hl0
      refine for_list (K := K) (a := l) (xs := ys) (fun i σ H3 => ∃ v2, σ = [some (.ref p), some (.ref d), v2, none] ∧ Same H H3 ∧ H3 l = some (.lst ys) ∧ Keeps H2 H3 ∧ H3 d = some (.dK (fk (joinAll (f.parts.take i)))))
        ⟨none, rfl, s1.trans s2, hl, Keeps.refl _, s2 _ _ h1⟩ (fun i σ H3 _ ⟨_, _, _, e, _⟩ => SqL.of (K := K) e) ?_ ?_
      · rintro i x σ H3 hx ⟨v2, rfl, s3, h3, k3, h3d⟩
        obtain ⟨g, hg, rg⟩ := hY i x hx
        have gm : g ∈ f.parts := List.mem_of_getElem? hg
        have gd := Fm.parts_depth gm
        have gz := size_parts gm
        refine ⟨_, rfl, .inr (.inr (.inl ⟨rfl, .inl ⟨_, h3d⟩⟩)), _, rfl, g, x, rfl, rg.keep k3, by omega, by omega, fun e H4 s4 he0 h4 => ?_⟩
        have de : d ≠ e := ne_of_none h3d he0
        refine ⟨d, e, _, _, rfl, rfl, de, s4 _ _ h3d, h4, ?_, _, rfl, (s3.trans s4).mut hd0 _, ?_, ?_, ?_⟩
        · have a1 := joinAll_take (f := f) i; have a2 := g.free_size
          show (fk _).length + (fk _).length ≤ sizeLine
          rw [fk, fk, List.length_map, List.length_map]
          exact Nat.le_of_lt (small1000 (by omega))
        · rw [upd_ne dl.symm]; exact s4 _ _ h3
        · exact (k3.trans s4.keeps).mut (s4 _ _ h3d) trivial
        · rw [upd_same, fk_merge _ _ g.free_nodup, take_snoc hg]
          show _ = some (HO.dK (fk (joinAll (f.parts.take i ++ [g]))))
          unfold joinAll
          rw [List.foldl_append]
          rfl
      · rintro σ H3 ⟨v2, rfl, s3, h3, k3, h3d⟩
        rw [el, List.take_length] at h3d
        have hp3 : SqT K H3 p (.str f.head :: xs) := s3.keeps.sqT hp
        refine ⟨_, rfl, _, _, _, _, rfl, rfl, hp3, atI_nat (j := 0) rfl, (by show 2 ≤ sizeLine; decide), newQ (.tup [.str "least", .str "most"]) fun t ht0 s4 h4 => ?_⟩
        generalize upd H3 t (.tup [.str "least", .str "most"]) = H4 at s4 h4 ⊢
        refine ⟨t, _, rfl, .inr (SqT.of (K := K) h4), rfl, rfl, _, rfl, ?_⟩
        rw [inV_str, head_fix]
        refine ite2 (fun c6 => ?_) (fun c6 => ?_)
        · have c6 := of_decide_eq_true c6
          obtain ⟨zs, ez⟩ := rs.text1 (.inr (.inr (.inr c6)))
          refine ⟨_, rfl, d, _, rfl, s4 _ _ h3d, trivial, fun od => ⟨d, od, rfl, .inl ⟨_, upd_same, fun D hD => ?_⟩⟩⟩
          have s5 : Same H (upd H4 d (.frz od (.dK (fk (joinAll f.parts))))) := (s3.trans s4).mut hd0 _
          have nd := joinAll_nodup f.parts
          refine dc_fold walk_keys hD (fun i H5 ys => i ≤ (joinAll f.parts).length ∧ ys = fk (((joinAll f.parts).take i).filter fun y => decide (y ≠ f.text))) (fun _ => ⟨Nat.zero_le _, rfl⟩) (fun i H5 H6 xs _ h => h) ?_ (fun H5 s6 => s6 _ _ upd_same) ?_ ?_
          · rintro i H5 ys ⟨hi, rfl⟩
            rw [fk, List.length_map]
            have a1 := List.length_filter_le (fun y => decide (y ≠ f.text)) ((joinAll f.parts).take i)
            rw [List.length_take] at a1
            have a2 := joinAll_take (f := f) f.parts.length
            rw [List.take_length] at a2
            omega
          · rintro i x H5 H6 ys Nx Ex hi s6 ⟨hil, rfl⟩ ⟨rfl, k, v, hk, rfl⟩ k1 k2
            have hk : (fk (joinAll f.parts))[i]? = some (k, v) := hk
            rw [fk, List.getElem?_map] at hk
            obtain ⟨y, hy, ey⟩ := Option.map_eq_some_iff.mp hk
            cases ey
            refine ⟨rfl, ?_⟩
            have hp6 : SqT K H6 p (.str f.head :: xs) := (s5.trans s6).keeps.sqT hp
            rw [ez] at hp6
            refine ⟨_, rfl, _, rfl, _, _, _, _, rfl, rfl, hp6, atI_nat (j := 1) rfl, rfl, _, rfl, ?_⟩
            change (if (!decide (V.str y = V.str f.text)) = true then _ else _)
            rw [eq_str]
            have hil' : i < (joinAll f.parts).length := (List.getElem?_eq_some_iff.mp hy).1
            refine ite2 (fun cy => ?_) (fun cy => ?_)
            · have cy' : y ≠ f.text := fun q => by rw [q] at cy; simp at cy
              refine ⟨_, rfl, k1 (Sum.inr y) _ _ (Same.refl _) ⟨hil', ?_⟩⟩
              rw [fk_put, take_snoc hy, List.filter_append, if_neg]
              · congr 1
                simp [cy']
              · intro hm
                have hm' := (List.mem_filter.mp hm).1
                obtain ⟨j, hj⟩ := List.mem_iff_getElem?.mp hm'
                rw [List.getElem?_take] at hj
                by_cases hji : j < i
                · rw [if_pos hji] at hj
                  have := nd_ix nd hj hy
                  omega
                · rw [if_neg hji] at hj; cases hj
            · have cy' : y = f.text := by
                by_cases q : y = f.text
                · exact q
                · exact absurd (by rw [beq_eq_false_iff_ne.mpr q]; rfl) cy
              refine k2 _ (Same.refl _) ⟨hil', ?_⟩
              rw [take_snoc hy, List.filter_append]
              simp [cy']
          · rintro H5 ys s6 hD5 ⟨_, rfl⟩
            have hl5 : (fk (joinAll f.parts)).length = (joinAll f.parts).length := by rw [fk, List.length_map]
            rw [hl5, List.take_length] at hD5
            refine q D H5 (s5.trans s6) (s5.free hD) ?_
            rw [hD5, joinAll_parts f c3, if_pos c6]
        · have c6' : f.kindOf ≠ 6 := fun e => c6 (decide_eq_true e)
          refine ⟨_, rfl, q d H4 (s3.trans s4) hd0 ?_⟩
          rw [s4 _ _ h3d, joinAll_parts f c3, if_neg c6']
end
/-! ### free_names, put_in, dual, unfolded -/
section
variable {P : Program} {w : World} {K : PySem.W.Frag} {mg : Str → Option Value} {base : Heap}
def sp_names (K : PySem.W.Frag) (n : Nat) : Sp := fun vs H Q _ => ∃ (f : Fm) (v : V), vs = [v] ∧ Rf K H f v ∧ f.depth ≤ n ∧ f.size ≤ 500 ∧ f.free.length < 64 ∧
  ∀ (p : Addr) (H' : Hp), Same H H' → H p = none → H' p = some (.lst ((srt f.free).map V.str)) → Q (.ref p) H'
theorem ok_names (T : Tx K mg w) (n : Nat) : FnOk P w K mg base CX0 (n + 3) T.a_free_names T.d_free_names ["formula"] (sp_names K n) := by
  have G_free_rows := ok_free (P := P) (base := base) T n
  refine T.F_free_names.ok sc_free_names (fun vs H Q E h => ?_) (fun cdv A outer s H vs Q E hr h => ?_)
  · obtain ⟨f, v, rfl, _⟩ := h
    rfl
  obtain ⟨f, v, rfl, hf, hd, hz, h64, q⟩ := h
  refine ⟨_, pss_one (ps_ret (pe_callB cr_sortedS (by rfl) T.n_sorted (by decide +kernel) (pa_cons (pe_lc (own := [("name", 1)]) (g := gName 1) (tt := tYes) rfl sc_free_names.nd (pi_keys (pe_frz (pe_call G_free_rows (hr.mono (by omega)) (by rfl) T.g_free_rows T.F_free_rows.kp T.b_free_rows .nil pass0 (pa_cons (pv 0) pa_nil)))) (blkOk_by (N := N_free_names) (sc := defScope St_free_names) (by decide +kernel)) (fun _ _ _ _ _ => (pg_name (i := 1) sc_free_names.nd rfl (Or.inl rfl))) (fun _ _ _ _ _ => pts_nil) (fun _ _ _ _ _ => (pe_callTy SkE.call_str_str (by rfl) T.n_str (by decide +kernel) (pa_cons (pv 1) pa_nil)))) pa_nil))), ?_⟩
  refine ⟨_, rfl, f, v, rfl, hf, hd, hz, fun d H1 s1 hd0 h1 => ⟨d, _, rfl, h1, trivial, fun od => ⟨d, od, rfl, .inl ⟨_, upd_same, fun D hD => ?_⟩⟩⟩⟩
  have s2 : Same H (upd H1 d (.frz od (.dK (fk f.free)))) := s1.mut hd0 _
  refine lc_fold walk_keys hD (fun i H5 ys => i ≤ f.free.length ∧ ys = (f.free.take i).map V.str) (fun _ => ⟨Nat.zero_le _, rfl⟩) (fun i H5 H6 xs _ h => h) ?_ (fun H5 s6 => s6 _ _ upd_same) ?_ ?_
  · rintro i H5 ys ⟨hi, rfl⟩
    rw [List.length_map, List.length_take]
    omega
  · rintro i x H5 H6 ys Nx Ex hi s6 ⟨hil, rfl⟩ ⟨rfl, k, u, hk, rfl⟩ k1 k2
    have hk : (fk f.free)[i]? = some (k, u) := hk
    rw [fk, List.getElem?_map] at hk
    obtain ⟨y, hy, ey⟩ := Option.map_eq_some_iff.mp hk
    cases ey
    refine ⟨rfl, ?_⟩
    refine lcY ?_
    refine ⟨_, rfl, y, rfl, k1 _ _ (Same.refl _) ⟨(List.getElem?_eq_some_iff.mp hy).1, ?_⟩⟩
    rw [take_snoc hy, List.map_append]
    rfl
  · rintro H5 ys s6 hD5 ⟨_, rfl⟩
    have hl5 : (fk f.free).length = f.free.length := by rw [fk, List.length_map]
    rw [hl5, List.take_length] at hD5
    refine ⟨D, _, rfl, SqL.of (K := K) hD5, h64, fun ys p hp hs hp0 => ?_⟩
    have s7 := (s2.trans s6).trans (Same.new hp0 (.lst (ys.map V.str)))
    refine q p _ s7 ((s2.trans s6).free hp0) ?_
    rw [upd_same, srt_of hp hs]
/-- images in a dict -/
def ImAt (K : PySem.W.Frag) (H : Hp) (kvs : List (Key × V)) (im : Fm.Im) : Prop := Paired (fun (p : Key × V) (q : Str × Fm) => p.1 = Sum.inr q.1 ∧ Rf K H q.2 p.2) kvs im
theorem ImAt.keep {H H' : Hp} (k : Keeps H H') {kvs : List (Key × V)} {im : Fm.Im} (h : ImAt K H kvs im) : ImAt K H' kvs im := Paired.mapP h fun _ _ z => ⟨z.1, z.2.keep k⟩
theorem ImAt.length {H : Hp} {kvs : List (Key × V)} {im : Fm.Im} (h : ImAt K H kvs im) : kvs.length = im.length := Paired.length h
theorem ImAt.val {H : Hp} : ∀ {kvs : List (Key × V)} {im : Fm.Im}, ImAt K H kvs im → ∀ x : Str, (valV kvs (Sum.inr x : Key) = none ∧ Fm.getI im x = none) ∨ ∃ v g, valV kvs (Sum.inr x : Key) = some v ∧ Fm.getI im x = some g ∧ Rf K H g v
  | _, _, .nil, x => .inl ⟨rfl, rfl⟩
  | _, _, .cons (a := p) (b := q) r t, x => by
    obtain ⟨k, v⟩ := p
    obtain ⟨y, g⟩ := q
    obtain ⟨e, hr⟩ := r
    simp only at e hr
    subst e
    by_cases h : y = x
    · subst h
      exact .inr ⟨v, g, by simp [valV], by simp [Fm.getI], hr⟩
    · have hk : ¬ (Sum.inr y : Key) = Sum.inr x := fun q => h (Sum.inr.inj q)
      rcases ImAt.val t x with ⟨a, b⟩ | ⟨v', g', a, b, c⟩
      · exact .inl ⟨by rw [← a]; simp [valV, hk], by rw [← b]; simp [Fm.getI, h]⟩
      · exact .inr ⟨v', g', by rw [← a]; simp [valV, hk], by rw [← b]; simp [Fm.getI, h], c⟩
end
/-! ### put_in, dual, unfolded -/
section
variable {P : Program} {w : World} {K : PySem.W.Frag} {mg : Str → Option Value} {base : Heap}
/-- a list of new parts at p: as many as the formula has, the i-th that of the i-th part -/
theorem parts_list {H' : Hp} {f : Fm} (F : Fm → Fm) {ys : List V} (e : ys.length = f.parts.length) (h : ∀ (j : Nat) (y : V), ys[j]? = some y → ∃ g, f.parts[j]? = some g ∧ Rf K H' (F g) y) :
    ∀ (i : Nat) (y : V), ys[i]? = some y → ∃ g, (f.parts.map F)[i]? = some g ∧ Rf K H' g y := fun i y q => by
  obtain ⟨g, h1, h2⟩ := h i y q
  exact ⟨F g, by rw [List.getElem?_map, h1]; rfl, h2⟩
/-- [F(part) for part in parts]: the list, at D -/
theorem map_parts {f : Fm} (F : Fm → Fm) {l : Addr} {xs : List V} {H1 : Hp} {D : Addr} {te : TE} {i0 : Nat} {σ : L2.St} {Qd : Hp → Prop} (hD : H1 D = none) (hl : H1 l = some (.lst xs)) (el : xs.length = f.parts.length)
    (hY : ∀ (i : Nat) (x : V), xs[i]? = some x → ∃ g, f.parts[i]? = some g ∧ Rf K H1 g x)
    (hs : ∀ (g : Fm) (x : V) (H : Hp) (Nx : V → Hp → Prop), g ∈ f.parts → Same H1 H → Rf K H g x → (∀ y H2, Same H H2 → Rf K H2 (F g) y → Nx y H2) → te ((wipe σ [i0]).set i0 (some x)) H Nx)
    (hd : ∀ H ys, Same H1 H → H D = some (.lst ys) → ys.length = f.parts.length → (∀ (i : Nat) (y : V), ys[i]? = some y → ∃ g, (f.parts.map F)[i]? = some g ∧ Rf K H g y) → Qd H)
    (hw : ∀ x, wipe ((wipe σ [i0]).set i0 (some x)) [i0] = wipe σ [i0]) :
    ∃ W : Nat → Nat → Hp → Prop, (∃ m, W 0 m (upd H1 D (.lst []))) ∧ ∀ i m H, W i m H →
      ((Itl K l).stop i H ∧ Qd H) ∨ ((Itl K l).go i H ∧ ∃ Nx : Hp → Prop, (∀ H', Nx H' → ∃ m', m' < m ∧ W (i + 1) m' H') ∧ ∀ x H', (Itl K l).yld i H x H' → gName i0 x (wipe σ [i0]) H' fun σ2 H2 => wipe σ2 [i0] = wipe σ [i0] ∧ tYes σ2 H2 fun b H3 =>
        if b = true then te σ2 H3 fun y H4 => ∃ acc, H4 D = some (.lst acc) ∧ acc.length < sizeLine ∧ Nx (upd H4 D (.lst (acc ++ [y]))) else Nx H3) := by
  refine lc_fold (walk_list (K := K) (a := l) (xs := xs)) hD (fun i H ys => ys.length = i ∧ i ≤ f.parts.length ∧ ∀ (j : Nat) (y : V), ys[j]? = some y → ∃ g, f.parts[j]? = some g ∧ Rf K H (F g) y) ?_ ?_ ?_ (fun H s => SqL.of (K := K) (s _ _ hl)) ?_ ?_
  · exact fun H => ⟨rfl, Nat.zero_le _, fun j y e => by simp at e⟩
  · exact fun i H H' ys k ⟨e, hi, h⟩ => ⟨e, hi, fun j y q => let ⟨g, h1, h2⟩ := h j y q; ⟨g, h1, h2.keep k⟩⟩
  · exact fun i H ys ⟨e, hi, _⟩ => by have := f.parts_two; omega
  · rintro i x H2 H3 ys Nx Ex hi s2 ⟨e, hil, hY2⟩ ⟨rfl, hx⟩ k1 k2
    obtain ⟨g, hg, rg⟩ := hY i x hx
    refine ⟨hw x, ?_⟩
    refine lcY ?_
    refine hs g x H3 _ (List.mem_of_getElem? hg) s2 (rg.same s2) fun y H4 s4 r4 => k1 y H4 s4 ⟨by rw [List.length_append, e]; rfl, (List.getElem?_eq_some_iff.mp hg).1, fun j y' q => ?_⟩
    rcases snoc_at q with q | ⟨ej, ey⟩
    · obtain ⟨g', h1, h2⟩ := hY2 j y' q
      exact ⟨g', h1, h2.same s4⟩
    · subst ey
      rw [e] at ej
      subst ej
      exact ⟨g, hg, r4⟩
  · rintro H' ys s' hD' ⟨e, hl', h⟩
    rw [el] at e
    exact hd H' ys s' hD' e (parts_list F e h)
def sp_put (K : PySem.W.Frag) (n : Nat) : Sp := fun vs H Q _ => ∃ (f : Fm) (v : V) (d : Addr) (kvs : List (Key × V)) (im : Fm.Im), vs = [v, .ref d] ∧ Rf K H f v ∧ f.depth ≤ n ∧ H d = some (.dK kvs) ∧ ImAt K H kvs im ∧ im.length ≤ 900 ∧ (im.map (·.1)).Nodup ∧
  ∀ (v' : V) (H' : Hp), Same H H' → Rf K H' (f.putIn im) v' → Q v' H'
theorem putIn_parts (f : Fm) (im : Fm.Im) (h3 : f.kindOf ≠ 3) : f.putIn im = f.withParts (f.parts.map fun g => g.putIn (if f.kindOf = 6 then Fm.dropI im f.text else im)) := by
  cases f with
  | name x => exact absurd rfl h3
  | _ => rfl
theorem putK_snoc {kvs : List (Key × V)} {im : Fm.Im} {H : Hp} (h : ImAt K H kvs im) {x : Str} {g : Fm} {v : V} (hv : Rf K H g v) (hn : x ∉ im.map (·.1)) : ImAt K H (putK kvs (Sum.inr x) v) (im ++ [(x, g)]) := by
  have e : valV kvs (Sum.inr x : Key) = none := by
    rcases h.val x with ⟨a, _⟩ | ⟨v', g', _, b, _⟩
    · exact a
    · exact absurd (List.mem_map.mpr ⟨_, Fm.getI_mem b, rfl⟩) hn
  rw [putK_new _ e]
  have app : ∀ {a : List (Key × V)} {b : Fm.Im}, ImAt K H a b → ImAt K H (a ++ [((Sum.inr x : Key), v)]) (b ++ [(x, g)]) := by
    intro a b q
    induction q with
    | nil => exact .cons ⟨rfl, hv⟩ .nil
    | cons r t ih => exact .cons r ih
  exact app h
theorem ImAt.at_ {H : Hp} : ∀ {kvs : List (Key × V)} {im : Fm.Im}, ImAt K H kvs im → ∀ {i : Nat} {k : Key} {v : V}, kvs[i]? = some (k, v) → ∃ x g, im[i]? = some (x, g) ∧ k = Sum.inr x ∧ Rf K H g v
  | _, _, .nil, i, k, v, h => by simp at h
  | _, _, .cons (a := p) (b := q) r t, 0, k, v, h => by
    cases h
    exact ⟨q.1, q.2, rfl, r.1, r.2⟩
  | _, _, .cons (a := p) (b := q) r t, i + 1, k, v, h => ImAt.at_ (i := i) t h
theorem ok_put (T : Tx K mg w) : ∀ n, FnOk P w K mg base CX0 (n + 2) T.a_put_in T.d_put_in ["formula", "images"] (sp_put K n)
  | 0 => by
    have no : ∀ vs H Q E, ¬ sp_put K 0 vs H Q E := fun vs H Q E ⟨f, v, _, _, _, _, _, hd, _⟩ => by have := f.depth_pos; omega
    exact ⟨fun vs H Q E h => absurd h (no vs H Q E), fun A outer s H args us vs Q E _ _ _ _ h => absurd h (no vs H Q E)⟩
  | n + 1 => by
    have G_put_in := ok_put T n
    have G_parts_of := ok_parts_of (P := P) (base := base) T
    have G_with_parts := ok_with_parts (P := P) (base := base) T
    refine T.F_put_in.ok sc_put_in (fun vs H Q E h => ?_) (fun cdv A outer s H vs Q E hr h => ?_)
    · obtain ⟨f, v, d, kvs, im, rfl, _⟩ := h
      rfl
    obtain ⟨f, v, d, kvs, im, rfl, hf, hd, hk, hi, h9, hnd, q⟩ := h
    have hu := hu_of hr
    refine ⟨_, pss_cons (ps_if (pt_cmpR op_eq (pe_ix ix_tup (pv 0) pe_int (fun _ _ => rfl)) pe_str (nomark _)) (pss_one (ps_ret (pe_dget2 hu (pv 1) (pe_ix ix_tup (pv 0) pe_int (fun _ _ => rfl)) (pv 0) ⟨by rfl, by rfl, by rfl, by rfl⟩))) pss_nil)
    (pss_cons (ps_if (pt_cmpR op_in_seq (pe_ix ix_tup (pv 0) pe_int (fun _ _ => rfl)) (pe_tup (pa_cons pe_str (pa_cons pe_str pa_nil))) (by rfl)) (pss_one (ps_set (i := 1) sc_put_in.nd rfl (Or.inr rfl) (pe_lock (pe_dc (own := [("name", 2), ("image", 3)]) (g := gTup K 2 (gCons (gName 2) (gCons (gName 3) gNil))) rfl sc_put_in.nd (pi_items (pv 1)) (blkOk_by (N := N_put_in) (sc := defScope St_put_in) (by decide +kernel)) (fun _ _ _ _ _ => (pg_tup rfl (pgs_cons (pg_name (i := 2) sc_put_in.nd rfl (Or.inl rfl)) (pgs_cons (pg_name (i := 3) sc_put_in.nd rfl (Or.inl rfl)) pgs_nil)))) (fun _ _ _ _ _ => (pts_one (pt_cmpR op_ne (pv 2) (pe_ix (kx_ix_tup K) (pv 0) pe_int (fun _ _ => rfl)) (nomark _)))) (fun _ _ _ _ _ => (pv 2)) (fun _ _ _ _ _ => (pv 3)))))) pss_nil)
    (pss_one (ps_ret (pe_call G_with_parts (hr.mono (by omega)) (by rfl) T.g_with_parts T.F_with_parts.kp T.b_with_parts .nil pass0 (pa_cons (pv 0) (pa_cons (pe_lc (own := [("part", 4)]) (g := gName 4) (tt := tYes) rfl sc_put_in.nd (pi_list (pe_call G_parts_of (hr.mono (by omega)) (by rfl) T.g_parts_of T.F_parts_of.kp T.b_parts_of .nil pass0 (pa_cons (pv 0) pa_nil))) (blkOk_by (N := N_put_in) (sc := defScope St_put_in) (by decide +kernel)) (fun _ _ _ _ _ => (pg_name (i := 4) sc_put_in.nd rfl (Or.inl rfl))) (fun _ _ _ _ _ => pts_nil) (fun _ _ _ _ _ => (pe_call G_put_in (hr.mono (by omega)) (by rfl) T.g_put_in T.F_put_in.kp T.b_put_in .nil pass0 (pa_cons (pv 4) (pa_cons (pv 1) pa_nil))))) pa_nil)))))), ?_⟩
    obtain ⟨p, xs, rfl, hp, rs⟩ := hf.out
    refine ⟨_, rfl, _, _, _, _, rfl, rfl, hp, atI_nat (j := 0) rfl, rfl, _, rfl, ?_⟩
    rw [eq_str, head_name]
    refine ite2 (fun c => ?_) (fun c => ?_)
    · obtain ⟨x, rfl⟩ := kind_name (of_decide_eq_true c)
      obtain rfl := rs
      refine ⟨_, rfl, d, rfl, .inl ⟨_, .inl hk⟩, _, rfl, _, _, _, _, rfl, rfl, hp, atI_nat (j := 1) rfl, _, rfl, _, DGet.k (k := Sum.inr x) hk, ?_⟩
      rcases hi.val x with ⟨e1, e2⟩ | ⟨u, g, e1, e2, r2⟩
      · rw [e1]
        refine q _ H (Same.refl _) ?_
        show Rf K H ((Fm.getI im x).getD (.name x)) _
        rw [e2]
        exact hf
      · rw [e1]
        refine q _ H (Same.refl _) ?_
        show Rf K H ((Fm.getI im x).getD (.name x)) _
        rw [e2]
        exact r2
    · have c3 : f.kindOf ≠ 3 := fun e => c (decide_eq_true e)
      have main : ∀ (d2 : Addr) (kvs2 : List (Key × V)) (im2 : Fm.Im) (H3 : Hp) (v2 v3 : Option V), Same H H3 → H3 d2 = some (.dK kvs2) → ImAt K H3 kvs2 im2 → im2.length ≤ 900 → (im2.map (·.1)).Nodup → f.putIn im = f.withParts (f.parts.map fun g => g.putIn im2) →
          tRet (tCall (sp_with K) [] E0 (tCons (tVar 0) (tCons (tLc (iList K (tCall (sp_parts K) [] E0 (tCons (tVar 0) tNil))) (gName 4) tYes (tCall (sp_put K n) [] E0 (tCons (tVar 4) (tCons (tVar 1) tNil))) [4]) tNil)))
            { nx := fun _ H' => Q .non H', rt := Q } [some (.ref p), some (.ref d2), v2, v3, none] H3 := by
        intro d2 kvs2 im2 H3 v2 v3 s3 h3 i3 l3 n3 e3
        refine ⟨_, rfl, _, rfl, f, _, rfl, hf.same s3, fun l ys H4 s4 hl0 hl el hY => ⟨l, rfl, ⟨_, SqL.of (K := K) hl⟩, fun D hD => ?_⟩⟩
        refine map_parts (fun g => g.putIn im2) hD hl el hY ?_ ?_ (fun x => rfl)
        · intro g x H5 Nx gm s5 rg k
          have gd := Fm.parts_depth gm
          refine ⟨_, rfl, _, rfl, g, x, d2, kvs2, im2, rfl, rg, by omega, (s4.trans s5) _ _ h3, i3.keep (s4.trans s5).keeps, l3, n3, fun y H6 s6 r6 => k y H6 s6 r6⟩
        · intro H5 zs s5 hz ez hZ
          refine ⟨f, _, D, _, zs, rfl, (hf.same s3).same (s4.trans s5), SqL.of (K := K) hz, ez, by rw [List.length_map], hZ, fun v' H6 s6 r6 => ?_⟩
          refine q v' H6 (s3.trans ((s4.trans s5).trans s6)) ?_
          rw [e3]
          exact r6
      refine ⟨_, rfl, _, _, _, _, rfl, rfl, hp, atI_nat (j := 0) rfl, (by show 2 ≤ sizeLine; decide), newQ (.tup [.str "least", .str "most"]) fun t ht0 s4 h4 => ?_⟩
      generalize upd H t (.tup [.str "least", .str "most"]) = H4 at s4 h4 ⊢
      refine ⟨t, _, rfl, .inr (SqT.of (K := K) h4), rfl, rfl, _, rfl, ?_⟩
      rw [inV_str, head_fix]
      refine ite2 (fun c6 => ?_) (fun c6 => ?_)
      · have c6 := of_decide_eq_true c6
        obtain ⟨zs, ez⟩ := rs.text1 (.inr (.inr (.inr c6)))
        have h4d := s4 _ _ hk
        refine ⟨d, _, h4d, trivial, fun od => ⟨_, rfl, d, od, _, rfl, upd_same, fun D hD => ?_⟩⟩
        have k5 : Keeps H (upd H4 d (.frz od (.dK kvs))) := by
          refine ⟨fun a xs q => ?_, fun a o u q => ?_⟩
          · rw [upd_ne (ne_of q hk (by intro z; cases z))]; exact s4 _ _ q
          · rw [upd_ne (ne_of q hk (by intro z; cases z))]; exact s4 _ _ q
        refine dc_fold walk_items hD (fun i H5 ys => i ≤ kvs.length ∧ ImAt K H5 ys (Fm.dropI (im.take i) f.text)) (fun _ => ⟨Nat.zero_le _, .nil⟩) (fun i H5 H6 xs k h => ⟨h.1, h.2.keep k⟩) ?_ (fun H5 s6 => s6 _ _ upd_same) ?_ ?_
        · rintro i H5 ys ⟨hi5, h5⟩
          rw [h5.length]
          have := List.length_filter_le (fun p : Str × Fm => decide (p.1 ≠ f.text)) (im.take i)
          rw [List.length_take] at this
          show (List.filter (fun p : Str × Fm => decide (p.1 ≠ f.text)) (im.take i)).length ≤ 1000000
          omega
        · rintro i x H5 H6 ys Nx Ex hi5 s6 ⟨hil, h5⟩ ⟨TT, a, b, rfl, hT, rfl, ha, hb⟩ k1 k2
          have ha : kvs[i]?.map (fun kv => kV kv.1) = some a := ha
          have hb : kvs[i]?.map Prod.snd = some b := hb
          have hkv : ∃ k u, kvs[i]? = some (k, u) ∧ a = kV k ∧ b = u := by
            cases e : kvs[i]? with
            | none => rw [e] at ha; cases ha
            | some ku => rw [e] at ha hb; exact ⟨ku.1, ku.2, rfl, (Option.some.inj ha).symm, (Option.some.inj hb).symm⟩
          obtain ⟨k, u, ek, rfl, rfl⟩ := hkv
          obtain ⟨x, g, eg, rfl, rg⟩ := hi.at_ ek
          have s7 : Same H5 (upd H5 TT (.tup [kV (Sum.inr x), b])) := Same.new hT _
          refine ⟨TT, _, rfl, SqT.of (K := K) upd_same, rfl, _, _, rfl, _, _, rfl, rfl, rfl, ?_⟩
          have hp6 : SqT K (upd H5 TT (.tup [kV (Sum.inr x), b])) p (.str f.head :: xs) := s7.keeps.sqT (s6.keeps.sqT (k5.sqT hp))
          rw [ez] at hp6
          refine ⟨_, rfl, _, rfl, _, _, _, _, rfl, rfl, hp6, atI_nat (j := 1) rfl, rfl, _, rfl, ?_⟩
          change (if (!decide (V.str x = V.str f.text)) = true then _ else _)
          rw [eq_str]
          refine ite2 (fun cy => ?_) (fun cy => ?_)
          · have cy' : x ≠ f.text := fun q => by rw [q] at cy; simp at cy
            refine ⟨_, rfl, _, rfl, k1 (Sum.inr x) b _ s7 ⟨(List.getElem?_eq_some_iff.mp ek).1, ?_⟩⟩
            have e : Fm.dropI (im.take (i + 1)) f.text = Fm.dropI (im.take i) f.text ++ [(x, g)] := by
              rw [take_snoc eg]
              unfold Fm.dropI
              rw [List.filter_append]
              simp [cy']
            rw [e]
            refine putK_snoc (h5.keep s7.keeps) (rg.keep (k5.trans (s6.keeps.trans s7.keeps))) ?_
            intro hm
            obtain ⟨pp, hpp, epp⟩ := List.mem_map.mp hm
            have hpp := (List.mem_filter.mp hpp).1
            obtain ⟨j, hj⟩ := List.mem_iff_getElem?.mp hpp
            rw [List.getElem?_take] at hj
            by_cases hji : j < i
            · rw [if_pos hji] at hj
              have := nd_ix hnd (i := j) (j := i) (x := x) (by rw [List.getElem?_map, hj]; exact congrArg some epp) (by rw [List.getElem?_map, eg]; rfl)
              omega
            · rw [if_neg hji] at hj; cases hj
          · have cy' : x = f.text := by
              by_cases q : x = f.text
              · exact q
              · exact absurd (by rw [beq_eq_false_iff_ne.mpr q]; rfl) cy
            refine k2 _ s7 ⟨(List.getElem?_eq_some_iff.mp ek).1, ?_⟩
            have e : Fm.dropI (im.take (i + 1)) f.text = Fm.dropI (im.take i) f.text := by
              rw [take_snoc eg]
              unfold Fm.dropI
              rw [List.filter_append]
              simp [cy']
            rw [e]
            exact h5.keep s7.keeps
        · rintro H5 ys s6 hD5 ⟨_, h5⟩
          have Dd : D ≠ d := by
            intro e
            rw [e] at hD
            rw [upd_same] at hD
            cases hD
          have hd5 := s6 _ _ upd_same
          refine ⟨hd5, ?_⟩
          rw [hi.length, List.take_length] at h5
          have s8 : Same H (upd H5 d (.dK kvs)) := by
            intro a o q
            by_cases ha : a = d
            · subst ha
              rw [upd_same]
              rw [hk] at q
              exact q
            · rw [upd_ne ha]
              refine s6 a o ?_
              rw [upd_ne ha]
              exact s4 a o q
          have k8 : Keeps H5 (upd H5 d (.dK kvs)) := by
            refine ⟨fun a xs q => ?_, fun a o u q => ?_⟩
            · rw [upd_ne (ne_of q hd5 (by intro z; cases z))]; exact q
            · rw [upd_ne (ne_of q hd5 (by intro z; cases z))]; exact q
          refine main D ys (Fm.dropI im f.text) _ none none s8 (by rw [upd_ne Dd]; exact hD5) (h5.keep k8) ?_ ?_ ?_
          · have := List.length_filter_le (fun p : Str × Fm => decide (p.1 ≠ f.text)) im
            exact Nat.le_trans this h9
          · exact (hnd.sublist ((List.filter_sublist).map _))
          · rw [putIn_parts f im c3, if_pos c6]
      · have c6' : f.kindOf ≠ 6 := fun e => c6 (decide_eq_true e)
        refine main d kvs im H4 none none s4 (s4 _ _ hk) (hi.keep s4.keeps) h9 hnd ?_
        rw [putIn_parts f im c3, if_neg c6']
end
/-! ### dual, unfolded, simpler -/
section
variable {P : Program} {w : World} {K : PySem.W.Frag} {mg : Str → Option Value} {base : Heap}
/-- a recursion upon formulas that hands back a formula -/
def sp_fm (K : PySem.W.Frag) (F : Fm → Fm) (A : Fm → Prop) (n : Nat) : Sp := fun vs H Q _ => ∃ (f : Fm) (v : V), vs = [v] ∧ Rf K H f v ∧ f.depth ≤ n ∧ A f ∧ ∀ (v' : V) (H' : Hp), Same H H' → Rf K H' (F f) v' → Q v' H'
theorem no_fm {F : Fm → Fm} {A : Fm → Prop} : ∀ vs H Q E, ¬ sp_fm K F A 0 vs H Q E := fun vs H Q E ⟨f, v, _, _, hd, _⟩ => by have := f.depth_pos; omega
/-- EXCHANGED -/
def exch (s : Str) : Option Str :=
  if s = "true" then some "false" else if s = "false" then some "true" else if s = "and" then some "or" else if s = "or" then some "and" else if s = "some" then some "all" else if s = "all" then some "some"
  else if s = "least" then some "most" else if s = "most" then some "least" else none
theorem dual_parts (f : Fm) : ∃ hd : Str, hd = f.dual.head ∧ (∀ {H : Hp} {xs : List V}, Rest K H (f.withParts (f.parts.map Fm.dual)) xs → Rest K H f.dual xs) ∧ (f.withParts (f.parts.map Fm.dual)).head = f.head := by
  cases f <;> exact ⟨_, rfl, fun h => h, rfl⟩
theorem Tx.exch (T : Tx K mg w) (f : Fm) : KdAt K w T.a_EXCHANGED ∧ ∃ (r : Option Value), PySem.W.nsIn K T.a_EXCHANGED f.head = some r ∧ ∃ v, RelO (some v) (some (r.getD .none)) ∧ (if r.isSome then v else .str f.head) = .str f.dual.head := by
  refine ⟨⟨⟨_, _, T.l_EXCHANGED, T.y_EXCHANGED⟩, T.lo_EXCHANGED⟩, ?_⟩
  have yes : ∀ {s t : Str}, (∃ u, PySem.W.nsIn K T.a_EXCHANGED s = some (some (.str t u))) → ∃ (r : Option Value), PySem.W.nsIn K T.a_EXCHANGED s = some r ∧ ∃ v, RelO (some v) (some (r.getD .none)) ∧ (if r.isSome then v else .str s) = .str t :=
    fun {s t} ⟨u, h⟩ => ⟨_, h, .str t, ⟨u, rfl⟩, rfl⟩
  have non : ∀ {s : Str}, PySem.W.nsIn K T.a_EXCHANGED s = some none → ∃ (r : Option Value), PySem.W.nsIn K T.a_EXCHANGED s = some r ∧ ∃ v, RelO (some v) (some (r.getD .none)) ∧ (if r.isSome then v else .str s) = .str s :=
    fun {s} h => ⟨_, h, .non, rfl, rfl⟩
  cases f with
  | lit b => cases b; exact yes T.k_EXCHANGED_false; exact yes T.k_EXCHANGED_true
  | val _ => exact non T.x_EXCHANGED_value
  | mark _ => exact non T.x_EXCHANGED_mark
  | name _ => exact non T.x_EXCHANGED_name
  | bin b _ _ => cases b; exact yes T.k_EXCHANGED_or; exact yes T.k_EXCHANGED_and
  | un b _ => cases b; exact yes T.k_EXCHANGED_all; exact yes T.k_EXCHANGED_some
  | fix b _ _ => cases b; exact yes T.k_EXCHANGED_most; exact yes T.k_EXCHANGED_least
theorem ok_dual (T : Tx K mg w) : ∀ n, FnOk P w K mg base CX0 (n + 2) T.a_dual T.d_dual ["formula"] (sp_fm K Fm.dual (fun _ => True) n)
  | 0 => ⟨fun vs H Q E h => absurd h (no_fm vs H Q E), fun A outer s H args us vs Q E _ _ _ _ h => absurd h (no_fm vs H Q E)⟩
  | n + 1 => by
    have G_dual := ok_dual T n
    have G_parts_of := ok_parts_of (P := P) (base := base) T
    have G_with_parts := ok_with_parts (P := P) (base := base) T
    refine T.F_dual.ok sc_dual (fun vs H Q E h => ?_) (fun cdv A outer s H vs Q E hr h => ?_)
    · obtain ⟨f, v, rfl, _⟩ := h
      rfl
    obtain ⟨f, v, rfl, hf, hd, _, q⟩ := h
    refine ⟨_, pss_cons (ps_set (i := 1) sc_dual.nd rfl (Or.inl rfl) (pe_call G_with_parts (hr.mono (by omega)) (by rfl) T.g_with_parts T.F_with_parts.kp T.b_with_parts .nil pass0 (pa_cons (pv 0) (pa_cons (pe_lc (own := [("part", 2)]) (g := gName 2) (tt := tYes) rfl sc_dual.nd (pi_list (pe_call G_parts_of (hr.mono (by omega)) (by rfl) T.g_parts_of T.F_parts_of.kp T.b_parts_of .nil pass0 (pa_cons (pv 0) pa_nil))) (blkOk_by (N := N_dual) (sc := defScope St_dual) (by decide +kernel)) (fun _ _ _ _ _ => (pg_name (i := 2) sc_dual.nd rfl (Or.inl rfl))) (fun _ _ _ _ _ => pts_nil) (fun _ _ _ _ _ => (pe_call G_dual (hr.mono (by omega)) (by rfl) T.g_dual T.F_dual.kp T.b_dual .nil pass0 (pa_cons (pv 2) pa_nil)))) pa_nil))))
    (pss_one (ps_ret (pe_op op_catT (pe_tup (pa_cons (pe_kget2 (pe_glob (v := .ref T.a_EXCHANGED) (by rfl) T.g_EXCHANGED rfl) (pe_ix ix_tup (pv 0) pe_int (fun _ _ => rfl)) (pe_ix ix_tup (pv 0) pe_int (fun _ _ => rfl)) ⟨by rfl, by rfl, by rfl, by rfl⟩) pa_nil)) (pe_slice sl_tup (pv 1) (po_some pe_int) po_none)))), ?_⟩
    refine ⟨_, rfl, _, rfl, f, _, rfl, hf, fun l xs H1 s1 hl0 hl el hY => ⟨l, rfl, ⟨_, SqL.of (K := K) hl⟩, fun D hD => ?_⟩⟩
    refine map_parts Fm.dual hD hl el hY ?_ ?_ (fun x => rfl)
    · intro g x H5 Nx gm s5 rg k
      have gd := Fm.parts_depth gm
      exact ⟨_, rfl, g, x, rfl, rg, by omega, trivial, fun y H6 s6 r6 => k y H6 s6 r6⟩
    · intro H5 zs s5 hz ez hZ
      refine ⟨f, _, D, _, zs, rfl, (hf.same s1).same s5, SqL.of (K := K) hz, ez, by rw [List.length_map], hZ, fun v' H6 s6 r6 => ?_⟩
      have s06 : Same H H6 := s1.trans (s5.trans s6)
      obtain ⟨p, ys, rfl, hp, rs⟩ := (hf.same s06).out
      obtain ⟨p', ys', rfl, hp', rs'⟩ := r6.out
      obtain ⟨hd2, ehd, hrest, hhead⟩ := dual_parts (K := K) f
      obtain ⟨kd, r, hn, u, ru, eu⟩ := T.exch f
      rw [hhead] at hp'
      refine ⟨T.a_EXCHANGED, rfl, kd, _, rfl, _, _, _, _, rfl, rfl, hp, atI_nat (j := 0) rfl, _, rfl, _, _, _, _, rfl, rfl, hp, atI_nat (j := 0) rfl, _, r, rfl, hn, u, ru, ?_⟩
      rw [eu]
      refine ⟨(by show 1 ≤ sizeLine; decide), newQ (.tup [.str f.dual.head]) fun t ht0 s7 h7 => ?_⟩
      generalize upd H6 t (.tup [.str f.dual.head]) = H7 at s7 h7 ⊢
      have hp7 := s7.keeps.sqT hp'
      refine ⟨_, rfl, 1, rfl, p', _, rfl, hp7, cut1_not _ _, newQ (.tup (cutV (.str f.head :: ys') (some 1) none)) fun t2 ht2 s8 h8 => ?_⟩
      rw [cut1] at s8 h8 ⊢
      generalize upd H7 t2 (.tup ys') = H8 at s8 h8 ⊢
      have h7' := s8 _ _ h7
      have ly : ys'.length ≤ 2 := by
        have r' := hrest rs'
        cases f with
        | bin b l r => obtain ⟨x, y, e, _⟩ := r'; subst e; exact Nat.le_refl _
        | un b a => obtain ⟨x, e, _⟩ := r'; subst e; show 1 ≤ 2; omega
        | fix b s a => obtain ⟨x, e, _⟩ := r'; subst e; exact Nat.le_refl _
        | lit b => have e : ys' = [] := r'; subst e; exact Nat.zero_le _
        | val b => have e : ys' = [.str b] := r'; subst e; show 1 ≤ 2; omega
        | mark b => have e : ys' = [.str b] := r'; subst e; show 1 ≤ 2; omega
        | name b => have e : ys' = [.str b] := r'; subst e; show 1 ≤ 2; omega
      have s9 : Same H6 H8 := s7.trans s8
      refine ⟨t, t2, _, _, rfl, rfl, SqT.of (K := K) h7', SqT.of (K := K) h8, List.cons_ne_nil _ _, ?_, fun e => ?_, fun _ => newQ (.tup ([.str f.dual.head] ++ ys')) fun t3 ht3 s10 h10 => ?_⟩
      · show 1 + ys'.length ≤ sizeLine
        exact Nat.le_of_lt (small1000 (by omega))
      · subst e
        exact q _ H8 (s06.trans s9) (Rf.in_ (SqT.of (K := K) h7') ((hrest rs').keep s9.keeps))
      · exact q _ _ (s06.trans (s9.trans s10)) (Rf.in_ (SqT.of (K := K) h10) ((hrest rs').keep (s9.trans s10).keeps))
def sp_unf (K : PySem.W.Frag) (n : Nat) : Sp := sp_fm K Fm.unfold (fun _ => True) n
theorem ok_unf (T : Tx K mg w) (n : Nat) : FnOk P w K mg base CX0 (n + 3) T.a_unfolded T.d_unfolded ["formula"] (sp_unf K n) := by
  have G_put_in := ok_put (P := P) (base := base) T n
  refine T.F_unfolded.ok sc_unfolded (fun vs H Q E h => ?_) (fun cdv A outer s H vs Q E hr h => ?_)
  · obtain ⟨f, v, rfl, _⟩ := h
    rfl
  obtain ⟨f, v, rfl, hf, hd, _, q⟩ := h
  refine ⟨_, pss_cons (ps_if (pt_cmpR op_notIn_seq (pe_ix ix_tup (pv 0) pe_int (fun _ _ => rfl)) (pe_tup (pa_cons pe_str (pa_cons pe_str pa_nil))) (by rfl)) (pss_one (ps_ret (pv 0))) pss_nil)
    (pss_one (ps_ret (pe_call G_put_in (hr.mono (by omega)) (by rfl) T.g_put_in T.F_put_in.kp T.b_put_in .nil pass0 (pa_cons (pe_ix ix_tup (pv 0) pe_int (fun _ _ => rfl)) (pa_cons (pe_disp (pps_cons (pe_ix ix_tup (pv 0) pe_int (fun _ _ => rfl)) (pv 0) pps_nil) (by rfl) (by rfl) (fun z => by cases z) (by decide)) pa_nil))))), ?_⟩
  obtain ⟨p, ys, rfl, hp, rs⟩ := hf.out
  refine ⟨_, rfl, _, _, _, _, rfl, rfl, hp, atI_nat (j := 0) rfl, (by show 2 ≤ sizeLine; decide), newQ (.tup [.str "least", .str "most"]) fun t ht0 s4 h4 => ?_⟩
  generalize upd H t (.tup [.str "least", .str "most"]) = H4 at s4 h4 ⊢
  refine ⟨t, _, rfl, .inr (SqT.of (K := K) h4), rfl, rfl, _, rfl, ?_⟩
  change (if (!inV (.str f.head) [.str "least", .str "most"]) = true then _ else _)
  rw [inV_str, head_fix]
  refine ite2 (fun c6 => ?_) (fun c6 => ?_)
  · have c6 : f.kindOf ≠ 6 := by intro e; rw [decide_eq_true e] at c6; simp at c6
    refine ⟨_, rfl, q _ H4 s4 ?_⟩
    have e : f.unfold = f := by cases f <;> first | rfl | exact absurd rfl c6
    rw [e]
    exact hf.same s4
  · have c6 : f.kindOf = 6 := by
      by_cases e : f.kindOf = 6
      · exact e
      · rw [decide_eq_false e] at c6; simp at c6
    obtain ⟨b, x, a, rfl⟩ := kind_fix c6
    obtain ⟨y, rfl, ry⟩ := rs
    have hp4 := s4.keeps.sqT hp
    refine ⟨_, rfl, _, _, _, _, rfl, rfl, hp4, atI_nat (j := 2) rfl, fun d hd0 => ⟨_, rfl, _, _, _, _, rfl, rfl, (Same.new hd0 _).keeps.sqT hp4, atI_nat (j := 1) rfl, _, rfl, upd_same, [(Sum.inr x, .ref p)], rfl, (by show 1 ≤ 15; decide), ?_⟩⟩
    have s5 : Same H4 (upd (upd H4 d (.dK [])) d (.dK (mergeK [] [((Sum.inr x : Key), V.ref p)]))) := (Same.new hd0 _).mut hd0 _
    have e5 : mergeK [] [((Sum.inr x : Key), V.ref p)] = [((Sum.inr x : Key), V.ref p)] := rfl
    rw [e5] at s5 ⊢
    refine ⟨a, y, d, _, [(x, .fix b x a)], rfl, (ry.same s4).same s5, ?_, upd_same, .cons ⟨rfl, (hf.same s4).same s5⟩ .nil, by show 1 ≤ 900; omega, by simp, fun v' H6 s6 r6 => q v' H6 (s4.trans (s5.trans s6)) r6⟩
    simp only [Fm.depth] at hd
    omega
end
/-! ### simpler -/
section
variable {P : Program} {w : World} {K : PySem.W.Frag} {mg : Str → Option Value} {base : Heap}
/-- data of formulas that may be compared -/
def Fm.Good (f : Fm) : Prop := f.Texts (fun s => PyData.strOk s = true) ∧ f.depth ≤ 150
theorem Fm.Good.shp {f : Fm} (h : f.Good) : Shp 190 f.toD := ⟨f.toD_lay h.1, by rw [f.toD_depth]; have := h.2; omega⟩
theorem good_lit (b : Bool) : (Fm.lit b).Good := ⟨trivial, by show 1 ≤ 150; omega⟩
def sp_pair (K : PySem.W.Frag) : Sp := fun vs H Q _ => ∃ (b : Bool) (l r : Fm) (v n t : V), vs = [v, n, t] ∧ Rf K H (.bin b l r) v ∧ Rf K H (.lit b) n ∧ Rf K H (.lit !b) t ∧ l.Good ∧ r.Good ∧
  ∀ (v' : V) (H' : Hp), Same H H' → Rf K H' (Fm.sPair b l r) v' → Q v' H'
theorem ok_pair (T : Tx K mg w) : FnOk P w K mg base CX0 1 T.a_simpler_pair T.d_simpler_pair ["formula", "neutral", "taking"] (sp_pair K) := by
  refine T.F_simpler_pair.ok sc_simpler_pair (fun vs H Q E h => ?_) (fun cdv A outer s H vs Q E hr h => ?_)
  · obtain ⟨b, l, r, v, n, t, rfl, _⟩ := h
    rfl
  obtain ⟨b, l, r, v, n, t, rfl, hf, hn, ht, gl, gr, q⟩ := h
  refine ⟨_, pss_cons (ps_par (i := 3) (j := 4) (by rfl) sc_simpler_pair.nd rfl rfl (by decide) rfl rfl (pa_cons (pe_ix ix_tup (pv 0) pe_int (fun _ _ => rfl)) (pa_cons (pe_ix ix_tup (pv 0) pe_int (fun _ _ => rfl)) pa_nil)) (by rfl))
    (pss_cons (ps_if (PW.pt (pw_or (pt_cmpR (op_eqX hr.un2) (pv 3) (pv 1) (nomark _)) (pw_or1 (pt_cmpR (op_eqX hr.un2) (pv 3) (pv 4) (nomark _))))) (pss_one (ps_ret (pv 4))) pss_nil)
    (pss_cons (ps_if (pt_cmpR (op_eqX hr.un2) (pv 4) (pv 1) (nomark _)) (pss_one (ps_ret (pv 3))) pss_nil)
    (pss_one (ps_ret (pe_ifExp (pt_cmpR (op_inTX hr.un2) (pv 2) (pe_tup (pa_cons (pv 3) (pa_cons (pv 4) pa_nil))) (by rfl)) (pv 2) (pv 0)))))), ?_⟩
  obtain ⟨p, x, y, rfl, hp, rl, rr⟩ := id hf
  refine ⟨_, rfl, _, _, _, _, rfl, rfl, hp, atI_nat (j := 1) rfl, _, rfl, _, _, _, _, rfl, rfl, hp, atI_nat (j := 2) rfl, _, _, rfl, ?_⟩
  refine ⟨_, rfl, _, rfl, _, _, rl.dp, hn.dp, gl.shp, (good_lit b).shp, _, rfl, ?_⟩
  rw [Fm.eqv_toD]
  refine ite2 (fun c => ?_) (fun c => ?_)
  · refine iteT ⟨_, rfl, q _ H (Same.refl _) ?_⟩
    rw [Fm.sPair, if_pos (.inl (of_decide_eq_true c))]
    exact rr
  have c1 : ¬ l = .lit b := fun e => c (decide_eq_true e)
  refine ⟨_, rfl, _, rfl, _, _, rl.dp, rr.dp, gl.shp, gr.shp, _, rfl, ?_⟩
  rw [Fm.eqv_toD]
  refine ite2 (fun c => ?_) (fun c => ?_)
  · refine ⟨_, rfl, q _ H (Same.refl _) ?_⟩
    rw [Fm.sPair, if_pos (.inr (of_decide_eq_true c))]
    exact rr
  have c2 : ¬ l = r := fun e => c (decide_eq_true e)
  refine ⟨_, rfl, _, rfl, _, _, rr.dp, hn.dp, gr.shp, (good_lit b).shp, _, rfl, ?_⟩
  rw [Fm.eqv_toD]
  refine ite2 (fun c => ?_) (fun c => ?_)
  · refine ⟨_, rfl, q _ H (Same.refl _) ?_⟩
    rw [Fm.sPair, if_neg (by simp [c1, c2]), if_pos (of_decide_eq_true c)]
    exact rl
  have c3 : ¬ r = .lit b := fun e => c (decide_eq_true e)
  refine ⟨_, rfl, _, rfl, _, rfl, (by show 2 ≤ sizeLine; decide), newQ (.tup [x, y]) fun t2 ht2 s2 h2 => ?_⟩
  generalize upd H t2 (.tup [x, y]) = H2 at s2 h2 ⊢
  refine ⟨_, [l.toD, r.toD], (ht.same s2).dp, .tup (SqT.of (K := K) h2) (.cons (rl.same s2).dp (.cons (rr.same s2).dp .nil)), (good_lit _).shp, ?_, _, rfl, ?_⟩
  · simp only [PyData.canLayAll0, l.toD_lay gl.1, r.toD_lay gr.1, Bool.and_self]
  simp only [List.any_cons, List.any_nil, Fm.eqv_toD, Bool.or_false]
  refine ite2 (fun c => ?_) (fun c => ?_)
  · refine ⟨_, rfl, q _ H2 s2 ?_⟩
    have c' : l = .lit (!b) ∨ r = .lit (!b) := by simpa using c
    rw [Fm.sPair, if_neg (by simp [c1, c2]), if_neg c3, if_pos c']
    exact ht.same s2
  · refine ⟨_, rfl, q _ H2 s2 ?_⟩
    have c' : ¬ (l = .lit (!b) ∨ r = .lit (!b)) := by simpa using c
    rw [Fm.sPair, if_neg (by simp [c1, c2]), if_neg c3, if_neg c']
    exact hf.same s2
theorem simp_parts (f : Fm) : f.simp = match f with
    | .bin b _ _ => (match f.withParts (f.parts.map Fm.simp) with | .bin _ l r => Fm.sPair b l r | g => g)
    | .fix b x _ => (match f.withParts (f.parts.map Fm.simp) with | .fix _ _ a => Fm.sFix b x a | g => g)
    | .un b _ => (match f.withParts (f.parts.map Fm.simp) with | .un _ a => Fm.sUn b a | g => g)
    | g => g := by cases f <;> rfl
def Fm.GoodS (f : Fm) : Prop := f.Texts (fun s => PyData.strOk s = true) ∧ f.depth ≤ 140 ∧ f.size ≤ 400
theorem Tx.lit (T : Tx K mg w) (H : Hp) : Rf K H (.lit true) (.ref T.a_TRUE) ∧ Rf K H (.lit false) (.ref T.a_FALSE) := ⟨⟨_, rfl, T.t_TRUE H⟩, ⟨_, rfl, T.t_FALSE H⟩⟩
theorem ok_simp (T : Tx K mg w) : ∀ n, FnOk P w K mg base CX0 (n + 150) T.a_simpler T.d_simpler ["formula"] (sp_fm K Fm.simp Fm.GoodS n)
  | 0 => ⟨fun vs H Q E h => absurd h (no_fm vs H Q E), fun A outer s H args us vs Q E _ _ _ _ h => absurd h (no_fm vs H Q E)⟩
  | n + 1 => by
    have G_simpler := ok_simp T n
    have G_parts_of := ok_parts_of (P := P) (base := base) T
    have G_with_parts := ok_with_parts (P := P) (base := base) T
    have G_simpler_pair := ok_pair (P := P) (base := base) T
    have G_free_rows := ok_free (P := P) (base := base) T 145
    refine T.F_simpler.ok sc_simpler (fun vs H Q E h => ?_) (fun cdv A outer s H vs Q E hr h => ?_)
    · obtain ⟨f, v, rfl, _⟩ := h
      rfl
    obtain ⟨f, v, rfl, hf, hd, gf, q⟩ := h
    have hu := hu_of hr
    refine ⟨_, pss_cons (ps_set (i := 1) sc_simpler.nd rfl (Or.inl rfl) (pe_call G_with_parts (hr.mono (by omega)) (by rfl) T.g_with_parts T.F_with_parts.kp T.b_with_parts .nil pass0 (pa_cons (pv 0) (pa_cons (pe_lc (own := [("part", 2)]) (g := gName 2) (tt := tYes) rfl sc_simpler.nd (pi_list (pe_call G_parts_of (hr.mono (by omega)) (by rfl) T.g_parts_of T.F_parts_of.kp T.b_parts_of .nil pass0 (pa_cons (pv 0) pa_nil))) (blkOk_by (N := N_simpler) (sc := defScope St_simpler) (by decide +kernel)) (fun _ _ _ _ _ => (pg_name (i := 2) sc_simpler.nd rfl (Or.inl rfl))) (fun _ _ _ _ _ => pts_nil) (fun _ _ _ _ _ => (pe_call G_simpler (hr.mono (by omega)) (by rfl) T.g_simpler T.F_simpler.kp T.b_simpler .nil pass0 (pa_cons (pv 2) pa_nil)))) pa_nil))))
    (pss_cons (ps_set (i := 3) sc_simpler.nd rfl (Or.inl rfl) (pe_ix ix_tup (pv 1) pe_int (fun _ _ => rfl)))
    (pss_cons (ps_if (pt_cmpR op_in_seq (pv 3) (pe_tup (pa_cons pe_str (pa_cons pe_str pa_nil))) (by rfl)) (pss_one (ps_ret (pe_call G_simpler_pair (hr.mono (by omega)) (by rfl) T.g_simpler_pair T.F_simpler_pair.kp T.b_simpler_pair .nil pass0 (pa_cons (pv 1) (pa_cons (pe_ifExp (pt_cmpR op_eq (pv 3) pe_str (nomark _)) (pe_glob (v := .ref T.a_TRUE) (by rfl) T.g_TRUE rfl) (pe_glob (v := .ref T.a_FALSE) (by rfl) T.g_FALSE rfl)) (pa_cons (pe_ifExp (pt_cmpR op_eq (pv 3) pe_str (nomark _)) (pe_glob (v := .ref T.a_FALSE) (by rfl) T.g_FALSE rfl) (pe_glob (v := .ref T.a_TRUE) (by rfl) T.g_TRUE rfl)) pa_nil)))))) pss_nil)
    (pss_cons (ps_if (pt_cmpR op_in_seq (pv 3) (pe_tup (pa_cons pe_str (pa_cons pe_str pa_nil))) (by rfl)) (pss_cons (ps_if (pt_cmpR (op_eqX hr.un2) (pe_ix ix_tup (pv 1) pe_int (fun _ _ => rfl)) (pe_tup (pa_cons pe_str (pa_cons (pe_ix ix_tup (pv 1) pe_int (fun _ _ => rfl)) pa_nil))) (nomark _)) (pss_one (ps_ret (pe_ifExp (pt_cmpR op_eq (pv 3) pe_str (nomark _)) (pe_glob (v := .ref T.a_FALSE) (by rfl) T.g_FALSE rfl) (pe_glob (v := .ref T.a_TRUE) (by rfl) T.g_TRUE rfl)))) pss_nil)
    (pss_one (ps_ret (pe_ifExp (pt_cmp (pc_din hu (pe_ix ix_tup (pv 1) pe_int (fun _ _ => rfl)) (pe_call G_free_rows (hr.mono (by omega)) (by rfl) T.g_free_rows T.F_free_rows.kp T.b_free_rows .nil pass0 (pa_cons (pe_ix ix_tup (pv 1) pe_int (fun _ _ => rfl)) pa_nil)))) (pv 1) (pe_ix ix_tup (pv 1) pe_int (fun _ _ => rfl)))))) pss_nil)
    (pss_cons (ps_if (pt_cmpR (op_inTX hr.un2) (pv 1) (pe_tup (pa_cons (pe_tup (pa_cons pe_str (pa_cons (pe_glob (v := .ref T.a_FALSE) (by rfl) T.g_FALSE rfl) pa_nil))) (pa_cons (pe_tup (pa_cons pe_str (pa_cons (pe_glob (v := .ref T.a_TRUE) (by rfl) T.g_TRUE rfl) pa_nil))) pa_nil))) (by rfl)) (pss_one (ps_ret (pe_ix ix_tup (pv 1) pe_int (fun _ _ => rfl)))) pss_nil)
    (pss_one (ps_ret (pv 1))))))), ?_⟩
    refine ⟨_, rfl, _, rfl, f, _, rfl, hf, fun l xs H1 s1 hl0 hl el hY => ⟨l, rfl, ⟨_, SqL.of (K := K) hl⟩, fun D hD => ?_⟩⟩
    refine map_parts Fm.simp hD hl el hY ?_ ?_ (fun x => rfl)
    · intro g x H5 Nx gm s5 rg k
      have gd := Fm.parts_depth gm
      have gz := size_parts gm
      refine ⟨_, rfl, g, x, rfl, rg, by omega, ⟨?_, by have := gf.2.1; omega, by have := gf.2.2; omega⟩, fun y H6 s6 r6 => k y H6 s6 r6⟩
      have gt := gf.1
      cases f with
      | lit _ | val _ | mark _ | name _ => simp [Fm.parts] at gm
      | bin b l r =>
        simp only [Fm.parts, List.mem_cons, List.not_mem_nil, or_false] at gm
        rcases gm with rfl | rfl
        · exact gt.1
        · exact gt.2
      | un b a => simp only [Fm.parts, List.mem_cons, List.not_mem_nil, or_false] at gm; subst gm; exact gt
      | fix b x a => simp only [Fm.parts, List.mem_cons, List.not_mem_nil, or_false] at gm; subst gm; exact gt.2
    · intro H5 zs s5 hz ez hZ
      refine ⟨f, _, D, _, zs, rfl, (hf.same s1).same s5, SqL.of (K := K) hz, ez, by rw [List.length_map], hZ, fun v' H6 s6 r6 => ?_⟩
      have s06 : Same H H6 := s1.trans (s5.trans s6)
      obtain ⟨p, ys, rfl, hp, rs⟩ := r6.out
      refine ⟨_, rfl, _, _, _, _, rfl, rfl, hp, atI_nat (j := 0) rfl, _, rfl, (by show 2 ≤ sizeLine; decide), newQ (.tup [.str "and", .str "or"]) fun t ht0 s7 h7 => ?_⟩
      generalize upd H6 t (.tup [.str "and", .str "or"]) = H7 at s7 h7 ⊢
      refine ⟨t, _, rfl, .inr (SqT.of (K := K) h7), rfl, rfl, _, rfl, ?_⟩
      rw [inV_str, head_bin]
      have s07 : Same H H7 := s06.trans s7
      refine ite2 (fun c4 => ?_) (fun c4 => ?_)
      · obtain ⟨b, l', r', e⟩ := kind_bin (of_decide_eq_true c4)
        cases f with
        | bin b0 l r =>
          simp only [Fm.parts, List.map, Fm.withParts, Fm.bin.injEq] at e
          obtain ⟨rfl, rfl, rfl⟩ := e
          obtain ⟨lt, lf⟩ := T.lit (K := K) H7
          have gl : l.simp.Good := ⟨Fm.simp_texts _ l gf.1.1, by have := Fm.simp_depth l; have := gf.2.1; simp only [Fm.depth] at this; omega⟩
          have gr : r.simp.Good := ⟨Fm.simp_texts _ r gf.1.2, by have := Fm.simp_depth r; have := gf.2.1; simp only [Fm.depth] at this; omega⟩
          have r7 := r6.same s7
          refine ⟨_, rfl, _, rfl, rfl, _, rfl, ?_⟩
          rw [eq_str]
          cases b0 with
          | true =>
            refine iteT ⟨_, rfl, rfl, _, rfl, ?_⟩
            rw [eq_str]
            refine iteT ⟨true, l.simp, r.simp, _, _, _, rfl, r7, lt, lf, gl, gr, fun v' H8 s8 r8 => q v' H8 (s07.trans s8) r8⟩
          | false =>
            refine iteF ⟨_, rfl, rfl, _, rfl, ?_⟩
            rw [eq_str]
            refine iteF ⟨false, l.simp, r.simp, _, _, _, rfl, r7, lf, lt, gl, gr, fun v' H8 s8 r8 => q v' H8 (s07.trans s8) r8⟩
        | _ => simp [Fm.parts, Fm.withParts] at e
      · have c4 : ¬ (f.withParts (f.parts.map Fm.simp)).kindOf = 4 := fun e => c4 (decide_eq_true e)
        refine ⟨_, rfl, (by show 2 ≤ sizeLine; decide), newQ (.tup [.str "least", .str "most"]) fun t2 ht2 s8 h8 => ?_⟩
        generalize upd H7 t2 (.tup [.str "least", .str "most"]) = H8 at s8 h8 ⊢
        refine ⟨t2, _, rfl, .inr (SqT.of (K := K) h8), rfl, rfl, _, rfl, ?_⟩
        rw [inV_str, head_fix]
        have s08 : Same H H8 := s07.trans s8
        have s68 : Same H6 H8 := s7.trans s8
        have r8 := r6.same s68
        refine ite2 (fun c6 => ?_) (fun c6 => ?_)
        · obtain ⟨b, x, a', e⟩ := kind_fix (of_decide_eq_true c6)
          cases f with
          | fix b0 x0 a =>
            simp only [Fm.parts, List.map, Fm.withParts, Fm.fix.injEq] at e
            obtain ⟨rfl, rfl, rfl⟩ := e
            obtain ⟨p2, y, ep, hp8, ry⟩ := id r8
            cases ep
            have ga : a.simp.Good := ⟨Fm.simp_texts _ a gf.1.2, by have := Fm.simp_depth a; have := gf.2.1; simp only [Fm.depth] at this; omega⟩
            have gx : (Fm.name x0).Good := ⟨gf.1.1, by show 1 ≤ 150; omega⟩
            refine ⟨_, rfl, _, _, _, _, rfl, rfl, hp8, atI_nat (j := 2) rfl, _, rfl, _, _, _, _, rfl, rfl, hp8, atI_nat (j := 1) rfl, (by show 2 ≤ sizeLine; decide), newQ (.tup [.str "name", .str x0]) fun t3 ht3 s9 h9 => ?_⟩
            generalize upd H8 t3 (.tup [.str "name", .str x0]) = H9 at s9 h9 ⊢
            have rn : Rf K H9 (.name x0) (.ref t3) := ⟨t3, rfl, SqT.of (K := K) h9⟩
            have hp9 := s9.keeps.sqT hp8
            have s09 : Same H H9 := s08.trans s9
            refine ⟨_, _, (ry.same s9).dp, rn.dp, ga.shp, gx.shp, _, rfl, ?_⟩
            rw [Fm.eqv_toD]
            refine ite2 (fun cn => ?_) (fun cn => ?_)
            · have cn := of_decide_eq_true cn
              obtain ⟨lt, lf⟩ := T.lit (K := K) H9
              have es : (Fm.fix b0 x0 a).simp = .lit (!b0) := by show Fm.sFix b0 x0 a.simp = _; rw [Fm.sFix, if_pos cn]
              refine ⟨_, rfl, rfl, _, rfl, ?_⟩
              rw [eq_str]
              cases b0 with
              | true => exact iteT (q _ H9 s09 (by rw [es]; exact lf))
              | false => exact iteF (q _ H9 s09 (by rw [es]; exact lt))
            · have cn : ¬ a.simp = .name x0 := fun z => cn (decide_eq_true z)
              refine ⟨_, rfl, _, _, _, _, rfl, rfl, hp9, atI_nat (j := 1) rfl, _, rfl, _, _, _, _, rfl, rfl, hp9, atI_nat (j := 2) rfl, a.simp, y, rfl, ry.same s9, ?_, ?_, fun d H10 s10 hd0 h10 => ?_⟩
              · have := ga.2; have := Fm.simp_depth a; have := gf.2.1; simp only [Fm.depth] at this; omega
              · have := Fm.simp_size a; have := gf.2.2; simp only [Fm.size] at this; omega
              refine ⟨d, _, rfl, DGet.k (k := Sum.inr x0) h10, _, rfl, ?_⟩
              rw [fk_has]
              have s010 : Same H H10 := s09.trans s10
              by_cases hx : x0 ∈ a.simp.free
              · rw [if_pos hx]
                refine iteT ⟨_, rfl, q _ H10 s010 ?_⟩
                show Rf K H10 (Fm.sFix b0 x0 a.simp) _
                rw [Fm.sFix, if_neg cn, if_pos hx]
                exact r8.same (s9.trans s10)
              · rw [if_neg hx]
                refine iteF ⟨_, rfl, _, _, _, _, rfl, rfl, s10.keeps.sqT hp9, atI_nat (j := 2) rfl, q _ H10 s010 ?_⟩
                show Rf K H10 (Fm.sFix b0 x0 a.simp) _
                rw [Fm.sFix, if_neg cn, if_neg hx]
                exact (ry.same s9).same s10
          | _ => simp [Fm.parts, Fm.withParts] at e
        · have c6 : ¬ (f.withParts (f.parts.map Fm.simp)).kindOf = 6 := fun e => c6 (decide_eq_true e)
          refine ⟨_, rfl, (by show 2 ≤ sizeLine; decide), newQ (.tup [.str "some", .ref T.a_FALSE]) fun t3 ht3 s9 h9 => ?_⟩
          generalize upd H8 t3 (.tup [.str "some", .ref T.a_FALSE]) = H9 at s9 h9 ⊢
          refine ⟨(by show 2 ≤ sizeLine; decide), newQ (.tup [.str "all", .ref T.a_TRUE]) fun t4 ht4 s10 h10 => ?_⟩
          generalize upd H9 t4 (.tup [.str "all", .ref T.a_TRUE]) = H10 at s10 h10 ⊢
          refine ⟨(by show 2 ≤ sizeLine; decide), newQ (.tup [.ref t3, .ref t4]) fun t5 ht5 s11 h11 => ?_⟩
          generalize upd H10 t5 (.tup [.ref t3, .ref t4]) = H11 at s11 h11 ⊢
          obtain ⟨lt, lf⟩ := T.lit (K := K) H11
          have ra : Rf K H11 (.un true (.lit false)) (.ref t3) := ⟨t3, _, rfl, SqT.of (K := K) (s11 _ _ (s10 _ _ h9)), lf⟩
          have rb : Rf K H11 (.un false (.lit true)) (.ref t4) := ⟨t4, _, rfl, SqT.of (K := K) (s11 _ _ h10), lt⟩
          have s011 : Same H H11 := s08.trans (s9.trans (s10.trans s11))
          have r11 := r8.same (s9.trans (s10.trans s11))
          have gg : (f.withParts (f.parts.map Fm.simp)).Good := by
            cases f with
            | bin b l r => exact absurd rfl c4
            | fix b x a => exact absurd rfl c6
            | un b a => exact ⟨Fm.simp_texts _ a gf.1, by have := Fm.simp_depth a; have := gf.2.1; simp only [Fm.depth, Fm.parts, List.map, Fm.withParts] at *; omega⟩
            | lit _ | val _ | mark _ | name _ => exact ⟨gf.1, by show 1 ≤ 150; omega⟩
          refine ⟨_, [(Fm.un true (.lit false)).toD, (Fm.un false (.lit true)).toD], r11.dp, .tup (SqT.of (K := K) h11) (.cons ra.dp (.cons rb.dp .nil)), gg.shp, (by decide +kernel), _, rfl, ?_⟩
          simp only [List.any_cons, List.any_nil, Fm.eqv_toD, Bool.or_false]
          refine ite2 (fun cu => ?_) (fun cu => ?_)
          · have cu' : Fm.un true (.lit false) = f.withParts (f.parts.map Fm.simp) ∨ Fm.un false (.lit true) = f.withParts (f.parts.map Fm.simp) := by simpa using cu
            cases f with
            | un b a =>
              obtain ⟨p2, y, ep, hp11, ry⟩ := r11
              cases ep
              refine ⟨_, rfl, _, _, _, _, rfl, rfl, hp11, atI_nat (j := 1) rfl, q _ H11 s011 ?_⟩
              show Rf K H11 (Fm.sUn b a.simp) _
              rw [Fm.sUn, if_pos]
              · exact ry
              · simp only [Fm.parts, List.map, Fm.withParts, Fm.un.injEq] at cu'
                rcases cu' with ⟨rfl, e⟩ | ⟨rfl, e⟩ <;> exact e.symm
            | bin b l r => exact absurd rfl c4
            | fix b x a => exact absurd rfl c6
            | _ => simp [Fm.parts, Fm.withParts] at cu'
          · have cu' : ¬ (Fm.un true (.lit false) = f.withParts (f.parts.map Fm.simp) ∨ Fm.un false (.lit true) = f.withParts (f.parts.map Fm.simp)) := by simpa using cu
            refine ⟨_, rfl, q _ H11 s011 ?_⟩
            cases f with
            | un b a =>
              show Rf K H11 (Fm.sUn b a.simp) _
              rw [Fm.sUn, if_neg]
              · exact r11
              · intro e
                refine cu' ?_
                simp only [Fm.parts, List.map, Fm.withParts, Fm.un.injEq]
                cases b
                · exact .inr ⟨rfl, e.symm⟩
                · exact .inl ⟨rfl, e.symm⟩
            | bin b l r => exact absurd rfl c4
            | fix b x a => exact absurd rfl c6
            | lit _ | val _ | mark _ | name _ => exact r11
end
/-! ### names and formulas that the law draws -/
section
variable {P : Program} {w : World} {K : PySem.W.Frag} {mg : Str → Option Value} {base : Heap}
def abc : Str := "abcdefghijklmnopqrstuvwxyz0123456789"
def isLow (c : Nat) : Bool := 97 ≤ c && c ≤ 122
def isFig (c : Nat) : Bool := 48 ≤ c && c ≤ 57
/-- a name as the law draws it: a letter, then letters and figures, a figure at the end where there are more -/
structure NameOk (x : Str) : Prop where
  pos : 1 ≤ x.length
  le : x.length ≤ 12
  all : ∀ c ∈ x.cps.toList, (isLow c || isFig c) = true
  first : ∃ c, x.cps.toList[0]? = some c ∧ isLow c = true
  last : x.length = 1 ∨ ∃ c, x.cps.toList[x.length - 1]? = some c ∧ isFig c = true
theorem abc_at {d : Int} (h0 : 0 ≤ d) (h1 : d < 36) : ∃ c, atI abc.cps.toList d = some c ∧ (isLow c || isFig c) = true ∧ (d < 26 → isLow c = true) := by
  have q : ∀ i : Fin 36, ∃ c, abc.cps.toList[i.val]? = some c ∧ (isLow c || isFig c) = true ∧ (i.val < 26 → isLow c = true) := by decide +kernel
  obtain ⟨c, h2, h3, h4⟩ := q ⟨d.toNat, by omega⟩
  refine ⟨c, ?_, h3, fun z => h4 (by show d.toNat < 26; omega)⟩
  have e : d = (d.toNat : Int) := by omega
  rw [e]
  exact atI_nat h2
theorem fig_str {d : Int} (h0 : 0 ≤ d) (h1 : d < 10) : ∃ c, (toString d : Str) = ⟨#[c]⟩ ∧ isFig c = true := by
  have q : ∀ i : Fin 10, ∃ c, (toString (i.val : Int) : Str) = ⟨#[c]⟩ ∧ isFig c = true := fun i => ⟨48 + i.val, by revert i; decide +kernel, by revert i; decide +kernel⟩
  have e : d = ((⟨d.toNat, by omega⟩ : Fin 10).val : Int) := by show d = (d.toNat : Int); omega
  rw [e]
  exact q _
theorem log_fig {d : Int} (h0 : 0 ≤ d) (h1 : d < 10) : d.natAbs.log2 < 1920 := by
  have q : ∀ i : Fin 10, (i.val : Int).natAbs.log2 < 1920 := by decide +kernel
  have e : d = ((⟨d.toNat, by omega⟩ : Fin 10).val : Int) := by show d = (d.toNat : Int); omega
  rw [e]
  exact q _
theorem one_len (c : Nat) : (⟨#[c]⟩ : Str).length = 1 := rfl
/-- letters and figures, a letter in front -/
structure Begun (x : Str) : Prop where
  all : ∀ c ∈ x.cps.toList, (isLow c || isFig c) = true
  first : ∃ c, x.cps.toList[0]? = some c ∧ isLow c = true
theorem Begun.app {x : Str} (h : Begun x) {c : Nat} (hc : (isLow c || isFig c) = true) : Begun (x ++ ⟨#[c]⟩) := by
  refine ⟨fun b hb => ?_, ?_⟩
  · rw [Str.cps_append, Array.toList_append] at hb
    rcases List.mem_append.mp hb with q | q
    · exact h.all b q
    · have : b = c := by simpa using q
      rw [this]; exact hc
  · obtain ⟨a, h1, h2⟩ := h.first
    refine ⟨a, ?_, h2⟩
    rw [Str.cps_append, Array.toList_append, List.getElem?_append_left (List.getElem?_eq_some_iff.mp h1).1]
    exact h1
theorem val_run {t : TE} {σ : L2.St} {H : Hp} {Q : V → Hp → Prop} (Pv : V → Prop) (h : ∀ Q' : V → Hp → Prop, (∀ v, Pv v → Q' v H) → t σ H Q') (q : ∀ v, Pv v → Q v H) : t σ H Q := h Q q
def sp_name (K : PySem.W.Frag) : Sp := fun vs H Q _ => ∃ (p ce : Addr), vs = [.ref p] ∧ Src K ce H p ∧ ∀ (x : Str) (H' : Hp), But p H H' → Src K ce H' p → NameOk x → Q (.str x) H'
theorem ok__law_name (T : Tx K mg w) : FnOk P w K mg base CX0 2 T.a__law_name T.d__law_name ["source"] (sp_name K) := by
  have G__law_pick := ok__law_pick (P := P) (w := w) (base := base) T
  refine T.F__law_name.ok sc__law_name (fun vs H Q E h => ?_) (fun cdv A outer s H vs Q E hr h => ?_)
  · obtain ⟨p, ce, rfl, _⟩ := h
    rfl
  obtain ⟨p, ce, rfl, hs, q⟩ := h
  refine ⟨_, pss_cons (ps_set (i := 1) sc__law_name.nd rfl (Or.inl rfl) pe_str)
    (pss_cons (ps_set (i := 2) sc__law_name.nd rfl (Or.inl rfl) (pe_ix ix_str (pv 1) (pe_call G__law_pick (hr.mono (by omega)) (by rfl) T.g__law_pick T.F__law_pick.kp T.b__law_pick .nil pass0 (pa_cons (pv 0) (pa_cons pe_int pa_nil))) (fun _ _ => rfl)))
    (pss_cons (ps_set (i := 3) sc__law_name.nd rfl (Or.inl rfl) (pe_call G__law_pick (hr.mono (by omega)) (by rfl) T.g__law_pick T.F__law_pick.kp T.b__law_pick .nil pass0 (pa_cons (pv 0) (pa_cons pe_int pa_nil))))
    (pss_cons (ps_for PassesOwn.never rfl (pi_range1 (by rfl) T.n_range (pa_cons (pe_ifExp (pt_cmpR op_eq (pv 3) pe_int (nomark _)) pe_int (pe_op op_sub (pv 3) pe_int)) pa_nil)) (pg_name (i := 4) sc__law_name.nd rfl (Or.inl rfl)) (pss_one (ps_set (i := 2) sc__law_name.nd rfl (Or.inl rfl) (pe_op op_add_str (pv 2) (pe_ix ix_str (pv 1) (pe_call G__law_pick (hr.mono (by omega)) (by rfl) T.g__law_pick T.F__law_pick.kp T.b__law_pick .nil pass0 (pa_cons (pv 0) (pa_cons pe_int pa_nil))) (fun _ _ => rfl))))))
    (pss_one (ps_ret (pe_ifExp (pt_cmpR op_gt (pv 3) pe_int (nomark _)) (pe_op op_add_str (pv 2) (pe_callTy call_str_int (by rfl) T.n_str (by decide +kernel) (pa_cons (pe_call G__law_pick (hr.mono (by omega)) (by rfl) T.g__law_pick T.F__law_pick.kp T.b__law_pick .nil pass0 (pa_cons (pv 0) (pa_cons pe_int pa_nil))) pa_nil))) (pv 2))))))), ?_⟩
  have la : abc.length ≤ sizeLine := by decide
  refine ⟨_, rfl, _, rfl, p, ce, 26, rfl, hs, by decide, fun d1 H1 b1 hs1 d10 d11 => ?_⟩
  obtain ⟨c1, a1, f1, g1⟩ := abc_at d10 (by omega)
  refine ⟨abc, d1, c1, rfl, rfl, la, a1, ?_⟩
  have bg : Begun ⟨#[c1]⟩ := by
    refine ⟨fun b hb => ?_, c1, rfl, g1 (by omega)⟩
    have : b = c1 := by simpa using hb
    rw [this]; exact f1
  refine ⟨_, rfl, p, ce, 6, rfl, hs1, by decide, fun d2 H2 b2 hs2 d20 d21 => ?_⟩
  refine ⟨_, rfl, rfl, _, rfl, ?_⟩
  refine ite2 (fun c => ?_) (fun c => ?_)
  case' refine_1 => have e5 : d2 = 5 := V.int.inj (of_decide_eq_true c)
  case' refine_2 => refine ⟨_, rfl, _, _, rfl, rfl, ?_⟩
  all_goals refine ⟨_, rfl, by omega, by omega, for_range (lo := 0) (fun i σ H3 => ∃ x v, σ = [some (.ref p), some (.str abc), some (.str x), some (.int d2), v] ∧ Begun x ∧ x.length = i + 1 ∧ But p H H3 ∧ Src K ce H3 p)
    ⟨_, none, rfl, bg, rfl, b1.trans b2, hs2⟩ ?_ ?_⟩
  any_goals
    rintro i σ H3 hi ⟨x, v, rfl, bx, lx, b3, s3⟩
    refine ⟨_, rfl, _, rfl, _, rfl, p, ce, 36, rfl, s3, by decide, fun d3 H4 b4 s4 d30 d31 => ?_⟩
    obtain ⟨c2, a2, f2, _⟩ := abc_at d30 (by omega)
    refine ⟨abc, d3, c2, rfl, rfl, la, a2, x, _, rfl, rfl, Nat.le_of_lt (smallM (by rw [lx, one_len]; omega)), ?_⟩
    exact ⟨_, _, rfl, bx.app f2, by rw [Str.length_append, one_len, lx], b3.trans b4, s4⟩
  all_goals
    rintro σ H3 ⟨x, v, rfl, bx, lx, b3, s3⟩
    refine ⟨_, rfl, _, _, rfl, rfl, _, rfl, ?_⟩
    refine ite2 (fun c => ?_) (fun c => ?_)
    · refine ⟨_, rfl, _, rfl, p, ce, 10, rfl, s3, by decide, fun d3 H4 b4 s4 d30 d31 => ?_⟩
      obtain ⟨c2, e2, f2⟩ := fig_str d30 (by omega)
      refine ⟨_, rfl, log_fig d30 (by omega), ?_⟩
      rw [show Str.ofString (toString d3) = ⟨#[c2]⟩ from e2]
      refine ⟨x, _, rfl, rfl, Nat.le_of_lt (smallM (by rw [lx, one_len]; omega)), ?_⟩
      have bz := bx.app (c := c2) (by rw [f2, Bool.or_true])
      refine q _ H4 (b3.trans b4) s4 ⟨by rw [Str.length_append, one_len]; omega, by rw [Str.length_append, one_len]; omega, bz.all, bz.first, .inr ⟨c2, ?_, f2⟩⟩
      rw [Str.cps_append, Array.toList_append, Str.length_append, one_len, Nat.add_sub_cancel]
      rw [List.getElem?_append_right (by show x.cps.toList.length ≤ x.cps.size; simp)]
      show [c2][x.cps.size - x.cps.toList.length]? = some c2
      simp
    · have : d2 ≤ 0 := by have := of_decide_eq_false (Bool.eq_false_iff.mpr c); omega
      exact ⟨_, rfl, q x H3 b3 s3 ⟨by omega, by omega, bx.all, bx.first, .inl (by omega)⟩⟩
end
/-! ### formulas that the law draws -/
section
variable {P : Program} {w : World} {K : PySem.W.Frag} {mg : Str → Option Value} {base : Heap}
theorem Src.keeps {H H' : Hp} {p ce : Addr} (s : Src K ce H p) (b : But p H H') : Keeps H H' := by
  obtain ⟨cs, i, l, m, S⟩ := s
  exact b.keeps S.at_ trivial
theorem Src.same {H H' : Hp} {p ce : Addr} (s : Src K ce H p) (e : Same H H') : Src K ce H' p := by
  obtain ⟨cs, i, l, m, S⟩ := s
  exact ⟨cs, i, l, m, ⟨e.at S.at_, (e.but p).seq S.ne S.cel, S.ne, S.hi, S.hl, S.hc, S.m0, S.m1⟩⟩
theorem Src.here {H : Hp} {p ce : Addr} (s : Src K ce H p) : ∃ o, H p = some o := by
  obtain ⟨cs, i, l, m, S⟩ := s
  exact ⟨_, S.at_⟩
theorem Src.ne {H : Hp} {p l ce : Addr} (s : Src K ce H p) (h : H l = none) : l ≠ p := fun e => by
  obtain ⟨o, q⟩ := s.here
  rw [e, q] at h; cases h
theorem Src.upd {H : Hp} {p ce D : Addr} (s : Src K ce H p) (h1 : D ≠ p) (h2 : D ≠ ce) (o : HO) : Src K ce (upd H D o) p := by
  obtain ⟨cs, i, l, m, S⟩ := s
  exact ⟨cs, i, l, m, ⟨by rw [upd_ne h1.symm]; exact S.at_, ((But.refl D H).upd o).seq h2.symm S.cel, S.ne, S.hi, S.hl, S.hc, S.m0, S.m1⟩⟩
/-- all names keep N, all values V -/
def Fm.Lk (N V : Str → Prop) : Fm → Prop
  | .lit _ => True
  | .val s => V s
  | .mark s | .name s => N s
  | .bin _ l r => l.Lk N V ∧ r.Lk N V
  | .un _ a => a.Lk N V
  | .fix _ x a => N x ∧ a.Lk N V
theorem Fm.Lk.texts {N V p : Str → Prop} (a : ∀ s, N s → p s) (b : ∀ s, V s → p s) : ∀ {f : Fm}, f.Lk N V → f.Texts p
  | .lit _, _ => trivial
  | .val _, h => b _ h
  | .mark _, h => a _ h
  | .name _, h => a _ h
  | .bin _ _ _, h => ⟨h.1.texts a b, h.2.texts a b⟩
  | .un _ g, h => Fm.Lk.texts (f := g) a b h
  | .fix _ _ _, h => ⟨a _ h.1, h.2.texts a b⟩
theorem Fm.Lk.free {N V : Str → Prop} : ∀ {f : Fm}, f.Lk N V → ∀ z ∈ f.free, N z
  | .lit _, _, z, hz => by simp [Fm.free] at hz
  | .val _, _, z, hz => by simp [Fm.free] at hz
  | .mark _, _, z, hz => by simp [Fm.free] at hz
  | .name x, h, z, hz => by
    have : z = x := by simpa [Fm.free] using hz
    rw [this]; exact h
  | .bin _ l r, h, z, hz => by
    rcases Fm.mem_join.mp hz with q | q
    · exact Fm.Lk.free h.1 z q
    · exact Fm.Lk.free h.2 z q
  | .un _ a, h, z, hz => Fm.Lk.free (f := a) h z hz
  | .fix _ x a, h, z, hz => Fm.Lk.free (f := a) h.2 z (List.mem_filter.mp hz).1
def vals : List Str := ["01", "hi", "<0/1>", "{a,b}", "3"]
def sp_any (K : PySem.W.Frag) (n : Nat) : Sp := fun vs H Q _ => ∃ (p ce a : Addr) (d : Nat) (xs : List Str), vs = [.ref p, .ref a, .int d] ∧ Src K ce H p ∧ a ≠ p ∧ SqL K H a (xs.map V.str) ∧ 1 ≤ xs.length ∧ xs.length ≤ 100 ∧ d + 1 ≤ n ∧
  ∀ (f : Fm) (v : V) (H' : Hp), But p H H' → Src K ce H' p → Rf K H' f v → f.depth ≤ d + 1 → f.size < 2 ^ (d + 1) → f.Lk (· ∈ xs) (· ∈ vals) → Q v H'
theorem nx_run {D : Ends} {σ : L2.St} {H : Hp} (h : D.nx σ H) : tNext D σ H := h
theorem set_run {te : TE} {g : TG} {u : TS} {D : Ends} {σ : L2.St} {H : Hp} (Pv : V → Hp → Prop) (h : ∀ Q' : V → Hp → Prop, (∀ v H', Pv v H' → Q' v H') → te σ H Q') (q : ∀ v H', Pv v H' → g v σ H' (u D)) : tSeq (tAsg te g) u D σ H :=
  h _ fun v H' p => q v H' p
theorem if_run {c : TT} {t u v : TS} {D : Ends} {σ : L2.St} {H : Hp} (Pv : Bool → Hp → Prop) (h : ∀ Q' : Bool → Hp → Prop, (∀ b H', Pv b H' → Q' b H') → c σ H Q')
    (q : ∀ b H', Pv b H' → if b = true then t { D with nx := v D } σ H' else u { D with nx := v D } σ H') : tSeq (tIfS c t u) v D σ H := h _ fun b H' p => q b H' p
theorem str_at {xs : List Str} {d : Int} (h0 : 0 ≤ d) (h1 : d < xs.length) : ∃ x, x ∈ xs ∧ atI (xs.map V.str) d = some (.str x) := by
  have hl : d.toNat < xs.length := by omega
  refine ⟨xs[d.toNat], List.getElem_mem hl, ?_⟩
  have e : d = (d.toNat : Int) := by omega
  have r : atI (xs.map V.str) (d.toNat : Int) = some (.str xs[d.toNat]) := atI_nat (by rw [List.getElem?_map, List.getElem?_eq_getElem hl]; rfl)
  rw [← e] at r
  exact r
theorem ok__law_any (T : Tx K mg w) : ∀ n, FnOk P w K mg base CX0 (n + 1) T.a__law_any T.d__law_any ["source", "names", "depth"] (sp_any K n)
  | 0 => by
    have no : ∀ vs H Q E, ¬ sp_any K 0 vs H Q E := fun vs H Q E ⟨p, ce, a, d, xs, _, _, _, _, _, _, hd, _⟩ => by omega
    exact ⟨fun vs H Q E h => absurd h (no vs H Q E), fun A outer s H args us vs Q E _ _ _ _ h => absurd h (no vs H Q E)⟩
  | n + 1 => by
    have G__law_any := ok__law_any T n
    have G__law_pick := ok__law_pick (P := P) (w := w) (base := base) T
    refine T.F__law_any.ok sc__law_any (fun vs H Q E h => ?_) (fun cdv A outer s H vs Q E hr h => ?_)
    · obtain ⟨p, ce, a, d, xs, rfl, _⟩ := h
      rfl
    obtain ⟨p, ce, a, d, xs, rfl, hs, ap, ha, x1, x2, hd, q⟩ := h
    refine ⟨_, pss_cons (ps_set (i := 3) sc__law_any.nd rfl (Or.inl rfl) (pe_ifExp (pt_cmpR op_gt (pv 2) pe_int (nomark _)) (pe_call G__law_pick (hr.mono (by omega)) (by rfl) T.g__law_pick T.F__law_pick.kp T.b__law_pick .nil pass0 (pa_cons (pv 0) (pa_cons pe_int pa_nil))) (pe_call G__law_pick (hr.mono (by omega)) (by rfl) T.g__law_pick T.F__law_pick.kp T.b__law_pick .nil pass0 (pa_cons (pv 0) (pa_cons pe_int pa_nil)))))
    (pss_cons (ps_set (i := 4) sc__law_any.nd rfl (Or.inl rfl) (pe_ix ix_list (pv 1) (pe_call G__law_pick (hr.mono (by omega)) (by rfl) T.g__law_pick T.F__law_pick.kp T.b__law_pick .nil pass0 (pa_cons (pv 0) (pa_cons (pe_callB call_len_seq (by rfl) T.n_len (by decide +kernel) (pa_cons (pv 1) pa_nil)) pa_nil))) (fun _ _ => rfl)))
    (pss_cons (ps_if (pt_cmpR op_eq (pv 3) pe_int (nomark _)) (pss_one (ps_ret (pe_ix ix_list (pe_lst (pa_cons (pe_tup (pa_cons pe_str pa_nil)) (pa_cons (pe_tup (pa_cons pe_str pa_nil)) pa_nil))) (pe_call G__law_pick (hr.mono (by omega)) (by rfl) T.g__law_pick T.F__law_pick.kp T.b__law_pick .nil pass0 (pa_cons (pv 0) (pa_cons pe_int pa_nil))) (fun _ _ => rfl)))) pss_nil)
    (pss_cons (ps_if (pt_cmpR op_lt (pv 3) pe_int (nomark _)) (pss_one (ps_ret (pe_ifExp (pt_cmpR op_eq (pv 3) pe_int (nomark _)) (pe_tup (pa_cons pe_str (pa_cons (pv 4) pa_nil))) (pe_tup (pa_cons pe_str (pa_cons (pv 4) pa_nil)))))) pss_nil)
    (pss_cons (ps_if (pt_cmpR op_eq (pv 3) pe_int (nomark _)) (pss_one (ps_ret (pe_tup (pa_cons pe_str (pa_cons (pe_ix ix_list (pe_lst (pa_cons pe_str (pa_cons pe_str (pa_cons pe_str (pa_cons pe_str (pa_cons pe_str pa_nil)))))) (pe_call G__law_pick (hr.mono (by omega)) (by rfl) T.g__law_pick T.F__law_pick.kp T.b__law_pick .nil pass0 (pa_cons (pv 0) (pa_cons pe_int pa_nil))) (fun _ _ => rfl)) pa_nil))))) pss_nil)
    (pss_cons (ps_set (i := 5) sc__law_any.nd rfl (Or.inl rfl) (pe_call G__law_any (hr.mono (by omega)) (by rfl) T.g__law_any T.F__law_any.kp T.b__law_any .nil pass0 (pa_cons (pv 0) (pa_cons (pv 1) (pa_cons (pe_op op_sub (pv 2) pe_int) pa_nil)))))
    (pss_cons (ps_if (pt_cmpR op_lt (pv 3) pe_int (nomark _)) (pss_one (ps_ret (pe_tup (pa_cons (pe_ix ix_list (pe_lst (pa_cons pe_str (pa_cons pe_str pa_nil))) (pe_op op_sub (pv 3) pe_int) (fun _ _ => rfl)) (pa_cons (pv 5) pa_nil))))) pss_nil)
    (pss_cons (ps_if (pt_cmpR op_lt (pv 3) pe_int (nomark _)) (pss_one (ps_ret (pe_tup (pa_cons (pe_ix ix_list (pe_lst (pa_cons pe_str (pa_cons pe_str pa_nil))) (pe_op op_mod (pe_callTy call_int1 (by rfl) T.n_int (by decide +kernel) (pa_cons (pv 3) pa_nil)) pe_int) (fun _ _ => rfl)) (pa_cons (pv 4) (pa_cons (pv 5) pa_nil)))))) pss_nil)
    (pss_one (ps_ret (pe_tup (pa_cons (pe_ix ix_list (pe_lst (pa_cons pe_str (pa_cons pe_str pa_nil))) (pe_op op_mod (pe_callTy call_int1 (by rfl) T.n_int (by decide +kernel) (pa_cons (pv 3) pa_nil)) pe_int) (fun _ _ => rfl)) (pa_cons (pv 5) (pa_cons (pe_call G__law_any (hr.mono (by omega)) (by rfl) T.g__law_any T.F__law_any.kp T.b__law_any .nil pass0 (pa_cons (pv 0) (pa_cons (pv 1) (pa_cons (pe_op op_sub (pv 2) pe_int) pa_nil)))) pa_nil))))))))))))), ?_⟩
    refine set_run (fun v H1 => ∃ k : Int, v = .int k ∧ But p H H1 ∧ Src K ce H1 p ∧ 0 ≤ k ∧ k < 12 ∧ (k < 4 ∨ 0 < d)) (fun Q' q' => ?_) ?_
    · refine ⟨_, rfl, _, _, rfl, rfl, _, rfl, ?_⟩
      refine ite2 (fun c => ?_) (fun c => ?_)
      · have c := of_decide_eq_true c
        exact ⟨_, rfl, p, ce, 12, rfl, hs, by decide, fun k H1 b1 s1 k0 k1 => q' _ _ ⟨k, rfl, b1, s1, k0, by omega, .inr (by omega)⟩⟩
      · exact ⟨_, rfl, p, ce, 4, rfl, hs, by decide, fun k H1 b1 s1 k0 k1 => q' _ _ ⟨k, rfl, b1, s1, k0, by omega, .inl (by omega)⟩⟩
    rintro v H1 ⟨k, rfl, b1, s1, k0, k1, kd⟩
    have ha1 := b1.seq ap ha
    refine ⟨_, rfl, _, rfl, _, rfl, a, _, rfl, .inl ha1, p, ce, _, rfl, s1, by rw [List.length_map]; omega, fun j H2 b2 s2 j0 j1 => ?_⟩
    rw [List.length_map] at j1
    obtain ⟨x, xm, ax⟩ := str_at (xs := xs) j0 (by omega)
    have b12 := b1.trans b2
    refine ⟨a, _, _, _, rfl, rfl, b12.seq ap ha, ax, ?_⟩
    refine ⟨_, rfl, rfl, _, rfl, ?_⟩
    refine ite2 (fun c => ?_) (fun c => ?_)
    · refine ⟨(by show 1 ≤ sizeLine; decide), newQ (.tup [.str "true"]) fun t1 _ s3 h3 => ?_⟩
      generalize upd H2 t1 (.tup [.str "true"]) = H3 at s3 h3 ⊢
      refine ⟨(by show 1 ≤ sizeLine; decide), newQ (.tup [.str "false"]) fun t2 _ s4 h4 => ?_⟩
      generalize upd H3 t2 (.tup [.str "false"]) = H4 at s4 h4 ⊢
      refine ⟨(by show 2 ≤ sizeLine; decide), newQ (.lst [.ref t1, .ref t2]) fun l hl s5 h5 => ?_⟩
      generalize upd H4 l (.lst [.ref t1, .ref t2]) = H5 at s5 h5 ⊢
      have s25 := (s3.trans s4).trans s5
      refine ⟨_, rfl, p, ce, 2, rfl, s2.same s25, by decide, fun i H6 b6 s6 i0 i1 => ?_⟩
      have lp : l ≠ p := ((s2.same s3).same s4).ne hl
      obtain ⟨b, y, ab, yb⟩ : ∃ (b : Bool) (y : Addr), atI [V.ref t1, V.ref t2] i = some (.ref y) ∧ H5 y = some (.tup [.str (Fm.hLit b)]) := by
        rcases (by omega : i = 0 ∨ i = 1) with rfl | rfl
        · exact ⟨true, t1, rfl, s5.at (s4.at h3)⟩
        · exact ⟨false, t2, rfl, s5.at h4⟩
      refine ⟨l, _, _, _, rfl, rfl, b6.seq lp (SqL.of (K := K) h5), ab, ?_⟩
      have k6 := (s2.same s25).keeps b6
      exact q (.lit b) _ H6 ((b12.trans (s25.but p)).trans b6) s6 ⟨y, rfl, k6.sqT (SqT.of (K := K) yb)⟩ (by show 1 ≤ d + 1; omega) (Nat.one_lt_two_pow (by omega)) trivial
    refine ⟨_, rfl, _, _, rfl, rfl, _, rfl, ?_⟩
    refine ite2 (fun c3 => ?_) (fun c3 => ?_)
    · refine ⟨_, rfl, rfl, _, rfl, ?_⟩
      refine ite2 (fun c4 => ?_) (fun c4 => ?_)
      · refine ⟨_, rfl, (by show 2 ≤ sizeLine; decide), newO fun t H3 _ s3 h3 => ?_⟩
        exact q (.name x) _ H3 (b12.trans (s3.but p)) (s2.same s3) ⟨t, rfl, SqT.of (K := K) h3⟩ (by show 1 ≤ d + 1; omega) (Nat.one_lt_two_pow (by omega)) xm
      · refine ⟨_, rfl, (by show 2 ≤ sizeLine; decide), newO fun t H3 _ s3 h3 => ?_⟩
        exact q (.mark x) _ H3 (b12.trans (s3.but p)) (s2.same s3) ⟨t, rfl, SqT.of (K := K) h3⟩ (by show 1 ≤ d + 1; omega) (Nat.one_lt_two_pow (by omega)) xm
    refine ⟨_, rfl, rfl, _, rfl, ?_⟩
    refine ite2 (fun c4 => ?_) (fun c4 => ?_)
    · refine ⟨(by show 5 ≤ sizeLine; decide), newQ (.lst [.str "01", .str "hi", .str "<0/1>", .str "{a,b}", .str "3"]) fun l hl s3 h3 => ?_⟩
      generalize upd H2 l (.lst [.str "01", .str "hi", .str "<0/1>", .str "{a,b}", .str "3"]) = H3 at s3 h3 ⊢
      refine ⟨_, rfl, p, ce, 5, rfl, s2.same s3, by decide, fun i H6 b6 s6 i0 i1 => ?_⟩
      have lp : l ≠ p := s2.ne hl
      obtain ⟨y, ym, ay⟩ := str_at (xs := vals) i0 (by show i < 5; omega)
      refine ⟨l, vals.map V.str, _, _, rfl, rfl, b6.seq lp (SqL.of (K := K) h3), ay, (by show 2 ≤ sizeLine; decide), newO fun t H7 _ s7 h7 => ?_⟩
      exact q (.val y) _ H7 (((b12.trans (s3.but p)).trans b6).trans (s7.but p)) (s6.same s7) ⟨t, rfl, SqT.of (K := K) h7⟩ (by show 1 ≤ d + 1; omega) (Nat.one_lt_two_pow (by omega)) ym
    have k4 : 4 ≤ k := by
      have := of_decide_eq_false (Bool.eq_false_iff.mpr c3)
      have : k ≠ 3 := fun e => c4 (by rw [e]; rfl)
      omega
    obtain ⟨d, rfl⟩ : ∃ e, d = e + 1 := ⟨d - 1, by omega⟩
    refine ⟨_, rfl, _, rfl, _, rfl, _, _, rfl, rfl, p, ce, a, d, xs, (by show [V.ref p, V.ref a, V.int (((d + 1 : Nat) : Int) - 1)] = _; rw [show (((d + 1 : Nat) : Int) - 1) = (d : Int) by omega]), s2, ap, b12.seq ap ha, x1, x2, by omega, fun f v H3 b3 s3 f3 fd fz fl => ?_⟩
    have b13 := b12.trans b3
    refine ⟨_, rfl, _, _, rfl, rfl, _, rfl, ?_⟩
    refine ite2 (fun c5 => ?_) (fun c5 => ?_)
    · have c5 := of_decide_eq_true c5
      refine ⟨(by show 2 ≤ sizeLine; decide), newQ (.lst [.str "some", .str "all"]) fun l hl s4 h4 => ?_⟩
      generalize upd H3 l (.lst [.str "some", .str "all"]) = H4 at s4 h4 ⊢
      obtain ⟨b, eb⟩ : ∃ b : Bool, atI [V.str "some", V.str "all"] (k - 4) = some (.str (Fm.hUn b)) := by
        rcases (by omega : k - 4 = 0 ∨ k - 4 = 1) with e | e
        · exact ⟨true, by rw [e]; rfl⟩
        · exact ⟨false, by rw [e]; rfl⟩
      refine ⟨_, rfl, _, _, rfl, rfl, l, _, _, _, rfl, rfl, SqL.of (K := K) h4, eb, _, rfl, (by show 2 ≤ sizeLine; decide), newO fun t H7 _ s7 h7 => ?_⟩
      exact q (.un b f) _ H7 ((b13.trans (s4.but p)).trans (s7.but p)) ((s3.same s4).same s7) ⟨t, v, rfl, SqT.of (K := K) h7, (f3.same s4).same s7⟩ (by show f.depth + 1 ≤ _; omega)
        (by show f.size + 1 < _; rw [Nat.pow_succ]; omega) fl
    refine ⟨_, rfl, _, _, rfl, rfl, _, rfl, ?_⟩
    refine ite2 (fun c6 => ?_) (fun c6 => ?_)
    · refine ⟨(by show 2 ≤ sizeLine; decide), newQ (.lst [.str "least", .str "most"]) fun l hl s4 h4 => ?_⟩
      generalize upd H3 l (.lst [.str "least", .str "most"]) = H4 at s4 h4 ⊢
      obtain ⟨b, eb⟩ : ∃ b : Bool, atI [V.str "least", V.str "most"] (k % 2) = some (.str (Fm.hFix b)) := by
        rcases (by omega : k % 2 = 0 ∨ k % 2 = 1) with e | e
        · exact ⟨true, by rw [e]; rfl⟩
        · exact ⟨false, by rw [e]; rfl⟩
      refine ⟨_, rfl, .inl ⟨_, rfl, _, _, rfl, rfl, (by show (0 : Int) < 2; decide), l, _, _, _, rfl, rfl, SqL.of (K := K) h4, eb, _, rfl, _, rfl, (by show 3 ≤ sizeLine; decide), newO fun t H7 _ s7 h7 => ?_⟩⟩
      exact q (.fix b x f) _ H7 ((b13.trans (s4.but p)).trans (s7.but p)) ((s3.same s4).same s7) ⟨t, v, rfl, SqT.of (K := K) h7, (f3.same s4).same s7⟩ (by show f.depth + 1 ≤ _; omega)
        (by show f.size + 1 < _; rw [Nat.pow_succ]; omega) ⟨xm, fl⟩
    refine ⟨(by show 2 ≤ sizeLine; decide), newQ (.lst [.str "and", .str "or"]) fun l hl s4 h4 => ?_⟩
    generalize upd H3 l (.lst [.str "and", .str "or"]) = H4 at s4 h4 ⊢
    obtain ⟨b, eb⟩ : ∃ b : Bool, atI [V.str "and", V.str "or"] (k % 2) = some (.str (Fm.hBin b)) := by
      rcases (by omega : k % 2 = 0 ∨ k % 2 = 1) with e | e
      · exact ⟨true, by rw [e]; rfl⟩
      · exact ⟨false, by rw [e]; rfl⟩
    have b14 := b13.trans (s4.but p)
    have s4' := s3.same s4
    refine ⟨_, rfl, .inl ⟨_, rfl, _, _, rfl, rfl, (by show (0 : Int) < 2; decide), l, _, _, _, rfl, rfl, SqL.of (K := K) h4, eb, _, rfl, ?_⟩⟩
    refine ⟨_, rfl, _, rfl, _, rfl, _, _, rfl, rfl, p, ce, a, d, xs, (by show [V.ref p, V.ref a, V.int (((d + 1 : Nat) : Int) - 1)] = _; rw [show (((d + 1 : Nat) : Int) - 1) = (d : Int) by omega]), s4', ap, b14.seq ap ha, x1, x2, by omega, fun f2 v2 H5 b5 s5 f5 fd5 fz5 fl5 => ?_⟩
    refine ⟨(by show 3 ≤ sizeLine; decide), newO fun t H7 _ s7 h7 => ?_⟩
    exact q (.bin b f f2) _ H7 ((b14.trans b5).trans (s7.but p)) (s5.same s7) ⟨t, v, v2, rfl, SqT.of (K := K) h7, ((f3.same s4).keep (s4'.keeps b5)).same s7, f5.same s7⟩ (by show max f.depth f2.depth + 1 ≤ _; omega)
      (by show f.size + f2.size + 1 < _; rw [Nat.pow_succ]; omega) ⟨fl, fl5⟩
end
section
variable {K : PySem.W.Frag}
theorem NameOk.strOk {x : Str} (h : NameOk x) : PyData.strOk x = true := by
  unfold PyData.strOk
  rw [Array.all_eq_true]
  intro i hi
  have q := h.all x.cps[i] (Array.getElem_mem_toList hi)
  simp only [isLow, isFig, Bool.or_eq_true, Bool.and_eq_true, decide_eq_true_eq] at q
  exact decide_eq_true (by omega)
theorem vals_ok : ∀ s ∈ vals, PyData.strOk s = true := by decide +kernel
theorem vals_len : ∀ s ∈ vals, s.length ≤ 20 := by decide +kernel
theorem dpAll_strs {H : Hp} : ∀ xs : List Str, DpAll K H (xs.map V.str) (xs.map PyData.str)
  | [] => .nil
  | x :: xs => .cons (.str x) (dpAll_strs xs)
theorem dp_strs {H : Hp} {a : Addr} {xs : List Str} (h : SqL K H a (xs.map V.str)) : Dp K H (.ref a) (.list (xs.map PyData.str)) := .lst h (dpAll_strs xs)
theorem eqvAll_strs : ∀ xs : List Str, PyData.eqvAll (xs.map PyData.str) (xs.map PyData.str) = true
  | [] => by simp [PyData.eqvAll]
  | x :: xs => by simp [PyData.eqvAll, PyData.eqv, eqvAll_strs xs]
theorem eqv_strs (xs : List Str) : PyData.eqv (.list (xs.map PyData.str)) (.list (xs.map PyData.str)) = true := by simp [PyData.eqv, eqvAll_strs xs]
theorem depth_strs : ∀ xs : List Str, PyData.depthAll (xs.map PyData.str) ≤ 1
  | [] => by simp [PyData.depthAll]
  | x :: xs => by have := depth_strs xs; simp [PyData.depthAll, PyData.depth]; omega
theorem lay_strs : ∀ xs : List Str, (∀ z ∈ xs, PyData.strOk z = true) → PyData.canLayAll0 (xs.map PyData.str) = true
  | [], _ => by simp [PyData.canLayAll0]
  | x :: xs, h => by simp [PyData.canLayAll0, PyData.canLay0, lay_strs xs (fun z hz => h z (.tail _ hz)), h x (.head _)]
theorem shp_strs {xs : List Str} (h : ∀ z ∈ xs, PyData.strOk z = true) : Shp 190 (.list (xs.map PyData.str)) :=
  ⟨by simp [PyData.canLay0, lay_strs xs h], by have := depth_strs xs; simp [PyData.depth]; omega⟩
theorem inV_strs (x : Str) : ∀ xs : List Str, inV (.str x) (xs.map V.str) = decide (x ∈ xs)
  | [] => rfl
  | y :: ys => by
    show ((y == x) || inV (.str x) (ys.map V.str)) = _
    rw [inV_strs x ys]
    by_cases h : y = x
    · subst h; simp
    · have : ¬ x = y := fun e => h e.symm
      simp [h, this]
theorem flat_strs : ∀ xs : List Str, (xs.map V.str).all flatV = true
  | [] => rfl
  | _ :: ys => flat_strs ys
theorem inV_trues : ∀ n : Nat, inV (.bl false) (List.replicate n (V.bl true)) = false
  | 0 => rfl
  | n + 1 => inV_trues n
theorem flat_trues : ∀ n : Nat, (List.replicate n (V.bl true)).all flatV = true
  | 0 => rfl
  | n + 1 => flat_trues n
end
section
variable {K : PySem.W.Frag}
theorem tyx_tup {H : Hp} {p : Addr} {xs : List V} (h : SqT K H p xs) : TyX K H (.ref p) (.type "tuple") := by
  rcases h with (h | ⟨o, h⟩) | ⟨o, its, n, h, c, _⟩
  · exact .base (.tup h)
  · exact .fTuple h
  · exact .kTuple h c
theorem kit_tt : PySem.W.kitOne K (.type "tuple") (.type "tuple") = some true := kit_ty (by decide +kernel)
theorem kit_st : PySem.W.kitOne K (.type "str") (.type "tuple") = some false := kit_ty (by decide +kernel)
end
/-! ### the law's own parts_of and with_parts -/
section
variable {P : Program} {w : World} {K : PySem.W.Frag} {mg : Str → Option Value} {base : Heap}
/-- the fields: parts and others -/
def Fm.flds : Fm → List (Option Fm)
  | .lit _ => [none]
  | .val _ | .mark _ | .name _ => [none, none]
  | .bin _ l r => [none, some l, some r]
  | .un _ a => [none, some a]
  | .fix _ _ a => [none, none, some a]
theorem Fm.flds_parts : ∀ f : Fm, f.flds.filterMap id = f.parts
  | .lit _ | .val _ | .mark _ | .name _ | .bin _ _ _ | .un _ _ | .fix _ _ _ => rfl
theorem Fm.flds_three : ∀ f : Fm, f.flds.length ≤ 3
  | .lit _ => by show 1 ≤ 3; omega
  | .val _ | .mark _ | .name _ | .un _ _ => by show 2 ≤ 3; omega
  | .bin _ _ _ | .fix _ _ _ => Nat.le_refl _
def Fm.cntP (f : Fm) (i : Nat) : Nat := ((f.flds.take i).filterMap id).length
theorem Rest.flds {H : Hp} {f : Fm} {xs : List V} (r : Rest K H f xs) : f.flds.length = xs.length + 1 ∧ ∀ (i : Nat) (x : V), (V.str f.head :: xs)[i]? = some x →
    (∃ s, x = .str s ∧ f.flds[i]? = some none) ∨ ∃ g, Rf K H g x ∧ f.flds[i]? = some (some g) := by
  cases f with
  | lit b =>
    obtain rfl := r
    refine ⟨rfl, fun i x h => ?_⟩
    match i, h with
    | 0, h => cases h; exact .inl ⟨_, rfl, rfl⟩
  | val s | mark s | name s =>
    obtain rfl := r
    refine ⟨rfl, fun i x h => ?_⟩
    match i, h with
    | 0, h => cases h; exact .inl ⟨_, rfl, rfl⟩
    | 1, h => cases h; exact .inl ⟨_, rfl, rfl⟩
  | bin b l r' =>
    obtain ⟨x1, x2, rfl, h1, h2⟩ := r
    refine ⟨rfl, fun i x h => ?_⟩
    match i, h with
    | 0, h => cases h; exact .inl ⟨_, rfl, rfl⟩
    | 1, h => cases h; exact .inr ⟨l, h1, rfl⟩
    | 2, h => cases h; exact .inr ⟨r', h2, rfl⟩
  | un b a =>
    obtain ⟨x1, rfl, h1⟩ := r
    refine ⟨rfl, fun i x h => ?_⟩
    match i, h with
    | 0, h => cases h; exact .inl ⟨_, rfl, rfl⟩
    | 1, h => cases h; exact .inr ⟨a, h1, rfl⟩
  | fix b s a =>
    obtain ⟨x1, rfl, h1⟩ := r
    refine ⟨rfl, fun i x h => ?_⟩
    match i, h with
    | 0, h => cases h; exact .inl ⟨_, rfl, rfl⟩
    | 1, h => cases h; exact .inl ⟨_, rfl, rfl⟩
    | 2, h => cases h; exact .inr ⟨a, h1, rfl⟩
theorem ok__law_parts (T : Tx K mg w) : FnOk P w K mg base CX0 1 T.a__law_parts T.d__law_parts ["formula"] (sp_parts K) := by
  refine T.F__law_parts.ok sc__law_parts (fun vs H Q E h => ?_) (fun cdv A outer s H vs Q E hr h => ?_)
  · obtain ⟨f, v, rfl, _⟩ := h
    rfl
  obtain ⟨f, v, rfl, hf, q⟩ := h
  refine ⟨_, pss_one (ps_ret (pe_lc (own := [("field", 1)]) (g := gName 1) rfl sc__law_parts.nd (pi_tup (pv 0)) (blkOk_by (N := N__law_parts) (sc := defScope St__law_parts) (by decide +kernel)) (fun _ _ _ _ _ => (pg_name (i := 1) sc__law_parts.nd rfl (Or.inl rfl))) (fun _ _ _ _ _ => (pts_one (pt_val (pe_callB (kx_call_isi K) (by rfl) T.n_isinstance (by decide +kernel) (pa_cons (pv 1) (pa_cons (pe_bltn (v := .ty "tuple") (u := .type "tuple") (by rfl) T.n_tuple (by decide +kernel) rfl) pa_nil)))))) (fun _ _ _ _ _ => (pv 1)))), ?_⟩
  obtain ⟨p, xs, rfl, hp, rs⟩ := hf.out
  refine ⟨_, rfl, p, rfl, ⟨_, hp⟩, fun D hD => ?_⟩
  obtain ⟨fl, _⟩ := rs.flds
  refine lc_fold (walk_tup (K := K) (a := p) (xs := .str f.head :: xs)) hD (fun i H5 ys => i ≤ f.flds.length ∧ ys.length = f.cntP i ∧ ∀ (j : Nat) (y : V), ys[j]? = some y → ∃ g, ((f.flds.take i).filterMap id)[j]? = some g ∧ Rf K H5 g y) (fun _ => ⟨Nat.zero_le _, rfl, fun j y h => by simp at h⟩)
    (fun i H5 H6 xs k ⟨a, b, c⟩ => ⟨a, b, fun j y h => by obtain ⟨g, e, r⟩ := c j y h; exact ⟨g, e, r.keep k⟩⟩) ?_ (fun H5 s6 => s6.keeps.sqT hp) ?_ ?_
  · rintro i H5 ys ⟨hi, hl, _⟩
    have a1 := List.length_filterMap_le id (f.flds.take i)
    rw [List.length_take] at a1
    have := f.flds_three
    rw [hl, Fm.cntP]
    omega
  · rintro i x H5 H6 ys Nx Ex hi s6 ⟨hil, hl, hy⟩ ⟨rfl, hx⟩ k1 k2
    refine ⟨rfl, ?_⟩
    rcases (rs.keep s6.keeps).flds.2 i x hx with ⟨z, rfl, ez⟩ | ⟨g, rg, ez⟩
    · refine ⟨_, rfl, _, _, _, _, _, rfl, .ty "tuple", .base (.str z), kit_st, _, rfl, ?_⟩
      have e : (f.flds.take (i + 1)).filterMap id = (f.flds.take i).filterMap id := by rw [take_snoc ez, List.filterMap_append]; simp
      refine iteF (k2 _ (Same.refl _) ⟨(List.getElem?_eq_some_iff.mp ez).1, by rw [hl, Fm.cntP, Fm.cntP, e], fun j y h => by rw [e]; exact hy j y h⟩)
    · obtain ⟨p2, xs2, rfl, hp2, _⟩ := rg.out
      have e : (f.flds.take (i + 1)).filterMap id = (f.flds.take i).filterMap id ++ [g] := by rw [take_snoc ez, List.filterMap_append]; simp
      refine ⟨_, rfl, _, _, _, _, _, rfl, .ty "tuple", tyx_tup hp2, kit_tt, _, rfl, ?_⟩
      refine iteT ⟨_, rfl, k1 _ _ (Same.refl _) ⟨(List.getElem?_eq_some_iff.mp ez).1, by rw [List.length_append, hl, Fm.cntP, Fm.cntP, e, List.length_append]; rfl, fun j y h => ?_⟩⟩
      rw [e]
      rcases snoc_at h with h | ⟨rfl, rfl⟩
      · obtain ⟨g', e', r'⟩ := hy j y h
        exact ⟨g', by rw [List.getElem?_append_left (List.getElem?_eq_some_iff.mp e').1]; exact e', r'⟩
      · refine ⟨g, ?_, rg⟩
        rw [hl, Fm.cntP, List.getElem?_append_right (Nat.le_refl _), Nat.sub_self]; rfl
  · rintro H5 ys s6 hD5 ⟨_, hl, hy⟩
    have e : (V.str f.head :: xs).length = f.flds.length := by rw [fl]; rfl
    rw [e, List.take_length, f.flds_parts] at hy
    rw [e, Fm.cntP, List.take_length, f.flds_parts] at hl
    exact q D ys H5 s6 hD hD5 hl hy
end
section
variable {P : Program} {w : World} {K : PySem.W.Frag} {mg : Str → Option Value} {base : Heap}
theorem Rest.rows {H : Hp} {f : Fm} {xs : List V} (r : Rest K H f xs) {gs : List Fm} {ys : List V} (hl : ys.length = f.parts.length) (hg : gs.length = f.parts.length) (h : ∀ (i : Nat) (y : V), ys[i]? = some y → ∃ g, gs[i]? = some g ∧ Rf K H g y) :
    ∃ zs, Rest K H (f.withParts gs) zs ∧ (f.withParts gs).head = f.head ∧ zs.length = xs.length ∧ ∀ (i : Nat) (x : V), (V.str f.head :: xs)[i]? = some x →
      (∃ s, x = .str s ∧ f.flds[i]? = some none ∧ (V.str f.head :: zs)[i]? = some x) ∨ ∃ g y, Rf K H g x ∧ f.flds[i]? = some (some g) ∧ ys[f.cntP i]? = some y ∧ (V.str f.head :: zs)[i]? = some y := by
  cases f with
  | lit b =>
    obtain rfl := r
    refine ⟨[], rfl, rfl, rfl, fun i x h => ?_⟩
    match i, h with
    | 0, h => cases h; exact .inl ⟨_, rfl, rfl, rfl⟩
  | val s | mark s | name s =>
    obtain rfl := r
    refine ⟨[.str s], rfl, rfl, rfl, fun i x h => ?_⟩
    match i, h with
    | 0, h => cases h; exact .inl ⟨_, rfl, rfl, rfl⟩
    | 1, h => cases h; exact .inl ⟨_, rfl, rfl, rfl⟩
  | bin b l r' =>
    obtain ⟨x1, x2, rfl, h1, h2⟩ := r
    match gs, hg, ys, hl with
    | [g1, g2], _, [y1, y2], _ =>
      obtain ⟨g, e, q1⟩ := h 0 _ rfl
      obtain ⟨g', e', q2⟩ := h 1 _ rfl
      cases e; cases e'
      refine ⟨[y1, y2], ⟨_, _, rfl, q1, q2⟩, rfl, rfl, fun i x h => ?_⟩
      match i, h with
      | 0, h => cases h; exact .inl ⟨_, rfl, rfl, rfl⟩
      | 1, h => cases h; exact .inr ⟨l, y1, h1, rfl, rfl, rfl⟩
      | 2, h => cases h; exact .inr ⟨r', y2, h2, rfl, rfl, rfl⟩
  | un b a =>
    obtain ⟨x1, rfl, h1⟩ := r
    match gs, hg, ys, hl with
    | [g1], _, [y1], _ =>
      obtain ⟨g, e, q1⟩ := h 0 _ rfl
      cases e
      refine ⟨[y1], ⟨_, rfl, q1⟩, rfl, rfl, fun i x h => ?_⟩
      match i, h with
      | 0, h => cases h; exact .inl ⟨_, rfl, rfl, rfl⟩
      | 1, h => cases h; exact .inr ⟨a, y1, h1, rfl, rfl, rfl⟩
  | fix b s a =>
    obtain ⟨x1, rfl, h1⟩ := r
    match gs, hg, ys, hl with
    | [g1], _, [y1], _ =>
      obtain ⟨g, e, q1⟩ := h 0 _ rfl
      cases e
      refine ⟨[.str s, y1], ⟨_, rfl, q1⟩, rfl, rfl, fun i x h => ?_⟩
      match i, h with
      | 0, h => cases h; exact .inl ⟨_, rfl, rfl, rfl⟩
      | 1, h => cases h; exact .inl ⟨_, rfl, rfl, rfl⟩
      | 2, h => cases h; exact .inr ⟨a, y1, h1, rfl, rfl, rfl⟩
theorem pop_first {n : Nat} (h : 0 < n) : seqIndex? 0 n = some 0 := by
  unfold seqIndex?
  simp [h]
theorem drop_head {α : Type} {l : List α} {k : Nat} {y : α} (h : l[k]? = some y) : (l.drop k)[0]? = some y := by rw [List.getElem?_drop]; exact h
theorem ok__law_with (T : Tx K mg w) : FnOk P w K mg base CX0 1 T.a__law_with T.d__law_with ["formula", "parts"] (sp_with K) := by
  refine T.F__law_with.ok sc__law_with (fun vs H Q E h => ?_) (fun cdv A outer s H vs Q E hr h => ?_)
  · obtain ⟨f, v, p, gs, ys, rfl, _⟩ := h
    rfl
  obtain ⟨f, v, p, gs, ys, rfl, hf, hp, hl, hg, hY, q⟩ := h
  refine ⟨_, pss_cons (ps_set (i := 2) sc__law_with.nd rfl (Or.inr rfl) (pe_callTy call_list_of (by rfl) T.n_list (by decide +kernel) (pa_cons (pv 1) pa_nil)))
    (pss_one (ps_ret (pe_callTy call_tuple_of (by rfl) T.n_tuple (by decide +kernel) (pa_cons (pe_lc (own := [("field", 3)]) (g := gName 3) (tt := tYes) rfl sc__law_with.nd (pi_tup (pv 0)) (blkOk_by (N := N__law_with) (sc := defScope St__law_with) (by decide +kernel)) (fun _ _ _ _ _ => (pg_name (i := 3) sc__law_with.nd rfl (Or.inl rfl))) (fun _ _ _ _ _ => pts_nil) (fun _ _ _ _ _ => (pe_ifExp (pt_val (pe_callB (kx_call_isi K) (by rfl) T.n_isinstance (by decide +kernel) (pa_cons (pv 3) (pa_cons (pe_bltn (v := .ty "tuple") (u := .type "tuple") (by rfl) T.n_tuple (by decide +kernel) rfl) pa_nil)))) (kx_bm K (pe_bm PySem.F.plainAttrs_list PySem.F.slot_list_pop PySem.F.type_list_pop mt_popAt (pv 2) (pa_cons pe_int pa_nil))) (pv 3)))) pa_nil)))), ?_⟩
  obtain ⟨a, xs, rfl, ha, rs⟩ := hf.out
  obtain ⟨zs, rz, hh, lz, row⟩ := rs.rows hl hg hY
  refine ⟨_, rfl, p, ys, rfl, .inl hp, newO fun l H1 hl0 s1 h1 => ?_⟩
  refine ⟨_, rfl, a, rfl, ⟨_, s1.keeps.sqT ha⟩, fun D hD => ?_⟩
  have Dl : D ≠ l := (ne_of_none h1 hD).symm
  have hD0 : H D = none := by
    cases e : H D with
    | none => rfl
    | some o => rw [s1 D o e] at hD; cases hD
  refine lc_foldF (walk_tup (K := K) (a := a) (xs := .str f.head :: xs)) (fun H5 => Same H H5) (fun i H5 us => i ≤ f.flds.length ∧ H5 l = some (.lst (ys.drop (f.cntP i))) ∧ us = (V.str f.head :: zs).take i)
    (s1.mut hD0 _) (fun H5 us ws s _ => s.mut hD0 _) ⟨Nat.zero_le _, by rw [upd_ne Dl.symm]; exact h1, rfl⟩ (fun i H5 us ws os ⟨x1, x2, x3⟩ _ => ⟨x1, by rw [upd_ne Dl.symm]; exact x2, x3⟩) ?_ (fun H5 s5 => s5.keeps.sqT ha) ?_ ?_
  · rintro i H5 us ⟨hi, _, rfl⟩
    have := f.flds_three
    rw [List.length_take]; omega
  · rintro i x H5 H6 us Nx Ex hi s5 hDs ⟨hil, hl5, rfl⟩ ⟨rfl, hx⟩ k1 k2
    refine ⟨rfl, ?_⟩
    refine lcY ?_
    rcases row i x hx with ⟨z, rfl, ez, er⟩ | ⟨g, y, rg, ez, ey, er⟩
    · have e : (f.flds.take (i + 1)).filterMap id = (f.flds.take i).filterMap id := by rw [take_snoc ez, List.filterMap_append]; simp
      refine ⟨_, rfl, _, _, _, _, _, rfl, .ty "tuple", .base (.str z), kit_st, _, rfl, ?_⟩
      refine iteF ⟨_, rfl, k1 _ _ s5 hDs ⟨(List.getElem?_eq_some_iff.mp ez).1, by rw [Fm.cntP, e]; exact hl5, (take_snoc er).symm⟩⟩
    · have e : (f.flds.take (i + 1)).filterMap id = (f.flds.take i).filterMap id ++ [g] := by rw [take_snoc ez, List.filterMap_append]; simp
      obtain ⟨p2, xs2, rfl, hp2, _⟩ := rg.out
      refine ⟨_, rfl, _, _, _, _, _, rfl, .ty "tuple", tyx_tup (s5.keeps.sqT hp2), kit_tt, _, rfl, ?_⟩
      refine iteT ?_
      have hk : f.cntP i < ys.length := (List.getElem?_eq_some_iff.mp ey).1
      refine ⟨_, rfl, ?_, l, _, 0, 0, y, rfl, rfl, hl5, by decide, by decide, pop_first (by rw [List.length_drop]; omega), drop_head ey, ?_⟩
      · exact .inl ⟨rfl, _, SqL.of (K := K) hl5⟩
      refine k1 _ _ (s5.mut hl0 _) (by rw [upd_ne Dl]; exact hDs) ⟨(List.getElem?_eq_some_iff.mp ez).1, ?_, (take_snoc er).symm⟩
      have ek : f.cntP (i + 1) = f.cntP i + 1 := by rw [Fm.cntP, e, List.length_append]; rfl
      rw [upd_same, ek, List.eraseIdx_zero, List.tail_drop]
  · rintro H5 us s5 hD5 ⟨_, _, rfl⟩
    have en : (V.str f.head :: xs).length = (V.str f.head :: zs).length := by rw [List.length_cons, List.length_cons, lz]
    rw [en, List.take_length] at hD5
    refine ⟨D, _, rfl, .inl ⟨SqL.of (K := K) hD5, newO fun r H6 hr0 s6 h6 => ?_⟩⟩
    refine q _ H6 (s5.trans s6) (Rf.in_ ?_ ((rz.keep s5.keeps).keep s6.keeps))
    rw [hh]
    exact SqT.of (K := K) h6
end
section
variable {P : Program} {w : World} {K : PySem.W.Frag} {mg : Str → Option Value} {base : Heap}
/-- free names that are not bound around -/
def Fm.freeB (f : Fm) (bs : List Str) : List Str := f.free.filter fun y => decide (y ∉ bs)
theorem join_filter (p : Str → Bool) (xs ys : List Str) : (Fm.join xs ys).filter p = Fm.join (xs.filter p) (ys.filter p) := by
  unfold Fm.join
  rw [List.filter_append, List.filter_filter, List.filter_filter]
  refine congrArg _ (List.filter_congr fun y hy => ?_)
  by_cases h : p y = true
  · simp [h]
  · simp [h]
theorem joinAll_snoc (gs : List Fm) (g : Fm) : joinAll (gs ++ [g]) = Fm.join (joinAll gs) g.free := by
  unfold joinAll
  rw [List.foldl_append]
  rfl
theorem freeB_parts (f : Fm) (bs : List Str) (h : f.kindOf ≠ 3) : f.freeB bs = (joinAll f.parts).filter fun y => decide (y ∉ if f.kindOf = 6 then bs ++ [f.text] else bs) := by
  unfold Fm.freeB
  rw [joinAll_parts f h]
  by_cases h6 : f.kindOf = 6
  · rw [if_pos h6, if_pos h6, List.filter_filter]
    refine List.filter_congr fun y _ => ?_
    simp [not_or]
  · rw [if_neg h6, if_neg h6]
theorem freeB_name (x : Str) (bs : List Str) : (Fm.name x).freeB bs = if x ∈ bs then [] else [x] := by
  show [x].filter _ = _
  by_cases h : x ∈ bs <;> simp [h]
def sp_lfree (K : PySem.W.Frag) (n : Nat) : Sp := fun vs H Q _ => ∃ (f : Fm) (v : V) (b : Addr) (bs : List Str), vs = [v, .ref b] ∧ Rf K H f v ∧ H b = some (.lst (bs.map V.str)) ∧ f.depth ≤ n ∧ f.size ≤ 500 ∧ f.depth + bs.length ≤ 900 ∧
  ∀ (p : Addr) (H' : Hp), Same H H' → H p = none → H' p = some (.lst ((f.freeB bs).map V.str)) → Q (.ref p) H'
theorem ok__law_free (T : Tx K mg w) : ∀ n, FnOk P w K mg base CX0 (n + 2) T.a__law_free T.d__law_free ["formula", "bound"] (sp_lfree K n)
  | 0 => by
    have no : ∀ vs H Q E, ¬ sp_lfree K 0 vs H Q E := fun vs H Q E ⟨f, v, b, bs, _, _, _, hd, _⟩ => by have := f.depth_pos; omega
    exact ⟨fun vs H Q E h => absurd h (no vs H Q E), fun A outer s H args us vs Q E _ _ _ _ h => absurd h (no vs H Q E)⟩
  | n + 1 => by
    have G__law_free := ok__law_free T n
    have G__law_parts := ok__law_parts (P := P) (w := w) (base := base) T
    refine T.F__law_free.ok sc__law_free (fun vs H Q E h => ?_) (fun cdv A outer s H vs Q E hr h => ?_)
    · obtain ⟨f, v, b, bs, rfl, _⟩ := h
      rfl
    obtain ⟨f, v, b, bs, rfl, hf, hb, hd, hz, hz2, q⟩ := h
    refine ⟨_, pss_cons (ps_if (pt_cmpR op_eq (pe_ix ix_tup (pv 0) pe_int (fun _ _ => rfl)) pe_str (nomark _)) (pss_one (ps_ret (pe_ifExp (pt_cmpR op_in_seq (pe_ix ix_tup (pv 0) pe_int (fun _ _ => rfl)) (pv 1) (by rfl)) (pe_lst pa_nil) (pe_lst (pa_cons (pe_ix ix_tup (pv 0) pe_int (fun _ _ => rfl)) pa_nil))))) pss_nil)
    (pss_cons (ps_set (i := 2) sc__law_free.nd rfl (Or.inl rfl) (pe_ifExp (pt_cmpR op_in_seq (pe_ix ix_tup (pv 0) pe_int (fun _ _ => rfl)) (pe_lst (pa_cons pe_str (pa_cons pe_str pa_nil))) (by rfl)) (pe_op op_cat (pv 1) (pe_lst (pa_cons (pe_ix ix_tup (pv 0) pe_int (fun _ _ => rfl)) pa_nil))) (pv 1)))
    (pss_cons (ps_set (i := 3) sc__law_free.nd rfl (Or.inr rfl) (pe_lst pa_nil))
    (pss_cons (ps_for PassesOwn.never rfl (pi_list (pe_call G__law_parts (hr.mono (by omega)) (by rfl) T.g__law_parts T.F__law_parts.kp T.b__law_parts .nil pass0 (pa_cons (pv 0) pa_nil))) (pg_name (i := 4) sc__law_free.nd rfl (Or.inl rfl)) (pss_one (ps_set (i := 3) sc__law_free.nd rfl (Or.inr rfl) (pe_op op_cat (pv 3) (pe_lc (own := [("name", 5)]) (g := gName 5) rfl sc__law_free.nd (pi_list (pe_call G__law_free (hr.mono (by omega)) (by rfl) T.g__law_free T.F__law_free.kp T.b__law_free .nil pass0 (pa_cons (pv 4) (pa_cons (pv 2) pa_nil)))) (blkOk_by (N := N__law_free) (sc := defScope St__law_free) (by decide +kernel)) (fun _ _ _ _ _ => (pg_name (i := 5) sc__law_free.nd rfl (Or.inl rfl))) (fun _ _ _ _ _ => (pts_one (pt_cmpR (kx_op_notIn_seq K) (pv 5) (pv 3) (by rfl)))) (fun _ _ _ _ _ => (pv 5)))))))
    (pss_one (ps_ret (pv 3)))))), ?_⟩
    obtain ⟨p, xs, rfl, hp, rs⟩ := hf.out
    refine ⟨_, rfl, _, _, _, _, rfl, rfl, hp, atI_nat (j := 0) rfl, rfl, _, rfl, ?_⟩
    rw [eq_str, head_name]
    refine ite2 (fun c => ?_) (fun c => ?_)
    · obtain ⟨x, rfl⟩ := kind_name (of_decide_eq_true c)
      obtain rfl := rs
      refine ⟨_, rfl, _, _, _, _, rfl, rfl, hp, atI_nat (j := 1) rfl, _, rfl, b, _, rfl, .inl (SqL.of (K := K) hb), rfl, flat_strs _, _, rfl, ?_⟩
      rw [show (if false = true then !inV (.str x) (bs.map V.str) else inV (.str x) (bs.map V.str)) = decide (x ∈ bs) from inV_strs x bs]
      refine ite2 (fun c => ?_) (fun c => ?_)
      · refine ⟨(by show 0 ≤ sizeLine; decide), newO fun l H1 hl s1 h1 => q l H1 s1 hl ?_⟩
        rw [freeB_name, if_pos (of_decide_eq_true c)]; exact h1
      · refine ⟨_, rfl, _, _, _, _, rfl, rfl, hp, atI_nat (j := 1) rfl, (by show 1 ≤ sizeLine; decide), newO fun l H1 hl s1 h1 => q l H1 s1 hl ?_⟩
        rw [freeB_name, if_neg fun e => c (decide_eq_true e)]; exact h1
    · have c3 : f.kindOf ≠ 3 := fun e => c (decide_eq_true e)
      obtain ⟨ins, ei⟩ : ∃ ins, ins = (if f.kindOf = 6 then bs ++ [f.text] else bs) := ⟨_, rfl⟩
      refine nx_run ?_
      dsimp only
      refine set_run (fun v2 H1 => ∃ ib : Addr, v2 = .ref ib ∧ Same H H1 ∧ H1 ib = some (.lst (ins.map V.str))) (fun Q' q' => ?_) ?_
      · refine ⟨_, rfl, _, _, _, _, rfl, rfl, hp, atI_nat (j := 0) rfl, (by show 2 ≤ sizeLine; decide), newQ (.lst [.str "least", .str "most"]) fun t ht0 s4 h4 => ?_⟩
        generalize upd H t (.lst [.str "least", .str "most"]) = H4 at s4 h4 ⊢
        refine ⟨t, _, rfl, .inl (SqL.of (K := K) h4), rfl, rfl, _, rfl, ?_⟩
        rw [show (if false = true then !inV (.str f.head) [.str "least", .str "most"] else inV (.str f.head) [.str "least", .str "most"]) = decide (f.kindOf = 6) from (inV_str _ _ _).trans (head_fix f)]
        refine ite2 (fun c6 => ?_) (fun c6 => ?_)
        · have c6 := of_decide_eq_true c6
          obtain ⟨zs, ez⟩ := rs.text1 (.inr (.inr (.inr c6)))
          refine ⟨_, rfl, _, rfl, _, _, _, _, rfl, rfl, s4.keeps.sqT hp, atI_nat (j := 1) (by rw [ez]; rfl), (by show 1 ≤ sizeLine; decide), newQ (.lst [.str f.text]) fun t2 ht2 s5 h5 => ?_⟩
          generalize upd H4 t2 (.lst [.str f.text]) = H5 at s5 h5 ⊢
          rw [if_pos c6] at ei
          refine ⟨b, t2, _, _, rfl, rfl, s5.at (s4.at hb), h5, (by rw [List.length_map]; exact Nat.le_of_lt (smallM (by show bs.length + 1 ≤ _; omega))), newO fun r H6 hr0 s6 h6 => ?_⟩
          refine q' _ _ ⟨r, rfl, (s4.trans s5).trans s6, ?_⟩
          rw [h6, ei, List.map_append]; rfl
        · have c6 : ¬ f.kindOf = 6 := fun e => c6 (decide_eq_true e)
          rw [if_neg c6] at ei
          exact ⟨_, rfl, q' _ _ ⟨b, rfl, s4, by rw [ei]; exact s4.at hb⟩⟩
      rintro v2 H1 ⟨ib, rfl, s1, hib⟩
      refine ⟨(by show 0 ≤ sizeLine; decide), newQ (.lst []) fun l0 hl0 s2 h2 => ?_⟩
      generalize upd H1 l0 (.lst []) = H2 at s2 h2 ⊢
      refine ⟨_, rfl, f, _, rfl, (hf.same s1).same s2, fun l ys H3 s3 hl3 h3 el hY => ?_⟩
      have nn : ∀ {a : Addr}, H1 a = none → H a = none := fun {a} h => by
        cases e : H a with
        | none => rfl
        | some o => rw [s1 a o e] at h; cases h
      refine ⟨l, rfl, ⟨_, SqL.of (K := K) h3⟩, for_list (K := K) (a := l) (xs := ys) (fun i σ H4 => ∃ (v4 : Option V) (r : Addr), σ = [some (.ref p), some (.ref b), some (.ref ib), some (.ref r), v4, none] ∧ Same H3 H4 ∧ H r = none ∧ H4 r = some (.lst (((joinAll (f.parts.take i)).filter fun y => decide (y ∉ ins)).map V.str)))
        ⟨none, l0, rfl, Same.refl _, nn hl0, s3.at h2⟩ (fun i σ H4 _ ⟨_, _, _, e, _⟩ => SqL.of (K := K) (e.at h3)) ?_ ?_⟩
      · rintro i x σ H4 hx ⟨v4, r, rfl, s4, hr0, hr4⟩
        obtain ⟨g, hg, rg⟩ := hY i x hx
        have gm : g ∈ f.parts := List.mem_of_getElem? hg
        have gd := Fm.parts_depth gm
        have gz := size_parts gm
        have il : ins.length ≤ bs.length + 1 := by rw [ei]; split <;> simp
        have nd4 : ∀ {a : Addr}, H4 a = none → H a = none := fun {a} h => by
          cases e : H a with
          | none => rfl
          | some o => rw [(((s1.trans s2).trans s3).trans s4) a o e] at h; cases h
        refine ⟨_, rfl, _, rfl, _, rfl, g, x, ib, ins, rfl, rg.same s4, ((s2.trans s3).trans s4).at hib, by omega, by omega, by omega, fun u H5 s5 hu0 hu => ⟨u, rfl, ⟨_, SqL.of (K := K) hu⟩, fun D hD => ?_⟩⟩
        have rD : r ≠ D := ne_of_none (s5.at hr4) hD
        refine lc_fold (walk_list (K := K) (a := u) (xs := (g.freeB ins).map V.str)) hD (fun i' _ ys => i' ≤ (g.freeB ins).length ∧ ys = ((((g.freeB ins).take i').filter fun y => decide (y ∉ (joinAll (f.parts.take i)).filter fun y => decide (y ∉ ins))).map V.str)) (fun _ => ⟨Nat.zero_le _, rfl⟩) (fun _ _ _ _ _ h => h) ?_ (fun H6 s6 => SqL.of (K := K) (s6.at hu)) ?_ ?_
        · rintro i' H6 ys ⟨hi', rfl⟩
          have a1 := List.length_filter_le (fun y => decide (y ∉ (joinAll (f.parts.take i)).filter fun y => decide (y ∉ ins))) ((g.freeB ins).take i')
          have a2 := g.free_size
          have a3 : (g.freeB ins).length ≤ g.free.length := List.length_filter_le _ _
          rw [List.length_take] at a1
          rw [List.length_map]
          omega
        · rintro i' x' H6 H7 ys Nx Ex hi' s6 ⟨_, rfl⟩ ⟨rfl, hx'⟩ k1 k2
          rw [List.getElem?_map] at hx'
          obtain ⟨y, hy, rfl⟩ := Option.map_eq_some_iff.mp hx'
          have hl := (List.getElem?_eq_some_iff.mp hy).1
          refine ⟨rfl, _, rfl, _, rfl, r, _, rfl, .inl (SqL.of (K := K) (s6.at (s5.at hr4))), rfl, flat_strs _, _, rfl, ?_⟩
          rw [show (if true = true then !inV (.str y) (((joinAll (f.parts.take i)).filter fun y => decide (y ∉ ins)).map V.str) else inV (.str y) (((joinAll (f.parts.take i)).filter fun y => decide (y ∉ ins)).map V.str)) = !decide (y ∈ (joinAll (f.parts.take i)).filter fun y => decide (y ∉ ins)) from by rw [if_pos rfl, inV_strs]]
          refine ite2 (fun c => ?_) (fun c => ?_)
          · refine ⟨_, rfl, k1 _ _ (Same.refl _) ⟨hl, ?_⟩⟩
            rw [take_snoc hy, List.filter_append, List.filter_cons, if_pos (by simpa using c), List.filter_nil, List.map_append]
            rfl
          · refine k2 _ (Same.refl _) ⟨hl, ?_⟩
            rw [take_snoc hy, List.filter_append, List.filter_cons, if_neg (by simpa using c), List.filter_nil, List.append_nil]
        · rintro H6 _ s6 hD6 ⟨_, rfl⟩
          rw [List.length_map, List.take_length] at hD6
          have z1 := List.length_filter_le (fun y => decide (y ∉ ins)) (joinAll (f.parts.take i))
          have z2 := joinAll_take (f := f) i
          have z3 := List.length_filter_le (fun y => decide (y ∉ (joinAll (f.parts.take i)).filter fun y => decide (y ∉ ins))) (g.freeB ins)
          have z4 := g.free_size
          have z5 : (g.freeB ins).length ≤ g.free.length := List.length_filter_le _ _
          have s46 := s5.trans s6
          have s46' : Same H4 H6 := s46
          refine ⟨r, D, _, _, rfl, rfl, s46.at hr4, hD6, (by rw [List.length_map, List.length_map]; exact Nat.le_of_lt (smallM (by omega))), newO fun r2 H7 hr2 s7 h7 => ?_⟩
          refine ⟨_, r2, rfl, (s4.trans s46).trans s7, nd4 (s46.free hr2), ?_⟩
          rw [h7, take_snoc hg, joinAll_snoc, join_filter, ← List.map_append]
          rfl
      · rintro σ H4 ⟨v4, r, rfl, s4, hr0, hr4⟩
        rw [el, List.take_length] at hr4
        refine ⟨_, rfl, q r H4 (((s1.trans s2).trans s3).trans s4) hr0 ?_⟩
        rw [freeB_parts f bs c3, ← ei]
        exact hr4
end
section
variable {P : Program} {w : World} {K : PySem.W.Frag} {mg : Str → Option Value} {base : Heap}
def prs : List (Str × Str) := [("true", "false"), ("and", "or"), ("some", "all"), ("least", "most")]
def turn (s : Str) (p : Str × Str) (h : Str) : Str := if s = p.1 then p.2 else if s = p.2 then p.1 else h
def turned (s : Str) (i : Nat) : Str := (prs.take i).foldl (fun h p => turn s p h) s
theorem turned_snoc {s : Str} {i : Nat} {p : Str × Str} (h : prs[i]? = some p) : turned s (i + 1) = turn s p (turned s i) := by
  unfold turned
  rw [take_snoc h, List.foldl_append]
  rfl
theorem turned_dual (f : Fm) : turned f.head 4 = f.dual.head := by
  have a1 : ∀ b, turned (Fm.hLit b) 4 = Fm.hLit (!b) := by decide +kernel
  have a2 : ∀ b, turned (Fm.hBin b) 4 = Fm.hBin (!b) := by decide +kernel
  have a3 : ∀ b, turned (Fm.hUn b) 4 = Fm.hUn (!b) := by decide +kernel
  have a4 : ∀ b, turned (Fm.hFix b) 4 = Fm.hFix (!b) := by decide +kernel
  have a5 : turned "value" 4 = "value" ∧ turned "mark" 4 = "mark" ∧ turned "name" 4 = "name" := by decide +kernel
  cases f with
  | lit b => exact a1 b
  | val _ => exact a5.1
  | mark _ => exact a5.2.1
  | name _ => exact a5.2.2
  | bin b _ _ => exact a2 b
  | un b _ => exact a3 b
  | fix b _ _ => exact a4 b
theorem ok__law_dual (T : Tx K mg w) : ∀ n, FnOk P w K mg base CX0 (n + 2) T.a__law_dual T.d__law_dual ["formula"] (sp_fm K Fm.dual (fun _ => True) n)
  | 0 => ⟨fun vs H Q E h => absurd h (no_fm vs H Q E), fun A outer s H args us vs Q E _ _ _ _ h => absurd h (no_fm vs H Q E)⟩
  | n + 1 => by
    have G__law_dual := ok__law_dual T n
    have G__law_parts := ok__law_parts (P := P) (w := w) (base := base) T
    have G__law_with := ok__law_with (P := P) (w := w) (base := base) T
    refine T.F__law_dual.ok sc__law_dual (fun vs H Q E h => ?_) (fun cdv A outer s H vs Q E hr h => ?_)
    · obtain ⟨f, v, rfl, _⟩ := h
      rfl
    obtain ⟨f, v, rfl, hf, hd, _, q⟩ := h
    refine ⟨_, pss_cons (ps_set (i := 1) sc__law_dual.nd rfl (Or.inl rfl) (pe_lst (pa_cons (pe_lst (pa_cons pe_str (pa_cons pe_str pa_nil))) (pa_cons (pe_lst (pa_cons pe_str (pa_cons pe_str pa_nil))) (pa_cons (pe_lst (pa_cons pe_str (pa_cons pe_str pa_nil))) (pa_cons (pe_lst (pa_cons pe_str (pa_cons pe_str pa_nil))) pa_nil))))))
    (pss_cons (ps_set (i := 2) sc__law_dual.nd rfl (Or.inl rfl) (pe_callTy call_list_of (by rfl) T.n_list (by decide +kernel) (pa_cons (pe_call G__law_with (hr.mono (by omega)) (by rfl) T.g__law_with T.F__law_with.kp T.b__law_with .nil pass0 (pa_cons (pv 0) (pa_cons (pe_lc (own := [("part", 3)]) (g := gName 3) (tt := tYes) rfl sc__law_dual.nd (pi_list (pe_call G__law_parts (hr.mono (by omega)) (by rfl) T.g__law_parts T.F__law_parts.kp T.b__law_parts .nil pass0 (pa_cons (pv 0) pa_nil))) (blkOk_by (N := N__law_dual) (sc := defScope St__law_dual) (by decide +kernel)) (fun _ _ _ _ _ => (pg_name (i := 3) sc__law_dual.nd rfl (Or.inl rfl))) (fun _ _ _ _ _ => pts_nil) (fun _ _ _ _ _ => (pe_call G__law_dual (hr.mono (by omega)) (by rfl) T.g__law_dual T.F__law_dual.kp T.b__law_dual .nil pass0 (pa_cons (pv 3) pa_nil)))) pa_nil))) pa_nil)))
    (pss_cons (ps_for PassesOwn.never rfl (pi_list (pv 1)) (pg_name (i := 4) sc__law_dual.nd rfl (Or.inl rfl)) (pss_one (ps_if (pt_cmpR op_in_seq (pe_ix ix_tup (pv 0) pe_int (fun _ _ => rfl)) (pv 4) (by rfl)) (pss_one (ps_asg (pe_ix ix_list (pv 4) (pe_op op_sub pe_int (pe_bm PySem.F.plainAttrs_list PySem.F.slot_list_index PySem.F.type_list_index mt_index (pv 4) (pa_cons (pe_ix ix_tup (pv 0) pe_int (fun _ _ => rfl)) pa_nil))) (fun _ _ => rfl)) (pg_sub (pv 2) pe_int set_list))) pss_nil)))
    (pss_one (ps_ret (pe_callTy call_tuple_of (by rfl) T.n_tuple (by decide +kernel) (pa_cons (pv 2) pa_nil)))))), ?_⟩
    refine ⟨(by show 2 ≤ sizeLine; decide), newQ (.lst [.str "true", .str "false"]) fun t1 ht1 s1 h1 => ?_⟩
    generalize upd H t1 (.lst [.str "true", .str "false"]) = H1 at s1 h1 ⊢
    refine ⟨(by show 2 ≤ sizeLine; decide), newQ (.lst [.str "and", .str "or"]) fun t2 ht2 s2 h2 => ?_⟩
    generalize upd H1 t2 (.lst [.str "and", .str "or"]) = H2 at s2 h2 ⊢
    refine ⟨(by show 2 ≤ sizeLine; decide), newQ (.lst [.str "some", .str "all"]) fun t3 ht3 s3 h3 => ?_⟩
    generalize upd H2 t3 (.lst [.str "some", .str "all"]) = H3 at s3 h3 ⊢
    refine ⟨(by show 2 ≤ sizeLine; decide), newQ (.lst [.str "least", .str "most"]) fun t4 ht4 s4 h4 => ?_⟩
    generalize upd H3 t4 (.lst [.str "least", .str "most"]) = H4 at s4 h4 ⊢
    refine ⟨(by show 4 ≤ sizeLine; decide), newQ (.lst [.ref t1, .ref t2, .ref t3, .ref t4]) fun t5 ht5 s5 h5 => ?_⟩
    generalize upd H4 t5 (.lst [.ref t1, .ref t2, .ref t3, .ref t4]) = H5 at s5 h5 ⊢
    have s05 : Same H H5 := (((s1.trans s2).trans s3).trans s4).trans s5
    have pairs : ∀ (i : Nat) (x : V), [V.ref t1, V.ref t2, V.ref t3, V.ref t4][i]? = some x → ∃ t p, x = .ref t ∧ H5 t = some (.lst [.str p.1, .str p.2]) ∧ prs[i]? = some p := by
      intro i x h
      match i, h with
      | 0, h => cases h; exact ⟨_, _, rfl, s5.at (s4.at (s3.at (s2.at h1))), rfl⟩
      | 1, h => cases h; exact ⟨_, _, rfl, s5.at (s4.at (s3.at h2)), rfl⟩
      | 2, h => cases h; exact ⟨_, _, rfl, s5.at (s4.at h3), rfl⟩
      | 3, h => cases h; exact ⟨_, _, rfl, s5.at h4, rfl⟩
    refine ⟨_, rfl, _, rfl, f, _, rfl, hf.same s05, fun l xs H6 s6 hl0 hl el hY => ⟨l, rfl, ⟨_, SqL.of (K := K) hl⟩, fun D hD => ?_⟩⟩
    refine map_parts Fm.dual hD hl el hY ?_ ?_ (fun x => rfl)
    · intro g x H7 Nx gm s7 rg k
      have gd := Fm.parts_depth gm
      exact ⟨_, rfl, g, x, rfl, rg, by omega, trivial, fun y H6 s6 r6 => k y H6 s6 r6⟩
    · intro H7 zs s7 hz ez hZ
      refine ⟨f, _, D, _, zs, rfl, ((hf.same s05).same s6).same s7, SqL.of (K := K) hz, ez, by rw [List.length_map], hZ, fun v' H8 s8 r8 => ?_⟩
      have s08 : Same H H8 := s05.trans (s6.trans (s7.trans s8))
      have s58 : Same H5 H8 := s6.trans (s7.trans s8)
      obtain ⟨p, ys, rfl, hp, rs⟩ := (hf.same s08).out
      obtain ⟨p', ys', rfl, hp', rs'⟩ := r8.out
      obtain ⟨hd2, ehd, hrest, hhead⟩ := dual_parts (K := K) f
      rw [hhead] at hp'
      refine ⟨p', _, rfl, .inr hp', newO fun r H9 hr0 s9 h9 => ?_⟩
      have nn : H5 r = none := by
        cases e : H5 r with
        | none => rfl
        | some o => rw [s58 r o e] at hr0; cases hr0
      refine ⟨_, rfl, t5, rfl, ⟨_, SqL.of (K := K) (s9.at (s58.at h5))⟩, for_list (K := K) (a := t5) (xs := [.ref t1, .ref t2, .ref t3, .ref t4]) (fun i σ H10 => ∃ u, σ = [some (.ref p), some (.ref t5), some (.ref r), none, u] ∧ Same H8 H10 ∧ H10 r = some (.lst (.str (turned f.head i) :: ys')))
        ⟨none, rfl, s9, h9⟩ (fun i σ H10 _ ⟨_, _, e, _⟩ => SqL.of (K := K) (e.at (s58.at h5))) ?_ ?_⟩
      · rintro i x σ H10 hx ⟨u, rfl, s10, h10⟩
        obtain ⟨t, ⟨a, b⟩, rfl, ht, ep⟩ := pairs i x hx
        have ht' := s10.at (s58.at ht)
        have hp10 := s10.keeps.sqT hp
        refine ⟨_, rfl, _, _, _, _, rfl, rfl, hp10, atI_nat (j := 0) rfl, _, rfl, t, _, rfl, .inl (SqL.of (K := K) ht'), rfl, rfl, _, rfl, ?_⟩
        rw [show (if false = true then !inV (.str f.head) [.str a, .str b] else inV (.str f.head) [.str a, .str b]) = (f.head == a || f.head == b) from inV_str _ _ _]
        have ab : (f.head == a) = decide (f.head = a) := rfl
        refine ite2 (fun c => ?_) (fun c => ?_)
        · obtain ⟨j, y, z, j2, ej, et, no⟩ : ∃ (j : Nat) (y z : Str), 1 - (j : Int) = ((1 - j : Nat) : Int) ∧ [V.str a, V.str b][j]? = some (.str f.head) ∧ ([V.str a, V.str b][1 - j]? = some (.str z) ∧ z = turn f.head (a, b) (turned f.head i)) ∧
              ∀ (m : Nat) (z' : V), m < j → [V.str a, V.str b][m]? = some z' → eqV z' (.str f.head) = false := by
            by_cases e : f.head = a
            · refine ⟨0, "", b, rfl, by rw [e]; rfl, ⟨rfl, ?_⟩, fun m _ h => absurd h (Nat.not_lt_zero m)⟩
              unfold turn
              rw [if_pos e]
            · have e2 : f.head = b := by
                rcases Bool.or_eq_true_iff.mp c with h | h
                · exact absurd (eq_of_beq h) e
                · exact eq_of_beq h
              refine ⟨1, "", a, rfl, by rw [e2]; rfl, ⟨rfl, ?_⟩, fun m z' h1 h2 => ?_⟩
              · unfold turn
                rw [if_neg e, if_pos e2]
              · have : m = 0 := by omega
                subst this
                cases h2
                show (a == f.head) = false
                exact beq_eq_false_iff_ne.mpr fun q => e q.symm
          refine ⟨_, rfl, _, rfl, .inl ⟨rfl, _, SqL.of (K := K) ht'⟩, _, rfl, _, _, _, _, rfl, rfl, hp10, atI_nat (j := 0) rfl, t, _, _, j, _, rfl, rfl, SqL.of (K := K) ht', rfl, rfl, ej, beq_self_eq_true f.head, no, ?_⟩
          refine ⟨_, _, rfl, rfl, t, _, _, _, rfl, rfl, SqL.of (K := K) ht', (by rw [j2]; exact atI_nat et.1), ?_⟩
          refine ⟨_, rfl, r, _, _, 0, rfl, rfl, h10, ixN_nat (z := 0) (by decide) (by rw [List.length_cons]; exact Nat.succ_pos _), ?_⟩
          refine ⟨_, rfl, s10.mut hr0 _, ?_⟩
          rw [upd_same, turned_snoc ep, ← et.2]
          rfl
        · refine ⟨_, rfl, s10, ?_⟩
          rw [h10, turned_snoc ep]
          have c1 : ¬ f.head = a := fun e => c (by rw [e]; simp)
          have c2 : ¬ f.head = b := fun e => c (by rw [e]; simp)
          unfold turn
          rw [if_neg c1, if_neg c2]
      · rintro σ H10 ⟨u, rfl, s10, h10⟩
        refine ⟨_, rfl, r, _, rfl, .inl ⟨SqL.of (K := K) h10, newO fun t6 H11 _ s11 h11 => ?_⟩⟩
        have h11 : H11 t6 = some (.tup (.str (turned f.head 4) :: ys')) := h11
        rw [turned_dual] at h11
        exact q _ H11 (s08.trans (s10.trans s11)) (Rf.in_ (SqT.of (K := K) h11) ((hrest rs').keep (s10.trans s11).keeps))
end
section
variable {P : Program} {w : World} {K : PySem.W.Frag} {mg : Str → Option Value} {base : Heap}
theorem putIn_nil : ∀ f : Fm, f.putIn [] = f
  | .lit _ | .val _ | .mark _ | .name _ => rfl
  | .bin b l r => by show Fm.bin b (l.putIn []) (r.putIn []) = _; rw [putIn_nil l, putIn_nil r]
  | .un b a => by show Fm.un b (a.putIn []) = _; rw [putIn_nil a]
  | .fix b x a => by show Fm.fix b x (a.putIn []) = _; rw [putIn_nil a]
def sp_lput (K : PySem.W.Frag) (n : Nat) : Sp := fun vs H Q _ => ∃ (f g : Fm) (v u : V) (x : Str), vs = [v, .str x, u] ∧ Rf K H f v ∧ Rf K H g u ∧ f.depth ≤ n ∧
  ∀ (v' : V) (H' : Hp), Same H H' → Rf K H' (f.putIn [(x, g)]) v' → Q v' H'
theorem ok__law_put (T : Tx K mg w) : ∀ n, FnOk P w K mg base CX0 (n + 2) T.a__law_put T.d__law_put ["formula", "name", "image"] (sp_lput K n)
  | 0 => by
    have no : ∀ vs H Q E, ¬ sp_lput K 0 vs H Q E := fun vs H Q E ⟨f, g, v, u, x, _, _, _, hd, _⟩ => by have := f.depth_pos; omega
    exact ⟨fun vs H Q E h => absurd h (no vs H Q E), fun A outer s H args us vs Q E _ _ _ _ h => absurd h (no vs H Q E)⟩
  | n + 1 => by
    have G__law_put := ok__law_put T n
    have G__law_parts := ok__law_parts (P := P) (w := w) (base := base) T
    have G__law_with := ok__law_with (P := P) (w := w) (base := base) T
    refine T.F__law_put.ok sc__law_put (fun vs H Q E h => ?_) (fun cdv A outer s H vs Q E hr h => ?_)
    · obtain ⟨f, g, v, u, x, rfl, _⟩ := h
      rfl
    obtain ⟨f, g, v, u, x, rfl, hf, hg, hd, q⟩ := h
    refine ⟨_, pss_cons (ps_if (pt_cmpR op_eq (pe_ix ix_tup (pv 0) pe_int (fun _ _ => rfl)) pe_str (nomark _)) (pss_one (ps_ret (pe_ifExp (pt_cmpR op_eq (pe_ix ix_tup (pv 0) pe_int (fun _ _ => rfl)) (pv 1) (nomark _)) (pv 2) (pv 0)))) pss_nil)
    (pss_cons (ps_if (PW.pt (pw_and (pt_cmpR op_in_seq (pe_ix ix_tup (pv 0) pe_int (fun _ _ => rfl)) (pe_lst (pa_cons pe_str (pa_cons pe_str pa_nil))) (by rfl)) (pw_and1 (pt_cmpR op_eq (pe_ix ix_tup (pv 0) pe_int (fun _ _ => rfl)) (pv 1) (nomark _))))) (pss_one (ps_ret (pv 0))) pss_nil)
    (pss_one (ps_ret (pe_call G__law_with (hr.mono (by omega)) (by rfl) T.g__law_with T.F__law_with.kp T.b__law_with .nil pass0 (pa_cons (pv 0) (pa_cons (pe_lc (own := [("part", 3)]) (g := gName 3) (tt := tYes) rfl sc__law_put.nd (pi_list (pe_call G__law_parts (hr.mono (by omega)) (by rfl) T.g__law_parts T.F__law_parts.kp T.b__law_parts .nil pass0 (pa_cons (pv 0) pa_nil))) (blkOk_by (N := N__law_put) (sc := defScope St__law_put) (by decide +kernel)) (fun _ _ _ _ _ => (pg_name (i := 3) sc__law_put.nd rfl (Or.inl rfl))) (fun _ _ _ _ _ => pts_nil) (fun _ _ _ _ _ => (pe_call G__law_put (hr.mono (by omega)) (by rfl) T.g__law_put T.F__law_put.kp T.b__law_put .nil pass0 (pa_cons (pv 3) (pa_cons (pv 1) (pa_cons (pv 2) pa_nil)))))) pa_nil)))))), ?_⟩
    obtain ⟨p, xs, rfl, hp, rs⟩ := hf.out
    refine ⟨_, rfl, _, _, _, _, rfl, rfl, hp, atI_nat (j := 0) rfl, rfl, _, rfl, ?_⟩
    rw [eq_str, head_name]
    refine ite2 (fun c => ?_) (fun c => ?_)
    · obtain ⟨y, rfl⟩ := kind_name (of_decide_eq_true c)
      obtain rfl := rs
      refine ⟨_, rfl, _, _, _, _, rfl, rfl, hp, atI_nat (j := 1) rfl, _, rfl, rfl, _, rfl, ?_⟩
      rw [eq_str]
      have e : (Fm.name y).putIn [(x, g)] = if x = y then g else .name y := by
        show ((Fm.getI [(x, g)] y).getD (.name y)) = _
        unfold Fm.getI
        by_cases h : x = y <;> simp [h]
      refine ite2 (fun c => ?_) (fun c => ?_)
      · have c : x = y := (eq_of_beq c).symm
        exact ⟨_, rfl, q _ H (Same.refl _) (by rw [e, if_pos c]; exact hg)⟩
      · have c : ¬ x = y := fun z => c (by rw [z]; simp)
        exact ⟨_, rfl, q _ H (Same.refl _) (by rw [e, if_neg c]; exact hf)⟩
    · have c3 : f.kindOf ≠ 3 := fun e => c (decide_eq_true e)
      refine nx_run ?_
      dsimp only
      refine if_run (fun b H1 => Same H H1 ∧ b = decide (f.kindOf = 6 ∧ f.text = x)) (fun Q' q' => ?_) ?_
      · refine ⟨_, rfl, _, _, _, _, rfl, rfl, hp, atI_nat (j := 0) rfl, (by show 2 ≤ sizeLine; decide), newQ (.lst [.str "least", .str "most"]) fun t ht0 s4 h4 => ?_⟩
        generalize upd H t (.lst [.str "least", .str "most"]) = H4 at s4 h4 ⊢
        refine ⟨t, _, rfl, .inl (SqL.of (K := K) h4), rfl, rfl, _, rfl, ?_⟩
        rw [show (if false = true then !inV (.str f.head) [.str "least", .str "most"] else inV (.str f.head) [.str "least", .str "most"]) = decide (f.kindOf = 6) from (inV_str _ _ _).trans (head_fix f)]
        refine ite2 (fun c6 => ?_) (fun c6 => ?_)
        · have c6 := of_decide_eq_true c6
          obtain ⟨zs, ez⟩ := rs.text1 (.inr (.inr (.inr c6)))
          refine ⟨_, rfl, _, _, _, _, rfl, rfl, s4.keeps.sqT hp, atI_nat (j := 1) (by rw [ez]; rfl), _, rfl, rfl, _, rfl, ?_⟩
          rw [eq_str]
          refine q' _ _ ⟨s4, ?_⟩
          by_cases h : f.text = x
          · rw [h, decide_eq_true ⟨c6, rfl⟩]; simp
          · rw [decide_eq_false fun z => h z.2]; simpa using h
        · have c6 : ¬ f.kindOf = 6 := fun e => c6 (decide_eq_true e)
          exact q' _ _ ⟨s4, (decide_eq_false fun z => c6 z.1).symm⟩
      rintro b H1 ⟨s1, rfl⟩
      refine ite2 (fun c => ?_) (fun c => ?_)
      · obtain ⟨c6, ct⟩ := of_decide_eq_true c
        obtain ⟨b0, y, a, rfl⟩ := kind_fix c6
        have ct : y = x := ct
        subst ct
        refine ⟨_, rfl, q _ H1 s1 ?_⟩
        show Rf K H1 (.fix b0 y (a.putIn (Fm.dropI [(y, g)] y))) _
        rw [show Fm.dropI [(y, g)] y = [] from by simp [Fm.dropI], putIn_nil]
        exact hf.same s1
      · have c : ¬ (f.kindOf = 6 ∧ f.text = x) := fun z => c (decide_eq_true z)
        have e : f.putIn [(x, g)] = f.withParts (f.parts.map fun h => h.putIn [(x, g)]) := by
          rw [putIn_parts f _ c3]
          by_cases c6 : f.kindOf = 6
          · have ct : x ≠ f.text := fun z => c ⟨c6, z.symm⟩
            rw [if_pos c6, show Fm.dropI [(x, g)] f.text = [(x, g)] from by simp [Fm.dropI, ct]]
          · rw [if_neg c6]
        refine ⟨_, rfl, _, rfl, f, _, rfl, hf.same s1, fun l xs H6 s6 hl0 hl el hY => ⟨l, rfl, ⟨_, SqL.of (K := K) hl⟩, fun D hD => ?_⟩⟩
        refine map_parts (fun h => h.putIn [(x, g)]) hD hl el hY ?_ ?_ (fun x => rfl)
        · intro g2 z H7 Nx gm s7 rg k
          have gd := Fm.parts_depth gm
          exact ⟨_, rfl, _, rfl, _, rfl, g2, g, z, u, x, rfl, rg, ((hg.same s1).same s6).same s7, by omega, fun y H6 s6 r6 => k y H6 s6 r6⟩
        · intro H7 zs s7 hz ez hZ
          refine ⟨f, _, D, _, zs, rfl, ((hf.same s1).same s6).same s7, SqL.of (K := K) hz, ez, by rw [List.length_map], hZ, fun v' H8 s8 r8 => ?_⟩
          exact q v' H8 (((s1.trans s6).trans s7).trans s8) (by rw [e]; exact r8)
end
section
namespace Fm
def once : Fm → Fm
  | .bin b l r => sPair b l r
  | .un b a => sUn b a
  | .fix b x a => sFix b x a
  | f => f
theorem simp_once (f : Fm) : f.simp = (f.withParts (f.parts.map simp)).once := by cases f <;> rfl
theorem sPair_same (b : Bool) (l r : Fm) (g : Fm) (h : sPair b l r = g) (hl : ∀ l', l = l' → l'.once = l' ∧ l'.simp = l') (hr : r.once = r ∧ r.simp = r) : g.once = g ∧ g.simp = g := by
  subst h
  unfold sPair
  split
  · exact hr
  · rename_i h1
    split
    · exact hl _ rfl
    · rename_i h2
      split
      · exact ⟨rfl, rfl⟩
      · rename_i h3
        have e : sPair b l r = .bin b l r := by rw [sPair, if_neg h1, if_neg h2, if_neg h3]
        refine ⟨e, ?_⟩
        show sPair b l.simp r.simp = _
        rw [(hl _ rfl).2, hr.2, e]
theorem simp_twice : ∀ f : Fm, f.simp.once = f.simp ∧ f.simp.simp = f.simp
  | .lit _ | .val _ | .mark _ | .name _ => ⟨rfl, rfl⟩
  | .bin b l r => sPair_same b l.simp r.simp _ rfl (fun l' e => e ▸ simp_twice l) (simp_twice r)
  | .un b a => by
    have ih := simp_twice a
    show (sUn b a.simp).once = sUn b a.simp ∧ (sUn b a.simp).simp = sUn b a.simp
    have e : sUn b a.simp = if a.simp = .lit (!b) then a.simp else .un b a.simp := rfl
    by_cases h : a.simp = .lit (!b)
    · rw [e, if_pos h]; exact ih
    · have e2 : sUn b a.simp = .un b a.simp := by rw [e, if_neg h]
      rw [e2]
      refine ⟨e2, ?_⟩
      show sUn b a.simp.simp = _
      rw [ih.2, e2]
  | .fix b x a => by
    have ih := simp_twice a
    show (sFix b x a.simp).once = sFix b x a.simp ∧ (sFix b x a.simp).simp = sFix b x a.simp
    have e : sFix b x a.simp = if a.simp = .name x then .lit (!b) else if x ∈ a.simp.free then .fix b x a.simp else a.simp := rfl
    by_cases h : a.simp = .name x
    · rw [e, if_pos h]; exact ⟨rfl, rfl⟩
    · by_cases h2 : x ∈ a.simp.free
      · have e2 : sFix b x a.simp = .fix b x a.simp := by rw [e, if_neg h, if_pos h2]
        rw [e2]
        refine ⟨e2, ?_⟩
        show sFix b x a.simp.simp = _
        rw [ih.2, e2]
      · rw [e, if_neg h, if_neg h2]; exact ih
theorem sPair_taking {b : Bool} {l r : Fm} (h : l = .lit (!b) ∨ r = .lit (!b)) : sPair b l r = .lit (!b) := by
  have nb : ∀ c : Bool, Fm.lit (!c) ≠ Fm.lit c := fun c e => by cases c <;> cases e
  unfold sPair
  split
  · rename_i h1
    rcases h with rfl | rfl
    · rcases h1 with h1 | h1
      · exact absurd h1 (nb b)
      · exact h1.symm
    · rfl
  · split
    · rename_i h2
      rcases h with rfl | rfl
      · rfl
      · exact absurd h2 (nb b)
    · rfl
theorem freeB_nil (f : Fm) : f.freeB [] = f.free := by
  unfold freeB
  simp
end Fm
variable {P : Program} {w : World} {K : PySem.W.Frag} {mg : Str → Option Value} {base : Heap}
theorem ok__law_once (T : Tx K mg w) : FnOk P w K mg base CX0 148 T.a__law_once T.d__law_once ["formula"] (sp_fm K Fm.once Fm.GoodS 145) := by
  have G__law_free := ok__law_free (P := P) (w := w) (base := base) T 145
  refine T.F__law_once.ok sc__law_once (fun vs H Q E h => ?_) (fun cdv A outer s H vs Q E hr h => ?_)
  · obtain ⟨f, v, rfl, _⟩ := h
    rfl
  obtain ⟨f, v, rfl, hf, hd, gf, q⟩ := h
  have hu := hu_of hr
  have gg : f.Good := ⟨gf.1, by have := gf.2.1; omega⟩
  refine ⟨_, pss_cons (ps_set (i := 1) sc__law_once.nd rfl (Or.inl rfl) (pe_ix ix_tup (pv 0) pe_int (fun _ _ => rfl)))
    (pss_cons (ps_if (pt_cmpR op_in_seq (pv 1) (pe_lst (pa_cons pe_str (pa_cons pe_str pa_nil))) (by rfl)) (pss_cons (ps_set (i := 2) sc__law_once.nd rfl (Or.inl rfl) (pe_ifExp (pt_cmpR op_eq (pv 1) pe_str (nomark _)) (pe_tup (pa_cons pe_str pa_nil)) (pe_tup (pa_cons pe_str pa_nil))))
    (pss_cons (ps_set (i := 3) sc__law_once.nd rfl (Or.inl rfl) (pe_ifExp (pt_cmpR op_eq (pv 1) pe_str (nomark _)) (pe_tup (pa_cons pe_str pa_nil)) (pe_tup (pa_cons pe_str pa_nil))))
    (pss_cons (ps_if (pt_cmpR (op_inLX hr.un2) (pv 3) (pe_lst (pa_cons (pe_ix ix_tup (pv 0) pe_int (fun _ _ => rfl)) (pa_cons (pe_ix ix_tup (pv 0) pe_int (fun _ _ => rfl)) pa_nil))) (by rfl)) (pss_one (ps_ret (pv 3))) pss_nil)
    (pss_cons (ps_if (PW.pt (pw_or (pt_cmpR (op_eqX hr.un2) (pe_ix ix_tup (pv 0) pe_int (fun _ _ => rfl)) (pv 2) (nomark _)) (pw_or1 (pt_cmpR (op_eqX hr.un2) (pe_ix ix_tup (pv 0) pe_int (fun _ _ => rfl)) (pe_ix ix_tup (pv 0) pe_int (fun _ _ => rfl)) (nomark _))))) (pss_one (ps_ret (pe_ix ix_tup (pv 0) pe_int (fun _ _ => rfl)))) pss_nil)
    (pss_one (ps_ret (pe_ifExp (pt_cmpR (op_eqX hr.un2) (pe_ix ix_tup (pv 0) pe_int (fun _ _ => rfl)) (pv 2) (nomark _)) (pe_ix ix_tup (pv 0) pe_int (fun _ _ => rfl)) (pv 0)))))))) pss_nil)
    (pss_cons (ps_if (pt_cmpR op_in_seq (pv 1) (pe_lst (pa_cons pe_str (pa_cons pe_str pa_nil))) (by rfl)) (pss_cons (ps_if (pt_cmpR (op_eqX hr.un2) (pe_ix ix_tup (pv 0) pe_int (fun _ _ => rfl)) (pe_tup (pa_cons pe_str (pa_cons (pe_ix ix_tup (pv 0) pe_int (fun _ _ => rfl)) pa_nil))) (nomark _)) (pss_one (ps_ret (pe_ifExp (pt_cmpR op_eq (pv 1) pe_str (nomark _)) (pe_tup (pa_cons pe_str pa_nil)) (pe_tup (pa_cons pe_str pa_nil))))) pss_nil)
    (pss_one (ps_ret (pe_ifExp (pt_cmpR op_in_seq (pe_ix ix_tup (pv 0) pe_int (fun _ _ => rfl)) (pe_call G__law_free (hr.mono (by omega)) (by rfl) T.g__law_free T.F__law_free.kp T.b__law_free .nil pass0 (pa_cons (pe_ix ix_tup (pv 0) pe_int (fun _ _ => rfl)) (pa_cons (pe_lst pa_nil) pa_nil))) (by rfl)) (pv 0) (pe_ix ix_tup (pv 0) pe_int (fun _ _ => rfl)))))) pss_nil)
    (pss_cons (ps_if (PW.pt (pw_or (pt_cmpR (op_eqX hr.un2) (pv 0) (pe_tup (pa_cons pe_str (pa_cons (pe_tup (pa_cons pe_str pa_nil)) pa_nil))) (nomark _)) (pw_or1 (pt_cmpR (op_eqX hr.un2) (pv 0) (pe_tup (pa_cons pe_str (pa_cons (pe_tup (pa_cons pe_str pa_nil)) pa_nil))) (nomark _))))) (pss_one (ps_ret (pe_ix ix_tup (pv 0) pe_int (fun _ _ => rfl)))) pss_nil)
    (pss_one (ps_ret (pv 0)))))), ?_⟩
  obtain ⟨p, xs, rfl, hp, rs⟩ := hf.out
  refine ⟨_, rfl, _, _, _, _, rfl, rfl, hp, atI_nat (j := 0) rfl, ?_⟩
  refine ⟨_, rfl, (by show 2 ≤ sizeLine; decide), newQ (.lst [.str "and", .str "or"]) fun t ht0 s1 h1 => ?_⟩
  generalize upd H t (.lst [.str "and", .str "or"]) = H1 at s1 h1 ⊢
  refine ⟨t, _, rfl, .inl (SqL.of (K := K) h1), rfl, rfl, _, rfl, ?_⟩
  rw [show (if false = true then !inV (.str f.head) [.str "and", .str "or"] else inV (.str f.head) [.str "and", .str "or"]) = decide (f.kindOf = 4) from (inV_str _ _ _).trans (head_bin f)]
  refine ite2 (fun c4 => ?_) (fun c4 => ?_)
  · obtain ⟨b, l, r, rfl⟩ := kind_bin (of_decide_eq_true c4)
    obtain ⟨x, y, rfl, rx, ry⟩ := rs
    have gl : l.Good := ⟨gf.1.1, by have := gf.2.1; simp only [Fm.depth] at this; omega⟩
    have gr : r.Good := ⟨gf.1.2, by have := gf.2.1; simp only [Fm.depth] at this; omega⟩
    refine set_run (fun v2 H2 => Same H1 H2 ∧ Rf K H2 (.lit b) v2) (fun Q' q' => ?_) ?_
    · refine ⟨_, rfl, rfl, _, rfl, ?_⟩
      rw [eq_str]
      cases b with
      | true => exact iteT ⟨(by show 1 ≤ sizeLine; decide), newO fun t2 H2 _ s2 h2 => q' _ _ ⟨s2, t2, rfl, SqT.of (K := K) h2⟩⟩
      | false => exact iteF ⟨(by show 1 ≤ sizeLine; decide), newO fun t2 H2 _ s2 h2 => q' _ _ ⟨s2, t2, rfl, SqT.of (K := K) h2⟩⟩
    rintro v2 H2 ⟨s2, r2⟩
    refine set_run (fun v3 H3 => Same H2 H3 ∧ Rf K H3 (.lit !b) v3) (fun Q' q' => ?_) ?_
    · refine ⟨_, rfl, rfl, _, rfl, ?_⟩
      rw [eq_str]
      cases b with
      | true => exact iteT ⟨(by show 1 ≤ sizeLine; decide), newO fun t2 H2 _ s2 h2 => q' _ _ ⟨s2, t2, rfl, SqT.of (K := K) h2⟩⟩
      | false => exact iteF ⟨(by show 1 ≤ sizeLine; decide), newO fun t2 H2 _ s2 h2 => q' _ _ ⟨s2, t2, rfl, SqT.of (K := K) h2⟩⟩
    rintro v3 H3 ⟨s3, r3⟩
    have s03 : Same H H3 := (s1.trans s2).trans s3
    have hp3 := s03.keeps.sqT hp
    refine ⟨_, rfl, _, rfl, _, _, _, _, rfl, rfl, hp3, atI_nat (j := 1) rfl, _, rfl, _, _, _, _, rfl, rfl, hp3, atI_nat (j := 2) rfl, (by show 2 ≤ sizeLine; decide), newQ (.lst [x, y]) fun t4 _ s4 h4 => ?_⟩
    generalize upd H3 t4 (.lst [x, y]) = H4 at s4 h4 ⊢
    have s04 := s03.trans s4
    have hp4 := s04.keeps.sqT hp
    have rx4 := rx.same s04
    have ry4 := ry.same s04
    have r24 := (r2.same s3).same s4
    have r34 := r3.same s4
    refine ⟨_, [l.toD, r.toD], r34.dp, .lst (SqL.of (K := K) h4) (.cons rx4.dp (.cons ry4.dp .nil)), (good_lit _).shp, (by show PyData.canLayAll0 [l.toD, r.toD] = true; simp [PyData.canLayAll0, l.toD_lay gl.1, r.toD_lay gr.1]), _, rfl, ?_⟩
    simp only [List.any_cons, List.any_nil, Fm.eqv_toD, Bool.or_false]
    refine ite2 (fun ct => ?_) (fun ct => ?_)
    · have ct : l = .lit (!b) ∨ r = .lit (!b) := by simpa using ct
      exact ⟨_, rfl, q _ H4 s04 (by show Rf K H4 (Fm.sPair b l r) _; rw [Fm.sPair_taking ct]; exact r34)⟩
    have ct : ¬ (l = .lit (!b) ∨ r = .lit (!b)) := by simpa using ct
    refine nx_run ?_
    dsimp only
    refine if_run (fun c H5 => H5 = H4 ∧ c = decide (l = .lit b ∨ l = r)) (fun Q' q' => ?_) ?_
    · refine ⟨_, rfl, _, _, _, _, rfl, rfl, hp4, atI_nat (j := 1) rfl, _, rfl, _, _, rx4.dp, r24.dp, gl.shp, (good_lit _).shp, _, rfl, ?_⟩
      rw [Fm.eqv_toD]
      refine ite2 (fun c => ?_) (fun c => ?_)
      · exact q' _ _ ⟨rfl, (decide_eq_true (.inl (of_decide_eq_true c))).symm⟩
      · have c : ¬ l = .lit b := fun e => c (decide_eq_true e)
        refine ⟨_, rfl, _, _, _, _, rfl, rfl, hp4, atI_nat (j := 1) rfl, _, rfl, _, _, _, _, rfl, rfl, hp4, atI_nat (j := 2) rfl, _, _, rx4.dp, ry4.dp, gl.shp, gr.shp, _, rfl, ?_⟩
        rw [Fm.eqv_toD]
        exact q' _ _ ⟨rfl, by simp [c]⟩
    rintro c H5 ⟨rfl, rfl⟩
    refine ite2 (fun c => ?_) (fun c => ?_)
    · have c := of_decide_eq_true c
      exact ⟨_, rfl, _, _, _, _, rfl, rfl, hp4, atI_nat (j := 2) rfl, q _ H5 s04 (by show Rf K H5 (Fm.sPair b l r) _; rw [Fm.sPair, if_pos c]; exact ry4)⟩
    have c1 : ¬ (l = .lit b ∨ l = r) := fun e => c (decide_eq_true e)
    refine ⟨_, rfl, _, _, _, _, rfl, rfl, hp4, atI_nat (j := 2) rfl, _, rfl, _, _, ry4.dp, r24.dp, gr.shp, (good_lit _).shp, _, rfl, ?_⟩
    rw [Fm.eqv_toD]
    refine ite2 (fun c => ?_) (fun c => ?_)
    · have c := of_decide_eq_true c
      exact ⟨_, rfl, _, _, _, _, rfl, rfl, hp4, atI_nat (j := 1) rfl, q _ H5 s04 (by show Rf K H5 (Fm.sPair b l r) _; rw [Fm.sPair, if_neg c1, if_pos c]; exact rx4)⟩
    · have c : ¬ r = .lit b := fun e => c (decide_eq_true e)
      exact ⟨_, rfl, q _ H5 s04 (by show Rf K H5 (Fm.sPair b l r) _; rw [Fm.sPair, if_neg c1, if_neg c, if_neg ct]; exact hf.same s04)⟩
  have c4 : f.kindOf ≠ 4 := fun e => c4 (decide_eq_true e)
  have hp1 := s1.keeps.sqT hp
  refine ⟨_, rfl, (by show 2 ≤ sizeLine; decide), newQ (.lst [.str "least", .str "most"]) fun t2 _ s2 h2 => ?_⟩
  generalize upd H1 t2 (.lst [.str "least", .str "most"]) = H2 at s2 h2 ⊢
  refine ⟨t2, _, rfl, .inl (SqL.of (K := K) h2), rfl, rfl, _, rfl, ?_⟩
  rw [show (if false = true then !inV (.str f.head) [.str "least", .str "most"] else inV (.str f.head) [.str "least", .str "most"]) = decide (f.kindOf = 6) from (inV_str _ _ _).trans (head_fix f)]
  have s02 := s1.trans s2
  have hp2 := s02.keeps.sqT hp
  refine ite2 (fun c6 => ?_) (fun c6 => ?_)
  · obtain ⟨b, z, a, rfl⟩ := kind_fix (of_decide_eq_true c6)
    obtain ⟨y, rfl, ry⟩ := rs
    have ga : a.Good := ⟨gf.1.2, by have := gf.2.1; simp only [Fm.depth] at this; omega⟩
    have gz : (Fm.name z).Good := ⟨gf.1.1, by show 1 ≤ 150; omega⟩
    refine ⟨_, rfl, _, _, _, _, rfl, rfl, hp2, atI_nat (j := 2) rfl, _, rfl, _, _, _, _, rfl, rfl, hp2, atI_nat (j := 1) rfl, (by show 2 ≤ sizeLine; decide), newQ (.tup [.str "name", .str z]) fun t3 ht3 s3 h3 => ?_⟩
    generalize upd H2 t3 (.tup [.str "name", .str z]) = H3 at s3 h3 ⊢
    have rn : Rf K H3 (.name z) (.ref t3) := ⟨t3, rfl, SqT.of (K := K) h3⟩
    have s03 := s02.trans s3
    have hp3 := s03.keeps.sqT hp
    have ry3 := ry.same s03
    refine ⟨_, _, ry3.dp, rn.dp, ga.shp, gz.shp, _, rfl, ?_⟩
    rw [Fm.eqv_toD]
    refine ite2 (fun cn => ?_) (fun cn => ?_)
    · have cn := of_decide_eq_true cn
      have es : Fm.sFix b z a = .lit (!b) := by rw [Fm.sFix, if_pos cn]
      refine ⟨_, rfl, rfl, _, rfl, ?_⟩
      rw [eq_str]
      cases b with
      | true => exact iteT ⟨(by show 1 ≤ sizeLine; decide), newO fun t2 H4 _ s4 h4 => q _ H4 (s03.trans s4) (by show Rf K H4 (Fm.sFix true z a) _; rw [es]; exact ⟨t2, rfl, SqT.of (K := K) h4⟩)⟩
      | false => exact iteF ⟨(by show 1 ≤ sizeLine; decide), newO fun t2 H4 _ s4 h4 => q _ H4 (s03.trans s4) (by show Rf K H4 (Fm.sFix false z a) _; rw [es]; exact ⟨t2, rfl, SqT.of (K := K) h4⟩)⟩
    · have cn : ¬ a = .name z := fun e => cn (decide_eq_true e)
      refine ⟨_, rfl, _, _, _, _, rfl, rfl, hp3, atI_nat (j := 1) rfl, _, rfl, _, _, _, _, rfl, rfl, hp3, atI_nat (j := 2) rfl, (by show 0 ≤ sizeLine; decide), newQ (.lst []) fun t4 _ s4 h4 => ?_⟩
      generalize upd H3 t4 (.lst []) = H4 at s4 h4 ⊢
      refine ⟨a, y, t4, [], rfl, ry3.same s4, h4, ?_, ?_, ?_, fun l H5 s5 _ h5 => ?_⟩
      · have := gf.2.1; simp only [Fm.depth] at this; omega
      · have := gf.2.2; simp only [Fm.size] at this; omega
      · have := gf.2.1; simp only [Fm.depth] at this; show a.depth + 0 ≤ _; omega
      rw [Fm.freeB_nil] at h5
      have s05 := s03.trans (s4.trans s5)
      refine ⟨l, _, rfl, .inl (SqL.of (K := K) h5), rfl, flat_strs _, _, rfl, ?_⟩
      rw [show (if false = true then !inV (.str z) (a.free.map V.str) else inV (.str z) (a.free.map V.str)) = decide (z ∈ a.free) from inV_strs _ _]
      refine ite2 (fun c => ?_) (fun c => ?_)
      · have c := of_decide_eq_true c
        exact ⟨_, rfl, q _ H5 s05 (by show Rf K H5 (Fm.sFix b z a) _; rw [Fm.sFix, if_neg cn, if_pos c]; exact hf.same s05)⟩
      · have c : ¬ z ∈ a.free := fun e => c (decide_eq_true e)
        exact ⟨_, rfl, _, _, _, _, rfl, rfl, s05.keeps.sqT hp, atI_nat (j := 2) rfl, q _ H5 s05 (by show Rf K H5 (Fm.sFix b z a) _; rw [Fm.sFix, if_neg cn, if_neg c]; exact ry.same s05)⟩
  have c6 : f.kindOf ≠ 6 := fun e => c6 (decide_eq_true e)
  refine nx_run ?_
  dsimp only
  refine if_run (fun c H5 => Same H2 H5 ∧ c = decide (f = .un true (.lit false) ∨ f = .un false (.lit true))) (fun Q' q' => ?_) ?_
  · refine ⟨_, rfl, (by show 1 ≤ sizeLine; decide), newQ (.tup [.str "false"]) fun t3 _ s3 h3 => ?_⟩
    generalize upd H2 t3 (.tup [.str "false"]) = H3 at s3 h3 ⊢
    refine ⟨(by show 2 ≤ sizeLine; decide), newQ (.tup [.str "some", .ref t3]) fun t4 _ s4 h4 => ?_⟩
    generalize upd H3 t4 (.tup [.str "some", .ref t3]) = H4 at s4 h4 ⊢
    have ra : Rf K H4 (.un true (.lit false)) (.ref t4) := ⟨t4, _, rfl, SqT.of (K := K) h4, t3, rfl, SqT.of (K := K) (s4.at h3)⟩
    refine ⟨_, _, (((hf.same s02).same s3).same s4).dp, ra.dp, gg.shp, (show (Fm.un true (.lit false)).Good from ⟨trivial, by decide⟩).shp, _, rfl, ?_⟩
    rw [Fm.eqv_toD]
    refine ite2 (fun c => ?_) (fun c => ?_)
    · exact q' _ _ ⟨s3.trans s4, (decide_eq_true (.inl (of_decide_eq_true c))).symm⟩
    · have c : ¬ f = .un true (.lit false) := fun e => c (decide_eq_true e)
      refine ⟨_, rfl, (by show 1 ≤ sizeLine; decide), newQ (.tup [.str "true"]) fun t5 _ s5 h5 => ?_⟩
      generalize upd H4 t5 (.tup [.str "true"]) = H5 at s5 h5 ⊢
      refine ⟨(by show 2 ≤ sizeLine; decide), newQ (.tup [.str "all", .ref t5]) fun t6 _ s6 h6 => ?_⟩
      generalize upd H5 t6 (.tup [.str "all", .ref t5]) = H6 at s6 h6 ⊢
      have rb : Rf K H6 (.un false (.lit true)) (.ref t6) := ⟨t6, _, rfl, SqT.of (K := K) h6, t5, rfl, SqT.of (K := K) (s6.at h5)⟩
      refine ⟨_, _, (((((hf.same s02).same s3).same s4).same s5).same s6).dp, rb.dp, gg.shp, (show (Fm.un false (.lit true)).Good from ⟨trivial, by decide⟩).shp, _, rfl, ?_⟩
      rw [Fm.eqv_toD]
      exact q' _ _ ⟨((s3.trans s4).trans s5).trans s6, by simp [c]⟩
  rintro c H5 ⟨s5, rfl⟩
  have s05 := s02.trans s5
  have hf5 := hf.same s05
  refine ite2 (fun c => ?_) (fun c => ?_)
  · have c := of_decide_eq_true c
    obtain ⟨b, a, rfl, ea⟩ : ∃ b a, f = .un b a ∧ a = .lit (!b) := by
      rcases c with e | e
      · exact ⟨true, _, e, rfl⟩
      · exact ⟨false, _, e, rfl⟩
    obtain ⟨p2, y, ep, hp5, ry⟩ := hf5
    cases ep
    refine ⟨_, rfl, _, _, _, _, rfl, rfl, hp5, atI_nat (j := 1) rfl, q _ H5 s05 ?_⟩
    show Rf K H5 (Fm.sUn b a) _
    rw [Fm.sUn, if_pos ea]
    exact ry
  · have c : ¬ (f = .un true (.lit false) ∨ f = .un false (.lit true)) := fun e => c (decide_eq_true e)
    refine ⟨_, rfl, q _ H5 s05 ?_⟩
    cases f with
    | un b a =>
      show Rf K H5 (Fm.sUn b a) _
      rw [Fm.sUn, if_neg]
      · exact hf5
      · rintro rfl
        cases b
        · exact c (.inr rfl)
        · exact c (.inl rfl)
    | bin b l r => exact absurd rfl c4
    | fix b x a => exact absurd rfl c6
    | lit _ | val _ | mark _ | name _ => exact hf5
end
section
variable {P : Program} {w : World} {K : PySem.W.Frag} {mg : Str → Option Value} {base : Heap}
theorem Fm.GoodS.parts {f : Fm} (g : f.GoodS) : (f.withParts (f.parts.map Fm.simp)).GoodS ∧ (f.withParts (f.parts.map Fm.simp)).depth ≤ f.depth := by
  obtain ⟨t, d, z⟩ := g
  cases f with
  | bin b l r =>
    have := l.simp_depth; have := r.simp_depth; have := l.simp_size; have := r.simp_size
    simp only [Fm.depth, Fm.size] at d z
    refine ⟨⟨⟨l.simp_texts _ t.1, r.simp_texts _ t.2⟩, ?_, ?_⟩, ?_⟩
    · show max l.simp.depth r.simp.depth + 1 ≤ 140; omega
    · show l.simp.size + r.simp.size + 1 ≤ 400; omega
    · show max l.simp.depth r.simp.depth + 1 ≤ max l.depth r.depth + 1; omega
  | un b a =>
    have := a.simp_depth; have := a.simp_size
    simp only [Fm.depth, Fm.size] at d z
    refine ⟨⟨a.simp_texts _ t, ?_, ?_⟩, ?_⟩
    · show a.simp.depth + 1 ≤ 140; omega
    · show a.simp.size + 1 ≤ 400; omega
    · show a.simp.depth + 1 ≤ a.depth + 1; omega
  | fix b x a =>
    have := a.simp_depth; have := a.simp_size
    simp only [Fm.depth, Fm.size] at d z
    refine ⟨⟨⟨t.1, a.simp_texts _ t.2⟩, ?_, ?_⟩, ?_⟩
    · show a.simp.depth + 1 ≤ 140; omega
    · show a.simp.size + 1 ≤ 400; omega
    · show a.simp.depth + 1 ≤ a.depth + 1; omega
  | lit _ | val _ | mark _ | name _ => exact ⟨⟨t, d, z⟩, Nat.le_refl _⟩
theorem Fm.GoodS.simp {f : Fm} (g : f.GoodS) : f.simp.GoodS := ⟨f.simp_texts _ g.1, by have := f.simp_depth; have := g.2.1; omega, by have := f.simp_size; have := g.2.2; omega⟩
theorem Fm.GoodS.good {f : Fm} (g : f.GoodS) : f.Good := ⟨g.1, by have := g.2.1; omega⟩
theorem ok__law_simpler (T : Tx K mg w) : ∀ n, FnOk P w K mg base CX0 (n + 150) T.a__law_simpler T.d__law_simpler ["formula"] (sp_fm K Fm.simp Fm.GoodS n)
  | 0 => ⟨fun vs H Q E h => absurd h (no_fm vs H Q E), fun A outer s H args us vs Q E _ _ _ _ h => absurd h (no_fm vs H Q E)⟩
  | n + 1 => by
    have G__law_simpler := ok__law_simpler T n
    have G__law_parts := ok__law_parts (P := P) (w := w) (base := base) T
    have G__law_with := ok__law_with (P := P) (w := w) (base := base) T
    have G__law_once := ok__law_once (P := P) (w := w) (base := base) T
    refine T.F__law_simpler.ok sc__law_simpler (fun vs H Q E h => ?_) (fun cdv A outer s H vs Q E hr h => ?_)
    · obtain ⟨f, v, rfl, _⟩ := h
      rfl
    obtain ⟨f, v, rfl, hf, hd, gf, q⟩ := h
    have hu := hu_of hr
    refine ⟨_, pss_cons (ps_set (i := 1) sc__law_simpler.nd rfl (Or.inl rfl) (pe_call G__law_with (hr.mono (by omega)) (by rfl) T.g__law_with T.F__law_with.kp T.b__law_with .nil pass0 (pa_cons (pv 0) (pa_cons (pe_lc (own := [("part", 2)]) (g := gName 2) (tt := tYes) rfl sc__law_simpler.nd (pi_list (pe_call G__law_parts (hr.mono (by omega)) (by rfl) T.g__law_parts T.F__law_parts.kp T.b__law_parts .nil pass0 (pa_cons (pv 0) pa_nil))) (blkOk_by (N := N__law_simpler) (sc := defScope St__law_simpler) (by decide +kernel)) (fun _ _ _ _ _ => (pg_name (i := 2) sc__law_simpler.nd rfl (Or.inl rfl))) (fun _ _ _ _ _ => pts_nil) (fun _ _ _ _ _ => (pe_call G__law_simpler (hr.mono (by omega)) (by rfl) T.g__law_simpler T.F__law_simpler.kp T.b__law_simpler .nil pass0 (pa_cons (pv 2) pa_nil)))) pa_nil))))
    (pss_cons (ps_set (i := 3) sc__law_simpler.nd rfl (Or.inl rfl) (pe_call G__law_once (hr.mono (by omega)) (by rfl) T.g__law_once T.F__law_once.kp T.b__law_once .nil pass0 (pa_cons (pv 1) pa_nil)))
    (pss_cons (ps_while PassesOwn.never (pt_cmpR (op_neX hr.un2) (pv 3) (pv 1) (nomark _)) (pss_cons (ps_set (i := 1) sc__law_simpler.nd rfl (Or.inl rfl) (pv 3))
    (pss_one (ps_set (i := 3) sc__law_simpler.nd rfl (Or.inl rfl) (pe_call G__law_once (hr.mono (by omega)) (by rfl) T.g__law_once T.F__law_once.kp T.b__law_once .nil pass0 (pa_cons (pv 1) pa_nil))))))
    (pss_one (ps_ret (pv 1))))), ?_⟩
    refine ⟨_, rfl, _, rfl, f, _, rfl, hf, fun l xs H1 s1 hl0 hl el hY => ⟨l, rfl, ⟨_, SqL.of (K := K) hl⟩, fun D hD => ?_⟩⟩
    refine map_parts Fm.simp hD hl el hY ?_ ?_ (fun x => rfl)
    · intro g x H5 Nx gm s5 rg k
      have gd := Fm.parts_depth gm
      have gz := size_parts gm
      refine ⟨_, rfl, g, x, rfl, rg, by omega, ⟨?_, by have := gf.2.1; omega, by have := gf.2.2; omega⟩, fun y H6 s6 r6 => k y H6 s6 r6⟩
      have gt := gf.1
      cases f with
      | lit _ | val _ | mark _ | name _ => simp [Fm.parts] at gm
      | bin b l r =>
        simp only [Fm.parts, List.mem_cons, List.not_mem_nil, or_false] at gm
        rcases gm with rfl | rfl
        · exact gt.1
        · exact gt.2
      | un b a => simp only [Fm.parts, List.mem_cons, List.not_mem_nil, or_false] at gm; subst gm; exact gt
      | fix b x a => simp only [Fm.parts, List.mem_cons, List.not_mem_nil, or_false] at gm; subst gm; exact gt.2
    · intro H5 zs s5 hz ez hZ
      refine ⟨f, _, D, _, zs, rfl, (hf.same s1).same s5, SqL.of (K := K) hz, ez, by rw [List.length_map], hZ, fun v1 H6 s6 r6 => ?_⟩
      obtain ⟨g0, gd0⟩ := gf.parts
      have s06 := s1.trans (s5.trans s6)
      have d140 := gf.2.1
      refine ⟨_, rfl, _, v1, rfl, r6, by omega, g0, fun v2 H7 s7 r7 => ?_⟩
      rw [← f.simp_once] at r7
      refine ⟨fun k σ H8 => ∃ u1 u2, σ = [some v, some u1, none, some u2] ∧ Same H H8 ∧ ((k = 1 ∧ Rf K H8 (f.withParts (f.parts.map Fm.simp)) u1 ∧ Rf K H8 f.simp u2) ∨ (k = 0 ∧ Rf K H8 f.simp u1 ∧ Rf K H8 f.simp u2)), ⟨1, v1, v2, rfl, s06.trans s7, .inl ⟨rfl, r6.same s7, r7⟩⟩, ?_⟩
      rintro k σ H8 ⟨u1, u2, rfl, s8, inv⟩
      obtain ⟨g, rg, gg, ru, kk⟩ : ∃ g, Rf K H8 g u1 ∧ g.Good ∧ Rf K H8 f.simp u2 ∧ (g = f.simp ∨ k = 1) := by
        rcases inv with ⟨a, b, c⟩ | ⟨a, b, c⟩
        · exact ⟨_, b, g0.good, c, .inr a⟩
        · exact ⟨_, b, gf.simp.good, c, .inl rfl⟩
      refine ⟨_, rfl, _, rfl, _, _, ru.dp, rg.dp, gf.simp.good.shp, gg.shp, _, rfl, ?_⟩
      rw [Fm.eqv_toD]
      by_cases e : f.simp = g
      · rw [decide_eq_true e]
        refine iteF ⟨_, rfl, q _ H8 s8 ?_⟩
        rw [e]; exact rg
      · rw [decide_eq_false e]
        have k1 : k = 1 := kk.resolve_left fun z => e z.symm
        refine iteT ⟨_, fun σ' H' h => ⟨0, by omega, h⟩, ?_⟩
        have := f.simp_depth
        refine ⟨_, rfl, _, rfl, f.simp, u2, rfl, ru, by omega, gf.simp, fun v3 H9 s9 r9 => ?_⟩
        rw [f.simp_twice.1] at r9
        exact ⟨u2, v3, rfl, s8.trans s9, .inr ⟨rfl, ru.same s9, r9⟩⟩
end
section
variable {P : Program} {w : World} {K : PySem.W.Frag} {mg : Str → Option Value} {base : Heap}
theorem rng_run {te : TE} {g : TG} {tb u : TS} {D : Ends} {σ : L2.St} {H : Hp} (Pv : Int → Hp → Prop) (h : ∀ Q' : V → Hp → Prop, (∀ n H', Pv n H' → Q' (.int n) H') → te σ H Q')
    (q : ∀ n H', Pv n H' → tSeq (tFor (iRng1 (tCons (tC (.int n)) tNil)) g tb) u D σ H') : tSeq (tFor (iRng1 (tCons te tNil)) g tb) u D σ H := h _ fun n H' p => q n H' p
theorem Fm.free_half : ∀ f : Fm, 2 * f.free.length ≤ f.size + 1
  | .lit _ | .val _ | .mark _ => by simp [free, size]
  | .name _ => by simp [free, size]
  | .bin b l r => by
    have := free_half l; have := free_half r; have := join_le l.free r.free
    simp only [free, size]; omega
  | .un b a => by have := free_half a; simp only [free, size]; omega
  | .fix b x a => by
    have := free_half a
    have h := List.length_filter_le (fun y => decide (y ≠ x)) a.free
    simp only [free, size]; omega
theorem str_last {xs : List Str} (h : 1 ≤ xs.length) : ∃ x, x ∈ xs ∧ atI (xs.map V.str) (-1) = some (.str x) := by
  have hl : xs.length - 1 < xs.length := by omega
  refine ⟨xs[xs.length - 1], List.getElem_mem hl, ?_⟩
  unfold atI
  have e : ixN (xs.map V.str).length (-1) = some (xs.length - 1) := by
    unfold ixN
    rw [List.length_map]
    rw [if_neg (by decide), if_pos (by omega)]
    congr 1
    omega
  rw [e]
  show (xs.map V.str)[xs.length - 1]? = _
  rw [List.getElem?_map, List.getElem?_eq_getElem hl]; rfl
end
section
variable {P : Program} {w : World} {K : PySem.W.Frag} {mg : Str → Option Value} {base : Heap}
theorem kit_ll : PySem.W.kitOne K (.type "list") (.type "list") = some true := kit_ty (by decide +kernel)
theorem srt_nil : srt [] = [] := List.eq_nil_of_length_eq_zero (srt_length [])
def spLaw (K : PySem.W.Frag) : Sp := fun vs H Q _ => ∃ (a : Addr) (ns : List Int), vs = [.ref a] ∧ SqL K H a (ns.map V.int) ∧ ns.length ≤ 63 ∧ ∀ H', Q (.bl true) H'
theorem ok_law (T : Tx K mg w) : FnOk P w K mg base CX0 200 T.a_law T.d_law ["script"] (spLaw K) := by
  have G__law_cells := ok__law_cells (P := P) (w := w) (base := base) T
  have G__law_pick := ok__law_pick (P := P) (w := w) (base := base) T
  have G__law_name := ok__law_name (P := P) (w := w) (base := base) T
  have G__law_any := ok__law_any (P := P) (w := w) (base := base) T 6
  have G_dual := ok_dual (P := P) (w := w) (base := base) T 150
  have G__law_dual := ok__law_dual (P := P) (w := w) (base := base) T 150
  have G_unfolded := ok_unf (P := P) (w := w) (base := base) T 150
  have G__law_put := ok__law_put (P := P) (w := w) (base := base) T 150
  have G_simpler := ok_simp (P := P) (w := w) (base := base) T 40
  have G__law_simpler := ok__law_simpler (P := P) (w := w) (base := base) T 40
  have G_free_names := ok_names (P := P) (w := w) (base := base) T 100
  have G__law_free := ok__law_free (P := P) (w := w) (base := base) T 100
  refine T.F_law.ok sc_law (fun vs H Q E h => ?_) (fun cdv A outer s H vs Q E hr h => ?_)
  · obtain ⟨a, ns, rfl, _⟩ := h
    rfl
  obtain ⟨a, ns, rfl, hS, h63, q⟩ := h
  refine ⟨_, pss_cons (ps_set (i := 1) sc_law.nd rfl (Or.inr rfl) (pe_call G__law_cells (hr.mono (by omega)) (by rfl) T.g__law_cells T.F__law_cells.kp T.b__law_cells .nil pass0 (pa_cons (pv 0) pa_nil)))
    (pss_cons (ps_setLc (i := 2) (own := [("k", 3)]) (g := gName 3) (tt := tYes) rfl sc_law.nd rfl rfl (sw_true rfl rfl rfl (by decide +kernel)) (pi_range1 (by rfl) T.n_range (pa_cons (pe_op op_add pe_int (pe_call G__law_pick (hr.mono (by omega)) (by rfl) T.g__law_pick T.F__law_pick.kp T.b__law_pick .nil pass0 (pa_cons (pv 1) (pa_cons pe_int pa_nil)))) pa_nil)) (blkOk_by (N := N_law) (sc := defScope St_law) (by decide +kernel)) (fun _ _ _ _ _ => (pg_name (i := 3) sc_law.nd rfl (Or.inl rfl))) (fun _ _ _ _ _ => pts_nil) (fun _ _ _ _ _ => (pe_call G__law_name (hr.mono (by omega)) (by rfl) T.g__law_name T.F__law_name.kp T.b__law_name .nil pass0 (pa_cons (pv 1) pa_nil))))
    (pss_cons (ps_set (i := 4) sc_law.nd rfl (Or.inl rfl) (pe_call G__law_any (hr.mono (by omega)) (by rfl) T.g__law_any T.F__law_any.kp T.b__law_any .nil pass0 (pa_cons (pv 1) (pa_cons (pv 2) (pa_cons (pe_call G__law_pick (hr.mono (by omega)) (by rfl) T.g__law_pick T.F__law_pick.kp T.b__law_pick .nil pass0 (pa_cons (pv 1) (pa_cons pe_int pa_nil))) pa_nil)))))
    (pss_cons (ps_for PassesOwn.never rfl (pi_range1 (by rfl) T.n_range (pa_cons (pe_ifExp (pt_cmpR op_eq (pe_call G__law_pick (hr.mono (by omega)) (by rfl) T.g__law_pick T.F__law_pick.kp T.b__law_pick .nil pass0 (pa_cons (pv 1) (pa_cons pe_int pa_nil))) pe_int (nomark _)) pe_int pe_int) pa_nil)) (pg_name (i := 3) sc_law.nd rfl (Or.inl rfl)) (pss_cons (ps_set (i := 5) sc_law.nd rfl (Or.inl rfl) (pe_lst (pa_cons (pe_tup (pa_cons pe_str (pa_cons (pv 4) pa_nil))) (pa_cons (pe_tup (pa_cons pe_str (pa_cons (pe_tup (pa_cons pe_str (pa_cons (pe_ix ix_list (pv 2) pe_int (fun _ _ => rfl)) pa_nil))) (pa_cons (pv 4) pa_nil)))) (pa_cons (pe_tup (pa_cons pe_str (pa_cons (pe_ix ix_list (pv 2) (pe_un un_neg pe_int) (fun _ _ => rfl)) (pa_cons (pv 4) pa_nil)))) pa_nil)))))
    (pss_one (ps_set (i := 4) sc_law.nd rfl (Or.inl rfl) (pe_ix ix_list (pv 5) (pe_op op_mod (pe_callTy call_int1 (by rfl) T.n_int (by decide +kernel) (pa_cons (pv 3) pa_nil)) pe_int) (fun _ _ => rfl))))))
    (pss_cons (ps_set (i := 6) sc_law.nd rfl (Or.inl rfl) (pe_call G__law_free (hr.mono (by omega)) (by rfl) T.g__law_free T.F__law_free.kp T.b__law_free .nil pass0 (pa_cons (pv 4) (pa_cons (pe_lst pa_nil) pa_nil))))
    (pss_cons (ps_set (i := 7) sc_law.nd rfl (Or.inl rfl) (pe_call G_free_names (hr.mono (by omega)) (by rfl) T.g_free_names T.F_free_names.kp T.b_free_names .nil pass0 (pa_cons (pv 4) pa_nil)))
    (pss_cons (ps_if (PW.pt (pw_or (pt_cmpR (op_neX hr.un2) (pv 7) (pe_callB cr_sortedS (by rfl) T.n_sorted (by decide +kernel) (pa_cons (pe_lc (own := [("name", 8)]) (g := gName 8) (tt := tYes) rfl sc_law.nd (pi_list (pv 6)) (blkOk_by (N := N_law) (sc := defScope St_law) (by decide +kernel)) (fun _ _ _ _ _ => (pg_name (i := 8) sc_law.nd rfl (Or.inl rfl))) (fun _ _ _ _ _ => pts_nil) (fun _ _ _ _ _ => (pe_callTy SkE.call_str_str (by rfl) T.n_str (by decide +kernel) (pa_cons (pv 8) pa_nil)))) pa_nil)) (nomark _)) (pw_or1 (pt_not (pt_val (pe_callB call_isi (by rfl) T.n_isinstance (by decide +kernel) (pa_cons (pv 7) (pa_cons (pe_bltn (v := .ty "list") (u := .type "list") (by rfl) T.n_list (by decide +kernel) rfl) pa_nil)))))))) (pss_one (ps_ret pe_bl)) pss_nil)
    (pss_cons (ps_if (PW.pt (pw_or (pt_cmpR (op_neX hr.un2) (pe_call G_dual (hr.mono (by omega)) (by rfl) T.g_dual T.F_dual.kp T.b_dual .nil pass0 (pa_cons (pv 4) pa_nil)) (pe_call G__law_dual (hr.mono (by omega)) (by rfl) T.g__law_dual T.F__law_dual.kp T.b__law_dual .nil pass0 (pa_cons (pv 4) pa_nil)) (nomark _)) (pw_or1 (pt_cmpR (op_neX hr.un2) (pe_call G_dual (hr.mono (by omega)) (by rfl) T.g_dual T.F_dual.kp T.b_dual .nil pass0 (pa_cons (pe_call G_dual (hr.mono (by omega)) (by rfl) T.g_dual T.F_dual.kp T.b_dual .nil pass0 (pa_cons (pv 4) pa_nil)) pa_nil)) (pv 4) (nomark _))))) (pss_one (ps_ret pe_bl)) pss_nil)
    (pss_cons (ps_set (i := 9) sc_law.nd rfl (Or.inl rfl) (pe_call G_simpler (hr.mono (by omega)) (by rfl) T.g_simpler T.F_simpler.kp T.b_simpler .nil pass0 (pa_cons (pv 4) pa_nil)))
    (pss_cons (ps_if (PW.pt (pw_or (pt_cmpR (op_neX hr.un2) (pv 9) (pe_call G__law_simpler (hr.mono (by omega)) (by rfl) T.g__law_simpler T.F__law_simpler.kp T.b__law_simpler .nil pass0 (pa_cons (pv 4) pa_nil)) (nomark _)) (pw_or1 (pt_cmpR (op_neX hr.un2) (pe_call G_simpler (hr.mono (by omega)) (by rfl) T.g_simpler T.F_simpler.kp T.b_simpler .nil pass0 (pa_cons (pv 9) pa_nil)) (pv 9) (nomark _))))) (pss_one (ps_ret pe_bl)) pss_nil)
    (pss_cons (ps_for PassesOwn.never rfl (pi_list (pv 6)) (pg_name (i := 8) sc_law.nd rfl (Or.inl rfl)) (pss_one (ps_set (i := 4) sc_law.nd rfl (Or.inl rfl) (pe_tup (pa_cons (pe_ix ix_list (pe_lst (pa_cons pe_str (pa_cons pe_str pa_nil))) (pe_call G__law_pick (hr.mono (by omega)) (by rfl) T.g__law_pick T.F__law_pick.kp T.b__law_pick .nil pass0 (pa_cons (pv 1) (pa_cons pe_int pa_nil))) (fun _ _ => rfl)) (pa_cons (pv 8) (pa_cons (pv 4) pa_nil)))))))
    (pss_cons (ps_set (i := 10) sc_law.nd rfl (Or.inl rfl) (pv 4))
    (pss_cons (ps_if (pt_cmpR op_in_seq (pe_ix ix_tup (pv 4) pe_int (fun _ _ => rfl)) (pe_lst (pa_cons pe_str (pa_cons pe_str pa_nil))) (by rfl)) (pss_one (ps_set (i := 10) sc_law.nd rfl (Or.inl rfl) (pe_call G__law_put (hr.mono (by omega)) (by rfl) T.g__law_put T.F__law_put.kp T.b__law_put .nil pass0 (pa_cons (pe_ix ix_tup (pv 4) pe_int (fun _ _ => rfl)) (pa_cons (pe_ix ix_tup (pv 4) pe_int (fun _ _ => rfl)) (pa_cons (pv 4) pa_nil)))))) pss_nil)
    (pss_one (ps_ret (pe_and (pe_cmpR (op_eqX hr.un2) (pe_call G_unfolded (hr.mono (by omega)) (by rfl) T.g_unfolded T.F_unfolded.kp T.b_unfolded .nil pass0 (pa_cons (pv 4) pa_nil)) (pv 10) (nomark _)) (pe_one (pe_cmpR (op_eqX hr.un2) (pe_call G_free_names (hr.mono (by omega)) (by rfl) T.g_free_names T.F_free_names.kp T.b_free_names .nil pass0 (pa_cons (pv 4) pa_nil)) (pe_lst pa_nil) (nomark _)))))))))))))))))), ?_⟩
  refine ⟨_, rfl, a, ns, rfl, hS, h63, fun p c m cs H1 sm cp hc pos hp m0 m1 => ?_⟩
  have src1 : Src K c H1 p := ⟨cs, 0, 1, m, ⟨hp, SqL.of (K := K) hc, cp, Nat.zero_le _, by decide, pos, m0, m1⟩⟩
  refine ⟨_, rfl, p, c, 4, rfl, src1, by decide, fun j H2 b2 s2 j0 j1 => ?_⟩
  refine ⟨_, _, rfl, rfl, _, rfl, by omega, by omega, fun D hD => ?_⟩
  have Dp0 : D ≠ p := s2.ne hD
  have Dc0 : D ≠ c := (ne_of_none (b2 c _ cp hc) hD).symm
  refine lc_foldF walk_range (fun H3 => Src K c H3 p) (fun i H3 ys => ∃ xs : List Str, ys = xs.map V.str ∧ xs.length = i ∧ i ≤ 5 ∧ ∀ x ∈ xs, NameOk x) (s2.upd Dp0 Dc0 _) (fun H3 ys zs h _ => h.upd Dp0 Dc0 _)
    ⟨[], rfl, rfl, by omega, fun _ h => nomatch h⟩ (fun i H3 ys zs xs h _ => h) ?_ (fun _ _ => trivial) ?_ ?_
  · rintro i H3 ys ⟨xs, rfl, e, h5, _⟩
    rw [List.length_map]; omega
  · rintro i x H3 H4 ys Nx Ex hi s3 hy ⟨xs, rfl, e, h5, nk⟩ ⟨rfl, rfl⟩ k1 k2
    refine ⟨rfl, ?_⟩
    refine lcY ?_
    refine ⟨_, rfl, p, c, rfl, s3, fun x H5 b5 s5 n5 => k1 _ _ s5 (b5 _ _ Dp0 hy) ⟨xs ++ [x], by rw [List.map_append]; rfl, by rw [List.length_append, e]; rfl, by omega, fun y hy => ?_⟩⟩
    rcases List.mem_append.mp hy with h | h
    · exact nk y h
    · have : y = x := by simpa using h
      rw [this]; exact n5
  rintro H3 _ s3 hD3 ⟨xs, rfl, ex, h5, nk⟩
  refine ⟨_, rfl, _, rfl, _, rfl, p, c, 6, rfl, s3, by decide, fun i H4 b4 s4 i0 i1 => ?_⟩
  refine ⟨p, c, D, i.toNat, xs, (by show [V.ref p, V.ref D, V.int i] = _; rw [show i = (i.toNat : Int) by omega, Int.toNat_natCast]), s4, Dp0, b4.seq Dp0 (SqL.of (K := K) hD3), by omega, by omega, by omega, fun f v H5 b5 s5 f5 fd fz fl => ?_⟩
  have fd6 : f.depth ≤ 6 := by omega
  have fz6 : f.size < 64 := Nat.lt_of_lt_of_le fz (Nat.pow_le_pow_right (by omega) (by omega : i.toNat + 1 ≤ 6))
  have fh := f.free_half
  have hD5 : SqL K H5 D (xs.map V.str) := b5.seq Dp0 (b4.seq Dp0 (SqL.of (K := K) hD3))
  dsimp only [gName]
  refine rng_run (fun n H6 => 0 ≤ n ∧ n ≤ 30 ∧ But p H5 H6 ∧ Src K c H6 p) (fun Q' q' => ?_) ?_
  · refine ⟨_, rfl, p, c, 4, rfl, s5, by decide, fun d6 H6 b6 s6 d60 d61 => ?_⟩
    refine ⟨rfl, _, rfl, ?_⟩
    refine ite2 (fun _ => ?_) (fun _ => ?_)
    · exact q' _ _ ⟨by decide, by decide, b6, s6⟩
    · exact q' _ _ ⟨by decide, by decide, b6, s6⟩
  rintro n H6 ⟨n0, n30, b6, s6⟩
  have hD6 : SqL K H6 D (xs.map V.str) := b6.seq Dp0 hD5
  refine ⟨_, rfl, by omega, by omega, for_range (lo := 0) (fun i σ H7 => ∃ (g : Fm) (u : V) (o3 o5 : Option V), σ = [some (.ref a), some (.ref p), some (.ref D), o3, some u, o5, none, none, none, none, none] ∧ Same H6 H7 ∧
    Rf K H7 g u ∧ g.depth ≤ 6 + i ∧ g.size ≤ 63 + 2 * i ∧ 2 * g.free.length ≤ 64 ∧ g.Lk (· ∈ xs) (· ∈ vals)) ⟨f, v, none, none, rfl, Same.refl _, f5.keep (s5.keeps b6), by omega, by omega, by omega, fl⟩ ?_ ?_⟩
  · rintro i σ H7 hi ⟨g, u, o3, o5, rfl, s7, hg, gd, gz, gf, gl⟩
    obtain ⟨x0, m0, a0⟩ := str_at (xs := xs) (d := 0) (by decide) (by omega)
    obtain ⟨x1, m1, a1⟩ := str_last (xs := xs) (by omega)
    refine ⟨_, rfl, (by show 2 ≤ sizeLine; decide), newQ (.tup [.str "some", u]) fun t1 _ s8 h8 => ?_⟩
    generalize upd H7 t1 (.tup [.str "some", u]) = H8 at s8 h8 ⊢
    refine ⟨_, rfl, D, _, _, _, rfl, rfl, (s7.trans s8).seq hD6, a0, (by show 2 ≤ sizeLine; decide), newQ (.tup [.str "mark", .str x0]) fun t2 _ s9 h9 => ?_⟩
    generalize upd H8 t2 (.tup [.str "mark", .str x0]) = H9 at s9 h9 ⊢
    refine ⟨_, rfl, (by show 3 ≤ sizeLine; decide), newQ (.tup [.str "or", .ref t2, u]) fun t3 _ s10 h10 => ?_⟩
    generalize upd H9 t3 (.tup [.str "or", .ref t2, u]) = H10 at s10 h10 ⊢
    refine ⟨_, rfl, _, rfl, D, _, _, _, rfl, rfl, ((s7.trans s8).trans (s9.trans s10)).seq hD6, a1, _, rfl, (by show 3 ≤ sizeLine; decide), newQ (.tup [.str "least", .str x1, u]) fun t4 _ s11 h11 => ?_⟩
    generalize upd H10 t4 (.tup [.str "least", .str x1, u]) = H11 at s11 h11 ⊢
    refine ⟨(by show 3 ≤ sizeLine; decide), newQ (.lst [.ref t1, .ref t3, .ref t4]) fun t5 _ s12 h12 => ?_⟩
    generalize upd H11 t5 (.lst [.ref t1, .ref t3, .ref t4]) = H12 at s12 h12 ⊢
    have s712 := (((s8.trans s9).trans s10).trans s11).trans s12
    have hg12 := hg.same s712
    obtain ⟨k, ek, rk, dk, zk, fk, lk⟩ : ∃ (k : Fm) (y : V), atI [V.ref t1, V.ref t3, V.ref t4] ((0 + (i : Int)) % 3) = some y ∧ Rf K H12 k y ∧ k.depth ≤ g.depth + 1 ∧ k.size ≤ g.size + 2 ∧ 2 * k.free.length ≤ 2 * g.free.length ∧ k.Lk (· ∈ xs) (· ∈ vals) := by
      rcases (by omega : (0 + (i : Int)) % 3 = 0 ∨ (0 + (i : Int)) % 3 = 1 ∨ (0 + (i : Int)) % 3 = 2) with e | e | e
      · refine ⟨.un true g, _, by rw [e]; rfl, ⟨t1, u, rfl, SqT.of (K := K) (s12.at (s11.at (s10.at (s9.at h8)))), hg12⟩, Nat.le_refl _, by show g.size + 1 ≤ _; omega, Nat.le_refl _, gl⟩
      · refine ⟨.bin false (.mark x0) g, _, by rw [e]; rfl, ⟨t3, _, u, rfl, SqT.of (K := K) (s12.at (s11.at h10)), ⟨t2, rfl, SqT.of (K := K) (s12.at (s11.at (s10.at h9)))⟩, hg12⟩, ?_, ?_, ?_, m0, gl⟩
        · have := g.depth_pos
          show max 1 g.depth + 1 ≤ _; omega
        · show 1 + g.size + 1 ≤ _; omega
        · show 2 * (Fm.join [] g.free).length ≤ _; rw [join_nil]; exact Nat.le_refl _
      · refine ⟨.fix true x1 g, _, by rw [e]; rfl, ⟨t4, u, rfl, SqT.of (K := K) (s12.at h11), hg12⟩, Nat.le_refl _, by show g.size + 1 ≤ _; omega, ?_, m1, gl⟩
        have h := List.length_filter_le (fun y => decide (y ≠ x1)) g.free
        show 2 * (g.free.filter _).length ≤ _
        omega
    refine ⟨_, rfl, _, rfl, .inl ⟨_, rfl, _, _, rfl, rfl, (by show (0 : Int) < 3; decide), t5, _, _, _, rfl, rfl, SqL.of (K := K) h12, rk, ?_⟩⟩
    exact ⟨_, _, _, _, rfl, s7.trans s712, dk, by omega, by omega, by omega, lk.2⟩
  rintro σ H7 ⟨g, u, o3, o5, rfl, s7, hg, gd, gz, gf, gl⟩
  have nd : n.toNat ≤ 30 := by omega
  have tok : g.Texts (fun s => PyData.strOk s = true) := gl.texts (fun s h => (nk s h).strOk) vals_ok
  have gs : g.GoodS := ⟨tok, by omega, by omega⟩
  have gfl : g.free.length ≤ 32 := by omega
  refine ⟨_, rfl, (by show 0 ≤ sizeLine; decide), newQ (.lst []) fun t0 _ s8 h8 => ?_⟩
  generalize upd H7 t0 (.lst []) = H8 at s8 h8 ⊢
  refine ⟨g, u, t0, [], rfl, hg.same s8, h8, by omega, by omega, by show g.depth + 0 ≤ _; omega, fun l1 H9 s9 hl1 h9 => ?_⟩
  rw [Fm.freeB_nil] at h9
  have s79 := s8.trans s9
  refine ⟨_, rfl, g, u, rfl, hg.same s79, by omega, by omega, by omega, fun l2 H10 s10 hl2 h10 => ?_⟩
  have s710 := s79.trans s10
  have h9' := s10.at h9
  refine ⟨_, rfl, _, rfl, l1, rfl, ⟨_, SqL.of (K := K) h9'⟩, fun D2 hD2 => lc_fold walk_list hD2 (fun i _ ys => i ≤ g.free.length ∧ ys = (g.free.take i).map V.str) (fun _ => ⟨Nat.zero_le _, rfl⟩) (fun i _ _ xs _ h => h) ?_ (fun H5 s6 => SqL.of (K := K) (s6.at h9')) ?_ ?_⟩
  · rintro i H5 ys ⟨hi, rfl⟩
    rw [List.length_map, List.length_take]; omega
  · rintro i x H5 H6 ys Nx Ex hi s6 ⟨_, rfl⟩ ⟨rfl, hx⟩ k1 k2
    rw [List.getElem?_map] at hx
    obtain ⟨y, hy, rfl⟩ := Option.map_eq_some_iff.mp hx
    refine ⟨rfl, ?_⟩
    refine lcY ?_
    refine ⟨_, rfl, y, rfl, k1 _ _ (Same.refl _) ⟨(List.getElem?_eq_some_iff.mp hy).1, ?_⟩⟩
    rw [take_snoc hy, List.map_append]
    rfl
  rintro H11 _ s11 hD11 ⟨_, rfl⟩
  rw [List.length_map, List.take_length] at hD11
  refine ⟨D2, _, rfl, SqL.of (K := K) hD11, by omega, fun ys l3 hperm hsort hl3 => ?_⟩
  have ey := srt_of hperm hsort
  subst ey
  have s12 := Same.new hl3 (.lst ((srt g.free).map V.str))
  have h12 : upd H11 l3 (.lst ((srt g.free).map V.str)) l3 = some (.lst ((srt g.free).map V.str)) := upd_same
  generalize upd H11 l3 (.lst ((srt g.free).map V.str)) = H12 at s12 h12 ⊢
  have oks : ∀ z ∈ srt g.free, PyData.strOk z = true := fun z hz => (nk z (gl.free z (mem_srt.mp hz))).strOk
  have s1012 := s11.trans s12
  refine ⟨_, _, dp_strs (SqL.of (K := K) (s1012.at h10)), dp_strs (SqL.of (K := K) h12), shp_strs oks, shp_strs oks, _, rfl, ?_⟩
  rw [eqv_strs]
  refine iteF ?_
  have s712 := s710.trans s1012
  have hg12 := hg.same s712
  have gg := gs.good
  refine ⟨_, rfl, _, _, _, _, _, rfl, .ty "list", .base (.lst (s1012.at h10)), kit_ll, _, rfl, ?_⟩
  refine iteF ?_
  refine ⟨_, rfl, g, u, rfl, hg12, by omega, trivial, fun v13 H13 s13 r13 => ?_⟩
  refine ⟨_, rfl, g, u, rfl, hg12.same s13, by omega, trivial, fun v14 H14 s14 r14 => ?_⟩
  have gdu : g.dual.Good := ⟨Fm.dual_texts _ _ tok, by rw [Fm.dual_depth]; exact gg.2⟩
  have gdd : g.dual.dual.Good := by rw [Fm.dual_dual]; exact gg
  refine ⟨_, _, (r13.same s14).dp, r14.dp, gdu.shp, gdu.shp, _, rfl, ?_⟩
  rw [Fm.eqv_toD, decide_eq_true rfl]
  refine iteF ?_
  refine ⟨_, rfl, g, u, rfl, (hg12.same s13).same s14, by omega, trivial, fun v15 H15 s15 r15 => ?_⟩
  refine ⟨g.dual, v15, rfl, r15, by rw [Fm.dual_depth]; omega, trivial, fun v16 H16 s16 r16 => ?_⟩
  have s1216 := ((s13.trans s14).trans s15).trans s16
  have hg16 := hg12.same s1216
  refine ⟨_, rfl, _, _, r16.dp, hg16.dp, gdd.shp, gg.shp, _, rfl, ?_⟩
  rw [Fm.eqv_toD, Fm.dual_dual, decide_eq_true rfl]
  refine iteF ?_
  refine ⟨_, rfl, g, u, rfl, hg16, by omega, gs, fun v17 H17 s17 r17 => ?_⟩
  refine ⟨_, rfl, _, rfl, g, u, rfl, hg16.same s17, by omega, gs, fun v18 H18 s18 r18 => ?_⟩
  refine ⟨_, _, (r17.same s18).dp, r18.dp, gs.simp.good.shp, gs.simp.good.shp, _, rfl, ?_⟩
  rw [Fm.eqv_toD, decide_eq_true rfl]
  refine iteF ?_
  have := g.simp_depth
  refine ⟨_, rfl, g.simp, v17, rfl, r17.same s18, by omega, gs.simp, fun v19 H19 s19 r19 => ?_⟩
  rw [g.simp_twice.2] at r19
  refine ⟨_, rfl, _, _, r19.dp, ((r17.same s18).same s19).dp, gs.simp.good.shp, gs.simp.good.shp, _, rfl, ?_⟩
  rw [Fm.eqv_toD, decide_eq_true rfl]
  refine iteF ?_
  have s1219 := ((s1216.trans s17).trans s18).trans s19
  have hg19 := hg12.same s1219
  have s619 := (s7.trans s712).trans s1219
  have src : Src K c H19 p := s6.same s619
  have h9e : H19 l1 = some (.lst (g.free.map V.str)) := s1219.at (s12.at (s11.at h9'))
  have l1p : l1 ≠ p := fun e => by
    obtain ⟨o, q⟩ := (((s6.same s7).same s8)).here
    rw [e, q] at hl1; cases hl1
  refine ⟨_, rfl, l1, rfl, ⟨_, SqL.of (K := K) h9e⟩, for_list (K := K) (a := l1) (xs := g.free.map V.str) (fun i σ H26 => ∃ (k : Fm) (y : V) (o8 : Option V), σ = [some (.ref a), some (.ref p), some (.ref D), o3, some y, o5, some (.ref l1), some (.ref l2), o8, some v17, none] ∧
    Rf K H26 k y ∧ k.depth ≤ 36 + i ∧ k.size ≤ 123 + i ∧ k.Texts (fun s => PyData.strOk s = true) ∧ k.free = g.free.filter (fun z => decide (z ∉ g.free.take i)) ∧ Src K c H26 p ∧ But p H19 H26)
    ⟨g, u, none, rfl, hg19, by omega, by omega, tok, (List.filter_eq_self.mpr fun _ _ => by simp).symm, src, But.refl _ _⟩ (fun i σ H26 _ ⟨_, _, _, _, _, _, _, _, _, _, b⟩ => b.seq l1p (SqL.of (K := K) h9e)) ?_ ?_⟩
  · rintro i x σ H26 hx ⟨k, y, o8, rfl, hk, kd, kz, kt, kf, sk, bk⟩
    rw [List.getElem?_map] at hx
    obtain ⟨z, hz, rfl⟩ := Option.map_eq_some_iff.mp hx
    refine ⟨(by show 2 ≤ sizeLine; decide), newQ (.lst [.str "least", .str "most"]) fun l hl s27 h27 => ?_⟩
    generalize upd H26 l (.lst [.str "least", .str "most"]) = H27 at s27 h27 ⊢
    have lp : l ≠ p := sk.ne hl
    refine ⟨_, rfl, p, c, 2, rfl, sk.same s27, by decide, fun d H28 b28 s28 d0 d1 => ?_⟩
    obtain ⟨b, eb⟩ : ∃ b : Bool, atI [V.str "least", V.str "most"] d = some (.str (Fm.hFix b)) := by
      rcases (by omega : d = 0 ∨ d = 1) with e | e
      · exact ⟨true, by rw [e]; rfl⟩
      · exact ⟨false, by rw [e]; rfl⟩
    refine ⟨l, _, _, _, rfl, rfl, b28.seq lp (SqL.of (K := K) h27), eb, _, rfl, _, rfl, (by show 3 ≤ sizeLine; decide), newO fun t2 H29 _ s29 h29 => ?_⟩
    refine ⟨.fix b z k, _, _, rfl, ⟨t2, y, rfl, SqT.of (K := K) h29, ((hk.same s27).keep ((sk.same s27).keeps b28)).same s29⟩, (by show k.depth + 1 ≤ _; omega), (by show k.size + 1 ≤ _; omega), ⟨oks z (mem_srt.mpr (List.mem_of_getElem? hz)), kt⟩, ?_, s28.same s29, ((bk.trans (s27.but p)).trans b28).trans (s29.but p)⟩
    show k.free.filter (fun y => decide (y ≠ z)) = _
    rw [kf, List.filter_filter, take_snoc hz]
    refine List.filter_congr fun y _ => ?_
    simp [not_or, and_comm]
  rintro σ H26 ⟨k, y, o8, rfl, hk, kd, kz, kt, kf, sk, bk⟩
  rw [List.length_map] at kd kz kf
  have kf : k.free = [] := by
    rw [kf, List.take_length, List.filter_eq_nil_iff]
    intro z hz
    simp [hz]
  have kd68 : k.depth ≤ 68 := by omega
  have kg : k.Good := ⟨kt, by omega⟩
  have ug : Shp 190 k.unfold.toD := ⟨Fm.toD_lay _ (k.unfold_texts _ kt), by rw [Fm.toD_depth]; have := k.unfold_depth; omega⟩
  refine ⟨_, rfl, ?_⟩
  obtain ⟨p2, ys, rfl, hp2, rs⟩ := hk.out
  refine ⟨_, rfl, _, _, _, _, rfl, rfl, hp2, atI_nat (j := 0) rfl, (by show 2 ≤ sizeLine; decide), newQ (.lst [.str "least", .str "most"]) fun t ht0 s27 h27 => ?_⟩
  generalize upd H26 t (.lst [.str "least", .str "most"]) = H27 at s27 h27 ⊢
  refine ⟨t, _, rfl, .inl (SqL.of (K := K) h27), rfl, rfl, _, rfl, ?_⟩
  rw [show (if false = true then !inV (.str k.head) [.str "least", .str "most"] else inV (.str k.head) [.str "least", .str "most"]) = decide (k.kindOf = 6) from (inV_str _ _ _).trans (head_fix k)]
  have hk27 := hk.same s27
  have hp27 := s27.keeps.sqT hp2
  refine ite2 (fun c6 => ?_) (fun c6 => ?_)
  · obtain ⟨b, z, a2, rfl⟩ := kind_fix (of_decide_eq_true c6)
    obtain ⟨y2, rfl, ry⟩ := rs
    refine ⟨_, rfl, _, _, _, _, rfl, rfl, hp27, atI_nat (j := 2) rfl, _, rfl, _, _, _, _, rfl, rfl, hp27, atI_nat (j := 1) rfl, _, rfl, a2, _, _, _, z, rfl, ry.same s27, hk27, ?_, fun vd H28 s28 r28 => ?_⟩
    · simp only [Fm.depth] at kd68; omega
    refine ⟨_, rfl, (.fix b z a2), _, rfl, (hk27.same s28), by omega, trivial, fun v30 H30 s30 r30 => ?_⟩
    refine ⟨_, rfl, _, _, r30.dp, (r28.same s30).dp, ug, ug, _, rfl, ?_⟩
    rw [Fm.eqv_toD, show (Fm.fix b z a2).unfold = Fm.putIn [(z, Fm.fix b z a2)] a2 from rfl, decide_eq_true rfl]
    refine iteT ?_
    refine ⟨_, rfl, (.fix b z a2), _, rfl, (hk27.same s28).same s30, by omega, by omega, by rw [kf]; decide, fun l5 H31 s31 _ h31 => ?_⟩
    rw [kf, srt_nil] at h31
    refine ⟨(by show 0 ≤ sizeLine; decide), newQ (.lst []) fun l6 _ s32 h32 => ?_⟩
    generalize upd H31 l6 (.lst []) = H32 at s32 h32 ⊢
    refine ⟨_, _, dp_strs (K := K) (xs := []) (SqL.of (K := K) (s32.at h31)), dp_strs (K := K) (xs := []) (SqL.of (K := K) h32), shp_strs (fun _ h => nomatch h), shp_strs (fun _ h => nomatch h), ?_⟩
    rw [eqv_strs]
    exact q _
  · have c6 : ¬ k.kindOf = 6 := fun e => c6 (decide_eq_true e)
    have eu : k.unfold = k := by
      cases k with
      | fix b x a => exact absurd rfl c6
      | _ => rfl
    refine ⟨_, rfl, k, _, rfl, hk27, by omega, trivial, fun v30 H30 s30 r30 => ?_⟩
    refine ⟨_, rfl, _, _, r30.dp, (hk27.same s30).dp, ug, (by rw [← eu]; exact ug), _, rfl, ?_⟩
    rw [Fm.eqv_toD, decide_eq_true eu]
    refine iteT ?_
    refine ⟨_, rfl, k, _, rfl, hk27.same s30, by omega, by omega, by rw [kf]; decide, fun l5 H31 s31 _ h31 => ?_⟩
    rw [kf, srt_nil] at h31
    refine ⟨(by show 0 ≤ sizeLine; decide), newQ (.lst []) fun l6 _ s32 h32 => ?_⟩
    generalize upd H31 l6 (.lst []) = H32 at s32 h32 ⊢
    refine ⟨_, _, dp_strs (K := K) (xs := []) (SqL.of (K := K) (s32.at h31)), dp_strs (K := K) (xs := []) (SqL.of (K := K) h32), shp_strs (fun _ h => nomatch h), shp_strs (fun _ h => nomatch h), ?_⟩
    rw [eqv_strs]
    exact q _
end
theorem all_mk {l : PySem.W.OpenLaw} {W_ : World} {K : PySem.W.Frag} {h : Heap} {mg : Str → Option Value} {fa : Addr} (X : K.In h) (G : h.Ns mainGlobals mg) (hfa : mg "law" = some (.ref fa))
    {f_parts_of f_with_parts f_free_rows f_free_names f_put_in f_dual f_unfolded f_simpler f_simpler_pair f__law_cells f__law_pick f__law_name f__law_any f__law_parts f__law_with f__law_free f__law_dual f__law_put f__law_once f__law_simpler f_law f_PART_PLACES t_PART_PLACES_true t_PART_PLACES_false t_PART_PLACES_value t_PART_PLACES_mark t_PART_PLACES_name t_PART_PLACES_and t_PART_PLACES_or t_PART_PLACES_some t_PART_PLACES_all t_PART_PLACES_least t_PART_PLACES_most f_EXCHANGED f_TRUE f_FALSE : Addr}
    {od_parts_of an_parts_of : Option Addr} {sl_parts_of : Array (Option Value)} {oc_parts_of kV_parts_of dc_parts_of pm_parts_of cd_parts_of ct_parts_of : Value} {od_with_parts an_with_parts : Option Addr} {sl_with_parts : Array (Option Value)} {oc_with_parts kV_with_parts dc_with_parts pm_with_parts cd_with_parts ct_with_parts : Value} {od_free_rows an_free_rows : Option Addr} {sl_free_rows : Array (Option Value)} {oc_free_rows kV_free_rows dc_free_rows pm_free_rows cd_free_rows ct_free_rows : Value} {od_free_names an_free_names : Option Addr} {sl_free_names : Array (Option Value)} {oc_free_names kV_free_names dc_free_names pm_free_names cd_free_names ct_free_names : Value} {od_put_in an_put_in : Option Addr} {sl_put_in : Array (Option Value)} {oc_put_in kV_put_in dc_put_in pm_put_in cd_put_in ct_put_in : Value} {od_dual an_dual : Option Addr} {sl_dual : Array (Option Value)} {oc_dual kV_dual dc_dual pm_dual cd_dual ct_dual : Value} {od_unfolded an_unfolded : Option Addr} {sl_unfolded : Array (Option Value)} {oc_unfolded kV_unfolded dc_unfolded pm_unfolded cd_unfolded ct_unfolded : Value} {od_simpler an_simpler : Option Addr} {sl_simpler : Array (Option Value)} {oc_simpler kV_simpler dc_simpler pm_simpler cd_simpler ct_simpler : Value} {od_simpler_pair an_simpler_pair : Option Addr} {sl_simpler_pair : Array (Option Value)} {oc_simpler_pair kV_simpler_pair dc_simpler_pair pm_simpler_pair cd_simpler_pair ct_simpler_pair : Value} {od__law_cells an__law_cells : Option Addr} {sl__law_cells : Array (Option Value)} {oc__law_cells kV__law_cells dc__law_cells pm__law_cells cd__law_cells ct__law_cells : Value} {od__law_pick an__law_pick : Option Addr} {sl__law_pick : Array (Option Value)} {oc__law_pick kV__law_pick dc__law_pick pm__law_pick cd__law_pick ct__law_pick : Value} {od__law_name an__law_name : Option Addr} {sl__law_name : Array (Option Value)} {oc__law_name kV__law_name dc__law_name pm__law_name cd__law_name ct__law_name : Value} {od__law_any an__law_any : Option Addr} {sl__law_any : Array (Option Value)} {oc__law_any kV__law_any dc__law_any pm__law_any cd__law_any ct__law_any : Value} {od__law_parts an__law_parts : Option Addr} {sl__law_parts : Array (Option Value)} {oc__law_parts kV__law_parts dc__law_parts pm__law_parts cd__law_parts ct__law_parts : Value} {od__law_with an__law_with : Option Addr} {sl__law_with : Array (Option Value)} {oc__law_with kV__law_with dc__law_with pm__law_with cd__law_with ct__law_with : Value} {od__law_free an__law_free : Option Addr} {sl__law_free : Array (Option Value)} {oc__law_free kV__law_free dc__law_free pm__law_free cd__law_free ct__law_free : Value} {od__law_dual an__law_dual : Option Addr} {sl__law_dual : Array (Option Value)} {oc__law_dual kV__law_dual dc__law_dual pm__law_dual cd__law_dual ct__law_dual : Value} {od__law_put an__law_put : Option Addr} {sl__law_put : Array (Option Value)} {oc__law_put kV__law_put dc__law_put pm__law_put cd__law_put ct__law_put : Value} {od__law_once an__law_once : Option Addr} {sl__law_once : Array (Option Value)} {oc__law_once kV__law_once dc__law_once pm__law_once cd__law_once ct__law_once : Value} {od__law_simpler an__law_simpler : Option Addr} {sl__law_simpler : Array (Option Value)} {oc__law_simpler kV__law_simpler dc__law_simpler pm__law_simpler cd__law_simpler ct__law_simpler : Value} {od_law an_law : Option Addr} {sl_law : Array (Option Value)} {oc_law kV_law dc_law pm_law cd_law ct_law : Value} {es_PART_PLACES : Array DictEntry} {n_PART_PLACES : Nat} {n_PART_PLACES_true : Nat} {n_PART_PLACES_false : Nat} {n_PART_PLACES_value : Nat} {n_PART_PLACES_mark : Nat} {n_PART_PLACES_name : Nat} {n_PART_PLACES_and : Nat} {u0_PART_PLACES_and : Tok} {u1_PART_PLACES_and : Tok} {n_PART_PLACES_or : Nat} {u0_PART_PLACES_or : Tok} {u1_PART_PLACES_or : Tok} {n_PART_PLACES_some : Nat} {u0_PART_PLACES_some : Tok} {n_PART_PLACES_all : Nat} {u0_PART_PLACES_all : Tok} {n_PART_PLACES_least : Nat} {u0_PART_PLACES_least : Tok} {n_PART_PLACES_most : Nat} {u0_PART_PLACES_most : Tok} {es_EXCHANGED : Array DictEntry} {n_EXCHANGED : Nat} {u_EXCHANGED_true : Tok} {u_EXCHANGED_false : Tok} {u_EXCHANGED_and : Tok} {u_EXCHANGED_or : Tok} {u_EXCHANGED_some : Tok} {u_EXCHANGED_all : Tok} {u_EXCHANGED_least : Tok} {u_EXCHANGED_most : Tok} {n_TRUE : Nat} {u0_TRUE : Tok} {n_FALSE : Nat} {u0_FALSE : Tok}
    (z_abs : PySem.W.nsIn K mainGlobals "abs" = some none)
    (z_int : PySem.W.nsIn K mainGlobals "int" = some none)
    (z_isinstance : PySem.W.nsIn K mainGlobals "isinstance" = some none)
    (z_len : PySem.W.nsIn K mainGlobals "len" = some none)
    (z_list : PySem.W.nsIn K mainGlobals "list" = some none)
    (z_range : PySem.W.nsIn K mainGlobals "range" = some none)
    (z_sorted : PySem.W.nsIn K mainGlobals "sorted" = some none)
    (z_str : PySem.W.nsIn K mainGlobals "str" = some none)
    (z_tuple : PySem.W.nsIn K mainGlobals "tuple" = some none)
    (z_zip : PySem.W.nsIn K mainGlobals "zip" = some none)
    (g_parts_of : PySem.W.nsIn K mainGlobals "parts_of" = some (some (.ref f_parts_of)))
    (l_parts_of : K.lookup f_parts_of = some ⟨oc_parts_of, od_parts_of, .func (PySem.W.fnOf "parts_of" "parts_of" (defArgs St_parts_of) (defBody St_parts_of) (defScope St_parts_of) .none kV_parts_of dc_parts_of pm_parts_of an_parts_of cd_parts_of ct_parts_of), sl_parts_of⟩)
    (c_parts_of : PySem.W.codeIn K cd_parts_of "parts_of" = true)
    (k_parts_of : PySem.W.keepIn K (.ref f_parts_of) = true)
    (g_with_parts : PySem.W.nsIn K mainGlobals "with_parts" = some (some (.ref f_with_parts)))
    (l_with_parts : K.lookup f_with_parts = some ⟨oc_with_parts, od_with_parts, .func (PySem.W.fnOf "with_parts" "with_parts" (defArgs St_with_parts) (defBody St_with_parts) (defScope St_with_parts) .none kV_with_parts dc_with_parts pm_with_parts an_with_parts cd_with_parts ct_with_parts), sl_with_parts⟩)
    (c_with_parts : PySem.W.codeIn K cd_with_parts "with_parts" = true)
    (k_with_parts : PySem.W.keepIn K (.ref f_with_parts) = true)
    (g_free_rows : PySem.W.nsIn K mainGlobals "free_rows" = some (some (.ref f_free_rows)))
    (l_free_rows : K.lookup f_free_rows = some ⟨oc_free_rows, od_free_rows, .func (PySem.W.fnOf "free_rows" "free_rows" (defArgs St_free_rows) (defBody St_free_rows) (defScope St_free_rows) .none kV_free_rows dc_free_rows pm_free_rows an_free_rows cd_free_rows ct_free_rows), sl_free_rows⟩)
    (c_free_rows : PySem.W.codeIn K cd_free_rows "free_rows" = true)
    (k_free_rows : PySem.W.keepIn K (.ref f_free_rows) = true)
    (g_free_names : PySem.W.nsIn K mainGlobals "free_names" = some (some (.ref f_free_names)))
    (l_free_names : K.lookup f_free_names = some ⟨oc_free_names, od_free_names, .func (PySem.W.fnOf "free_names" "free_names" (defArgs St_free_names) (defBody St_free_names) (defScope St_free_names) .none kV_free_names dc_free_names pm_free_names an_free_names cd_free_names ct_free_names), sl_free_names⟩)
    (c_free_names : PySem.W.codeIn K cd_free_names "free_names" = true)
    (k_free_names : PySem.W.keepIn K (.ref f_free_names) = true)
    (g_put_in : PySem.W.nsIn K mainGlobals "put_in" = some (some (.ref f_put_in)))
    (l_put_in : K.lookup f_put_in = some ⟨oc_put_in, od_put_in, .func (PySem.W.fnOf "put_in" "put_in" (defArgs St_put_in) (defBody St_put_in) (defScope St_put_in) .none kV_put_in dc_put_in pm_put_in an_put_in cd_put_in ct_put_in), sl_put_in⟩)
    (c_put_in : PySem.W.codeIn K cd_put_in "put_in" = true)
    (k_put_in : PySem.W.keepIn K (.ref f_put_in) = true)
    (g_dual : PySem.W.nsIn K mainGlobals "dual" = some (some (.ref f_dual)))
    (l_dual : K.lookup f_dual = some ⟨oc_dual, od_dual, .func (PySem.W.fnOf "dual" "dual" (defArgs St_dual) (defBody St_dual) (defScope St_dual) .none kV_dual dc_dual pm_dual an_dual cd_dual ct_dual), sl_dual⟩)
    (c_dual : PySem.W.codeIn K cd_dual "dual" = true)
    (k_dual : PySem.W.keepIn K (.ref f_dual) = true)
    (g_unfolded : PySem.W.nsIn K mainGlobals "unfolded" = some (some (.ref f_unfolded)))
    (l_unfolded : K.lookup f_unfolded = some ⟨oc_unfolded, od_unfolded, .func (PySem.W.fnOf "unfolded" "unfolded" (defArgs St_unfolded) (defBody St_unfolded) (defScope St_unfolded) .none kV_unfolded dc_unfolded pm_unfolded an_unfolded cd_unfolded ct_unfolded), sl_unfolded⟩)
    (c_unfolded : PySem.W.codeIn K cd_unfolded "unfolded" = true)
    (k_unfolded : PySem.W.keepIn K (.ref f_unfolded) = true)
    (g_simpler : PySem.W.nsIn K mainGlobals "simpler" = some (some (.ref f_simpler)))
    (l_simpler : K.lookup f_simpler = some ⟨oc_simpler, od_simpler, .func (PySem.W.fnOf "simpler" "simpler" (defArgs St_simpler) (defBody St_simpler) (defScope St_simpler) .none kV_simpler dc_simpler pm_simpler an_simpler cd_simpler ct_simpler), sl_simpler⟩)
    (c_simpler : PySem.W.codeIn K cd_simpler "simpler" = true)
    (k_simpler : PySem.W.keepIn K (.ref f_simpler) = true)
    (g_simpler_pair : PySem.W.nsIn K mainGlobals "simpler_pair" = some (some (.ref f_simpler_pair)))
    (l_simpler_pair : K.lookup f_simpler_pair = some ⟨oc_simpler_pair, od_simpler_pair, .func (PySem.W.fnOf "simpler_pair" "simpler_pair" (defArgs St_simpler_pair) (defBody St_simpler_pair) (defScope St_simpler_pair) .none kV_simpler_pair dc_simpler_pair pm_simpler_pair an_simpler_pair cd_simpler_pair ct_simpler_pair), sl_simpler_pair⟩)
    (c_simpler_pair : PySem.W.codeIn K cd_simpler_pair "simpler_pair" = true)
    (k_simpler_pair : PySem.W.keepIn K (.ref f_simpler_pair) = true)
    (g__law_cells : PySem.W.nsIn K mainGlobals "_law_cells" = some (some (.ref f__law_cells)))
    (l__law_cells : K.lookup f__law_cells = some ⟨oc__law_cells, od__law_cells, .func (PySem.W.fnOf "_law_cells" "_law_cells" (defArgs St__law_cells) (defBody St__law_cells) (defScope St__law_cells) .none kV__law_cells dc__law_cells pm__law_cells an__law_cells cd__law_cells ct__law_cells), sl__law_cells⟩)
    (c__law_cells : PySem.W.codeIn K cd__law_cells "_law_cells" = true)
    (k__law_cells : PySem.W.keepIn K (.ref f__law_cells) = true)
    (g__law_pick : PySem.W.nsIn K mainGlobals "_law_pick" = some (some (.ref f__law_pick)))
    (l__law_pick : K.lookup f__law_pick = some ⟨oc__law_pick, od__law_pick, .func (PySem.W.fnOf "_law_pick" "_law_pick" (defArgs St__law_pick) (defBody St__law_pick) (defScope St__law_pick) .none kV__law_pick dc__law_pick pm__law_pick an__law_pick cd__law_pick ct__law_pick), sl__law_pick⟩)
    (c__law_pick : PySem.W.codeIn K cd__law_pick "_law_pick" = true)
    (k__law_pick : PySem.W.keepIn K (.ref f__law_pick) = true)
    (g__law_name : PySem.W.nsIn K mainGlobals "_law_name" = some (some (.ref f__law_name)))
    (l__law_name : K.lookup f__law_name = some ⟨oc__law_name, od__law_name, .func (PySem.W.fnOf "_law_name" "_law_name" (defArgs St__law_name) (defBody St__law_name) (defScope St__law_name) .none kV__law_name dc__law_name pm__law_name an__law_name cd__law_name ct__law_name), sl__law_name⟩)
    (c__law_name : PySem.W.codeIn K cd__law_name "_law_name" = true)
    (k__law_name : PySem.W.keepIn K (.ref f__law_name) = true)
    (g__law_any : PySem.W.nsIn K mainGlobals "_law_any" = some (some (.ref f__law_any)))
    (l__law_any : K.lookup f__law_any = some ⟨oc__law_any, od__law_any, .func (PySem.W.fnOf "_law_any" "_law_any" (defArgs St__law_any) (defBody St__law_any) (defScope St__law_any) .none kV__law_any dc__law_any pm__law_any an__law_any cd__law_any ct__law_any), sl__law_any⟩)
    (c__law_any : PySem.W.codeIn K cd__law_any "_law_any" = true)
    (k__law_any : PySem.W.keepIn K (.ref f__law_any) = true)
    (g__law_parts : PySem.W.nsIn K mainGlobals "_law_parts" = some (some (.ref f__law_parts)))
    (l__law_parts : K.lookup f__law_parts = some ⟨oc__law_parts, od__law_parts, .func (PySem.W.fnOf "_law_parts" "_law_parts" (defArgs St__law_parts) (defBody St__law_parts) (defScope St__law_parts) .none kV__law_parts dc__law_parts pm__law_parts an__law_parts cd__law_parts ct__law_parts), sl__law_parts⟩)
    (c__law_parts : PySem.W.codeIn K cd__law_parts "_law_parts" = true)
    (k__law_parts : PySem.W.keepIn K (.ref f__law_parts) = true)
    (g__law_with : PySem.W.nsIn K mainGlobals "_law_with" = some (some (.ref f__law_with)))
    (l__law_with : K.lookup f__law_with = some ⟨oc__law_with, od__law_with, .func (PySem.W.fnOf "_law_with" "_law_with" (defArgs St__law_with) (defBody St__law_with) (defScope St__law_with) .none kV__law_with dc__law_with pm__law_with an__law_with cd__law_with ct__law_with), sl__law_with⟩)
    (c__law_with : PySem.W.codeIn K cd__law_with "_law_with" = true)
    (k__law_with : PySem.W.keepIn K (.ref f__law_with) = true)
    (g__law_free : PySem.W.nsIn K mainGlobals "_law_free" = some (some (.ref f__law_free)))
    (l__law_free : K.lookup f__law_free = some ⟨oc__law_free, od__law_free, .func (PySem.W.fnOf "_law_free" "_law_free" (defArgs St__law_free) (defBody St__law_free) (defScope St__law_free) .none kV__law_free dc__law_free pm__law_free an__law_free cd__law_free ct__law_free), sl__law_free⟩)
    (c__law_free : PySem.W.codeIn K cd__law_free "_law_free" = true)
    (k__law_free : PySem.W.keepIn K (.ref f__law_free) = true)
    (g__law_dual : PySem.W.nsIn K mainGlobals "_law_dual" = some (some (.ref f__law_dual)))
    (l__law_dual : K.lookup f__law_dual = some ⟨oc__law_dual, od__law_dual, .func (PySem.W.fnOf "_law_dual" "_law_dual" (defArgs St__law_dual) (defBody St__law_dual) (defScope St__law_dual) .none kV__law_dual dc__law_dual pm__law_dual an__law_dual cd__law_dual ct__law_dual), sl__law_dual⟩)
    (c__law_dual : PySem.W.codeIn K cd__law_dual "_law_dual" = true)
    (k__law_dual : PySem.W.keepIn K (.ref f__law_dual) = true)
    (g__law_put : PySem.W.nsIn K mainGlobals "_law_put" = some (some (.ref f__law_put)))
    (l__law_put : K.lookup f__law_put = some ⟨oc__law_put, od__law_put, .func (PySem.W.fnOf "_law_put" "_law_put" (defArgs St__law_put) (defBody St__law_put) (defScope St__law_put) .none kV__law_put dc__law_put pm__law_put an__law_put cd__law_put ct__law_put), sl__law_put⟩)
    (c__law_put : PySem.W.codeIn K cd__law_put "_law_put" = true)
    (k__law_put : PySem.W.keepIn K (.ref f__law_put) = true)
    (g__law_once : PySem.W.nsIn K mainGlobals "_law_once" = some (some (.ref f__law_once)))
    (l__law_once : K.lookup f__law_once = some ⟨oc__law_once, od__law_once, .func (PySem.W.fnOf "_law_once" "_law_once" (defArgs St__law_once) (defBody St__law_once) (defScope St__law_once) .none kV__law_once dc__law_once pm__law_once an__law_once cd__law_once ct__law_once), sl__law_once⟩)
    (c__law_once : PySem.W.codeIn K cd__law_once "_law_once" = true)
    (k__law_once : PySem.W.keepIn K (.ref f__law_once) = true)
    (g__law_simpler : PySem.W.nsIn K mainGlobals "_law_simpler" = some (some (.ref f__law_simpler)))
    (l__law_simpler : K.lookup f__law_simpler = some ⟨oc__law_simpler, od__law_simpler, .func (PySem.W.fnOf "_law_simpler" "_law_simpler" (defArgs St__law_simpler) (defBody St__law_simpler) (defScope St__law_simpler) .none kV__law_simpler dc__law_simpler pm__law_simpler an__law_simpler cd__law_simpler ct__law_simpler), sl__law_simpler⟩)
    (c__law_simpler : PySem.W.codeIn K cd__law_simpler "_law_simpler" = true)
    (k__law_simpler : PySem.W.keepIn K (.ref f__law_simpler) = true)
    (g_law : PySem.W.nsIn K mainGlobals "law" = some (some (.ref f_law)))
    (l_law : K.lookup f_law = some ⟨oc_law, od_law, .func (PySem.W.fnOf "law" "law" (defArgs St_law) (defBody St_law) (defScope St_law) .none kV_law dc_law pm_law an_law cd_law ct_law), sl_law⟩)
    (c_law : PySem.W.codeIn K cd_law "law" = true)
    (k_law : PySem.W.keepIn K (.ref f_law) = true)
    (g_PART_PLACES : PySem.W.nsIn K mainGlobals "PART_PLACES" = some (some (.ref f_PART_PLACES)))
    (l_PART_PLACES : K.lookup f_PART_PLACES = some ⟨.type "dict", none, .dict es_PART_PLACES n_PART_PLACES, #[]⟩)
    (y_PART_PLACES : PySem.W.KeysLit W_.params es_PART_PLACES.toList)
    (lo_PART_PLACES : (f_PART_PLACES == sysModules) = false)
    (k_PART_PLACES_true : PySem.W.nsIn K f_PART_PLACES "true" = some (some (.ref t_PART_PLACES_true)))
    (j_PART_PLACES_true : K.lookup t_PART_PLACES_true = some (⟨.type "tuple", none, .seq #[] n_PART_PLACES_true, #[]⟩ : Obj))
    (k_PART_PLACES_false : PySem.W.nsIn K f_PART_PLACES "false" = some (some (.ref t_PART_PLACES_false)))
    (j_PART_PLACES_false : K.lookup t_PART_PLACES_false = some (⟨.type "tuple", none, .seq #[] n_PART_PLACES_false, #[]⟩ : Obj))
    (k_PART_PLACES_value : PySem.W.nsIn K f_PART_PLACES "value" = some (some (.ref t_PART_PLACES_value)))
    (j_PART_PLACES_value : K.lookup t_PART_PLACES_value = some (⟨.type "tuple", none, .seq #[] n_PART_PLACES_value, #[]⟩ : Obj))
    (k_PART_PLACES_mark : PySem.W.nsIn K f_PART_PLACES "mark" = some (some (.ref t_PART_PLACES_mark)))
    (j_PART_PLACES_mark : K.lookup t_PART_PLACES_mark = some (⟨.type "tuple", none, .seq #[] n_PART_PLACES_mark, #[]⟩ : Obj))
    (k_PART_PLACES_name : PySem.W.nsIn K f_PART_PLACES "name" = some (some (.ref t_PART_PLACES_name)))
    (j_PART_PLACES_name : K.lookup t_PART_PLACES_name = some (⟨.type "tuple", none, .seq #[] n_PART_PLACES_name, #[]⟩ : Obj))
    (k_PART_PLACES_and : PySem.W.nsIn K f_PART_PLACES "and" = some (some (.ref t_PART_PLACES_and)))
    (j_PART_PLACES_and : K.lookup t_PART_PLACES_and = some (⟨.type "tuple", none, .seq #[.int 1 u0_PART_PLACES_and, .int 2 u1_PART_PLACES_and] n_PART_PLACES_and, #[]⟩ : Obj))
    (k_PART_PLACES_or : PySem.W.nsIn K f_PART_PLACES "or" = some (some (.ref t_PART_PLACES_or)))
    (j_PART_PLACES_or : K.lookup t_PART_PLACES_or = some (⟨.type "tuple", none, .seq #[.int 1 u0_PART_PLACES_or, .int 2 u1_PART_PLACES_or] n_PART_PLACES_or, #[]⟩ : Obj))
    (k_PART_PLACES_some : PySem.W.nsIn K f_PART_PLACES "some" = some (some (.ref t_PART_PLACES_some)))
    (j_PART_PLACES_some : K.lookup t_PART_PLACES_some = some (⟨.type "tuple", none, .seq #[.int 1 u0_PART_PLACES_some] n_PART_PLACES_some, #[]⟩ : Obj))
    (k_PART_PLACES_all : PySem.W.nsIn K f_PART_PLACES "all" = some (some (.ref t_PART_PLACES_all)))
    (j_PART_PLACES_all : K.lookup t_PART_PLACES_all = some (⟨.type "tuple", none, .seq #[.int 1 u0_PART_PLACES_all] n_PART_PLACES_all, #[]⟩ : Obj))
    (k_PART_PLACES_least : PySem.W.nsIn K f_PART_PLACES "least" = some (some (.ref t_PART_PLACES_least)))
    (j_PART_PLACES_least : K.lookup t_PART_PLACES_least = some (⟨.type "tuple", none, .seq #[.int 2 u0_PART_PLACES_least] n_PART_PLACES_least, #[]⟩ : Obj))
    (k_PART_PLACES_most : PySem.W.nsIn K f_PART_PLACES "most" = some (some (.ref t_PART_PLACES_most)))
    (j_PART_PLACES_most : K.lookup t_PART_PLACES_most = some (⟨.type "tuple", none, .seq #[.int 2 u0_PART_PLACES_most] n_PART_PLACES_most, #[]⟩ : Obj))
    (g_EXCHANGED : PySem.W.nsIn K mainGlobals "EXCHANGED" = some (some (.ref f_EXCHANGED)))
    (l_EXCHANGED : K.lookup f_EXCHANGED = some ⟨.type "dict", none, .dict es_EXCHANGED n_EXCHANGED, #[]⟩)
    (y_EXCHANGED : PySem.W.KeysLit W_.params es_EXCHANGED.toList)
    (lo_EXCHANGED : (f_EXCHANGED == sysModules) = false)
    (x_EXCHANGED_value : PySem.W.nsIn K f_EXCHANGED "value" = some none)
    (x_EXCHANGED_mark : PySem.W.nsIn K f_EXCHANGED "mark" = some none)
    (x_EXCHANGED_name : PySem.W.nsIn K f_EXCHANGED "name" = some none)
    (k_EXCHANGED_true : PySem.W.nsIn K f_EXCHANGED "true" = some (some (.str "false" u_EXCHANGED_true)))
    (k_EXCHANGED_false : PySem.W.nsIn K f_EXCHANGED "false" = some (some (.str "true" u_EXCHANGED_false)))
    (k_EXCHANGED_and : PySem.W.nsIn K f_EXCHANGED "and" = some (some (.str "or" u_EXCHANGED_and)))
    (k_EXCHANGED_or : PySem.W.nsIn K f_EXCHANGED "or" = some (some (.str "and" u_EXCHANGED_or)))
    (k_EXCHANGED_some : PySem.W.nsIn K f_EXCHANGED "some" = some (some (.str "all" u_EXCHANGED_some)))
    (k_EXCHANGED_all : PySem.W.nsIn K f_EXCHANGED "all" = some (some (.str "some" u_EXCHANGED_all)))
    (k_EXCHANGED_least : PySem.W.nsIn K f_EXCHANGED "least" = some (some (.str "most" u_EXCHANGED_least)))
    (k_EXCHANGED_most : PySem.W.nsIn K f_EXCHANGED "most" = some (some (.str "least" u_EXCHANGED_most)))
    (g_TRUE : PySem.W.nsIn K mainGlobals "TRUE" = some (some (.ref f_TRUE)))
    (l_TRUE : K.lookup f_TRUE = some (⟨.type "tuple", none, .seq #[.str "true" u0_TRUE] n_TRUE, #[]⟩ : Obj))
    (g_FALSE : PySem.W.nsIn K mainGlobals "FALSE" = some (some (.ref f_FALSE)))
    (l_FALSE : K.lookup f_FALSE = some (⟨.type "tuple", none, .seq #[.str "false" u0_FALSE] n_FALSE, #[]⟩ : Obj))
    : ∃ fd : FuncData, (∀ (s : Shared) (v : Value), BindsTo s fd ⟨[v], []⟩ [("script", v)]) ∧ ∀ base : Heap, K.In base → base.Ns mainGlobals mg → FnOk l.prog W_ K mg base L2.CX0 200 fa fd ["script"] (spLaw K) := by
  have e := hfa.symm.trans (PySem.W.mg_of X G g_law)
  cases e
  have F_parts_of := fun_mk (st := St_parts_of) l_parts_of c_parts_of k_parts_of
  have b_parts_of := F_parts_of.binds (ps := ["formula"]) fun _ _ _ _ _ _ us hl => match us, hl with | [_], _ => rfl
  have F_with_parts := fun_mk (st := St_with_parts) l_with_parts c_with_parts k_with_parts
  have b_with_parts := F_with_parts.binds (ps := ["formula", "parts"]) fun _ _ _ _ _ _ us hl => match us, hl with | [_, _], _ => rfl
  have F_free_rows := fun_mk (st := St_free_rows) l_free_rows c_free_rows k_free_rows
  have b_free_rows := F_free_rows.binds (ps := ["formula"]) fun _ _ _ _ _ _ us hl => match us, hl with | [_], _ => rfl
  have F_free_names := fun_mk (st := St_free_names) l_free_names c_free_names k_free_names
  have b_free_names := F_free_names.binds (ps := ["formula"]) fun _ _ _ _ _ _ us hl => match us, hl with | [_], _ => rfl
  have F_put_in := fun_mk (st := St_put_in) l_put_in c_put_in k_put_in
  have b_put_in := F_put_in.binds (ps := ["formula", "images"]) fun _ _ _ _ _ _ us hl => match us, hl with | [_, _], _ => rfl
  have F_dual := fun_mk (st := St_dual) l_dual c_dual k_dual
  have b_dual := F_dual.binds (ps := ["formula"]) fun _ _ _ _ _ _ us hl => match us, hl with | [_], _ => rfl
  have F_unfolded := fun_mk (st := St_unfolded) l_unfolded c_unfolded k_unfolded
  have b_unfolded := F_unfolded.binds (ps := ["formula"]) fun _ _ _ _ _ _ us hl => match us, hl with | [_], _ => rfl
  have F_simpler := fun_mk (st := St_simpler) l_simpler c_simpler k_simpler
  have b_simpler := F_simpler.binds (ps := ["formula"]) fun _ _ _ _ _ _ us hl => match us, hl with | [_], _ => rfl
  have F_simpler_pair := fun_mk (st := St_simpler_pair) l_simpler_pair c_simpler_pair k_simpler_pair
  have b_simpler_pair := F_simpler_pair.binds (ps := ["formula", "neutral", "taking"]) fun _ _ _ _ _ _ us hl => match us, hl with | [_, _, _], _ => rfl
  have F__law_cells := fun_mk (st := St__law_cells) l__law_cells c__law_cells k__law_cells
  have b__law_cells := F__law_cells.binds (ps := ["script"]) fun _ _ _ _ _ _ us hl => match us, hl with | [_], _ => rfl
  have F__law_pick := fun_mk (st := St__law_pick) l__law_pick c__law_pick k__law_pick
  have b__law_pick := F__law_pick.binds (ps := ["source", "many"]) fun _ _ _ _ _ _ us hl => match us, hl with | [_, _], _ => rfl
  have F__law_name := fun_mk (st := St__law_name) l__law_name c__law_name k__law_name
  have b__law_name := F__law_name.binds (ps := ["source"]) fun _ _ _ _ _ _ us hl => match us, hl with | [_], _ => rfl
  have F__law_any := fun_mk (st := St__law_any) l__law_any c__law_any k__law_any
  have b__law_any := F__law_any.binds (ps := ["source", "names", "depth"]) fun _ _ _ _ _ _ us hl => match us, hl with | [_, _, _], _ => rfl
  have F__law_parts := fun_mk (st := St__law_parts) l__law_parts c__law_parts k__law_parts
  have b__law_parts := F__law_parts.binds (ps := ["formula"]) fun _ _ _ _ _ _ us hl => match us, hl with | [_], _ => rfl
  have F__law_with := fun_mk (st := St__law_with) l__law_with c__law_with k__law_with
  have b__law_with := F__law_with.binds (ps := ["formula", "parts"]) fun _ _ _ _ _ _ us hl => match us, hl with | [_, _], _ => rfl
  have F__law_free := fun_mk (st := St__law_free) l__law_free c__law_free k__law_free
  have b__law_free := F__law_free.binds (ps := ["formula", "bound"]) fun _ _ _ _ _ _ us hl => match us, hl with | [_, _], _ => rfl
  have F__law_dual := fun_mk (st := St__law_dual) l__law_dual c__law_dual k__law_dual
  have b__law_dual := F__law_dual.binds (ps := ["formula"]) fun _ _ _ _ _ _ us hl => match us, hl with | [_], _ => rfl
  have F__law_put := fun_mk (st := St__law_put) l__law_put c__law_put k__law_put
  have b__law_put := F__law_put.binds (ps := ["formula", "name", "image"]) fun _ _ _ _ _ _ us hl => match us, hl with | [_, _, _], _ => rfl
  have F__law_once := fun_mk (st := St__law_once) l__law_once c__law_once k__law_once
  have b__law_once := F__law_once.binds (ps := ["formula"]) fun _ _ _ _ _ _ us hl => match us, hl with | [_], _ => rfl
  have F__law_simpler := fun_mk (st := St__law_simpler) l__law_simpler c__law_simpler k__law_simpler
  have b__law_simpler := F__law_simpler.binds (ps := ["formula"]) fun _ _ _ _ _ _ us hl => match us, hl with | [_], _ => rfl
  have F_law := fun_mk (st := St_law) l_law c_law k_law
  have b_law := F_law.binds (ps := ["script"]) fun _ _ _ _ _ _ us hl => match us, hl with | [_], _ => rfl
  let T : Tx K mg W_ := { n_abs := PySem.W.mg_none_of X G z_abs, n_int := PySem.W.mg_none_of X G z_int, n_isinstance := PySem.W.mg_none_of X G z_isinstance, n_len := PySem.W.mg_none_of X G z_len, n_list := PySem.W.mg_none_of X G z_list, n_range := PySem.W.mg_none_of X G z_range, n_sorted := PySem.W.mg_none_of X G z_sorted, n_str := PySem.W.mg_none_of X G z_str, n_tuple := PySem.W.mg_none_of X G z_tuple, n_zip := PySem.W.mg_none_of X G z_zip, a_parts_of := f_parts_of, d_parts_of := _, F_parts_of := F_parts_of, b_parts_of := b_parts_of, g_parts_of := PySem.W.mg_of X G g_parts_of, a_with_parts := f_with_parts, d_with_parts := _, F_with_parts := F_with_parts, b_with_parts := b_with_parts, g_with_parts := PySem.W.mg_of X G g_with_parts, a_free_rows := f_free_rows, d_free_rows := _, F_free_rows := F_free_rows, b_free_rows := b_free_rows, g_free_rows := PySem.W.mg_of X G g_free_rows, a_free_names := f_free_names, d_free_names := _, F_free_names := F_free_names, b_free_names := b_free_names, g_free_names := PySem.W.mg_of X G g_free_names, a_put_in := f_put_in, d_put_in := _, F_put_in := F_put_in, b_put_in := b_put_in, g_put_in := PySem.W.mg_of X G g_put_in, a_dual := f_dual, d_dual := _, F_dual := F_dual, b_dual := b_dual, g_dual := PySem.W.mg_of X G g_dual, a_unfolded := f_unfolded, d_unfolded := _, F_unfolded := F_unfolded, b_unfolded := b_unfolded, g_unfolded := PySem.W.mg_of X G g_unfolded, a_simpler := f_simpler, d_simpler := _, F_simpler := F_simpler, b_simpler := b_simpler, g_simpler := PySem.W.mg_of X G g_simpler, a_simpler_pair := f_simpler_pair, d_simpler_pair := _, F_simpler_pair := F_simpler_pair, b_simpler_pair := b_simpler_pair, g_simpler_pair := PySem.W.mg_of X G g_simpler_pair, a__law_cells := f__law_cells, d__law_cells := _, F__law_cells := F__law_cells, b__law_cells := b__law_cells, g__law_cells := PySem.W.mg_of X G g__law_cells, a__law_pick := f__law_pick, d__law_pick := _, F__law_pick := F__law_pick, b__law_pick := b__law_pick, g__law_pick := PySem.W.mg_of X G g__law_pick, a__law_name := f__law_name, d__law_name := _, F__law_name := F__law_name, b__law_name := b__law_name, g__law_name := PySem.W.mg_of X G g__law_name, a__law_any := f__law_any, d__law_any := _, F__law_any := F__law_any, b__law_any := b__law_any, g__law_any := PySem.W.mg_of X G g__law_any, a__law_parts := f__law_parts, d__law_parts := _, F__law_parts := F__law_parts, b__law_parts := b__law_parts, g__law_parts := PySem.W.mg_of X G g__law_parts, a__law_with := f__law_with, d__law_with := _, F__law_with := F__law_with, b__law_with := b__law_with, g__law_with := PySem.W.mg_of X G g__law_with, a__law_free := f__law_free, d__law_free := _, F__law_free := F__law_free, b__law_free := b__law_free, g__law_free := PySem.W.mg_of X G g__law_free, a__law_dual := f__law_dual, d__law_dual := _, F__law_dual := F__law_dual, b__law_dual := b__law_dual, g__law_dual := PySem.W.mg_of X G g__law_dual, a__law_put := f__law_put, d__law_put := _, F__law_put := F__law_put, b__law_put := b__law_put, g__law_put := PySem.W.mg_of X G g__law_put, a__law_once := f__law_once, d__law_once := _, F__law_once := F__law_once, b__law_once := b__law_once, g__law_once := PySem.W.mg_of X G g__law_once, a__law_simpler := f__law_simpler, d__law_simpler := _, F__law_simpler := F__law_simpler, b__law_simpler := b__law_simpler, g__law_simpler := PySem.W.mg_of X G g__law_simpler, a_law := fa, d_law := _, F_law := F_law, b_law := b_law, g_law := PySem.W.mg_of X G g_law, a_PART_PLACES := f_PART_PLACES, g_PART_PLACES := PySem.W.mg_of X G g_PART_PLACES, e_PART_PLACES := es_PART_PLACES, m_PART_PLACES := n_PART_PLACES, l_PART_PLACES := l_PART_PLACES, y_PART_PLACES := y_PART_PLACES, lo_PART_PLACES := lo_PART_PLACES, k_PART_PLACES_true := ⟨_, k_PART_PLACES_true, fun H => .inr ⟨_, _, _, j_PART_PLACES_true, rfl, rfl, (by show 0 ≤ sizeLine; decide), .nil⟩⟩, k_PART_PLACES_false := ⟨_, k_PART_PLACES_false, fun H => .inr ⟨_, _, _, j_PART_PLACES_false, rfl, rfl, (by show 0 ≤ sizeLine; decide), .nil⟩⟩, k_PART_PLACES_value := ⟨_, k_PART_PLACES_value, fun H => .inr ⟨_, _, _, j_PART_PLACES_value, rfl, rfl, (by show 0 ≤ sizeLine; decide), .nil⟩⟩, k_PART_PLACES_mark := ⟨_, k_PART_PLACES_mark, fun H => .inr ⟨_, _, _, j_PART_PLACES_mark, rfl, rfl, (by show 0 ≤ sizeLine; decide), .nil⟩⟩, k_PART_PLACES_name := ⟨_, k_PART_PLACES_name, fun H => .inr ⟨_, _, _, j_PART_PLACES_name, rfl, rfl, (by show 0 ≤ sizeLine; decide), .nil⟩⟩, k_PART_PLACES_and := ⟨_, k_PART_PLACES_and, fun H => .inr ⟨_, _, _, j_PART_PLACES_and, rfl, rfl, (by show 2 ≤ sizeLine; decide), .cons ⟨_, rfl⟩ (.cons ⟨_, rfl⟩ .nil)⟩⟩, k_PART_PLACES_or := ⟨_, k_PART_PLACES_or, fun H => .inr ⟨_, _, _, j_PART_PLACES_or, rfl, rfl, (by show 2 ≤ sizeLine; decide), .cons ⟨_, rfl⟩ (.cons ⟨_, rfl⟩ .nil)⟩⟩, k_PART_PLACES_some := ⟨_, k_PART_PLACES_some, fun H => .inr ⟨_, _, _, j_PART_PLACES_some, rfl, rfl, (by show 1 ≤ sizeLine; decide), .cons ⟨_, rfl⟩ .nil⟩⟩, k_PART_PLACES_all := ⟨_, k_PART_PLACES_all, fun H => .inr ⟨_, _, _, j_PART_PLACES_all, rfl, rfl, (by show 1 ≤ sizeLine; decide), .cons ⟨_, rfl⟩ .nil⟩⟩, k_PART_PLACES_least := ⟨_, k_PART_PLACES_least, fun H => .inr ⟨_, _, _, j_PART_PLACES_least, rfl, rfl, (by show 1 ≤ sizeLine; decide), .cons ⟨_, rfl⟩ .nil⟩⟩, k_PART_PLACES_most := ⟨_, k_PART_PLACES_most, fun H => .inr ⟨_, _, _, j_PART_PLACES_most, rfl, rfl, (by show 1 ≤ sizeLine; decide), .cons ⟨_, rfl⟩ .nil⟩⟩, a_EXCHANGED := f_EXCHANGED, g_EXCHANGED := PySem.W.mg_of X G g_EXCHANGED, e_EXCHANGED := es_EXCHANGED, m_EXCHANGED := n_EXCHANGED, l_EXCHANGED := l_EXCHANGED, y_EXCHANGED := y_EXCHANGED, lo_EXCHANGED := lo_EXCHANGED, x_EXCHANGED_value := x_EXCHANGED_value, x_EXCHANGED_mark := x_EXCHANGED_mark, x_EXCHANGED_name := x_EXCHANGED_name, k_EXCHANGED_true := ⟨_, k_EXCHANGED_true⟩, k_EXCHANGED_false := ⟨_, k_EXCHANGED_false⟩, k_EXCHANGED_and := ⟨_, k_EXCHANGED_and⟩, k_EXCHANGED_or := ⟨_, k_EXCHANGED_or⟩, k_EXCHANGED_some := ⟨_, k_EXCHANGED_some⟩, k_EXCHANGED_all := ⟨_, k_EXCHANGED_all⟩, k_EXCHANGED_least := ⟨_, k_EXCHANGED_least⟩, k_EXCHANGED_most := ⟨_, k_EXCHANGED_most⟩, a_TRUE := f_TRUE, g_TRUE := PySem.W.mg_of X G g_TRUE, t_TRUE := fun H => .inr ⟨_, _, _, l_TRUE, rfl, rfl, (by show 1 ≤ sizeLine; decide), .cons ⟨_, rfl⟩ .nil⟩, a_FALSE := f_FALSE, g_FALSE := PySem.W.mg_of X G g_FALSE, t_FALSE := fun H => .inr ⟨_, _, _, l_FALSE, rfl, rfl, (by show 1 ≤ sizeLine; decide), .cons ⟨_, rfl⟩ .nil⟩ }
  exact ⟨T.d_law, fun s v => .of_eq rfl, fun base _ _ => ok_law T⟩
end Lw
open PySem PySem.W PyProof.Rows
set_option maxRecDepth 100000 in
set_option maxHeartbeats 0 in
theorem PySem.Challenge.cw_latticewish_k21_formulas_made_of_formula_holds : PySem.Challenge.rw_latticewish_k21_formulas_made_of_formula.Holds := by
  w_on; o_law; k_head; (case hw => w_witness2)
  k_fill
  refine L2.walk_of (n := 63) (k := 200) (x := "script") (CX := fun w => L2.CX0) (sp := fun w => Lw.spLaw _) rfl (by decide) rfl ⟨rfl, by decide, by decide⟩ (fun w h Y => PySem.W.kIn_of Y) ?F (fun _ _ a ns hl _ hS => ⟨a, ns, rfl, hS, hl, fun _ => rfl⟩) fun _ _ _ _ _ z => z
  case F =>
    intro w mg fa h KX G hmg
    refine' Lw.all_mk (l := PySem.Challenge.rw_latticewish_k21_formulas_made_of_formula) KX G hmg ?z_abs ?z_int ?z_isinstance ?z_len ?z_list ?z_range ?z_sorted ?z_str ?z_tuple ?z_zip ?g_parts_of ?l_parts_of ?c_parts_of ?k_parts_of ?g_with_parts ?l_with_parts ?c_with_parts ?k_with_parts ?g_free_rows ?l_free_rows ?c_free_rows ?k_free_rows ?g_free_names ?l_free_names ?c_free_names ?k_free_names ?g_put_in ?l_put_in ?c_put_in ?k_put_in ?g_dual ?l_dual ?c_dual ?k_dual ?g_unfolded ?l_unfolded ?c_unfolded ?k_unfolded ?g_simpler ?l_simpler ?c_simpler ?k_simpler ?g_simpler_pair ?l_simpler_pair ?c_simpler_pair ?k_simpler_pair ?g__law_cells ?l__law_cells ?c__law_cells ?k__law_cells ?g__law_pick ?l__law_pick ?c__law_pick ?k__law_pick ?g__law_name ?l__law_name ?c__law_name ?k__law_name ?g__law_any ?l__law_any ?c__law_any ?k__law_any ?g__law_parts ?l__law_parts ?c__law_parts ?k__law_parts ?g__law_with ?l__law_with ?c__law_with ?k__law_with ?g__law_free ?l__law_free ?c__law_free ?k__law_free ?g__law_dual ?l__law_dual ?c__law_dual ?k__law_dual ?g__law_put ?l__law_put ?c__law_put ?k__law_put ?g__law_once ?l__law_once ?c__law_once ?k__law_once ?g__law_simpler ?l__law_simpler ?c__law_simpler ?k__law_simpler ?g_law ?l_law ?c_law ?k_law ?g_PART_PLACES ?l_PART_PLACES ?y_PART_PLACES ?lo_PART_PLACES ?k_PART_PLACES_true ?j_PART_PLACES_true ?k_PART_PLACES_false ?j_PART_PLACES_false ?k_PART_PLACES_value ?j_PART_PLACES_value ?k_PART_PLACES_mark ?j_PART_PLACES_mark ?k_PART_PLACES_name ?j_PART_PLACES_name ?k_PART_PLACES_and ?j_PART_PLACES_and ?k_PART_PLACES_or ?j_PART_PLACES_or ?k_PART_PLACES_some ?j_PART_PLACES_some ?k_PART_PLACES_all ?j_PART_PLACES_all ?k_PART_PLACES_least ?j_PART_PLACES_least ?k_PART_PLACES_most ?j_PART_PLACES_most ?g_EXCHANGED ?l_EXCHANGED ?y_EXCHANGED ?lo_EXCHANGED ?x_EXCHANGED_value ?x_EXCHANGED_mark ?x_EXCHANGED_name ?k_EXCHANGED_true ?k_EXCHANGED_false ?k_EXCHANGED_and ?k_EXCHANGED_or ?k_EXCHANGED_some ?k_EXCHANGED_all ?k_EXCHANGED_least ?k_EXCHANGED_most ?g_TRUE ?l_TRUE ?g_FALSE ?l_FALSE
    (case z_abs => k_is)
    (case z_int => k_is)
    (case z_isinstance => k_is)
    (case z_len => k_is)
    (case z_list => k_is)
    (case z_range => k_is)
    (case z_sorted => k_is)
    (case z_str => k_is)
    (case z_tuple => k_is)
    (case z_zip => k_is)
    (case g_parts_of => k_is)
    (case l_parts_of => k_is)
    (case c_parts_of => k_is)
    (case k_parts_of => k_is)
    (case g_with_parts => k_is)
    (case l_with_parts => k_is)
    (case c_with_parts => k_is)
    (case k_with_parts => k_is)
    (case g_free_rows => k_is)
    (case l_free_rows => k_is)
    (case c_free_rows => k_is)
    (case k_free_rows => k_is)
    (case g_free_names => k_is)
    (case l_free_names => k_is)
    (case c_free_names => k_is)
    (case k_free_names => k_is)
    (case g_put_in => k_is)
    (case l_put_in => k_is)
    (case c_put_in => k_is)
    (case k_put_in => k_is)
    (case g_dual => k_is)
    (case l_dual => k_is)
    (case c_dual => k_is)
    (case k_dual => k_is)
    (case g_unfolded => k_is)
    (case l_unfolded => k_is)
    (case c_unfolded => k_is)
    (case k_unfolded => k_is)
    (case g_simpler => k_is)
    (case l_simpler => k_is)
    (case c_simpler => k_is)
    (case k_simpler => k_is)
    (case g_simpler_pair => k_is)
    (case l_simpler_pair => k_is)
    (case c_simpler_pair => k_is)
    (case k_simpler_pair => k_is)
    (case g__law_cells => k_is)
    (case l__law_cells => k_is)
    (case c__law_cells => k_is)
    (case k__law_cells => k_is)
    (case g__law_pick => k_is)
    (case l__law_pick => k_is)
    (case c__law_pick => k_is)
    (case k__law_pick => k_is)
    (case g__law_name => k_is)
    (case l__law_name => k_is)
    (case c__law_name => k_is)
    (case k__law_name => k_is)
    (case g__law_any => k_is)
    (case l__law_any => k_is)
    (case c__law_any => k_is)
    (case k__law_any => k_is)
    (case g__law_parts => k_is)
    (case l__law_parts => k_is)
    (case c__law_parts => k_is)
    (case k__law_parts => k_is)
    (case g__law_with => k_is)
    (case l__law_with => k_is)
    (case c__law_with => k_is)
    (case k__law_with => k_is)
    (case g__law_free => k_is)
    (case l__law_free => k_is)
    (case c__law_free => k_is)
    (case k__law_free => k_is)
    (case g__law_dual => k_is)
    (case l__law_dual => k_is)
    (case c__law_dual => k_is)
    (case k__law_dual => k_is)
    (case g__law_put => k_is)
    (case l__law_put => k_is)
    (case c__law_put => k_is)
    (case k__law_put => k_is)
    (case g__law_once => k_is)
    (case l__law_once => k_is)
    (case c__law_once => k_is)
    (case k__law_once => k_is)
    (case g__law_simpler => k_is)
    (case l__law_simpler => k_is)
    (case c__law_simpler => k_is)
    (case k__law_simpler => k_is)
    (case g_law => k_is)
    (case l_law => k_is)
    (case c_law => k_is)
    (case k_law => k_is)
    (case g_PART_PLACES => k_is)
    (case l_PART_PLACES => k_is)
    (case y_PART_PLACES => repeat (first | exact trivial | (refine ⟨⟨_, _, rfl, rfl⟩, ?_⟩)))
    (case lo_PART_PLACES => decide +kernel)
    (case k_PART_PLACES_true => k_is)
    (case j_PART_PLACES_true => k_is)
    (case k_PART_PLACES_false => k_is)
    (case j_PART_PLACES_false => k_is)
    (case k_PART_PLACES_value => k_is)
    (case j_PART_PLACES_value => k_is)
    (case k_PART_PLACES_mark => k_is)
    (case j_PART_PLACES_mark => k_is)
    (case k_PART_PLACES_name => k_is)
    (case j_PART_PLACES_name => k_is)
    (case k_PART_PLACES_and => k_is)
    (case j_PART_PLACES_and => k_is)
    (case k_PART_PLACES_or => k_is)
    (case j_PART_PLACES_or => k_is)
    (case k_PART_PLACES_some => k_is)
    (case j_PART_PLACES_some => k_is)
    (case k_PART_PLACES_all => k_is)
    (case j_PART_PLACES_all => k_is)
    (case k_PART_PLACES_least => k_is)
    (case j_PART_PLACES_least => k_is)
    (case k_PART_PLACES_most => k_is)
    (case j_PART_PLACES_most => k_is)
    (case g_EXCHANGED => k_is)
    (case l_EXCHANGED => k_is)
    (case y_EXCHANGED => repeat (first | exact trivial | (refine ⟨⟨_, _, rfl, rfl⟩, ?_⟩)))
    (case lo_EXCHANGED => decide +kernel)
    (case x_EXCHANGED_value => k_is)
    (case x_EXCHANGED_mark => k_is)
    (case x_EXCHANGED_name => k_is)
    (case k_EXCHANGED_true => k_is)
    (case k_EXCHANGED_false => k_is)
    (case k_EXCHANGED_and => k_is)
    (case k_EXCHANGED_or => k_is)
    (case k_EXCHANGED_some => k_is)
    (case k_EXCHANGED_all => k_is)
    (case k_EXCHANGED_least => k_is)
    (case k_EXCHANGED_most => k_is)
    (case g_TRUE => k_is)
    (case l_TRUE => k_is)
    (case g_FALSE => k_is)
    (case l_FALSE => k_is)
#print axioms PySem.Challenge.cw_latticewish_k21_formulas_made_of_formula_holds
