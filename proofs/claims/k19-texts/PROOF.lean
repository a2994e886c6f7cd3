import PyProof.Rows.All
import Wide.All
import OpenK.AllK
import Wide.FinOn
import HandS.ForMost
import HandS.Walk
import HandS.Zip
import KE.GoesMore
import HandS.Deep
import HandS.DictComp
import HandS.IsInst
import HandS.RaiseMore
import HandS.ExcOwn
import PyProof.Rows.TmSorted
import PyProof.Rows.SortStr
import PyProof.Rows.StrMeet
import HandS.Text
import HandS.More
import PyProof.StrLawsIn
import PySem.Challenge.RW_latticewish_k19_texts_read_back
set_option Elab.async false
set_option linter.all false
set_option maxRecDepth 100000
set_option maxHeartbeats 4000000
namespace Lw
open PySem L2
local macro_rules | `(tactic| walk_at "up") => `(tactic| first | assumption | (refine Same.at (by assumption) ?_; walk_at "up") | (refine Same.seq (by assumption) ?_; walk_at "up"))
local macro_rules | `(tactic| walk_at "rd") => `(tactic| repeat (first | (refine ⟨_, rfl, ?_⟩) | (refine ⟨_, _, rfl, rfl, ?_⟩) | (refine ⟨(by decide), ?_⟩)))
theorem _root_.L2.Same.new {H : Hp} {p : Addr} (h : H p = none) (o : HO) : Same H (upd H p o) := fun b u q => by rw [upd_ne (ne_of_none q h)]; exact q
theorem _root_.L2.Same.mut {H H' : Hp} {p : Addr} (s : Same H H') (h : H p = none) (o : HO) : Same H (upd H' p o) := fun b u q => by
  rw [upd_ne (ne_of_none q h)]; exact s b u q
theorem _root_.L2.Same.at {H H' : Hp} {p : Addr} {o : HO} (s : Same H H') (h : H p = some o) : H' p = some o := s p o h
/-- a new object, its heap told by what is known of it -/
theorem newO {H : Hp} {o : HO} {Q : Addr → Hp → Prop} (h : ∀ p H', H p = none → Same H H' → H' p = some o → Q p H') : ∀ p, H p = none → Q p (upd H p o) :=
  fun p hp => h p _ hp (Same.new hp o) upd_same
/-- the same, the object said, the heap as it is -/
theorem newQ {H : Hp} (o : HO) {G : Addr → Prop} (h : ∀ p, H p = none → Same H (upd H p o) → upd H p o p = some o → G p) : ∀ p, H p = none → G p :=
  fun p hp => h p hp (Same.new hp o) upd_same
theorem ans_run {t : TT} {σ : L2.St} {H : Hp} {Q : Bool → Hp → Prop} (b : Bool) (h : ∀ Q' : Bool → Hp → Prop, Q' b H → t σ H Q') (q : Q b H) : t σ H Q := h Q q
theorem iteN {c A B : Prop} [Decidable c] (hc : ¬ c) (h : B) : if decide c = true then A else B := by
  rw [decide_eq_false hc]
  exact iteF h
theorem iteY {c A B : Prop} [Decidable c] (hc : c) (h : A) : if decide c = true then A else B := by
  rw [decide_eq_true hc]
  exact iteT h
theorem lcY {σ : L2.St} {H : Hp} {A B : Hp → Prop} (h : A H) : tYes σ H (fun b H3 => if b = true then A H3 else B H3) := by
  show (if true = true then A H else B H)
  exact iteT h
theorem abs_map (ns : List Int) : ∀ z ∈ ns.map (fun i : Int => if i < 0 then -i else i), 0 ≤ z := by
  intro z hz
  obtain ⟨i, _, rfl⟩ := List.mem_map.mp hz
  split <;> omega
theorem map_at {ns : List Int} {i : Nat} {x : V} (h : (ns.map V.int)[i]? = some x) : ∃ z, ns[i]? = some z ∧ x = .int z := by
  rw [List.getElem?_map] at h
  cases e : ns[i]? with
  | none => rw [e] at h; cases h
  | some z => rw [e] at h; exact ⟨z, rfl, (Option.some.inj h).symm⟩
theorem take_snoc {α : Type} {l : List α} {i : Nat} {x : α} (h : l[i]? = some x) : l.take (i + 1) = l.take i ++ [x] := by
  obtain ⟨hl, rfl⟩ := List.getElem?_eq_some_iff.mp h
  rw [List.take_succ, List.getElem?_eq_getElem hl]; rfl
/-- what draws are made of -/
structure SrcIs (K : PySem.W.Frag) (H : Hp) (p c : Addr) (cs : List Int) (i : Nat) (l m : Int) : Prop where
  at_ : H p = some (.lst [.ref c, .int i, .int l, .int m])
  cel : SqL K H c (cs.map V.int)
  ne : c ≠ p
  hi : i ≤ cs.length
  hl : 0 ≤ l
  hc : ∀ z ∈ cs, 0 ≤ z
  m0 : 0 ≤ m
  m1 : m < 2147483563
def Src (K : PySem.W.Frag) (c : Addr) (H : Hp) (p : Addr) : Prop := ∃ cs i l m, SrcIs K H p c cs i l m
/-- all but p is as it was -/
def But (p : Addr) (H H' : Hp) : Prop := ∀ b o, b ≠ p → H b = some o → H' b = some o
theorem But.refl (p : Addr) (H : Hp) : But p H H := fun _ _ _ h => h
theorem But.trans {p : Addr} {H H1 H2 : Hp} (a : But p H H1) (b : But p H1 H2) : But p H H2 := fun c o n h => b c o n (a c o n h)
theorem But.upd {p : Addr} {H H' : Hp} (s : But p H H') (o : HO) : But p H (upd H' p o) := fun b u n h => by rw [upd_ne n]; exact s b u n h
theorem _root_.L2.Same.but {H H' : Hp} (s : Same H H') (p : Addr) : But p H H' := fun b o _ h => s b o h
theorem But.seq {K : PySem.W.Frag} {H H' : Hp} {p a : Addr} {xs : List V} (e : But p H H') (n : a ≠ p) (h : SqL K H a xs) : SqL K H' a xs := by
  rcases h with (h | ⟨o, h⟩) | h
  · exact .inl (.inl (e _ _ n h))
  · exact .inl (.inr ⟨o, e _ _ n h⟩)
  · exact .inr h
theorem SrcIs.put {K : PySem.W.Frag} {H : Hp} {p c : Addr} {cs : List Int} {i : Nat} {l m : Int} (h : SrcIs K H p c cs i l m) {i' : Nat} {l' m' : Int} (a : i' ≤ cs.length) (b : 0 ≤ l') (d : 0 ≤ m') (e : m' < 2147483563) :
    SrcIs K (upd H p (.lst [.ref c, .int i', .int l', .int m'])) p c cs i' l' m' :=
  ⟨upd_same, (But.upd (But.refl p H) _).seq h.ne h.cel, h.ne, a, b, h.hc, d, e⟩
theorem smallM {n : Nat} (h : n ≤ 1000000) : n < sizeLine := Nat.lt_of_le_of_lt h (by decide)
/-- a comprehension: R i H ys: what is known of the list made so far; F: what is kept of the heap; the list itself stands at D -/
theorem lc_foldF {J : It} {n : Nat} {G : Hp → Prop} {Yw : Nat → Hp → V → Hp → Prop} (w : Walk J n G Yw) {g : TG} {tt : TT} {te : TE} {vs : List Nat} {σ : L2.St} {H1 : Hp} {D : Addr} {Qd : Hp → Prop}
    (F : Hp → Prop) (R : Nat → Hp → List V → Prop) (f0 : F (upd H1 D (.lst []))) (fD : ∀ H ys zs, F H → H D = some (.lst ys) → F (upd H D (.lst zs))) (r0 : R 0 (upd H1 D (.lst [])) [])
    (rD : ∀ i H ys zs xs, R i H xs → H D = some (.lst ys) → R i (upd H D (.lst zs)) xs) (len : ∀ i H ys, R i H ys → ys.length ≤ 1000000) (hG : ∀ H, F H → G H)
    (hs : ∀ i x H H' ys (Nx : V → Hp → Prop) (Ex : Hp → Prop), i < n → F H → H D = some (.lst ys) → R i H ys → Yw i H x H' →
      (∀ y H2, F H2 → H2 D = some (.lst ys) → R (i + 1) H2 (ys ++ [y]) → Nx y H2) → (∀ H2, F H2 → H2 D = some (.lst ys) → R (i + 1) H2 ys → Ex H2) →
      g x (wipe σ vs) H' fun σ2 H2 => wipe σ2 vs = wipe σ vs ∧ tt σ2 H2 fun b H3 => if b = true then te σ2 H3 Nx else Ex H3)
    (hd : ∀ H ys, F H → H D = some (.lst ys) → R n H ys → Qd H) :
    ∃ W : Nat → Nat → Hp → Prop, (∃ m, W 0 m (upd H1 D (.lst []))) ∧ ∀ i m H, W i m H →
      (J.stop i H ∧ Qd H) ∨ (J.go i H ∧ ∃ Nx : Hp → Prop, (∀ H', Nx H' → ∃ m', m' < m ∧ W (i + 1) m' H') ∧ ∀ x H', J.yld i H x H' → g x (wipe σ vs) H' fun σ2 H2 => wipe σ2 vs = wipe σ vs ∧ tt σ2 H2 fun b H3 =>
        if b = true then te σ2 H3 fun y H4 => ∃ acc, H4 D = some (.lst acc) ∧ acc.length < sizeLine ∧ Nx (upd H4 D (.lst (acc ++ [y]))) else Nx H3) := by
  refine lc_it w (fun i H => F H ∧ ∃ ys, H D = some (.lst ys) ∧ R i H ys) ⟨f0, [], upd_same, r0⟩ (fun i H _ h => hG H h.1) ?_ ?_
  · rintro i x H H' hi ⟨f, ys, hy, r⟩ y
    refine hs i x H H' ys _ _ hi f hy r y (fun z H2 f2 h2 r2 => ?_) (fun H2 f2 h2 r2 => ⟨f2, ys, h2, r2⟩)
    exact ⟨ys, h2, smallM (len i H ys r), fD _ _ _ f2 h2, _, upd_same, rD _ _ _ _ _ r2 h2⟩
  · rintro H ⟨f, ys, hy, r⟩
    exact hd H ys f hy r
theorem snoc_at {α : Type} {l : List α} {x y : α} {j : Nat} (h : (l ++ [x])[j]? = some y) : l[j]? = some y ∨ (j = l.length ∧ y = x) := by
  rcases Nat.lt_or_ge j l.length with hj | hj
  · rw [List.getElem?_append_left hj] at h; exact .inl h
  · rw [List.getElem?_append_right hj] at h
    have := (List.getElem?_eq_some_iff.mp h).1
    simp at this
    have e : j = l.length := by omega
    subst e
    rw [Nat.sub_self] at h
    cases h
    exact .inr ⟨rfl, rfl⟩
theorem _root_.L2.Room.un2 {k : Nat} {A : Around} (r : Room k A) : A.units + 200 < cLine := by have := r.un; omega
theorem ixN_nat {n : Nat} {z : Int} (h0 : 0 ≤ z) (h : z.toNat < n) : ixN n z = some z.toNat := by
  unfold ixN
  rw [if_pos h0, if_pos (by omega : z < (n : Int))]
theorem sIx_some (n d k : Nat) : HT.sIx n d (some (k : Int)) = min k n := by first | exact HT.sIx_nat n d k | exact HT.sIx_some n d k | simp [HT.sIx]
theorem sIx_none (n d : Nat) : HT.sIx n d none = d := by first | rfl | simp [HT.sIx]
theorem cut1 (x : V) (xs : List V) : cutV (x :: xs) (some 1) none = xs := by
  unfold cutV
  rw [show (some (1 : Int)) = some ((1 : Nat) : Int) from rfl, sIx_some, sIx_none]
  have e : min 1 (x :: xs).length = 1 := by rw [List.length_cons]; omega
  rw [e]
  show List.take ((x :: xs).length - 1) xs = xs
  exact List.take_of_length_le (by rw [List.length_cons]; omega)
theorem cut1_not (x : V) (xs : List V) : ¬ (HT.sIx (x :: xs).length 0 (some 1) = 0 ∧ HT.sIx (x :: xs).length (x :: xs).length none = (x :: xs).length) := by
  rw [show (some (1 : Int)) = some ((1 : Nat) : Int) from rfl, sIx_some, List.length_cons]
  omega
/-! ### further rules: data compared and looked for at greater depths, dict.update, get of a written dict, zip of a tuple and a list -/
section
open PySem.Spec PyProof.Rows
variable {X : Cx}
/-- a datum that may be compared: n deep at most -/
def Shp (n : Nat) (d : PyData) : Prop := d.canLay0 = true ∧ d.depth ≤ n
def rEqX (K : PySem.W.Frag) : R2 := fun x y H Q => ∃ d e, Dp K H x d ∧ Dp K H y e ∧ Shp 190 d ∧ Shp 190 e ∧ Q (.bl (PyData.eqv d e)) H
def rNeX (K : PySem.W.Frag) : R2 := fun x y H Q => ∃ d e, Dp K H x d ∧ Dp K H y e ∧ Shp 190 d ∧ Shp 190 e ∧ Q (.bl (!PyData.eqv d e)) H
theorem op_eqX (hu : X.A.units + 200 < cLine) : OpR X (compareOp .Eq) (rEqX X.K) := by
  intro pins s σ H x y v u Q I rx ry ⟨d, e, hd, he, ⟨c1, d1⟩, ⟨c2, d2⟩, q⟩
  obtain ⟨as, r1⟩ := Dp.reads I d x v hd rx
  obtain ⟨bs, r2⟩ := Dp.reads I e y u he ry
  exact SeqAt.compareEq_reads r1 r2 c1 c2 (by have := Nat.min_le_left d.depth e.depth; omega) ⟨.bl _, H, I, rfl, q⟩
theorem op_neX (hu : X.A.units + 200 < cLine) : OpR X (compareOp .NotEq) (rNeX X.K) := by
  intro pins s σ H x y v u Q I rx ry ⟨d, e, hd, he, ⟨c1, d1⟩, ⟨c2, d2⟩, q⟩
  obtain ⟨as, r1⟩ := Dp.reads I d x v hd rx
  obtain ⟨bs, r2⟩ := Dp.reads I e y u he ry
  exact SeqAt.compareNe_reads r1 r2 c1 c2 (by have := Nat.min_le_left d.depth e.depth; omega) ⟨.bl _, H, I, rfl, q⟩
/-- x in (a, b, ..): data of any kind in a tuple -/
def rInTX (K : PySem.W.Frag) : R2 := fun x y H Q => ∃ d ds, Dp K H x d ∧ Dp K H y (.tuple ds) ∧ Shp 190 d ∧ PyData.canLayAll0 ds = true ∧ Q (.bl (ds.any fun z => PyData.eqv z d)) H
theorem op_inTX (hu : X.A.units + 200 < cLine) : OpR X (compareOp .In) (rInTX X.K) := by
  intro pins s σ H x y v u Q I rx ry ⟨d, ds, hd, he, ⟨c1, d1⟩, c2, q⟩
  obtain ⟨as, r1⟩ := Dp.reads I d x v hd rx
  obtain ⟨bs, r2⟩ := Dp.reads I (.tuple ds) y u he ry
  exact SeqAt.in_tuple_reads r2 r1 c2 c1 (by have := Nat.min_le_right (PyData.depthAll ds) d.depth; omega) ⟨.bl _, H, I, rfl, q⟩
/-- x in [a, b, ..]: the same in a list -/
def rInLX (K : PySem.W.Frag) : R2 := fun x y H Q => ∃ d ds, Dp K H x d ∧ Dp K H y (.list ds) ∧ Shp 190 d ∧ PyData.canLayAll0 ds = true ∧ Q (.bl (ds.any fun z => PyData.eqv z d)) H
theorem op_inLX (hu : X.A.units + 200 < cLine) : OpR X (compareOp .In) (rInLX X.K) := by
  intro pins s σ H x y v u Q I rx ry ⟨d, ds, hd, he, ⟨c1, d1⟩, c2, q⟩
  obtain ⟨as, r1⟩ := Dp.reads I d x v hd rx
  obtain ⟨bs, r2⟩ := Dp.reads I (.list ds) y u he ry
  exact SeqAt.in_list_reads r2 r1 c2 c1 (by have := Nat.min_le_right (PyData.depthAll ds) d.depth; omega) ⟨.bl _, H, I, rfl, q⟩
/-- blanks, n times -/
def rRepS : R2 := fun x y H Q => ∃ z n, x = .str z ∧ y = .int n ∧ MulOk z n ∧ Q (.str (Txt.mul z n)) H
theorem op_rep_str : OpR X (binaryOp .Mult) rRepS := by
  intro pins s σ H x y v u Q I rx ry ⟨z, n, e1, e2, ok, q⟩
  subst e1
  subst e2
  obtain ⟨t, rfl⟩ := rx
  obtain ⟨t2, rfl⟩ := ry
  exact SB.mul ok fun t' k => ⟨.str (Txt.mul z n), H, I.tok _, ⟨_, rfl⟩, q⟩
/-- d.update(e), two dicts of the call's own -/
def rUpdate : V → List V → Hp → VK → Prop := fun x vs H Q => ∃ (a b : Addr) (kvs more : List (Key × V)), x = .ref a ∧ vs = [.ref b] ∧ a ≠ b ∧ H a = some (.dK kvs) ∧ H b = some (.dK more) ∧ kvs.length + more.length ≤ sizeLine ∧ Q .non (upd H a (.dK (mergeK kvs more)))
theorem mt_update : MtR X "dict.update" rUpdate := by
  intro pins s σ H x vs v us Q I rx rv ⟨a, b, kvs, more, e1, e2, ne, ha, hb, hz, q⟩
  subst e1 e2
  cases rx
  obtain ⟨u, rfl, ru⟩ := rv.one
  cases ru
  obtain ⟨z1, lo1, ws, k1, D1⟩ := I.hok a _ ha
  obtain ⟨z2, lo2, rs, k2, D2⟩ := I.hok b _ hb
  have l1 := k1.length
  have l2 := k2.length
  refine call_meetsIn PySem.F.slot_dict_update D1.typeIs PySem.F.entry_dict_update (PySem.F.args_dict_update_2 _ _) (meets_dict_update (mixKind X.prog X.w) a b ne lo2)
    ⟨ws, rs, D1, D2, by omega, fun h' m1 m2 sb => ?_⟩
  have hm : Mut (H a) := by rw [ha]; trivial
  have new : ObjOk X.prog X.w (upd H a (.dK (mergeK kvs more))) h' a (.dK (mergeK kvs more)) :=
    ⟨Nat.le_trans (length_mergeK more kvs) hz, lo1, _, k2.merge k1, m1⟩
  obtain ⟨ob, _, _, q1, _⟩ := id m1
  refine ⟨.non, _, I.write (t' := s.toks) hm (.inl rfl) (fun c o n e => (sb.2 c n).trans e) ⟨ob, q1⟩ new, rfl, q⟩
/-- a dict that stands in the written part, its keys texts -/
structure KdAt (K : PySem.W.Frag) (w : World) (a : Addr) : Prop where
  at_ : ∃ es n, K.lookup a = some ⟨.type "dict", none, .dict es n, #[]⟩ ∧ PySem.W.KeysLit w.params es.toList
  low : (a == sysModules) = false
/-- D.get(k, d) of a written dict: r is what stands at k -/
theorem pe_kget2 {o e f : Expr} {td ty tx : TE} {apos cpos : Pos} (ho : PE X o td) (he : PE X e ty) (hf : PE X f tx) (m : M2 X o "get" apos e f cpos) :
    PE X (.Call (.Attribute o "get" apos) [e, f] [] cpos) (fun σ H Q => td σ H fun x H1 => ∃ a, x = .ref a ∧ KdAt X.K X.w a ∧ ty σ H1 fun y H2 => tx σ H2 fun z H3 =>
      ∃ (k : Str) (r : Option Value), y = .str k ∧ PySem.W.nsIn X.K a k = some r ∧ ∃ v, RelO (some v) (some (r.getD (.none))) ∧ Q (if r.isSome then v else z) H3) := by
  refine ⟨fun pins s σ H Q I h => ?_⟩
  refine wpAny_Call_method m.base m.few m.line PySem.F.plainAttrs_dict PySem.F.slot_dict_get PySem.F.type_dict_get (thn (ho.run pins s σ H _ I h) fun u s1 ⟨x, H1, I1, rx, a, ex, ⟨⟨es, n, hl, hk⟩, lo⟩, q1⟩ => ?_)
  subst ex
  obtain rfl : u = Value.ref a := rx
  have hm := PySem.W.mapOf_K (prog := X.prog) (w := X.w) I1.kIn hl hk
  refine ⟨hm.typeIs, fun b eb => ?_, ?_⟩
  · cases eb
    exact ⟨_, I1.kIn _ _ hl, rfl⟩
  rw [m.trees]
  refine Calls.callWith_builtin rfl (Calls.evalArgs_plain (Calls.spliced_cons (thn (he.run pins s1 σ H1 _ I1 q1) fun iv s2 ⟨y, H2, I2, ry, q2⟩ =>
    Calls.spliced_cons (thn (hf.run pins s2 σ H2 _ I2 q2) fun fv s3 ⟨z, H3, I3, rz, k, r, ey, hn, v, rv, q3⟩ => Calls.spliced_nil ?_))))
  subst ey
  obtain ⟨t, rfl⟩ := ry
  have hm3 := PySem.W.mapOf_K (prog := X.prog) (w := X.w) I3.kIn hl hk
  refine call_meetsIn PySem.F.slot_dict_get hm3.typeIs PySem.F.entry_dict_get (PySem.F.args_dict_get_3 _ _ _) (meets_dict_get_default (strKind X.prog X.w) a (strKind_is X.prog X.w k t) lo fv) ⟨_, hm3, ?_⟩
  rw [PySem.W.find_K hl hn]
  cases r with
  | none => exact ⟨_, H3, I3.tok _, rz, q3⟩
  | some u => exact ⟨_, H3, I3.tok _, rv, q3⟩
end

section
open PySem.Spec PyProof.Rows
/-- zip of the tuple at a and the list at b: their items in new pairs -/
def ItzM (K : PySem.W.Frag) (a b : Addr) : It where
  go := fun i H => ∃ (xs ys : List V) (x y : V), SqT K H a xs ∧ SqL K H b ys ∧ xs[i]? = some x ∧ ys[i]? = some y
  yld := fun i H v H' => ∃ T x y, v = .ref T ∧ H T = none ∧ H' = upd H T (.tup [x, y]) ∧ (∀ xs, SqT K H a xs → xs[i]? = some x) ∧ ∀ ys, SqL K H b ys → ys[i]? = some y
  stop := fun i H => ∃ xs ys : List V, SqT K H a xs ∧ SqL K H b ys ∧ i ≤ xs.length ∧ i ≤ ys.length ∧ (i = xs.length ∨ i = ys.length)
theorem turn_zipM {P : Program} {w : World} {K : PySem.W.Frag} {elts : List Expr} {kk : Nat} {tpos : Pos} {a b z TI TO i1 i2 : Addr} (D : ZipApart z TI TO i1 i2 a b) :
    Turn P w K (.Tuple elts kk tpos) (ItzM K a b) [z, TI, TO, i1, i2] z (fun i h => IsZip h z TI TO .none ∧ IsTupOf2 h TI (.ref i1) (.ref i2) ∧ (∃ x y, IsTupOf2 h TO x y) ∧ h.IsTupleIter i1 a i ∧ h.IsListIter i2 b i) := by
  have S : ZipSep2 z TI TO i1 i2 [i1, a] [i2, b] := by
    obtain ⟨d1, d2, d3, d4, d5, d6, d7, d8, d9, d10, d11, d12, d13, d14, d15, d16, d17, d18⟩ := D
    exact ⟨d1, d2, d5, d6, by simp, by simp [d3.symm, d11.symm], by simp [d8, d12.symm], d7, by simp, by simp [d4.symm, d15.symm], by simp [d9, d16.symm], by simp [d10, d17.symm], by simp [d10.symm, d14.symm]⟩
  have five : ∀ {c : Addr} {p : Addr → Prop}, c ∈ [z, TI, TO, i1, i2] → p z → p TI → p TO → p i1 → p i2 → p c := fun {c p} hc p1 p2 p3 p4 p5 => by
    rcases (by simpa using hc : c = z ∨ c = TI ∨ c = TO ∨ c = i1 ∨ c = i2) with r | r | r | r | r <;> rw [r] <;> assumption
  constructor
  case mem => simp
  case obj =>
    intro i h ⟨hz, hTI, ⟨x, y, hTO⟩, ⟨o1, e1, _, f1⟩, ⟨o2, e2, _, f2⟩⟩ c hc
    refine five (p := fun c => ∃ o, h.get? c = some o ∧ ∀ v, o.data ≠ .cell v) hc ⟨_, hz, fun v q => nomatch q⟩ ⟨_, hTI, fun v q => nomatch q⟩ ⟨_, hTO, fun v q => nomatch q⟩ ⟨o1, e1, fun v q => ?_⟩ ⟨o2, e2, fun v q => ?_⟩
    · rw [f1] at q; cases q
    · rw [f2] at q; cases q
  case keep =>
    intro i h h' ⟨hz, hTI, ⟨x, y, hTO⟩, h1, h2⟩ k
    exact ⟨k _ (by simp) _ hz, k _ (by simp) _ hTI, ⟨_, _, k _ (by simp) _ hTO⟩, h1.at fun o q => k _ (by simp) o q, h2.at fun o q => k _ (by simp) o q⟩
  case item =>
    intro X hP hw hK hc i pins s σ H E I hf ⟨hz, hTI, ⟨x0, y0, hTO⟩, h1, h2⟩ ⟨xs, ys, x, y, hqx, hqy, hx, hy⟩
    subst hP hw hK
    have hh := I.ok.hd hc
    obtain ⟨its, rv, p, _⟩ := I.tuple hqx
    obtain ⟨its2, rv2, p2, _⟩ := I.list hqy
    obtain ⟨u, hu, ru⟩ := rv.get hx
    obtain ⟨u2, hu2, ru2⟩ := rv2.get hy
    have hzl : z < s.heap.objs.size := Heap.lt_size hz
    have g1 : i < its.toArray.size := by simpa using (List.getElem?_eq_some_iff.mp hu).1
    have g2 : i < its2.toArray.size := by simpa using (List.getElem?_eq_some_iff.mp hu2).1
    refine wpAny_pyNext_zipD2_item S (Draws.tuple (A := X.A.in1) hh i1 a D.l1i1 its.toArray) (Draws.list (A := X.A.in1) hh i2 b D.l2i2 its2.toArray) hz hTI hTO ⟨h1, p⟩ ⟨h2, p2.isList⟩ g1 g2 fun v1 v2 h' tk w1 w2 z' TO' s1 s2 hT hsz hk => ?_
    have ev1 : v1 = u := by
      have q : its[i]? = some v1 := by simpa using w1
      rw [hu] at q; exact (Option.some.inj q).symm
    have ev2 : v2 = u2 := by
      have q : its2[i]? = some v2 := by simpa using w2
      rw [hu2] at q; exact (Option.some.inj q).symm
    subst ev1 ev2
    refine ⟨_, rfl, wpAny_letOwnedTupleGo_zip (s := { s with heap := h', toks := tk }) z' fun h'' z'' sb => ?_⟩
    have hT2 : h''.get? s.heap.objs.size = some { cls := .type "tuple", data := .seq #[v1, v2] } := (sb.2 _ (Nat.ne_of_gt hzl)).trans hT
    have new : ObjOk X.prog X.w (upd H s.heap.objs.size (.tup [x, y])) h'' s.heap.objs.size (.tup [x, y]) :=
      ⟨by show 2 ≤ sizeLine; decide, [v1, v2], .cons ru (.cons ru2 .nil), ⟨_, hT2, rfl, _, rfl⟩⟩
    have out : ∀ {c : Addr}, c ∉ [z, TI, TO, i1, i2] → c ≠ z ∧ c ≠ TO ∧ c ≠ i1 ∧ c ≠ i2 := fun {c} hc => by
      simp only [List.mem_cons, not_or] at hc
      exact ⟨hc.1, hc.2.2.1, hc.2.2.2.1, hc.2.2.2.2.1⟩
    have I1 : Inv X pins σ (upd H s.heap.objs.size (.tup [x, y])) { s with heap := h'', toks := tk } :=
      I.turnedNew (t' := tk) (ch := [z, TI, TO, i1, i2]) (fun c o hb q => let ⟨n1, n2, n3, n4⟩ := out hb; (sb.2 c n1).trans (hk c o n1 n2 n3 n4 q)) hf (Nat.le_refl _) new
    refine ⟨.ref s.heap.objs.size, _, I1, rfl, ⟨_, x, y, rfl, I.hok.fresh (Nat.le_refl _), rfl, fun l hl => ?_, fun l hl => ?_⟩, ⟨z'', ?_, ⟨v1, v2, ?_⟩, ?_, ?_⟩, fun c hcm => ?_⟩
    · rw [I.tuple_inj hl hqx]; exact hx
    · rw [I.list_inj hl hqy]; exact hy
    · exact (sb.2 _ D.TIz).trans (hk _ _ D.TIz D.TITO D.TIi1 D.TIi2 hTI)
    · exact (sb.2 _ D.TOz).trans TO'
    · exact s1.1.at fun o q => (sb.2 _ D.i1z).trans q
    · exact s2.1.at fun o q => (sb.2 _ D.i2z).trans q
    · have lt1 : i1 < s.heap.objs.size := by obtain ⟨_, e1, _⟩ := h1; exact Heap.lt_size e1
      have lt2 : i2 < s.heap.objs.size := by obtain ⟨_, e1, _⟩ := h2; exact Heap.lt_size e1
      have hlt : c < s.heap.objs.size := five (p := fun c => c < s.heap.objs.size) hcm hzl (Heap.lt_size hTI) (Heap.lt_size hTO) lt1 lt2
      rw [upd_ne (Nat.ne_of_lt hlt)]
      exact (hf c hcm).1
  case done =>
    intro X hP hw hK hc i pins s σ H E I hf ⟨hz, hTI, ⟨x0, y0, hTO⟩, h1, h2⟩ ⟨xs, ys, hqx, hqy, b1, b2, hend⟩
    subst hP hw hK
    have hh := I.ok.hd hc
    obtain ⟨its, rv, p, _⟩ := I.tuple hqx
    obtain ⟨its2, rv2, p2, _⟩ := I.list hqy
    have l1 : xs.length = its.toArray.size := by simpa using rv.length
    have l2 : ys.length = its2.toArray.size := by simpa using rv2.length
    refine wpAny_pyNext_zipD2_end S (Draws.tuple (A := X.A.in1) hh i1 a D.l1i1 its.toArray) (Draws.list (A := X.A.in1) hh i2 b D.l2i2 its2.toArray) hz hTI hTO ⟨h1, p⟩ ⟨h2, p2.isList⟩ (by omega) (by omega) (by omega) fun h' tk hk => ⟨rfl, ?_⟩
    refine I.turnedL (t' := tk) (ch := [z, TI, TO, i1, i2]) (fun c o hb q => ?_) hf
    simp only [List.mem_cons, not_or] at hb
    exact hk c o hb.1 hb.2.2.1 hb.2.2.2.1 hb.2.2.2.2.1 q
  case self => exact fun A i s Q E st h => wpAny_pyIter_zip st.1 h
def iZipM (K : PySem.W.Frag) (ta : TA) : TI := fun σ H R => ta σ H fun vs H1 => ∃ a b xs ys, vs = [.ref a, .ref b] ∧ SqT K H1 a xs ∧ SqL K H1 b ys ∧ R (ItzM K a b) H1
theorem pi_zipM {X : Cx} {e e2 : Expr} {ta : TA} {p pos tpos : Pos} {elts : List Expr} {kk : Nat} (hg : Gl X "zip") (hm : X.mg "zip" = none) (ha : PA X [e, e2] ta)
    (hs : starEach [e, e2] X.env = (false, eval e X.env) :: starEach [e2] X.env := by rfl) (hpl : (backTo pos (starEach [e2] X.env)).any (·.1) = false := by rfl) :
    PI X (.Tuple elts kk tpos) (.Call (.Name "zip" p) [e, e2] [] pos) (iZipM X.K ta) := by
  refine ⟨fun pins s σ H R I h => ?_⟩
  refine Call_ (ld_blt I hg hm PyProof.Rows.boot_zip (PyProof.Rows.callWith_type1 (thn (ha.run pos pins s σ H _ I h) fun us s1 ⟨vs, H1, I1, r1, a, b, xs, ys, ex, hqx, hqy, q⟩ => ?_) hs hpl))
  subst ex
  obtain ⟨u, u', rfl, r, r'⟩ := r1.two
  cases r
  cases r'
  obtain ⟨its, rv, p1, _⟩ := I1.tuple hqx
  obtain ⟨its2, rv2, p2, _⟩ := I1.list hqy
  have la : a < s1.heap.objs.size := by obtain ⟨o1, ho1, _⟩ := id p1; exact Heap.lt_size ho1
  refine zip_begins2 (begins_tuple a its.toArray) (begins_list b its2.toArray) p1 p2.isList fun h' hz hTI hTO h1 h2 hsz hk => wpAny_pyIter_zip hz ?_
  have I2 : Inv X pins σ H1 { s1 with heap := h' } := I1.kept (t' := s1.toks) hk
  refine ⟨s1.heap.objs.size + 4, [s1.heap.objs.size + 4, s1.heap.objs.size + 2, s1.heap.objs.size + 3, s1.heap.objs.size, s1.heap.objs.size + 1], _, _, H1, rfl, I2, turn_zipM (PySem.W.ktu_apart s1.heap.objs.size a b la p2.lt), ⟨hz, hTI, ⟨_, _, hTO⟩, ⟨_, h1, rfl, rfl⟩, ⟨_, h2, rfl, rfl⟩⟩, fun c hcm => ?_, q⟩
  have hle : s1.heap.objs.size ≤ c := by
    rcases (by simpa using hcm : c = s1.heap.objs.size + 4 ∨ c = s1.heap.objs.size + 2 ∨ c = s1.heap.objs.size + 3 ∨ c = s1.heap.objs.size ∨ c = s1.heap.objs.size + 1) with r | r | r | r | r <;> rw [r]
    · exact Nat.le_add_right _ _
    · exact Nat.le_add_right _ _
    · exact Nat.le_add_right _ _
    · exact Nat.le_refl _
    · exact Nat.le_add_right _ _
  exact I1.fpOk hle (I1.hok.fresh hle)
/-- a loop over such a zip, as many items on both sides -/
theorem for_zipM {K : PySem.W.Frag} {a b : Addr} {xs ys : List V} {g : TG} {tb : TS} {D : Ends} {σ : L2.St} {H : Hp} (hl : xs.length = ys.length) (Pv : Nat → L2.St → Hp → Prop) (h0 : Pv 0 σ H) (hq : ∀ i σ H, Pv i σ H → SqT K H a xs ∧ SqL K H b ys)
    (hs : ∀ (i : Nat) (x y : V) (T : Addr) (σ : L2.St) (H : Hp), xs[i]? = some x → ys[i]? = some y → Pv i σ H → H T = none → g (.ref T) σ (upd H T (.tup [x, y])) fun σ2 H2 => tb { D with nx := Pv (i + 1), ct := Pv (i + 1), bk := D.nx } σ2 H2) (hd : ∀ σ H, Pv xs.length σ H → D.nx σ H) :
    ∃ W : Nat → Nat → L2.St → Hp → Prop, (∃ m, W 0 m σ H) ∧ ∀ i m σ H, W i m σ H →
      ((ItzM K a b).stop i H ∧ D.nx σ H) ∨ ((ItzM K a b).go i H ∧ ∃ N : L2.St → Hp → Prop, (∀ σ' H', N σ' H' → ∃ m', m' < m ∧ W (i + 1) m' σ' H') ∧ ∀ v H', (ItzM K a b).yld i H v H' → g v σ H' fun σ2 H2 => tb { D with nx := N, ct := N, bk := D.nx } σ2 H2) := by
  refine ⟨fun i m σ H => m = xs.length - i ∧ i ≤ xs.length ∧ Pv i σ H, ⟨xs.length, rfl, Nat.zero_le _, h0⟩, fun i m σ H ⟨em, hi, p⟩ => ?_⟩
  subst em
  obtain ⟨qx, qy⟩ := hq i σ H p
  rcases Nat.lt_or_ge i xs.length with hlt | hge
  · refine .inr ⟨⟨xs, ys, _, _, qx, qy, List.getElem?_eq_getElem hlt, List.getElem?_eq_getElem (by omega : i < ys.length)⟩, Pv (i + 1), fun σ' H' p' => ⟨xs.length - (i + 1), by omega, rfl, hlt, p'⟩, fun v H' ⟨T, x', y', e1, hT, e2, f1, f2⟩ => ?_⟩
    subst e1 e2
    exact hs i x' y' T σ H (f1 xs qx) (f2 ys qy) p hT
  · have e : i = xs.length := by omega
    subst e
    exact .inl ⟨⟨xs, ys, qx, qy, Nat.le_refl _, by omega, .inl rfl⟩, hd σ H p⟩
end
/-! ### rules for a comprehension's block: the written part by its name -/
section
variable {X : Cx} (K : PySem.W.Frag)
theorem kx_ix_tup (h : X.K = K := by rfl) : IxR X (rIxT K) := h ▸ ix_tup
theorem kx_ix_list (h : X.K = K := by rfl) : IxR X (rIxL K) := h ▸ ix_list
theorem kx_ix_kdict (w : World) (h : X.K = K := by rfl) (hw : X.w = w := by rfl) : IxR X (rIxD K w) := by subst h hw; exact ix_kdict
theorem kx_op_eqX (hu : X.A.units + 200 < cLine) (h : X.K = K := by rfl) : OpR X (compareOp .Eq) (rEqX K) := h ▸ op_eqX hu
theorem kx_op_neX (hu : X.A.units + 200 < cLine) (h : X.K = K := by rfl) : OpR X (compareOp .NotEq) (rNeX K) := h ▸ op_neX hu
theorem kx_op_in_seq (h : X.K = K := by rfl) : OpR X (compareOp .In) (rIn K false) := h ▸ op_in_seq
theorem kx_op_notIn_seq (h : X.K = K := by rfl) : OpR X (compareOp .NotIn) (rIn K true) := h ▸ op_notIn_seq
theorem kx_call_isi (h : X.K = K := by rfl) : CallR X (.builtin "isinstance") (rIsi K) := h ▸ call_isi
def rLenQ (K : PySem.W.Frag) : List V → Hp → VK → Prop := fun xs H Q => ∃ p ys, xs = [.ref p] ∧ (SqL K H p ys ∨ SqT K H p ys) ∧ Q (.int ys.length) H
theorem kx_call_len_seq (h : X.K = K := by rfl) : CallR X (.builtin "len") (rLenQ K) := h ▸ call_len_seq
theorem kx_bm {e : Expr} {ty : String} {r : V → List V → Hp → VK → Prop} {to : TE} {t : TA} (p : PE X e (tBM X.K ty r to t)) (h : X.K = K := by rfl) : PE X e (tBM K ty r to t) := h ▸ p
theorem kx_bm0 {e : Expr} {ty : String} {r : V → List V → Hp → VK → Prop} {to : TE} (p : PE X e (tBM0 X.K ty r to)) (h : X.K = K := by rfl) : PE X e (tBM0 K ty r to) := h ▸ p
theorem kx_cr_sum (hc : X.calm = true := by rfl) (h : X.K = K := by rfl) : CallR X (.builtin "sum") (rSum K) := h ▸ cr_sum hc
end

section
variable {X : Cx}
/-- a new thing is locked as soon as it is there (a dict that is walked and dropped) -/
def tFrz (t : TE) : TE := fun σ H Q => t σ H fun x H1 => ∃ d u, x = .ref d ∧ H1 d = some u ∧ Mut (some u) ∧ ∀ od, Q x (upd H1 d (.frz od u))
theorem pe_frz {e : Expr} {t : TE} (he : PE X e t) : PE X e (tFrz t) := by
  refine ⟨fun pins s σ H Q I hw => ?_⟩
  refine thn (he.run pins s σ H _ I hw) fun v s1 ⟨x, H1, I1, r, d, u, ex, hd, mu, q⟩ => ?_
  obtain ⟨od, I2⟩ := I1.lock hd mu
  exact ⟨x, _, I2, r, q od⟩
end
/-! ### enumerate(text) -/
section
open PySem.Spec PyProof.Rows
/-- the signs of z, each in a new pair behind its place -/
def ItnS (z : Str) : It where
  go := fun i _ => i < z.cps.size
  yld := fun i H v H' => ∃ T c, v = .ref T ∧ H T = none ∧ H' = upd H T (.tup [.int (i : Nat), .str ⟨#[c]⟩]) ∧ z.cps[i]? = some c
  stop := fun i _ => i = z.cps.size
theorem turn_enumS {P : Program} {w : World} {K : PySem.W.Frag} {elts : List Expr} {kk : Nat} {tpos : Pos} (z : Str) (t : Tok) (e it : Addr) :
    Turn P w K (.Tuple elts kk tpos) (ItnS z) [e, it] e (fun i h => (∃ was, IsEnum h e it ((i : Nat) : Int) was) ∧ h.IsStrIter it (strIterType z) z t i ∧ e ≠ it) := by
  have two : ∀ {b : Addr} {p : Addr → Prop}, b ∈ [e, it] → p e → p it → p b := fun {b p} hb p1 p2 => by
    rcases (by simpa using hb : b = e ∨ b = it) with r | r <;> rw [r] <;> assumption
  constructor
  case mem => simp
  case obj =>
    intro i h ⟨⟨was, he⟩, ⟨o, ho, hc, hd⟩, _⟩ b hb
    refine two (p := fun b => ∃ o, h.get? b = some o ∧ ∀ v, o.data ≠ .cell v) hb ⟨_, he, fun v q => nomatch q⟩ ⟨o, ho, fun v q => ?_⟩
    rw [hd] at q; cases q
  case keep =>
    intro i h h' ⟨⟨was, he⟩, ⟨o, ho, r⟩, hne⟩ k
    exact ⟨⟨was, k e (by simp) _ he⟩, ⟨o, k it (by simp) o ho, r⟩, hne⟩
  case item =>
    intro X hP hw hK hc i pins s σ H E I hf ⟨⟨was, he⟩, hit, hne⟩ hg
    subst hP hw hK
    have hh := I.ok.hd hc
    have le : e < s.heap.objs.size := Heap.lt_size he
    have li : it < s.heap.objs.size := by obtain ⟨_, q, _⟩ := id hit; exact Heap.lt_size q
    refine wpAny_pyNext_enum_itemD (Draws.text (prog := X.prog) (w := X.w) (A := X.A.in1) hh it z t) he hit hg hne (by simpa using hne) fun x h' tk ⟨c, u, hcx, ex⟩ ho hit' hT hsz hk => ?_
    subst ex
    refine ⟨_, rfl, wpAny_letOwnedTupleGo_enum (s := { s with heap := h', toks := tk + 1 }) ho fun h2 he2 sb => ?_⟩
    have hT2 : h2.get? s.heap.objs.size = some { cls := .type "tuple", data := .seq #[.int i tk, .str ⟨#[c]⟩ u] } := (sb.2 _ (Nat.ne_of_gt le)).trans hT
    have new : ObjOk X.prog X.w (upd H s.heap.objs.size (.tup [.int (i : Nat), .str ⟨#[c]⟩])) h2 s.heap.objs.size (.tup [.int (i : Nat), .str ⟨#[c]⟩]) :=
      ⟨by show 2 ≤ sizeLine; decide, [.int i tk, .str ⟨#[c]⟩ u], .cons ⟨_, rfl⟩ (.cons ⟨_, rfl⟩ .nil), ⟨_, hT2, rfl, _, rfl⟩⟩
    have I1 : Inv X pins σ (upd H s.heap.objs.size (.tup [.int (i : Nat), .str ⟨#[c]⟩])) { s with heap := h2, toks := tk + 1 } :=
      I.turnedNew (t' := tk + 1) (ch := [e, it]) (fun b ob hb q => (sb.2 b fun r => hb (by simp [r])).trans (hk b ob (fun r => hb (by simp [r])) (fun r => hb (by simp [r])) q)) hf (Nat.le_refl _) new
    refine ⟨.ref s.heap.objs.size, _, I1, rfl, ⟨_, c, rfl, I.hok.fresh (Nat.le_refl _), rfl, hcx⟩, ⟨⟨.str ⟨#[c]⟩ u, ?_⟩, ?_, hne⟩, fun b hb => ?_⟩
    · rw [show ((i + 1 : Nat) : Int) = (i : Int) + 1 by omega]; exact he2
    · obtain ⟨o, q, r⟩ := hit'
      exact ⟨o, (sb.2 it hne.symm).trans q, r⟩
    · have lb : b < s.heap.objs.size := two (p := fun b => b < s.heap.objs.size) hb le li
      rw [upd_ne (Nat.ne_of_lt lb)]
      exact (hf b hb).1
  case done =>
    intro X hP hw hK hc i pins s σ H E I hf ⟨⟨was, he⟩, hit, hne⟩ hg
    subst hP hw hK
    have hg : i = z.cps.size := hg
    subst hg
    refine wpAny_pyNext_enum_endD (Draws.text (prog := X.prog) (w := X.w) (A := X.A.in1) (I.ok.hd hc) it z t) he hit fun h' eb => ⟨rfl, ?_⟩
    refine I.turnedL (t' := s.toks) (ch := [e, it]) (fun b o hb q => ?_) hf
    exact eb b o (fun r => hb (by simp [r])) q
  case self => exact fun A i s Q E st h => let ⟨⟨_, he⟩, _⟩ := st; wpAny_pyIter_enum he h
def iEnumS (ta : TA) : TI := fun σ H R => ta σ H fun vs H1 => ∃ z, vs = [.str z] ∧ R (ItnS z) H1
theorem pi_enumS {X : Cx} {e : Expr} {ta : TA} {p pos tpos : Pos} {elts : List Expr} {kk : Nat} (hg : Gl X "enumerate") (hm : X.mg "enumerate" = none) (ha : PA X [e] ta)
    (hs : starEach [e] X.env = [(false, eval e X.env)] := by rfl) : PI X (.Tuple elts kk tpos) (.Call (.Name "enumerate" p) [e] [] pos) (iEnumS ta) := by
  refine ⟨fun pins s σ H R I h => ?_⟩
  refine Call_ (ld_blt I hg hm boot_enumerate (PyProof.Rows.callWith_type1 (thn (ha.run pos pins s σ H _ I h) fun us s1 ⟨vs, H1, I1, r1, z, ex, q⟩ => ?_) hs rfl))
  subst ex
  cases r1 with
  | cons r rr =>
    cases rr
    obtain ⟨t, rfl⟩ := r
    refine call_enumerate_str fun h' he hit hsz hk => wpAny_pyIter_enum he ?_
    have I2 : Inv X pins σ H1 { s1 with heap := h' } := I1.kept (t' := s1.toks) hk
    refine ⟨s1.heap.objs.size + 1, [s1.heap.objs.size + 1, s1.heap.objs.size], _, _, H1, rfl, I2, turn_enumS z t (s1.heap.objs.size + 1) s1.heap.objs.size, ⟨⟨.none, he⟩, hit, Nat.succ_ne_self _⟩, fun b hb => ?_, q⟩
    have hle : s1.heap.objs.size ≤ b := by
      rcases (by simpa using hb : b = s1.heap.objs.size + 1 ∨ b = s1.heap.objs.size) with r | r <;> rw [r]
      · exact Nat.le_add_right _ _
      · exact Nat.le_refl _
    exact I1.fpOk hle (I1.hok.fresh hle)
theorem walk_enumS {z : Str} : Walk (ItnS z) z.cps.size (fun _ => True) (fun i H v H' => ∃ T c, v = .ref T ∧ H T = none ∧ H' = upd H T (.tup [.int (i : Nat), .str ⟨#[c]⟩]) ∧ z.cps[i]? = some c) :=
  ⟨fun _ _ h _ => h, fun _ _ => rfl, fun _ _ _ _ _ _ y => y⟩
/-- what is never reached -/
theorem ps_dead {X : Cx} {st : Stmt} : PS X st (fun _ _ _ => False) := ⟨fun _ _ _ _ _ _ h => h.elim⟩
end
section
/-- the keys that a written dict has, in order -/
def KeysOf : List DictEntry → List Str → Prop
  | [], [] => True
  | e :: r, k :: ks => (∃ t, e.key = .str k t) ∧ KeysOf r ks
  | _, _ => False
theorem isStr_str (k s : Str) (t : Tok) : Value.isStr (.str k t) s = (k == s) := by
  first | rfl | (unfold Value.isStr; first | rfl | simp)
theorem KeysOf.miss {s : Str} : ∀ {es : List DictEntry} {ks : List Str}, KeysOf es ks → s ∉ ks → es.find? (fun e => e.key.isStr s) = none ∧ es.any (fun e => e.refKey) = false
  | [], [], _, _ => ⟨rfl, rfl⟩
  | e :: r, k :: ks, ⟨⟨t, h⟩, h2⟩, n => by
    obtain ⟨a, b⟩ := KeysOf.miss h2 fun q => n (.tail _ q)
    have c : e.key.isStr s = false := by
      rw [h, isStr_str]
      exact beq_eq_false_iff_ne.mpr fun q => n (q ▸ .head _)
    have d : e.refKey = false := by unfold DictEntry.refKey; rw [h]
    refine ⟨?_, ?_⟩
    · rw [List.find?_cons_of_neg (by simp [c])]; exact a
    · rw [List.any_cons, d, b]; rfl
  | [], _ :: _, h, _ => h.elim
  | _ :: _, [], h, _ => h.elim
theorem KeysOf.nsIn {K : PySem.W.Frag} {a : Addr} {c : Value} {o : Option Addr} {es : Array DictEntry} {n : Nat} {sl : Array (Option Value)} {ks : List Str} {s : Str} (h : KeysOf es.toList ks) (l : K.lookup a = some ⟨c, o, .dict es n, sl⟩) (m : s ∉ ks) : PySem.W.nsIn K a s = some none := by
  obtain ⟨x, y⟩ := h.miss m
  unfold PySem.W.nsIn
  rw [l]
  simp only [x]
  rw [if_neg]
  rw [y]; exact Bool.false_ne_true
end
/-! ### formulas as data -/
inductive Fm where
  | lit (b : Bool)
  | val (v : Str)
  | mark (m : Str)
  | name (x : Str)
  | bin (b : Bool) (l r : Fm)
  | un (b : Bool) (a : Fm)
  | fix (b : Bool) (x : Str) (a : Fm)
  deriving DecidableEq
namespace Fm
def hLit : Bool → Str | true => "true" | false => "false"
def hBin : Bool → Str | true => "and" | false => "or"
def hUn : Bool → Str | true => "some" | false => "all"
def hFix : Bool → Str | true => "least" | false => "most"
def head : Fm → Str
  | .lit b => hLit b
  | .val _ => "value"
  | .mark _ => "mark"
  | .name _ => "name"
  | .bin b _ _ => hBin b
  | .un b _ => hUn b
  | .fix b _ _ => hFix b
def parts : Fm → List Fm
  | .lit _ | .val _ | .mark _ | .name _ => []
  | .bin _ l r => [l, r]
  | .un _ a => [a]
  | .fix _ _ a => [a]
/-- the field behind the head that is a text -/
def text : Fm → Str
  | .val s | .mark s | .name s | .fix _ s _ => s
  | _ => ""
def depth : Fm → Nat
  | .lit _ | .val _ | .mark _ | .name _ => 1
  | .bin _ l r => max l.depth r.depth + 1
  | .un _ a => a.depth + 1
  | .fix _ _ a => a.depth + 1
def size : Fm → Nat
  | .lit _ | .val _ | .mark _ | .name _ => 1
  | .bin _ l r => l.size + r.size + 1
  | .un _ a => a.size + 1
  | .fix _ _ a => a.size + 1
/-- all texts in it keep p -/
def Texts (p : Str → Prop) : Fm → Prop
  | .lit _ => True
  | .val s | .mark s | .name s => p s
  | .bin _ l r => l.Texts p ∧ r.Texts p
  | .un _ a => a.Texts p
  | .fix _ x a => p x ∧ a.Texts p
theorem depth_pos : ∀ f : Fm, 1 ≤ f.depth
  | .lit _ | .val _ | .mark _ | .name _ => Nat.le_refl _
  | .bin _ _ _ | .un _ _ | .fix _ _ _ => Nat.le_add_left _ _
theorem depth_size : ∀ f : Fm, f.depth ≤ f.size
  | .lit _ | .val _ | .mark _ | .name _ => Nat.le_refl _
  | .bin _ l r => by have := depth_size l; have := depth_size r; simp only [depth, size]; omega
  | .un _ a => by have := depth_size a; simp only [depth, size]; omega
  | .fix _ _ a => by have := depth_size a; simp only [depth, size]; omega
theorem parts_depth {f g : Fm} (h : g ∈ f.parts) : g.depth < f.depth := by
  cases f with
  | lit _ | val _ | mark _ | name _ => simp [parts] at h
  | bin b l r =>
    simp only [parts, List.mem_cons, List.not_mem_nil, or_false] at h
    rcases h with rfl | rfl <;> simp only [depth] <;> omega
  | un b a => simp only [parts, List.mem_cons, List.not_mem_nil, or_false] at h; subst h; simp only [depth]; omega
  | fix b x a => simp only [parts, List.mem_cons, List.not_mem_nil, or_false] at h; subst h; simp only [depth]; omega
theorem parts_two : ∀ f : Fm, f.parts.length ≤ 2
  | .lit _ | .val _ | .mark _ | .name _ => Nat.zero_le _
  | .bin _ _ _ => Nat.le_refl _
  | .un _ _ | .fix _ _ _ => by show 1 ≤ 2; omega
/-- with other parts -/
def withParts : Fm → List Fm → Fm
  | .bin b _ _, [l, r] => .bin b l r
  | .un b _, [a] => .un b a
  | .fix b x _, [a] => .fix b x a
  | f, _ => f
def toD : Fm → PyData
  | .lit b => .tuple [.str (hLit b)]
  | .val s => .tuple [.str "value", .str s]
  | .mark s => .tuple [.str "mark", .str s]
  | .name s => .tuple [.str "name", .str s]
  | .bin b l r => .tuple [.str (hBin b), l.toD, r.toD]
  | .un b a => .tuple [.str (hUn b), a.toD]
  | .fix b x a => .tuple [.str (hFix b), .str x, a.toD]
theorem toD_depth : ∀ f : Fm, f.toD.depth = f.depth
  | .lit _ | .val _ | .mark _ | .name _ => by simp [toD, depth, PyData.depth, PyData.depthAll]
  | .bin _ l r => by have := toD_depth l; have := toD_depth r; simp only [toD, depth, PyData.depth, PyData.depthAll]; omega
  | .un _ a => by have := toD_depth a; simp only [toD, depth, PyData.depth, PyData.depthAll]; omega
  | .fix _ _ a => by have := toD_depth a; simp only [toD, depth, PyData.depth, PyData.depthAll]; omega
theorem ok_bin : ∀ b, PyData.strOk (hBin b) = true := by decide +kernel
theorem ok_un : ∀ b, PyData.strOk (hUn b) = true := by decide +kernel
theorem ok_fix : ∀ b, PyData.strOk (hFix b) = true := by decide +kernel
theorem toD_lay : ∀ f : Fm, f.Texts (fun s => PyData.strOk s = true) → f.toD.canLay0 = true
  | .lit b, _ => by cases b <;> decide +kernel
  | .val s, h | .mark s, h | .name s, h => by
    have h : PyData.strOk s = true := h
    simp only [toD, PyData.canLay0, PyData.canLayAll0, h, Bool.and_true]
    decide +kernel
  | .bin b l r, ⟨h1, h2⟩ => by
    simp only [toD, PyData.canLay0, PyData.canLayAll0, toD_lay l h1, toD_lay r h2, Bool.and_true]
    exact ok_bin b
  | .un b a, h => by
    simp only [toD, PyData.canLay0, PyData.canLayAll0, toD_lay a h, Bool.and_true]
    exact ok_un b
  | .fix b x a, ⟨h1, h2⟩ => by
    simp only [toD, PyData.canLay0, PyData.canLayAll0, toD_lay a h2, show PyData.strOk x = true from h1, Bool.and_true]
    exact ok_fix b
/-- kinds of heads, as a number -/
theorem hLit_inj {b c : Bool} (h : hLit b = hLit c) : b = c := by cases b <;> cases c <;> first | rfl | (exact absurd h (by decide +kernel))
theorem hBin_inj {b c : Bool} (h : hBin b = hBin c) : b = c := by cases b <;> cases c <;> first | rfl | (exact absurd h (by decide +kernel))
theorem hUn_inj {b c : Bool} (h : hUn b = hUn c) : b = c := by cases b <;> cases c <;> first | rfl | (exact absurd h (by decide +kernel))
theorem hFix_inj {b c : Bool} (h : hFix b = hFix c) : b = c := by cases b <;> cases c <;> first | rfl | (exact absurd h (by decide +kernel))
def kindOf : Fm → Nat
  | .lit _ => 0 | .val _ => 1 | .mark _ => 2 | .name _ => 3 | .bin _ _ _ => 4 | .un _ _ => 5 | .fix _ _ _ => 6
def kindStr (s : Str) : Nat :=
  if s = "true" then 0 else if s = "false" then 0 else if s = "value" then 1 else if s = "mark" then 2 else if s = "name" then 3
  else if s = "and" then 4 else if s = "or" then 4 else if s = "some" then 5 else if s = "all" then 5 else if s = "least" then 6 else if s = "most" then 6 else 7
theorem kind_lit : ∀ b, kindStr (hLit b) = 0 := by decide +kernel
theorem kind_bin : ∀ b, kindStr (hBin b) = 4 := by decide +kernel
theorem kind_un : ∀ b, kindStr (hUn b) = 5 := by decide +kernel
theorem kind_fix : ∀ b, kindStr (hFix b) = 6 := by decide +kernel
theorem kind_head : ∀ f : Fm, kindStr f.head = f.kindOf
  | .lit b => kind_lit b
  | .val _ => by show kindStr "value" = 1; decide +kernel
  | .mark _ => by show kindStr "mark" = 2; decide +kernel
  | .name _ => by show kindStr "name" = 3; decide +kernel
  | .bin b _ _ => kind_bin b
  | .un b _ => kind_un b
  | .fix b _ _ => kind_fix b
theorem head_kind {f g : Fm} (h : f.head = g.head) : f.kindOf = g.kindOf := by rw [← kind_head, ← kind_head, h]
theorem eqv_one {a b : Str} : PyData.eqv (.tuple [.str a]) (.tuple [.str b]) = (a == b) := by simp [PyData.eqv, PyData.eqvAll]
/-- two formulas' data are equal just if they are -/
theorem eqv_toD : ∀ f g : Fm, PyData.eqv f.toD g.toD = decide (f = g) := by
  have up : ∀ {x y : Str} {xs ys : List PyData} {c : Bool}, PyData.eqvAll xs ys = c → PyData.eqv (.tuple (.str x :: xs)) (.tuple (.str y :: ys)) = ((x == y) && c) := fun {x y xs ys c} h => by
    simp only [PyData.eqv, PyData.eqvAll, h]
  have e1 : ∀ x : PyData, ∀ y : PyData, PyData.eqvAll [x] [y] = PyData.eqv x y := fun x y => by simp only [PyData.eqvAll, Bool.and_true]
  have no : ∀ f g : Fm, f.kindOf ≠ g.kindOf → PyData.eqv f.toD g.toD = decide (f = g) := fun f g h => by
    have h1 : ¬ f = g := fun e => h (by rw [e])
    have h2 : ∀ {xs ys : List PyData}, PyData.eqv (.tuple (.str f.head :: xs)) (.tuple (.str g.head :: ys)) = false := fun {xs ys} => by
      rw [up rfl, beq_eq_false_iff_ne.mpr fun e => h (head_kind e), Bool.false_and]
    rw [decide_eq_false h1]
    cases f <;> cases g <;> exact h2
  intro f
  induction f with
  | lit b =>
    intro g
    cases g with
    | lit c =>
      show PyData.eqv (.tuple [.str (hLit b)]) (.tuple [.str (hLit c)]) = _
      rw [eqv_one]
      by_cases e : b = c
      · subst e; simp
      · rw [decide_eq_false (by intro z; cases z; exact e rfl), beq_eq_false_iff_ne.mpr fun z => e (hLit_inj z)]
    | _ => exact no _ _ (by simp [kindOf])
  | val s =>
    intro g
    cases g with
    | val u =>
      show PyData.eqv (.tuple [.str "value", .str s]) (.tuple [.str "value", .str u]) = _
      rw [up (e1 _ _), beq_self_eq_true, Bool.true_and]
      simp only [PyData.eqv, val.injEq]
      by_cases e : s = u
      · subst e; simp
      · rw [decide_eq_false e, beq_eq_false_iff_ne.mpr e]
    | _ => exact no _ _ (by simp [kindOf])
  | mark s =>
    intro g
    cases g with
    | mark u =>
      show PyData.eqv (.tuple [.str "mark", .str s]) (.tuple [.str "mark", .str u]) = _
      rw [up (e1 _ _), beq_self_eq_true, Bool.true_and]
      simp only [PyData.eqv, mark.injEq]
      by_cases e : s = u
      · subst e; simp
      · rw [decide_eq_false e, beq_eq_false_iff_ne.mpr e]
    | _ => exact no _ _ (by simp [kindOf])
  | name s =>
    intro g
    cases g with
    | name u =>
      show PyData.eqv (.tuple [.str "name", .str s]) (.tuple [.str "name", .str u]) = _
      rw [up (e1 _ _), beq_self_eq_true, Bool.true_and]
      simp only [PyData.eqv, name.injEq]
      by_cases e : s = u
      · subst e; simp
      · rw [decide_eq_false e, beq_eq_false_iff_ne.mpr e]
    | _ => exact no _ _ (by simp [kindOf])
  | bin b l r il ir =>
    intro g
    cases g with
    | bin c l' r' =>
      show PyData.eqv (.tuple [.str (hBin b), l.toD, r.toD]) (.tuple [.str (hBin c), l'.toD, r'.toD]) = _
      rw [up (c := decide (l = l') && decide (r = r')) (by simp only [PyData.eqvAll, il l', ir r', Bool.and_true])]
      by_cases e : b = c
      · subst e
        rw [beq_self_eq_true, Bool.true_and, ← Bool.decide_and]
        simp only [bin.injEq, true_and]
      · rw [beq_eq_false_iff_ne.mpr fun z => e (hBin_inj z), Bool.false_and]
        exact (decide_eq_false fun z => e (by injection z)).symm
    | _ => exact no _ _ (by simp [kindOf])
  | un b a ia =>
    intro g
    cases g with
    | un c a' =>
      show PyData.eqv (.tuple [.str (hUn b), a.toD]) (.tuple [.str (hUn c), a'.toD]) = _
      rw [up (e1 _ _), ia a']
      by_cases e : b = c
      · subst e
        rw [beq_self_eq_true, Bool.true_and]
        simp only [un.injEq, true_and]
      · rw [beq_eq_false_iff_ne.mpr fun z => e (hUn_inj z), Bool.false_and]
        exact (decide_eq_false fun z => e (by injection z)).symm
    | _ => exact no _ _ (by simp [kindOf])
  | fix b x a ia =>
    intro g
    cases g with
    | fix c y a' =>
      show PyData.eqv (.tuple [.str (hFix b), .str x, a.toD]) (.tuple [.str (hFix c), .str y, a'.toD]) = _
      rw [up (c := (x == y) && decide (a = a')) (by simp only [PyData.eqvAll, PyData.eqv, ia a', Bool.and_true])]
      by_cases e : b = c
      · subst e
        rw [beq_self_eq_true, Bool.true_and]
        by_cases e2 : x = y
        · subst e2
          simp only [beq_self_eq_true, Bool.true_and, fix.injEq, true_and]
        · rw [beq_eq_false_iff_ne.mpr e2, Bool.false_and]
          exact (decide_eq_false fun z => e2 (by injection z)).symm
      · rw [beq_eq_false_iff_ne.mpr fun z => e (hFix_inj z), Bool.false_and]
        exact (decide_eq_false fun z => e (by injection z)).symm
    | _ => exact no _ _ (by simp [kindOf])
end Fm
/-! ### formulas in the heap -/
/-- tuples (and what is locked) stay -/
structure Keeps (H H' : Hp) : Prop where
  tup : ∀ a xs, H a = some (.tup xs) → H' a = some (.tup xs)
  frz : ∀ a o xs, H a = some (.frz o (.tup xs)) → H' a = some (.frz o (.tup xs))
theorem Keeps.refl (H : Hp) : Keeps H H := ⟨fun _ _ h => h, fun _ _ _ h => h⟩
theorem Keeps.trans {H H1 H2 : Hp} (a : Keeps H H1) (b : Keeps H1 H2) : Keeps H H2 := ⟨fun c xs h => b.tup c xs (a.tup c xs h), fun c o u h => b.frz c o u (a.frz c o u h)⟩
theorem _root_.L2.Same.keeps {H H' : Hp} (s : Same H H') : Keeps H H' := ⟨fun a xs h => s a _ h, fun a o u h => s a _ h⟩
theorem Keeps.mut {H H' : Hp} {D : Addr} {o o' : HO} (k : Keeps H H') (h : H' D = some o) (m : Mut (some o)) : Keeps H (upd H' D o') := by
  refine ⟨fun a xs q => ?_, fun a ob u q => ?_⟩
  · have q' := k.tup a xs q
    rw [upd_ne (ne_of q' h (by intro e; subst e; exact m))]; exact q'
  · have q' := k.frz a ob u q
    rw [upd_ne (ne_of q' h (by intro e; subst e; exact m))]; exact q'
theorem But.keeps {H H' : Hp} {D : Addr} {o : HO} (b : But D H H') (h : H D = some o) (m : Mut (some o)) : Keeps H H' :=
  ⟨fun a xs q => b a _ (ne_of q h (by intro e; subst e; exact m)) q, fun a ob u q => b a _ (ne_of q h (by intro e; subst e; exact m)) q⟩
theorem Keeps.sqT {K : PySem.W.Frag} {H H' : Hp} {a : Addr} {xs : List V} (k : Keeps H H') (h : SqT K H a xs) : SqT K H' a xs := by
  rcases h with (h | ⟨o, h⟩) | h
  · exact .inl (.inl (k.tup _ _ h))
  · exact .inl (.inr ⟨o, k.frz _ _ _ h⟩)
  · exact .inr h
/-- the formula f stands at v -/
def Rf (K : PySem.W.Frag) (H : Hp) : Fm → V → Prop
  | .lit b, v => ∃ p, v = .ref p ∧ SqT K H p [.str (Fm.hLit b)]
  | .val s, v => ∃ p, v = .ref p ∧ SqT K H p [.str "value", .str s]
  | .mark s, v => ∃ p, v = .ref p ∧ SqT K H p [.str "mark", .str s]
  | .name s, v => ∃ p, v = .ref p ∧ SqT K H p [.str "name", .str s]
  | .bin b l r, v => ∃ p x y, v = .ref p ∧ SqT K H p [.str (Fm.hBin b), x, y] ∧ Rf K H l x ∧ Rf K H r y
  | .un b a, v => ∃ p x, v = .ref p ∧ SqT K H p [.str (Fm.hUn b), x] ∧ Rf K H a x
  | .fix b s a, v => ∃ p x, v = .ref p ∧ SqT K H p [.str (Fm.hFix b), .str s, x] ∧ Rf K H a x
theorem Rf.keep {K : PySem.W.Frag} {H H' : Hp} (k : Keeps H H') : ∀ {f : Fm} {v : V}, Rf K H f v → Rf K H' f v
  | .lit _, _, ⟨p, e, h⟩ => ⟨p, e, k.sqT h⟩
  | .val _, _, ⟨p, e, h⟩ => ⟨p, e, k.sqT h⟩
  | .mark _, _, ⟨p, e, h⟩ => ⟨p, e, k.sqT h⟩
  | .name _, _, ⟨p, e, h⟩ => ⟨p, e, k.sqT h⟩
  | .bin _ _ _, _, ⟨p, x, y, e, h, h1, h2⟩ => ⟨p, x, y, e, k.sqT h, h1.keep k, h2.keep k⟩
  | .un _ _, _, ⟨p, x, e, h, h1⟩ => ⟨p, x, e, k.sqT h, h1.keep k⟩
  | .fix _ _ _, _, ⟨p, x, e, h, h1⟩ => ⟨p, x, e, k.sqT h, h1.keep k⟩
theorem Rf.same {K : PySem.W.Frag} {H H' : Hp} {f : Fm} {v : V} (h : Rf K H f v) (s : Same H H') : Rf K H' f v := h.keep s.keeps
theorem Rf.dp {K : PySem.W.Frag} {H : Hp} : ∀ {f : Fm} {v : V}, Rf K H f v → Dp K H v f.toD
  | .lit _, _, ⟨p, e, h⟩ => by subst e; exact .tup h (.cons (.str _) .nil)
  | .val _, _, ⟨p, e, h⟩ => by subst e; exact .tup h (.cons (.str _) (.cons (.str _) .nil))
  | .mark _, _, ⟨p, e, h⟩ => by subst e; exact .tup h (.cons (.str _) (.cons (.str _) .nil))
  | .name _, _, ⟨p, e, h⟩ => by subst e; exact .tup h (.cons (.str _) (.cons (.str _) .nil))
  | .bin _ _ _, _, ⟨p, x, y, e, h, h1, h2⟩ => by subst e; exact .tup h (.cons (.str _) (.cons h1.dp (.cons h2.dp .nil)))
  | .un _ _, _, ⟨p, x, e, h, h1⟩ => by subst e; exact .tup h (.cons (.str _) (.cons h1.dp .nil))
  | .fix _ _ _, _, ⟨p, x, e, h, h1⟩ => by subst e; exact .tup h (.cons (.str _) (.cons (.str _) (.cons h1.dp .nil)))
/-- the fields behind the head -/
def Rest (K : PySem.W.Frag) (H : Hp) : Fm → List V → Prop
  | .lit _, xs => xs = []
  | .val s, xs | .mark s, xs | .name s, xs => xs = [.str s]
  | .bin _ l r, xs => ∃ x y, xs = [x, y] ∧ Rf K H l x ∧ Rf K H r y
  | .un _ a, xs => ∃ x, xs = [x] ∧ Rf K H a x
  | .fix _ s a, xs => ∃ x, xs = [.str s, x] ∧ Rf K H a x
theorem Rf.out {K : PySem.W.Frag} {H : Hp} : ∀ {f : Fm} {v : V}, Rf K H f v → ∃ p xs, v = .ref p ∧ SqT K H p (.str f.head :: xs) ∧ Rest K H f xs
  | .lit _, _, ⟨p, e, h⟩ => ⟨p, _, e, h, rfl⟩
  | .val _, _, ⟨p, e, h⟩ => ⟨p, _, e, h, rfl⟩
  | .mark _, _, ⟨p, e, h⟩ => ⟨p, _, e, h, rfl⟩
  | .name _, _, ⟨p, e, h⟩ => ⟨p, _, e, h, rfl⟩
  | .bin _ _ _, _, ⟨p, x, y, e, h, h1, h2⟩ => ⟨p, _, e, h, x, y, rfl, h1, h2⟩
  | .un _ _, _, ⟨p, x, e, h, h1⟩ => ⟨p, _, e, h, x, rfl, h1⟩
  | .fix _ _ _, _, ⟨p, x, e, h, h1⟩ => ⟨p, _, e, h, x, rfl, h1⟩
theorem Rf.in_ {K : PySem.W.Frag} {H : Hp} : ∀ {f : Fm} {p : Addr} {xs : List V}, SqT K H p (.str f.head :: xs) → Rest K H f xs → Rf K H f (.ref p)
  | .lit _, _, _, h, rfl => ⟨_, rfl, h⟩
  | .val _, _, _, h, rfl => ⟨_, rfl, h⟩
  | .mark _, _, _, h, rfl => ⟨_, rfl, h⟩
  | .name _, _, _, h, rfl => ⟨_, rfl, h⟩
  | .bin _ _ _, _, _, h, ⟨x, y, e, h1, h2⟩ => by subst e; exact ⟨_, x, y, rfl, h, h1, h2⟩
  | .un _ _, _, _, h, ⟨x, e, h1⟩ => by subst e; exact ⟨_, x, rfl, h, h1⟩
  | .fix _ _ _, _, _, h, ⟨x, e, h1⟩ => by subst e; exact ⟨_, x, rfl, h, h1⟩
theorem Rest.keep {K : PySem.W.Frag} {H H' : Hp} (k : Keeps H H') {f : Fm} {xs : List V} (r : Rest K H f xs) : Rest K H' f xs := by
  cases f with
  | lit _ | val _ | mark _ | name _ => exact r
  | bin b l r' => obtain ⟨x, y, e, h1, h2⟩ := r; exact ⟨x, y, e, h1.keep k, h2.keep k⟩
  | un b a => obtain ⟨x, e, h1⟩ := r; exact ⟨x, e, h1.keep k⟩
  | fix b s a => obtain ⟨x, e, h1⟩ := r; exact ⟨x, e, h1.keep k⟩
/-- where the parts stand -/
def Fm.places : Fm → List Int
  | .lit _ | .val _ | .mark _ | .name _ => []
  | .bin _ _ _ => [1, 2]
  | .un _ _ => [1]
  | .fix _ _ _ => [2]
theorem Fm.places_length : ∀ f : Fm, f.places.length = f.parts.length
  | .lit _ | .val _ | .mark _ | .name _ | .bin _ _ _ | .un _ _ | .fix _ _ _ => rfl
/-- the part at the i-th place -/
theorem Rest.part {K : PySem.W.Frag} {H : Hp} {f : Fm} {xs : List V} (r : Rest K H f xs) {i : Nat} {z : Int} (hz : f.places[i]? = some z) :
    ∃ g x, f.parts[i]? = some g ∧ atI (V.str f.head :: xs) z = some x ∧ Rf K H g x := by
  cases f with
  | lit _ | val _ | mark _ | name _ => simp [Fm.places] at hz
  | bin b l r' =>
    obtain ⟨x, y, rfl, h1, h2⟩ := r
    match i, hz with
    | 0, e => cases e; exact ⟨_, _, rfl, atI_nat (j := 1) rfl, h1⟩
    | 1, e => cases e; exact ⟨_, _, rfl, atI_nat (j := 2) rfl, h2⟩
    | n + 2, e => simp [Fm.places] at e
  | un b a =>
    obtain ⟨x, rfl, h1⟩ := r
    match i, hz with
    | 0, e => cases e; exact ⟨_, _, rfl, atI_nat (j := 1) rfl, h1⟩
    | n + 1, e => simp [Fm.places] at e
  | fix b s a =>
    obtain ⟨x, rfl, h1⟩ := r
    match i, hz with
    | 0, e => cases e; exact ⟨_, _, rfl, atI_nat (j := 2) rfl, h1⟩
    | n + 1, e => simp [Fm.places] at e
theorem lc_fold {J : It} {n : Nat} {G : Hp → Prop} {Yw : Nat → Hp → V → Hp → Prop} (w : Walk J n G Yw) {g : TG} {tt : TT} {te : TE} {vs : List Nat} {σ : L2.St} {H1 : Hp} {D : Addr} {Qd : Hp → Prop} (hD : H1 D = none)
    (R : Nat → Hp → List V → Prop) (r0 : ∀ H, R 0 H []) (mono : ∀ i H H' xs, Keeps H H' → R i H xs → R i H' xs) (len : ∀ i H ys, R i H ys → ys.length ≤ 1000000) (hG : ∀ H, Same H1 H → G H)
    (hs : ∀ i x H H' ys (Nx : V → Hp → Prop) (Ex : Hp → Prop), i < n → Same H1 H → R i H ys → Yw i H x H' →
      (∀ y H2, Same H H2 → R (i + 1) H2 (ys ++ [y]) → Nx y H2) → (∀ H2, Same H H2 → R (i + 1) H2 ys → Ex H2) →
      g x (wipe σ vs) H' fun σ2 H2 => wipe σ2 vs = wipe σ vs ∧ tt σ2 H2 fun b H3 => if b = true then te σ2 H3 Nx else Ex H3)
    (hd : ∀ H ys, Same H1 H → H D = some (.lst ys) → R n H ys → Qd H) :
    ∃ W : Nat → Nat → Hp → Prop, (∃ m, W 0 m (upd H1 D (.lst []))) ∧ ∀ i m H, W i m H →
      (J.stop i H ∧ Qd H) ∨ (J.go i H ∧ ∃ Nx : Hp → Prop, (∀ H', Nx H' → ∃ m', m' < m ∧ W (i + 1) m' H') ∧ ∀ x H', J.yld i H x H' → g x (wipe σ vs) H' fun σ2 H2 => wipe σ2 vs = wipe σ vs ∧ tt σ2 H2 fun b H3 =>
        if b = true then te σ2 H3 fun y H4 => ∃ acc, H4 D = some (.lst acc) ∧ acc.length < sizeLine ∧ Nx (upd H4 D (.lst (acc ++ [y]))) else Nx H3) :=
  lc_foldF w (Same H1) R (Same.new hD _) (fun H ys zs s _ => s.mut hD _) (r0 _) (fun i H ys zs xs r h => mono _ _ _ _ ((Keeps.refl H).mut h trivial) r) len hG
    (fun i x H H' ys Nx Ex hi s hy r y k1 k2 => hs i x H H' ys Nx Ex hi s r y (fun z H2 s2 r2 => k1 z H2 (s.trans s2) (s2 _ _ hy) r2) (fun H2 s2 r2 => k2 H2 (s.trans s2) (s2 _ _ hy) r2)) hd
/-- a dict comprehension over any walk, as lc_it -/
theorem dc_it {J : It} {n : Nat} {G : Hp → Prop} {Y : Nat → Hp → V → Hp → Prop} (w : Walk J n G Y) {g : TG} {tt : TT} {tk tv : TE} {vs : List Nat} {σ : L2.St} {H1 : Hp} {D : Addr} {Qd : Hp → Prop} (Pv : Nat → Hp → Prop) (h0 : Pv 0 (upd H1 D (.dK []))) (hG : ∀ i H, i ≤ n → Pv i H → G H)
    (hs : ∀ i x H H', i < n → Pv i H → Y i H x H' → g x (wipe σ vs) H' fun σ2 H2 => wipe σ2 vs = wipe σ vs ∧ tt σ2 H2 fun b H3 =>
      if b = true then tk σ2 H3 fun y H4 => tv σ2 H4 fun z H5 => ∃ kvs k, y = kV k ∧ H5 D = some (.dK kvs) ∧ kvs.length < sizeLine ∧ Pv (i + 1) (upd H5 D (.dK (putK kvs k z))) else Pv (i + 1) H3) (hd : ∀ H, Pv n H → Qd H) :
    ∃ W : Nat → Nat → Hp → Prop, (∃ m, W 0 m (upd H1 D (.dK []))) ∧ ∀ i m H, W i m H →
      (J.stop i H ∧ Qd H) ∨ (J.go i H ∧ ∃ Nx : Hp → Prop, (∀ H', Nx H' → ∃ m', m' < m ∧ W (i + 1) m' H') ∧ ∀ x H', J.yld i H x H' → g x (wipe σ vs) H' fun σ2 H2 => wipe σ2 vs = wipe σ vs ∧ tt σ2 H2 fun b H3 =>
        if b = true then tk σ2 H3 fun y H4 => tv σ2 H4 fun z H5 => ∃ kvs k, y = kV k ∧ H5 D = some (.dK kvs) ∧ kvs.length < sizeLine ∧ Nx (upd H5 D (.dK (putK kvs k z))) else Nx H3) := by
  refine ⟨fun i m H => m = n - i ∧ i ≤ n ∧ Pv i H, ⟨n, rfl, Nat.zero_le _, h0⟩, fun i m H ⟨em, hi, p⟩ => ?_⟩
  subst em
  have q := hG i H hi p
  rcases Nat.lt_or_ge i n with hlt | hge
  · exact .inr ⟨w.goes i H hlt q, Pv (i + 1), fun H' p' => ⟨n - (i + 1), by omega, rfl, hlt, p'⟩, fun x H' y => hs i x H H' hlt p (w.yields i H x H' hlt q y)⟩
  · have e : i = n := by omega
    subst e
    exact .inl ⟨w.stops H q, hd H p⟩
/-- R i H kvs: what is known of the dict made so far -/
theorem dc_fold {J : It} {n : Nat} {G : Hp → Prop} {Yw : Nat → Hp → V → Hp → Prop} (w : Walk J n G Yw) {g : TG} {tt : TT} {tk tv : TE} {vs : List Nat} {σ : L2.St} {H1 : Hp} {D : Addr} {Qd : Hp → Prop} (hD : H1 D = none)
    (R : Nat → Hp → List (Key × V) → Prop) (r0 : ∀ H, R 0 H []) (mono : ∀ i H H' xs, Keeps H H' → R i H xs → R i H' xs) (len : ∀ i H ys, R i H ys → ys.length ≤ 1000000) (hG : ∀ H, Same H1 H → G H)
    (hs : ∀ i x H H' ys (Nx : V → V → Hp → Prop) (Ex : Hp → Prop), i < n → Same H1 H → R i H ys → Yw i H x H' →
      (∀ k z H2, Same H H2 → R (i + 1) H2 (putK ys k z) → Nx (kV k) z H2) → (∀ H2, Same H H2 → R (i + 1) H2 ys → Ex H2) →
      g x (wipe σ vs) H' fun σ2 H2 => wipe σ2 vs = wipe σ vs ∧ tt σ2 H2 fun b H3 => if b = true then tk σ2 H3 fun y H4 => tv σ2 H4 fun z H5 => Nx y z H5 else Ex H3)
    (hd : ∀ H ys, Same H1 H → H D = some (.dK ys) → R n H ys → Qd H) :
    ∃ W : Nat → Nat → Hp → Prop, (∃ m, W 0 m (upd H1 D (.dK []))) ∧ ∀ i m H, W i m H →
      (J.stop i H ∧ Qd H) ∨ (J.go i H ∧ ∃ Nx : Hp → Prop, (∀ H', Nx H' → ∃ m', m' < m ∧ W (i + 1) m' H') ∧ ∀ x H', J.yld i H x H' → g x (wipe σ vs) H' fun σ2 H2 => wipe σ2 vs = wipe σ vs ∧ tt σ2 H2 fun b H3 =>
        if b = true then tk σ2 H3 fun y H4 => tv σ2 H4 fun z H5 => ∃ kvs k, y = kV k ∧ H5 D = some (.dK kvs) ∧ kvs.length < sizeLine ∧ Nx (upd H5 D (.dK (putK kvs k z))) else Nx H3) := by
  refine dc_it w (fun i H => Same H1 H ∧ ∃ ys, H D = some (.dK ys) ∧ R i H ys) ⟨Same.new hD _, [], upd_same, r0 _⟩ (fun i H _ h => hG H h.1) ?_ ?_
  · rintro i x H H' hi ⟨s, ys, hy, r⟩ y
    refine hs i x H H' ys (fun y z H5 => ∃ kvs k, y = kV k ∧ H5 D = some (.dK kvs) ∧ kvs.length < sizeLine ∧ (Same H1 (upd H5 D (.dK (putK kvs k z))) ∧ ∃ ys, (upd H5 D (.dK (putK kvs k z))) D = some (.dK ys) ∧ R (i + 1) (upd H5 D (.dK (putK kvs k z))) ys)) _ hi s r y (fun k z H2 s2 r2 => ?_) (fun H2 s2 r2 => ⟨s.trans s2, ys, s2 _ _ hy, r2⟩)
    have h2 := s2 _ _ hy
    exact ⟨ys, k, rfl, h2, smallM (len i H ys r), (s.trans s2).mut hD _, _, upd_same, mono _ _ _ _ ((Keeps.refl H2).mut h2 trivial) r2⟩
  · rintro H ⟨s, ys, hy, r⟩
    exact hd H ys s hy r
/-! ### heads asked for -/
theorem beq_comm_str (s t : Str) : (s == t) = (t == s) := by
  by_cases h : s = t
  · subst h; rfl
  · rw [beq_eq_false_iff_ne.mpr h, beq_eq_false_iff_ne.mpr fun q => h q.symm]
theorem inV_str (s a b : Str) : inV (.str s) [.str a, .str b] = (s == a || s == b) := by
  show (eqV (.str a) (.str s) || (eqV (.str b) (.str s) || false)) = _
  show ((a == s) || ((b == s) || false)) = _
  rw [Bool.or_false, beq_comm_str a, beq_comm_str b]
theorem eq_str (s a : Str) : decide (V.str s = V.str a) = (s == a) := dec_str
theorem kind_by (a b : Str) (n : Nat) (ha : Fm.kindStr a = n) (hb : Fm.kindStr b = n) (h : ∀ s, Fm.kindStr s = n → s = a ∨ s = b) (f : Fm) : (f.head == a || f.head == b) = decide (f.kindOf = n) := by
  rw [← Fm.kind_head]
  by_cases e : Fm.kindStr f.head = n
  · rw [decide_eq_true e]
    rcases h _ e with q | q <;> rw [q] <;> simp
  · have h1 : ¬ f.head = a := fun q => e (by rw [q, ha])
    have h2 : ¬ f.head = b := fun q => e (by rw [q, hb])
    rw [decide_eq_false e, beq_eq_false_iff_ne.mpr h1, beq_eq_false_iff_ne.mpr h2]
    rfl
theorem kindStr_inv (s : Str) : (Fm.kindStr s = 0 → s = "true" ∨ s = "false") ∧ (Fm.kindStr s = 3 → s = "name" ∨ s = "name") ∧ (Fm.kindStr s = 4 → s = "and" ∨ s = "or") ∧ (Fm.kindStr s = 6 → s = "least" ∨ s = "most") := by
  unfold Fm.kindStr
  refine ⟨?_, ?_, ?_, ?_⟩ <;> (repeat' split) <;> intro h <;> first | (exact absurd h (by decide)) | (left; assumption) | (right; assumption)
theorem head_fix (f : Fm) : (f.head == "least" || f.head == "most") = decide (f.kindOf = 6) := kind_by _ _ 6 (by decide +kernel) (by decide +kernel) (fun s => (kindStr_inv s).2.2.2) f
theorem head_bin (f : Fm) : (f.head == "and" || f.head == "or") = decide (f.kindOf = 4) := kind_by _ _ 4 (by decide +kernel) (by decide +kernel) (fun s => (kindStr_inv s).2.2.1) f
theorem head_lit (f : Fm) : (f.head == "true" || f.head == "false") = decide (f.kindOf = 0) := kind_by _ _ 0 (by decide +kernel) (by decide +kernel) (fun s => (kindStr_inv s).1) f
theorem head_name (f : Fm) : (f.head == "name") = decide (f.kindOf = 3) := by
  have h := kind_by "name" "name" 3 (by decide +kernel) (by decide +kernel) (fun s => (kindStr_inv s).2.1) f
  rwa [Bool.or_self] at h
theorem kind_fix {f : Fm} (h : f.kindOf = 6) : ∃ b x a, f = .fix b x a := by cases f <;> first | exact ⟨_, _, _, rfl⟩ | (simp [Fm.kindOf] at h)
theorem kind_bin {f : Fm} (h : f.kindOf = 4) : ∃ b l r, f = .bin b l r := by cases f <;> first | exact ⟨_, _, _, rfl⟩ | (simp [Fm.kindOf] at h)
theorem kind_name {f : Fm} (h : f.kindOf = 3) : ∃ x, f = .name x := by cases f <;> first | exact ⟨_, rfl⟩ | (simp [Fm.kindOf] at h)
theorem kind_lit {f : Fm} (h : f.kindOf = 0) : ∃ b, f = .lit b := by cases f <;> first | exact ⟨_, rfl⟩ | (simp [Fm.kindOf] at h)
/-! ### the plain law of formulas -/
namespace Fm
/-- the free names, in the order of a dict's keys -/
def join (xs ys : List Str) : List Str := xs ++ ys.filter fun y => decide (y ∉ xs)
def free : Fm → List Str
  | .lit _ | .val _ | .mark _ => []
  | .name x => [x]
  | .bin _ l r => join l.free r.free
  | .un _ a => a.free
  | .fix _ x a => a.free.filter fun y => decide (y ≠ x)
def dual : Fm → Fm
  | .lit b => .lit !b
  | .val s => .val s
  | .mark s => .mark s
  | .name s => .name s
  | .bin b l r => .bin (!b) l.dual r.dual
  | .un b a => .un (!b) a.dual
  | .fix b x a => .fix (!b) x a.dual
def sPair (b : Bool) (l r : Fm) : Fm :=
  if l = .lit b ∨ l = r then r else if r = .lit b then l else if l = .lit (!b) ∨ r = .lit (!b) then .lit (!b) else .bin b l r
def sFix (b : Bool) (x : Str) (a : Fm) : Fm := if a = .name x then .lit (!b) else if x ∈ a.free then .fix b x a else a
def sUn (b : Bool) (a : Fm) : Fm := if a = .lit (!b) then a else .un b a
def simp : Fm → Fm
  | .bin b l r => sPair b l.simp r.simp
  | .fix b x a => sFix b x a.simp
  | .un b a => sUn b a.simp
  | .lit b => .lit b
  | .val s => .val s
  | .mark s => .mark s
  | .name s => .name s
abbrev Im := List (Str × Fm)
def getI (im : Im) (x : Str) : Option Fm := (im.find? fun p => decide (p.1 = x)).map (·.2)
def dropI (im : Im) (x : Str) : Im := im.filter fun p => decide (p.1 ≠ x)
def putIn (im : Im) : Fm → Fm
  | .name x => (getI im x).getD (.name x)
  | .fix b x a => .fix b x (a.putIn (dropI im x))
  | .bin b l r => .bin b (l.putIn im) (r.putIn im)
  | .un b a => .un b (a.putIn im)
  | .lit b => .lit b
  | .val s => .val s
  | .mark s => .mark s
def unfold : Fm → Fm
  | .fix b x a => a.putIn [(x, .fix b x a)]
  | f => f
theorem mem_join {xs ys : List Str} {z : Str} : z ∈ join xs ys ↔ z ∈ xs ∨ z ∈ ys := by
  unfold join
  simp only [List.mem_append, List.mem_filter, decide_eq_true_eq]
  by_cases h : z ∈ xs <;> simp [h]
theorem nodup_join {xs ys : List Str} (h1 : xs.Nodup) (h2 : ys.Nodup) : (join xs ys).Nodup := by
  unfold join
  refine List.nodup_append.mpr ⟨h1, h2.filter _, fun a ha b hb e => ?_⟩
  subst e
  have := (List.mem_filter.mp hb).2
  simp at this
  exact this ha
theorem free_nodup : ∀ f : Fm, f.free.Nodup
  | .lit _ | .val _ | .mark _ => List.nodup_nil
  | .name _ => List.nodup_cons.mpr ⟨by simp, List.nodup_nil⟩
  | .bin _ l r => nodup_join l.free_nodup r.free_nodup
  | .un _ a => a.free_nodup
  | .fix _ _ a => a.free_nodup.filter _
theorem join_le (xs ys : List Str) : (join xs ys).length ≤ xs.length + ys.length := by
  unfold join
  rw [List.length_append]
  have := List.length_filter_le (fun y => decide (y ∉ xs)) ys
  omega
theorem free_size : ∀ f : Fm, f.free.length ≤ f.size
  | .lit _ | .val _ | .mark _ => Nat.zero_le _
  | .name _ => Nat.le_refl _
  | .bin _ l r => by have := l.free_size; have := r.free_size; have := join_le l.free r.free; simp only [free, size]; omega
  | .un _ a => by have := a.free_size; simp only [free, size]; omega
  | .fix _ x a => by have := a.free_size; have := List.length_filter_le (fun y => decide (y ≠ x)) a.free; simp only [free, size]; omega
theorem free_dual : ∀ f : Fm, f.dual.free = f.free
  | .lit _ | .val _ | .mark _ | .name _ => rfl
  | .bin _ l r => by simp only [dual, free, free_dual l, free_dual r]
  | .un _ a => by simp only [dual, free, free_dual a]
  | .fix _ _ a => by simp only [dual, free, free_dual a]
theorem dual_dual : ∀ f : Fm, f.dual.dual = f
  | .lit b => by simp only [dual, Bool.not_not]
  | .val _ | .mark _ | .name _ => rfl
  | .bin _ l r => by simp only [dual, dual_dual l, dual_dual r, Bool.not_not]
  | .un _ a => by simp only [dual, dual_dual a, Bool.not_not]
  | .fix _ _ a => by simp only [dual, dual_dual a, Bool.not_not]
theorem dual_inj {f g : Fm} : f.dual = g.dual ↔ f = g := ⟨fun h => by rw [← dual_dual f, h, dual_dual], fun h => by rw [h]⟩
theorem dual_size : ∀ f : Fm, f.dual.size = f.size
  | .lit _ | .val _ | .mark _ | .name _ => rfl
  | .bin _ l r => by simp only [dual, size, dual_size l, dual_size r]
  | .un _ a => by simp only [dual, size, dual_size a]
  | .fix _ _ a => by simp only [dual, size, dual_size a]
theorem dual_depth : ∀ f : Fm, f.dual.depth = f.depth
  | .lit _ | .val _ | .mark _ | .name _ => rfl
  | .bin _ l r => by simp only [dual, depth, dual_depth l, dual_depth r]
  | .un _ a => by simp only [dual, depth, dual_depth a]
  | .fix _ _ a => by simp only [dual, depth, dual_depth a]
theorem dual_texts (p : Str → Prop) : ∀ f : Fm, f.Texts p → f.dual.Texts p
  | .lit _, _ => trivial
  | .val _, h | .mark _, h | .name _, h => h
  | .bin _ l r, h => ⟨dual_texts p l h.1, dual_texts p r h.2⟩
  | .un _ a, h => dual_texts p a h
  | .fix _ _ a, h => ⟨h.1, dual_texts p a h.2⟩
theorem sPair_dual (b : Bool) (l r : Fm) : sPair (!b) l.dual r.dual = (sPair b l r).dual := by
  have e : ∀ (c : Bool) (f : Fm), (f.dual = .lit (!c)) ↔ f = .lit c := fun c f => by rw [show Fm.lit (!c) = (Fm.lit c).dual from rfl, dual_inj]
  have e1 := e b
  have e2 := e (!b)
  unfold sPair
  simp only [dual_inj, e1, e2]
  split
  · rfl
  · split
    · rfl
    · split <;> rfl
theorem sFix_dual (b : Bool) (x : Str) (a : Fm) : sFix (!b) x a.dual = (sFix b x a).dual := by
  have e : (a.dual = .name x) ↔ a = .name x := by rw [show Fm.name x = (Fm.name x).dual from rfl, dual_inj]; exact Iff.rfl
  unfold sFix
  simp only [e, free_dual]
  split
  · rfl
  · split <;> rfl
theorem sUn_dual (b : Bool) (a : Fm) : sUn (!b) a.dual = (sUn b a).dual := by
  have e : (a.dual = .lit (!!b)) ↔ a = .lit (!b) := by rw [show Fm.lit (!!b) = (Fm.lit (!b)).dual from rfl, dual_inj]
  unfold sUn
  simp only [e]
  split <;> rfl
theorem simp_dual : ∀ f : Fm, f.dual.simp = f.simp.dual
  | .lit _ | .val _ | .mark _ | .name _ => rfl
  | .bin b l r => by simp only [dual, simp, simp_dual l, simp_dual r, sPair_dual]
  | .un b a => by simp only [dual, simp, simp_dual a, sUn_dual]
  | .fix b x a => by simp only [dual, simp, simp_dual a, sFix_dual]
theorem free_sPair {b : Bool} {l r : Fm} {z : Str} (h : z ∈ (sPair b l r).free) : z ∈ l.free ∨ z ∈ r.free := by
  unfold sPair at h
  split at h
  · exact .inr h
  · split at h
    · exact .inl h
    · split at h
      · simp [free] at h
      · exact mem_join.mp h
theorem free_simp : ∀ (f : Fm) {z : Str}, z ∈ f.simp.free → z ∈ f.free
  | .lit _, _, h | .val _, _, h | .mark _, _, h | .name _, _, h => h
  | .bin b l r, _, h => mem_join.mpr ((free_sPair h).imp (free_simp l) (free_simp r))
  | .un b a, z, h => by
    simp only [simp, sUn] at h
    split at h <;> exact free_simp a h
  | .fix b x a, z, h => by
    simp only [simp, sFix] at h
    split at h
    · simp [free] at h
    · split at h
      · obtain ⟨h1, h2⟩ := List.mem_filter.mp h
        exact List.mem_filter.mpr ⟨free_simp a h1, h2⟩
      · rename_i hx
        exact List.mem_filter.mpr ⟨free_simp a h, by simp; rintro rfl; exact hx h⟩
theorem simp_size : ∀ f : Fm, f.simp.size ≤ f.size
  | .lit _ | .val _ | .mark _ | .name _ => Nat.le_refl _
  | .bin b l r => by
    have := simp_size l; have := simp_size r
    simp only [simp, sPair]
    repeat (first | split | (simp only [size]; omega))
  | .un b a => by
    have := simp_size a
    simp only [simp, sUn]
    repeat (first | split | (simp only [size]; omega))
  | .fix b x a => by
    have := simp_size a
    simp only [simp, sFix]
    repeat (first | split | (simp only [size]; omega))
theorem simp_depth : ∀ f : Fm, f.simp.depth ≤ f.depth
  | .lit _ | .val _ | .mark _ | .name _ => Nat.le_refl _
  | .bin b l r => by
    have := simp_depth l; have := simp_depth r
    simp only [simp, sPair]
    repeat (first | split | (simp only [depth]; omega))
  | .un b a => by
    have := simp_depth a
    simp only [simp, sUn]
    repeat (first | split | (simp only [depth]; omega))
  | .fix b x a => by
    have := simp_depth a
    simp only [simp, sFix]
    repeat (first | split | (simp only [depth]; omega))
theorem simp_texts (p : Str → Prop) : ∀ f : Fm, f.Texts p → f.simp.Texts p
  | .lit _, h | .val _, h | .mark _, h | .name _, h => h
  | .bin b l r, h => by
    have h1 := simp_texts p l h.1; have h2 := simp_texts p r h.2
    simp only [simp, sPair]
    repeat (first | split | assumption | trivial | exact ⟨h1, h2⟩)
  | .un b a, h => by
    have h1 := simp_texts p a h
    simp only [simp, sUn]
    repeat (first | split | assumption | trivial)
  | .fix b x a, h => by
    have h1 := simp_texts p a h.2
    simp only [simp, sFix]
    repeat (first | split | assumption | trivial | exact ⟨h.1, h1⟩)
def dualI (im : Im) : Im := im.map fun p => (p.1, p.2.dual)
theorem getI_dual (im : Im) (x : Str) : getI (dualI im) x = (getI im x).map dual := by
  unfold getI dualI
  rw [List.find?_map, Option.map_map, Option.map_map]
  rfl
theorem dropI_dual (im : Im) (x : Str) : dropI (dualI im) x = dualI (dropI im x) := by
  unfold dropI dualI
  rw [List.filter_map]
  rfl
theorem putIn_dual : ∀ (f : Fm) (im : Im), f.dual.putIn (dualI im) = (f.putIn im).dual
  | .lit _, _ | .val _, _ | .mark _, _ => rfl
  | .name x, im => by
    simp only [dual, putIn, getI_dual]
    cases getI im x <;> rfl
  | .bin b l r, im => by simp only [dual, putIn, putIn_dual l, putIn_dual r]
  | .un b a, im => by simp only [dual, putIn, putIn_dual a]
  | .fix b x a, im => by simp only [dual, putIn, dropI_dual, putIn_dual a]
theorem unfold_dual : ∀ f : Fm, f.dual.unfold = f.unfold.dual
  | .lit _ | .val _ | .mark _ | .name _ | .bin _ _ _ | .un _ _ => rfl
  | .fix b x a => by
    show a.dual.putIn [(x, .fix (!b) x a.dual)] = (a.putIn [(x, .fix b x a)]).dual
    rw [← putIn_dual]
    rfl
theorem getI_mem {im : Im} {x : Str} {g : Fm} (h : getI im x = some g) : (x, g) ∈ im := by
  unfold getI at h
  obtain ⟨p, hp, e⟩ := Option.map_eq_some_iff.mp h
  have h1 := List.mem_of_find?_eq_some hp
  have h2 : p.1 = x := by simpa using List.find?_some hp
  obtain ⟨a, b⟩ := p
  simp only at e h2
  subst e h2
  exact h1
theorem putIn_depth {n : Nat} : ∀ (f : Fm) (im : Im), (∀ p ∈ im, p.2.depth ≤ n) → (f.putIn im).depth ≤ f.depth + n
  | .lit _, _, _ | .val _, _, _ | .mark _, _, _ => by simp only [putIn, depth]; omega
  | .name x, im, h => by
    simp only [putIn, depth]
    cases e : getI im x with
    | none => simp only [Option.getD, depth]; omega
    | some g => have := h _ (getI_mem e); simp only [Option.getD] at *; omega
  | .bin b l r, im, h => by have := putIn_depth l im h; have := putIn_depth r im h; simp only [putIn, depth]; omega
  | .un b a, im, h => by have := putIn_depth a im h; simp only [putIn, depth]; omega
  | .fix b x a, im, h => by have := putIn_depth a (dropI im x) (fun p hp => h p (List.mem_filter.mp hp).1); simp only [putIn, depth]; omega
theorem putIn_texts (p : Str → Prop) : ∀ (f : Fm) (im : Im), f.Texts p → (∀ q ∈ im, q.2.Texts p) → (f.putIn im).Texts p
  | .lit _, _, h, _ | .val _, _, h, _ | .mark _, _, h, _ => h
  | .name x, im, h, hi => by
    simp only [putIn]
    cases e : getI im x with
    | none => exact h
    | some g => exact hi _ (getI_mem e)
  | .bin b l r, im, h, hi => ⟨putIn_texts p l im h.1 hi, putIn_texts p r im h.2 hi⟩
  | .un b a, im, h, hi => putIn_texts p a im h hi
  | .fix b x a, im, h, hi => ⟨h.1, putIn_texts p a (dropI im x) h.2 fun q hq => hi q (List.mem_filter.mp hq).1⟩
theorem unfold_depth (f : Fm) : f.unfold.depth ≤ 2 * f.depth := by
  cases f with
  | fix b x a =>
    have := putIn_depth (n := (Fm.fix b x a).depth) a [(x, .fix b x a)] (fun p hp => by simp at hp; subst hp; exact Nat.le_refl _)
    simp only [unfold, depth] at *
    omega
  | _ => simp only [unfold]; omega
theorem unfold_texts (p : Str → Prop) (f : Fm) (h : f.Texts p) : f.unfold.Texts p := by
  cases f with
  | fix b x a => exact putIn_texts p a _ h.2 fun q hq => by simp at hq; subst hq; exact h
  | _ => exact h
theorem Texts.mono {p q : Str → Prop} (i : ∀ s, p s → q s) : ∀ {f : Fm}, f.Texts p → f.Texts q
  | .lit _, _ => trivial
  | .val _, h | .mark _, h | .name _, h => i _ h
  | .bin _ l r, h => ⟨Texts.mono i h.1, Texts.mono i h.2⟩
  | .un _ a, h => Texts.mono (f := a) i h
  | .fix _ _ a, h => ⟨i _ h.1, Texts.mono i h.2⟩
theorem free_texts {p : Str → Prop} : ∀ {f : Fm}, f.Texts p → ∀ z ∈ f.free, p z
  | .lit _, _, z, hz | .val _, _, z, hz | .mark _, _, z, hz => by simp [free] at hz
  | .name x, h, z, hz => by simp [free] at hz; subst hz; exact h
  | .bin _ l r, h, z, hz => (mem_join.mp hz).elim (free_texts h.1 z) (free_texts h.2 z)
  | .un _ a, h, z, hz => free_texts (f := a) h z hz
  | .fix _ _ a, h, z, hz => free_texts h.2 z (List.mem_filter.mp hz).1
end Fm
theorem size_parts {f g : Fm} (h : g ∈ f.parts) : g.size < f.size := by
  cases f with
  | lit _ | val _ | mark _ | name _ => simp [Fm.parts] at h
  | bin b l r =>
    simp only [Fm.parts, List.mem_cons, List.not_mem_nil, or_false] at h
    rcases h with rfl | rfl <;> simp only [Fm.size] <;> omega
  | un b a => simp only [Fm.parts, List.mem_cons, List.not_mem_nil, or_false] at h; subst h; simp only [Fm.size]; omega
  | fix b x a => simp only [Fm.parts, List.mem_cons, List.not_mem_nil, or_false] at h; subst h; simp only [Fm.size]; omega
/-! ### texts in ascending order: there is one such list -/
section
open PyProof.Rows PySem.Spec
def leS (a b : Str) : Bool := !ltCps b.cps.toList a.cps.toList
theorem ltCps_trans : ∀ a b c : List Nat, ltCps b a = false → ltCps c b = false → ltCps c a = false
  | [], _, [], _, _ => rfl
  | [], [], _ :: _, _, h => by simp [ltCps] at h ⊢
  | [], _ :: _, _ :: _, _, _ => by simp [ltCps]
  | _ :: _, [], _, h, _ => by simp [ltCps] at h
  | _ :: _, _ :: _, [], _, h => by simp [ltCps] at h
  | x :: a, y :: b, z :: c, h1, h2 => by
    have ih := ltCps_trans a b c
    simp only [ltCps, Bool.or_eq_false_iff, Bool.and_eq_false_iff, decide_eq_false_iff_not, beq_eq_false_iff_ne] at *
    obtain ⟨p1, q1⟩ := h1
    obtain ⟨p2, q2⟩ := h2
    refine ⟨by omega, ?_⟩
    by_cases e : z = x
    · subst e
      have e' : y = z := by omega
      subst e'
      exact .inr (ih (q1.resolve_left fun q => q rfl) (q2.resolve_left fun q => q rfl))
    · exact .inl e
theorem ltCps_antisymm : ∀ a b : List Nat, ltCps b a = false → ltCps a b = false → a = b
  | [], [], _, _ => rfl
  | [], _ :: _, _, h => by simp [ltCps] at h
  | _ :: _, [], h, _ => by simp [ltCps] at h
  | x :: a, y :: b, h1, h2 => by
    have ih := ltCps_antisymm a b
    simp only [ltCps, Bool.or_eq_false_iff, Bool.and_eq_false_iff, decide_eq_false_iff_not, beq_eq_false_iff_ne] at *
    have e : x = y := by omega
    subst e
    rw [ih (by rcases h1.2 with q | q; exact absurd rfl q; exact q) (by rcases h2.2 with q | q; exact absurd rfl q; exact q)]
theorem ltCps_total : ∀ a b : List Nat, ltCps b a = false ∨ ltCps a b = false
  | [], [] => .inl rfl
  | [], _ :: _ => .inl rfl
  | _ :: _, [] => .inr rfl
  | x :: a, y :: b => by
    have ih := ltCps_total a b
    simp only [ltCps, Bool.or_eq_false_iff, Bool.and_eq_false_iff, decide_eq_false_iff_not, beq_eq_false_iff_ne]
    rcases ih with q | q <;> simp only [q, or_true, and_true] <;> omega
theorem leS_trans (a b c : Str) (h1 : leS a b = true) (h2 : leS b c = true) : leS a c = true := by
  unfold leS at *
  simp only [Bool.not_eq_true'] at *
  exact ltCps_trans _ _ _ h1 h2
theorem leS_total (a b : Str) : (leS a b || leS b a) = true := by
  unfold leS
  rcases ltCps_total a.cps.toList b.cps.toList with q | q <;> rw [q] <;> simp
theorem leS_antisymm (a b : Str) (h1 : leS a b = true) (h2 : leS b a = true) : a = b := by
  unfold leS at *
  simp only [Bool.not_eq_true'] at *
  have e := ltCps_antisymm _ _ h1 h2
  have e2 : a.cps = b.cps := by rw [← Array.toList_inj]; exact e
  cases a; cases b
  simp only at e2
  rw [e2]
theorem rising_pair : ∀ (l : List Str) (x : Str), risingS x l = true → (∀ y ∈ l, leS x y = true) ∧ l.Pairwise fun a b => leS a b = true
  | [], x, _ => ⟨fun y h => by simp at h, List.Pairwise.nil⟩
  | y :: r, x, h => by
    have h' : (!ltCps y.cps.toList x.cps.toList && risingS y r) = true := h
    obtain ⟨h1, h2⟩ := Bool.and_eq_true_iff.mp h'
    obtain ⟨i1, i2⟩ := rising_pair r y h2
    have h1 : leS x y = true := h1
    refine ⟨fun z hz => ?_, List.Pairwise.cons i1 i2⟩
    rcases List.mem_cons.mp hz with rfl | hz
    · exact h1
    · exact leS_trans _ _ _ h1 (i1 z hz)
theorem sorted_pair {l : List Str} (h : sortedS l = true) : l.Pairwise fun a b => leS a b = true := by
  cases l with
  | nil => exact List.Pairwise.nil
  | cons x r => exact List.Pairwise.cons (rising_pair r x h).1 (rising_pair r x h).2
def srt (xs : List Str) : List Str := xs.mergeSort leS
theorem srt_perm (xs : List Str) : (srt xs).Perm xs := List.mergeSort_perm xs leS
theorem srt_of {ys xs : List Str} (h : ys.Perm xs) (hs : sortedS ys = true) : ys = srt xs :=
  List.Perm.eq_of_pairwise (le := fun a b => leS a b = true) (fun a b _ _ h1 h2 => leS_antisymm a b h1 h2) (sorted_pair hs) (List.pairwise_mergeSort leS_trans leS_total xs) (h.trans (srt_perm xs).symm)
theorem mem_srt {xs : List Str} {z : Str} : z ∈ srt xs ↔ z ∈ xs := (srt_perm xs).mem_iff
theorem srt_length (xs : List Str) : (srt xs).length = xs.length := (srt_perm xs).length_eq
end
/-! ### written forms -/
namespace Fm
def wrap (ws : List Str) : Str := ("(" : Str) ++ PySem.Txt.join " " ws ++ (")" : Str)
def write : Fm → Str
  | .lit b => hLit b
  | .name x => x
  | .val s => wrap ["value", s]
  | .mark s => wrap ["mark", s]
  | .bin b l r => wrap [hBin b, l.write, r.write]
  | .un b a => wrap [hUn b, a.write]
  | .fix b x a => wrap [hFix b, x, a.write]
/-- the words between the parentheses -/
def fields : Fm → List Str
  | .lit b => [hLit b]
  | .name x => ["name", x]
  | .val s => ["value", s]
  | .mark s => ["mark", s]
  | .bin b l r => [hBin b, l.write, r.write]
  | .un b a => [hUn b, a.write]
  | .fix b x a => [hFix b, x, a.write]
theorem join2 (s a b : Str) : PySem.Txt.join s [a, b] = a ++ s ++ b := (StrLaws.glued_eq_join s [a, b]).trans rfl
theorem join3 (s a b c : Str) : PySem.Txt.join s [a, b, c] = a ++ s ++ (b ++ s ++ c) := (StrLaws.glued_eq_join s [a, b, c]).trans rfl
theorem wrap2 (a b : Str) : wrap [a, b] = "(" ++ (a ++ " " ++ b) ++ ")" := by rw [wrap, join2]
theorem wrap3 (a b c : Str) : wrap [a, b, c] = "(" ++ (a ++ " " ++ (b ++ " " ++ c)) ++ ")" := by rw [wrap, join3]
theorem len_lit : ∀ b, (hLit b).length ≤ 5 := by decide +kernel
theorem len_bin : ∀ b, (hBin b).length ≤ 5 := by decide +kernel
theorem len_un : ∀ b, (hUn b).length ≤ 5 := by decide +kernel
theorem len_fix : ∀ b, (hFix b).length ≤ 5 := by decide +kernel
theorem len_signs : ("(" : Str).length = 1 ∧ (")" : Str).length = 1 ∧ (" " : Str).length = 1 ∧ ("value" : Str).length = 5 ∧ ("mark" : Str).length = 4 ∧ ("name" : Str).length = 4 := by decide +kernel
theorem write_len : ∀ f : Fm, f.Texts (fun s => s.length ≤ 20) → f.write.length ≤ 40 * f.size := by
  obtain ⟨l1, l2, l3, l4, l5, l6⟩ := len_signs
  intro f
  induction f with
  | lit b => intro _; have := len_lit b; simp only [write, size]; omega
  | name x => intro h; have h : x.length ≤ 20 := h; simp only [write, size]; omega
  | val s => intro h; have h : s.length ≤ 20 := h; simp only [write, size, wrap2, Str.length_append]; omega
  | mark s => intro h; have h : s.length ≤ 20 := h; simp only [write, size, wrap2, Str.length_append]; omega
  | bin b l r il ir => intro h; have := il h.1; have := ir h.2; have := len_bin b; simp only [write, size, wrap3, Str.length_append]; omega
  | un b a ia => intro h; have := ia h; have := len_un b; simp only [write, size, wrap2, Str.length_append]; omega
  | fix b x a ia => intro h; have := ia h.2; have hx : x.length ≤ 20 := h.1; have := len_fix b; simp only [write, size, wrap3, Str.length_append]; omega
/-- how often a sign stands in a text -/
def cnt (c : Nat) (s : Str) : Nat := s.cps.toList.count c
theorem cnt_app (c : Nat) (a b : Str) : cnt c (a ++ b) = cnt c a + cnt c b := by
  unfold cnt
  rw [Str.cps_append, Array.toList_append, List.count_append]
theorem cnt_heads : ∀ c : Nat, c = 40 ∨ c = 41 → ∀ b, cnt c (hLit b) = 0 ∧ cnt c (hBin b) = 0 ∧ cnt c (hUn b) = 0 ∧ cnt c (hFix b) = 0 := by
  intro c h b
  rcases h with rfl | rfl <;> cases b <;> decide +kernel
theorem cnt_dual (c : Nat) (hc : c = 40 ∨ c = 41) : ∀ f : Fm, cnt c f.dual.write = cnt c f.write := by
  have hh := cnt_heads c hc
  intro f
  induction f with
  | lit b => simp only [dual, write, (hh b).1, (hh (!b)).1]
  | val _ | mark _ | name _ => rfl
  | bin b l r il ir => simp only [dual, write, wrap3, cnt_app, il, ir, (hh b).2.1, (hh (!b)).2.1]
  | un b a ia => simp only [dual, write, wrap2, cnt_app, ia, (hh b).2.2.1, (hh (!b)).2.2.1]
  | fix b x a ia => simp only [dual, write, wrap3, cnt_app, ia, (hh b).2.2.2, (hh (!b)).2.2.2]
end Fm
def topS (i : Nat) : Stmt := PySem.Challenge.pw_latticewish_k19_texts_read_back.main.body.getD i (.Pass ⟨0, 0, 0, 0⟩)
abbrev St_write_formula : Stmt := topS 1
abbrev N_write_formula : List Str := ["formula", "words", "field"]
theorem sc_write_formula : FnScope N_write_formula ["formula"] (defScope St_write_formula) := ⟨rfl, rfl, rfl, by decide +kernel, rfl, by decide +kernel, by decide +kernel⟩
abbrev St_is_name : Stmt := topS 11
abbrev N_is_name : List Str := ["word", "sign"]
theorem sc_is_name : FnScope N_is_name ["word"] (defScope St_is_name) := ⟨rfl, rfl, rfl, by decide +kernel, rfl, by decide +kernel, by decide +kernel⟩
abbrev St_read_formula : Stmt := topS 13
abbrev N_read_formula : List Str := ["text", "words", "formula", "behind"]
theorem sc_read_formula : FnScope N_read_formula ["text"] (defScope St_read_formula) := ⟨rfl, rfl, rfl, by decide +kernel, rfl, by decide +kernel, by decide +kernel⟩
abbrev St__law_cells : Stmt := topS 15
abbrev N__law_cells : List Str := ["script", "mixed", "cell"]
theorem sc__law_cells : FnScope N__law_cells ["script"] (defScope St__law_cells) := ⟨rfl, rfl, rfl, by decide +kernel, rfl, by decide +kernel, by decide +kernel⟩
abbrev St__law_pick : Stmt := topS 16
abbrev N__law_pick : List Str := ["source", "many", "digit", "number"]
theorem sc__law_pick : FnScope N__law_pick ["source", "many"] (defScope St__law_pick) := ⟨rfl, rfl, rfl, by decide +kernel, rfl, by decide +kernel, by decide +kernel⟩
abbrev St__law_name : Stmt := topS 17
abbrev N__law_name : List Str := ["source", "signs", "name", "many", "k"]
theorem sc__law_name : FnScope N__law_name ["source"] (defScope St__law_name) := ⟨rfl, rfl, rfl, by decide +kernel, rfl, by decide +kernel, by decide +kernel⟩
abbrev St__law_any : Stmt := topS 18
abbrev N__law_any : List Str := ["source", "names", "depth", "pick", "name", "first"]
theorem sc__law_any : FnScope N__law_any ["source", "names", "depth"] (defScope St__law_any) := ⟨rfl, rfl, rfl, by decide +kernel, rfl, by decide +kernel, by decide +kernel⟩
abbrev St__law_words : Stmt := topS 19
abbrev N__law_words : List Str := ["formula", "found", "field"]
theorem sc__law_words : FnScope N__law_words ["formula"] (defScope St__law_words) := ⟨rfl, rfl, rfl, by decide +kernel, rfl, by decide +kernel, by decide +kernel⟩
abbrev St__law_plain : Stmt := topS 20
abbrev N__law_plain : List Str := ["words", "text", "k", "blank"]
theorem sc__law_plain : FnScope N__law_plain ["words"] (defScope St__law_plain) := ⟨rfl, rfl, rfl, by decide +kernel, rfl, by decide +kernel, by decide +kernel⟩
abbrev St__law_laid : Stmt := topS 21
abbrev N__law_laid : List Str := ["source", "words", "text", "k", "close"]
theorem sc__law_laid : FnScope N__law_laid ["source", "words"] (defScope St__law_laid) := ⟨rfl, rfl, rfl, by decide +kernel, rfl, by decide +kernel, by decide +kernel⟩
abbrev St_law : Stmt := topS 22
abbrev N_law : List Str := ["script", "source", "names", "k", "formula", "words", "text", "found"]
theorem sc_law : FnScope N_law ["script"] (defScope St_law) := ⟨rfl, rfl, rfl, by decide +kernel, rfl, by decide +kernel, by decide +kernel⟩
abbrev St_BadText_init : Stmt := inClass (topS 4) 0
abbrev N_BadText_init : List Str := ["self", "at"]
abbrev St_Words_init : Stmt := inClass (topS 12) 0
abbrev N_Words_init : List Str := ["self", "text", "begun", "at", "sign"]
theorem sc_Words_init : FnScope N_Words_init ["self", "text"] (defScope St_Words_init) := ⟨rfl, rfl, rfl, by decide +kernel, rfl, by decide +kernel, by decide +kernel⟩
abbrev St_Words_need : Stmt := inClass (topS 12) 1
abbrev N_Words_need : List Str := ["self", "number", "good"]
theorem sc_Words_need : FnScope N_Words_need ["self", "number", "good"] (defScope St_Words_need) := ⟨rfl, rfl, rfl, by decide +kernel, rfl, by decide +kernel, by decide +kernel⟩
abbrev St_Words_formula_at : Stmt := inClass (topS 12) 2
abbrev N_Words_formula_at : List Str := ["self", "number", "level", "word", "head", "fields", "at", "shape", "field"]
theorem sc_Words_formula_at : FnScope N_Words_formula_at ["self", "number", "level"] (defScope St_Words_formula_at) := ⟨rfl, rfl, rfl, by decide +kernel, rfl, by decide +kernel, by decide +kernel⟩
abbrev St_Words_field_at : Stmt := inClass (topS 12) 3
abbrev N_Words_field_at : List Str := ["self", "shape", "number", "level", "word"]
theorem sc_Words_field_at : FnScope N_Words_field_at ["self", "shape", "number", "level"] (defScope St_Words_field_at) := ⟨rfl, rfl, rfl, by decide +kernel, rfl, by decide +kernel, by decide +kernel⟩
structure Tx (K : PySem.W.Frag) (mg : Str → Option Value) (W_ : World) where
  n_abs : mg "abs" = none
  n_all : mg "all" = none
  n_enumerate : mg "enumerate" = none
  n_int : mg "int" = none
  n_isinstance : mg "isinstance" = none
  n_len : mg "len" = none
  n_range : mg "range" = none
  n_str : mg "str" = none
  n_super : mg "super" = none
  n_tuple : mg "tuple" = none
  a_write_formula : Addr
  d_write_formula : FuncData
  F_write_formula : Fun K "write_formula" "write_formula" St_write_formula a_write_formula d_write_formula
  b_write_formula : Binds K d_write_formula ["formula"] []
  g_write_formula : mg "write_formula" = some (.ref a_write_formula)
  a_is_name : Addr
  d_is_name : FuncData
  F_is_name : Fun K "is_name" "is_name" St_is_name a_is_name d_is_name
  b_is_name : Binds K d_is_name ["word"] []
  g_is_name : mg "is_name" = some (.ref a_is_name)
  a_read_formula : Addr
  d_read_formula : FuncData
  F_read_formula : Fun K "read_formula" "read_formula" St_read_formula a_read_formula d_read_formula
  b_read_formula : Binds K d_read_formula ["text"] []
  g_read_formula : mg "read_formula" = some (.ref a_read_formula)
  a__law_cells : Addr
  d__law_cells : FuncData
  F__law_cells : Fun K "_law_cells" "_law_cells" St__law_cells a__law_cells d__law_cells
  b__law_cells : Binds K d__law_cells ["script"] []
  g__law_cells : mg "_law_cells" = some (.ref a__law_cells)
  a__law_pick : Addr
  d__law_pick : FuncData
  F__law_pick : Fun K "_law_pick" "_law_pick" St__law_pick a__law_pick d__law_pick
  b__law_pick : Binds K d__law_pick ["source", "many"] []
  g__law_pick : mg "_law_pick" = some (.ref a__law_pick)
  a__law_name : Addr
  d__law_name : FuncData
  F__law_name : Fun K "_law_name" "_law_name" St__law_name a__law_name d__law_name
  b__law_name : Binds K d__law_name ["source"] []
  g__law_name : mg "_law_name" = some (.ref a__law_name)
  a__law_any : Addr
  d__law_any : FuncData
  F__law_any : Fun K "_law_any" "_law_any" St__law_any a__law_any d__law_any
  b__law_any : Binds K d__law_any ["source", "names", "depth"] []
  g__law_any : mg "_law_any" = some (.ref a__law_any)
  a__law_words : Addr
  d__law_words : FuncData
  F__law_words : Fun K "_law_words" "_law_words" St__law_words a__law_words d__law_words
  b__law_words : Binds K d__law_words ["formula"] []
  g__law_words : mg "_law_words" = some (.ref a__law_words)
  a__law_plain : Addr
  d__law_plain : FuncData
  F__law_plain : Fun K "_law_plain" "_law_plain" St__law_plain a__law_plain d__law_plain
  b__law_plain : Binds K d__law_plain ["words"] []
  g__law_plain : mg "_law_plain" = some (.ref a__law_plain)
  a__law_laid : Addr
  d__law_laid : FuncData
  F__law_laid : Fun K "_law_laid" "_law_laid" St__law_laid a__law_laid d__law_laid
  b__law_laid : Binds K d__law_laid ["source", "words"] []
  g__law_laid : mg "_law_laid" = some (.ref a__law_laid)
  a_law : Addr
  d_law : FuncData
  F_law : Fun K "law" "law" St_law a_law d_law
  b_law : Binds K d_law ["script"] []
  g_law : mg "law" = some (.ref a_law)
  g_SMALL_LETTERS : ∃ u, mg "SMALL_LETTERS" = some (.str "abcdefghijklmnopqrstuvwxyz" u)
  g_TEN_FIGURES : ∃ u, mg "TEN_FIGURES" = some (.str "0123456789" u)
  g_MOST_LEVELS : ∃ u, mg "MOST_LEVELS" = some (.int 40 u)
  a_SHAPES : Addr
  g_SHAPES : mg "SHAPES" = some (.ref a_SHAPES)
  e_SHAPES : Array DictEntry
  m_SHAPES : Nat
  l_SHAPES : K.lookup a_SHAPES = some ⟨.type "dict", none, .dict e_SHAPES m_SHAPES, #[]⟩
  y_SHAPES : PySem.W.KeysLit W_.params e_SHAPES.toList
  lo_SHAPES : (a_SHAPES == sysModules) = false
  w_SHAPES : KeysOf e_SHAPES.toList ["value", "mark", "and", "or", "some", "all", "least", "most"]
  k_SHAPES_value : ∃ t, PySem.W.nsIn K a_SHAPES "value" = some (some (.ref t)) ∧ ∀ H, SqT K H t [.str "value"]
  k_SHAPES_mark : ∃ t, PySem.W.nsIn K a_SHAPES "mark" = some (some (.ref t)) ∧ ∀ H, SqT K H t [.str "name"]
  k_SHAPES_and : ∃ t, PySem.W.nsIn K a_SHAPES "and" = some (some (.ref t)) ∧ ∀ H, SqT K H t [.str "part", .str "part"]
  k_SHAPES_or : ∃ t, PySem.W.nsIn K a_SHAPES "or" = some (some (.ref t)) ∧ ∀ H, SqT K H t [.str "part", .str "part"]
  k_SHAPES_some : ∃ t, PySem.W.nsIn K a_SHAPES "some" = some (some (.ref t)) ∧ ∀ H, SqT K H t [.str "part"]
  k_SHAPES_all : ∃ t, PySem.W.nsIn K a_SHAPES "all" = some (some (.ref t)) ∧ ∀ H, SqT K H t [.str "part"]
  k_SHAPES_least : ∃ t, PySem.W.nsIn K a_SHAPES "least" = some (some (.ref t)) ∧ ∀ H, SqT K H t [.str "name", .str "part"]
  k_SHAPES_most : ∃ t, PySem.W.nsIn K a_SHAPES "most" = some (some (.ref t)) ∧ ∀ H, SqT K H t [.str "name", .str "part"]
  a_SINGLE_WORDS : Addr
  g_SINGLE_WORDS : mg "SINGLE_WORDS" = some (.ref a_SINGLE_WORDS)
  t_SINGLE_WORDS : ∀ H, SqT K H a_SINGLE_WORDS [.str "true", .str "false"]
  a_Words : Addr
  g_Words : mg "Words" = some (.ref a_Words)
  c_Words : Cls K a_Words
  n_Words_row : NoAttr K a_Words "row"
  a_Words_init : Addr
  d_Words_init : FuncData
  F_Words_init : Fun K "__init__" "Words.__init__" St_Words_init a_Words_init d_Words_init
  b_Words_init : Binds K d_Words_init ["self", "text"] []
  M_Words : Mk K a_Words a_Words_init
  a_Words_need : Addr
  d_Words_need : FuncData
  F_Words_need : Fun K "need" "Words.need" St_Words_need a_Words_need d_Words_need
  b_Words_need : Binds K d_Words_need ["self", "number", "good"] []
  m_Words_need : Meth K a_Words "need" a_Words_need
  a_Words_formula_at : Addr
  d_Words_formula_at : FuncData
  F_Words_formula_at : Fun K "formula_at" "Words.formula_at" St_Words_formula_at a_Words_formula_at d_Words_formula_at
  b_Words_formula_at : Binds K d_Words_formula_at ["self", "number", "level"] []
  m_Words_formula_at : Meth K a_Words "formula_at" a_Words_formula_at
  a_Words_field_at : Addr
  d_Words_field_at : FuncData
  F_Words_field_at : Fun K "field_at" "Words.field_at" St_Words_field_at a_Words_field_at d_Words_field_at
  b_Words_field_at : Binds K d_Words_field_at ["self", "shape", "number", "level"] []
  m_Words_field_at : Meth K a_Words "field_at" a_Words_field_at
section
variable {P : Program} {w W_ : World} {K : PySem.W.Frag} {mg : Str → Option Value} {base : Heap}
/-! the law's draws -/
def sp_cells (K : PySem.W.Frag) : Sp := fun vs H Q _ => ∃ (a : Addr) (ns : List Int), vs = [.ref a] ∧ SqL K H a (ns.map V.int) ∧ ns.length ≤ 63 ∧
  ∀ (p c : Addr) (m : Int) (cs : List Int) (H' : Hp), Same H H' → c ≠ p → H' c = some (.lst (cs.map V.int)) → (∀ z ∈ cs, 0 ≤ z) → H' p = some (.lst [.ref c, .int 0, .int 1, .int m]) → 0 ≤ m → m < 2147483563 → Q (.ref p) H'
theorem ok__law_cells (T : Tx K mg W_) : FnOk P w K mg base CX0 1 T.a__law_cells T.d__law_cells ["script"] (sp_cells K) := by
  refine T.F__law_cells.ok sc__law_cells (fun vs H Q E h => ?_) (fun cdv A outer s H vs Q E hr h => ?_)
  · obtain ⟨a, ns, rfl, _⟩ := h
    rfl
  obtain ⟨a, ns, rfl, hS, h63, q⟩ := h
  refine ⟨_, pss_cons (ps_set (i := 1) sc__law_cells.nd rfl (Or.inl rfl) pe_int)
    (pss_cons (ps_for PassesOwn.never rfl (pi_list (pv 0)) (pg_name (i := 2) sc__law_cells.nd rfl (Or.inl rfl))
      (pss_one (ps_set (i := 1) sc__law_cells.nd rfl (Or.inl rfl) (pe_op op_mod (pe_callTy call_int1 (by rfl) T.n_int (by decide +kernel) (pa_cons (pe_op op_add (pe_op op_add (pe_op op_mul (pv 1) pe_int) (pe_op op_mul (pv 2) pe_int)) pe_int) pa_nil)) pe_int))))
    (pss_one (ps_ret (pe_lst (pa_cons (pe_lc (own := [("cell", 2)]) (g := gName 2) (tt := tYes) rfl sc__law_cells.nd (pi_list (pv 0)) (blkOk_by (N := ["script", "mixed", "cell"]) (sc := defScope St__law_cells) (by decide +kernel)) (fun _ _ _ _ _ => pg_name (i := 2) sc__law_cells.nd rfl (Or.inl rfl)) (fun _ _ _ _ _ => pts_nil)
        (fun _ _ _ _ _ => pe_callB call_abs (by rfl) T.n_abs (by decide +kernel) (pa_cons (pv 2) pa_nil)))
      (pa_cons pe_int (pa_cons pe_int (pa_cons (pv 1) pa_nil)))))))), ?_⟩
  refine ⟨_, rfl, a, rfl, ⟨_, hS⟩, for_list (K := K) (a := a) (xs := ns.map V.int) (fun i σ H2 => ∃ (m : Int) (v : Option V), σ = [some (.ref a), some (.int m), v] ∧ H2 = H ∧ 0 ≤ m ∧ m < 2147483563)
    ⟨3, none, rfl, rfl, by decide, by decide⟩ (fun i σ H2 _ ⟨_, _, _, e, _⟩ => by rw [e]; exact hS) ?_ ?_⟩
  · rintro i x σ H2 hi ⟨m, v, rfl, rfl, m0, m1⟩
    obtain ⟨z, _, rfl⟩ := map_at hi
    refine ⟨_, rfl, _, _, rfl, rfl, .inr (by decide), _, rfl, _, _, rfl, rfl, .inr (by decide), _, _, rfl, rfl, _, _, rfl, rfl, .inl ⟨_, rfl, _, _, rfl, rfl, (by show (0 : Int) < 2147483563; decide), ?_⟩⟩
    exact ⟨_, _, rfl, rfl, Int.emod_nonneg _ (by decide), Int.emod_lt_of_pos _ (by decide)⟩
  · rintro σ H2 ⟨m, v, rfl, rfl, m0, m1⟩
    refine ⟨_, rfl, a, rfl, ⟨_, hS⟩, fun D hD => lc_list (K := K) (a := a) (xs := ns.map V.int) (fun i H3 => Same H2 H3 ∧ H3 D = some (.lst (((ns.take i).map fun i : Int => if i < 0 then -i else i).map V.int)))
      ⟨Same.new hD _, upd_same⟩ (fun i H3 _ h => h.1.seq hS) ?_ ?_⟩
    · rintro i x H3 hi ⟨s3, h3⟩
      obtain ⟨z, hz, rfl⟩ := map_at hi
      have hl : i < ns.length := (List.getElem?_eq_some_iff.mp hz).1
      refine ⟨rfl, ?_⟩
      refine lcY ?_
      refine ⟨_, rfl, _, rfl, _, h3, ?_, s3.mut hD _, ?_⟩
      · rw [List.length_map, List.length_map, List.length_take]; exact small1000 (by omega)
      · rw [upd_same, take_snoc hz, List.map_append, List.map_append]; rfl
    · rintro H3 ⟨s3, h3⟩
      refine ⟨_, rfl, (by show 4 ≤ sizeLine; decide), newO fun p H4 hp s4 h4 => ?_⟩
      rw [List.length_map, List.take_length] at h3
      exact q p D m _ H4 (s3.trans s4) (ne_of_none h3 hp) (s4.at h3) (abs_map ns) h4 m0 m1
def sp_pick (K : PySem.W.Frag) : Sp := fun vs H Q _ => ∃ (p ce : Addr) (n : Int), vs = [.ref p, .int n] ∧ Src K ce H p ∧ n ≤ 10000000 ∧
  ∀ (d : Int) (H' : Hp), But p H H' → Src K ce H' p → 0 ≤ d → (d < n ∨ d = 0) → Q (.int d) H'
theorem ok__law_pick (T : Tx K mg W_) : FnOk P w K mg base CX0 1 T.a__law_pick T.d__law_pick ["source", "many"] (sp_pick K) := by
  refine T.F__law_pick.ok sc__law_pick (fun vs H Q E h => ?_) (fun cdv A outer s H vs Q E hr h => ?_)
  · obtain ⟨a, ce, n, rfl, _⟩ := h
    rfl
  obtain ⟨p, c, n, rfl, ⟨cs, i, l, m, S⟩, hn, q⟩ := h
  refine ⟨_, pss_cons (ps_if (pt_cmpR op_lt (pv 1) pe_int (nomark _)) (pss_one (ps_ret pe_int)) pss_nil)
    (pss_cons (ps_while PassesOwn.never (PW.pt (pw_and (pt_cmpR op_lt (pe_ix ix_list (pv 0) pe_int (fun _ _ => rfl)) pe_int (nomark _)) (pw_and1 (pt_cmpR op_lt (pe_ix ix_list (pv 0) pe_int (fun _ _ => rfl)) (pe_callB call_len_seq (by rfl) T.n_len PySem.boot_len (pa_cons (pe_ix ix_list (pv 0) pe_int (fun _ _ => rfl)) pa_nil)) (nomark _)))))
      (pss_cons (ps_asg (pe_ix ix_list (pe_ix ix_list (pv 0) pe_int (fun _ _ => rfl)) (pe_ix ix_list (pv 0) pe_int (fun _ _ => rfl)) (fun _ _ => rfl)) (pg_sub (pv 0) pe_int set_list))
      (pss_one (ps_asg (pe_op op_add (pe_ix ix_list (pv 0) pe_int (fun _ _ => rfl)) pe_int) (pg_sub (pv 0) pe_int set_list)))))
    (pss_cons (ps_if (pt_cmpR op_gt (pe_ix ix_list (pv 0) pe_int (fun _ _ => rfl)) pe_int (nomark _))
      (pss_cons (ps_set (i := 2) sc__law_pick.nd rfl (Or.inl rfl) (pe_op op_mod (pe_callTy call_int1 (by rfl) T.n_int (by decide +kernel) (pa_cons (pe_ix ix_list (pv 0) pe_int (fun _ _ => rfl)) pa_nil)) (pv 1)))
      (pss_cons (ps_asg (pe_op op_fdiv (pe_ix ix_list (pv 0) pe_int (fun _ _ => rfl)) (pv 1)) (pg_sub (pv 0) pe_int set_list))
      (pss_one (ps_ret (pv 2))))) pss_nil)
    (pss_cons (ps_asg (pe_op op_mod (pe_callTy call_int1 (by rfl) T.n_int (by decide +kernel) (pa_cons (pe_op op_add (pe_op op_mul (pe_ix ix_list (pv 0) pe_int (fun _ _ => rfl)) pe_int) pe_int) pa_nil)) pe_int) (pg_sub (pv 0) pe_int set_list))
    (pss_cons (ps_set (i := 3) sc__law_pick.nd rfl (Or.inl rfl) (pe_op op_fdiv (pe_ix ix_list (pv 0) pe_int (fun _ _ => rfl)) pe_int))
    (pss_cons (ps_if (pt_cmpR op_gt (pv 1) (pe_op op_pow pe_int pe_int) (nomark _)) (pss_one (ps_set (i := 3) sc__law_pick.nd rfl (Or.inl rfl) (pe_op op_pow (pv 3) pe_int))) pss_nil)
    (pss_one (ps_ret (pe_op op_mod (pe_callTy call_int1 (by rfl) T.n_int (by decide +kernel) (pa_cons (pv 3) pa_nil)) (pv 1))))))))), ?_⟩
  refine ⟨_, rfl, _, _, rfl, rfl, _, rfl, ?_⟩
  refine ite2 (fun c1 => ?_) (fun c1 => ?_)
  · exact q 0 H (But.refl p H) ⟨cs, i, l, m, S⟩ (by decide) (.inr rfl)
  have hn2 : 2 ≤ n := by have := of_decide_eq_false (Bool.eq_false_iff.mpr c1); omega
  refine ⟨fun k σ H2 => ∃ (i : Nat) (l : Int), k = cs.length - i ∧ σ = [some (.ref p), some (.int n), none, none] ∧ But p H H2 ∧ SrcIs K H2 p c cs i l m, ⟨_, i, l, rfl, rfl, But.refl p H, S⟩, ?_⟩
  rintro k σ H2 ⟨i, l, rfl, rfl, b, S⟩
  have sq := SqL.of (K := K) S.at_
  refine ans_run (b := decide (l < 2) && decide ((i : Int) < cs.length)) (fun Q' q' => ?_) ?_
  · refine ⟨_, rfl, _, _, _, _, rfl, rfl, sq, atI_nat (j := 2) rfl, _, _, rfl, rfl, _, rfl, ?_⟩
    refine ite2 (fun c2 => ?_) (fun c2 => ?_)
    · refine ⟨_, rfl, _, _, _, _, rfl, rfl, sq, atI_nat (j := 1) rfl, _, rfl, _, _, _, _, rfl, rfl, sq, atI_nat (j := 0) rfl, c, _, rfl, .inl S.cel, _, _, rfl, rfl, _, rfl, ?_⟩
      have e : (decide (l < 2) && decide ((i : Int) < cs.length)) = decide ((i : Int) < (cs.map V.int).length) := by rw [c2, Bool.true_and, List.length_map]
      rw [e] at q'
      exact q'
    · rw [Bool.eq_false_iff.mpr c2, Bool.false_and] at q'
      exact q'
  refine ite2 (fun c2 => ?_) (fun c2 => ?_)
  · obtain ⟨e1, e2⟩ := Bool.and_eq_true_iff.mp c2
    have e1 := of_decide_eq_true e1
    have e2 := of_decide_eq_true e2
    have hic : i < cs.length := by omega
    refine ⟨fun σ' H' => ∃ m' < cs.length - i, _, fun _ _ h => h, ?_⟩
    refine ⟨_, rfl, _, _, _, _, rfl, rfl, sq, atI_nat (j := 0) rfl, _, rfl, _, _, _, _, rfl, rfl, sq, atI_nat (j := 1) rfl, c, _, (i : Int), .int cs[i], rfl, rfl, S.cel, atI_nat (by rw [List.getElem?_map, List.getElem?_eq_getElem hic]; rfl), ?_⟩
    refine ⟨_, rfl, p, _, _, 2, rfl, rfl, S.at_, rfl, ?_⟩
    have S1 := S.put (i' := i) (l' := cs[i]) (m' := m) S.hi (S.hc _ (List.getElem_mem hic)) S.m0 S.m1
    refine ⟨_, rfl, _, _, _, _, rfl, rfl, SqL.of (K := K) S1.at_, atI_nat (j := 1) rfl, _, _, rfl, rfl, ?_⟩
    refine ⟨_, rfl, p, _, _, 1, rfl, rfl, S1.at_, rfl, ?_⟩
    exact ⟨_, by omega, i + 1, cs[i], rfl, rfl, (b.upd _).upd _, S1.put (i' := i + 1) (l' := cs[i]) (m' := m) hic S1.hl S1.m0 S1.m1⟩
  refine ⟨_, rfl, _, _, _, _, rfl, rfl, sq, atI_nat (j := 2) rfl, _, _, rfl, rfl, _, rfl, ?_⟩
  refine ite2 (fun c3 => ?_) (fun c3 => ?_)
  · have c3 := of_decide_eq_true c3
    refine ⟨_, rfl, _, _, _, _, rfl, rfl, sq, atI_nat (j := 2) rfl, .inl ⟨_, rfl, _, rfl, _, _, rfl, rfl, (by show 0 < n; omega), ?_⟩⟩
    refine ⟨_, rfl, _, _, _, _, rfl, rfl, sq, atI_nat (j := 2) rfl, _, rfl, _, _, rfl, rfl, ⟨by omega, by omega⟩, ?_⟩
    refine ⟨_, rfl, p, _, _, 2, rfl, rfl, S.at_, rfl, _, rfl, ?_⟩
    exact q _ _ (b.upd _) ⟨cs, i, l / n, m, S.put S.hi (Int.ediv_nonneg S.hl (by omega)) S.m0 S.m1⟩ (Int.emod_nonneg _ (by omega)) (.inl (Int.emod_lt_of_pos _ (by omega)))
  refine ⟨_, rfl, _, _, _, _, rfl, rfl, sq, atI_nat (j := 3) rfl, _, _, rfl, rfl, .inr (by decide), _, _, rfl, rfl, .inl ⟨_, rfl, _, _, rfl, rfl, (by show (0 : Int) < 2147483563; decide), ?_⟩⟩
  refine ⟨_, rfl, p, _, _, 3, rfl, rfl, S.at_, rfl, ?_⟩
  have S1 := S.put (i' := i) (l' := l) (m' := (m * 40014 + 12345) % 2147483563) S.hi S.hl (Int.emod_nonneg _ (by decide)) (Int.emod_lt_of_pos _ (by decide))
  refine ⟨_, rfl, _, _, _, _, rfl, rfl, SqL.of (K := K) S1.at_, atI_nat (j := 3) rfl, _, _, rfl, rfl, ⟨by decide, by decide⟩, ?_⟩
  refine ⟨_, rfl, _, _, rfl, rfl, (by show CPow 10 7; exact ⟨by decide, by decide, by decide⟩), _, _, rfl, rfl, _, rfl, ?_⟩
  refine iteN (by show ¬ (10 : Int) ^ (7 : Int).toNat < n; have : (10 : Int) ^ (7 : Int).toNat = 10000000 := by decide
                  omega) ?_
  refine ⟨_, rfl, .inl ⟨_, rfl, _, rfl, _, _, rfl, rfl, (by show 0 < n; omega), ?_⟩⟩
  exact q _ _ (b.upd _) ⟨cs, i, l, _, S1⟩ (Int.emod_nonneg _ (by omega)) (.inl (Int.emod_lt_of_pos _ (by omega)))
end
section
variable {K : PySem.W.Frag}
theorem tyx_tup {H : Hp} {p : Addr} {xs : List V} (h : SqT K H p xs) : TyX K H (.ref p) (.type "tuple") := by
  rcases h with (h | ⟨o, h⟩) | ⟨o, its, n, h, c, _⟩
  · exact .base (.tup h)
  · exact .fTuple h
  · exact .kTuple h c
theorem kit_tt : PySem.W.kitOne K (.type "tuple") (.type "tuple") = some true := kit_ty (by decide +kernel)
theorem kit_st : PySem.W.kitOne K (.type "str") (.type "tuple") = some false := kit_ty (by decide +kernel)
end
/-! ### write_formula, and what the law counts -/
section
variable {P : Program} {w : World} {K : PySem.W.Frag} {mg : Str → Option Value} {base : Heap}
/-- the fields of a formula: texts, and formulas -/
theorem Rf.fields {H : Hp} {f : Fm} {p : Addr} {xs : List V} (r : Rest K H f xs) : xs.length ≤ 2 ∧ ∀ (i : Nat) (x : V), (V.str f.head :: xs)[i]? = some x →
    (∃ s, x = .str s ∧ f.fields[i]? = some s) ∨ ∃ g, g ∈ f.parts ∧ Rf K H g x ∧ f.fields[i]? = some g.write := by
  cases f with
  | lit b =>
    obtain rfl := r
    refine ⟨Nat.zero_le _, fun i x h => ?_⟩
    match i, h with
    | 0, h => cases h; exact .inl ⟨_, rfl, rfl⟩
  | val s =>
    obtain rfl := r
    refine ⟨by show 1 ≤ 2; omega, fun i x h => ?_⟩
    match i, h with
    | 0, h => cases h; exact .inl ⟨_, rfl, rfl⟩
    | 1, h => cases h; exact .inl ⟨_, rfl, rfl⟩
  | mark s =>
    obtain rfl := r
    refine ⟨by show 1 ≤ 2; omega, fun i x h => ?_⟩
    match i, h with
    | 0, h => cases h; exact .inl ⟨_, rfl, rfl⟩
    | 1, h => cases h; exact .inl ⟨_, rfl, rfl⟩
  | name s =>
    obtain rfl := r
    refine ⟨by show 1 ≤ 2; omega, fun i x h => ?_⟩
    match i, h with
    | 0, h => cases h; exact .inl ⟨_, rfl, rfl⟩
    | 1, h => cases h; exact .inl ⟨_, rfl, rfl⟩
  | bin b l r' =>
    obtain ⟨x1, x2, rfl, h1, h2⟩ := r
    refine ⟨by show 2 ≤ 2; omega, fun i x h => ?_⟩
    match i, h with
    | 0, h => cases h; exact .inl ⟨_, rfl, rfl⟩
    | 1, h => cases h; exact .inr ⟨l, by simp [Fm.parts], h1, rfl⟩
    | 2, h => cases h; exact .inr ⟨r', by simp [Fm.parts], h2, rfl⟩
  | un b a =>
    obtain ⟨x1, rfl, h1⟩ := r
    refine ⟨by show 1 ≤ 2; omega, fun i x h => ?_⟩
    match i, h with
    | 0, h => cases h; exact .inl ⟨_, rfl, rfl⟩
    | 1, h => cases h; exact .inr ⟨a, by simp [Fm.parts], h1, rfl⟩
  | fix b s a =>
    obtain ⟨x1, rfl, h1⟩ := r
    refine ⟨by show 2 ≤ 2; omega, fun i x h => ?_⟩
    match i, h with
    | 0, h => cases h; exact .inl ⟨_, rfl, rfl⟩
    | 1, h => cases h; exact .inl ⟨_, rfl, rfl⟩
    | 2, h => cases h; exact .inr ⟨a, by simp [Fm.parts], h1, rfl⟩
theorem Rest.fields_length {H : Hp} {f : Fm} {xs : List V} (r : Rest K H f xs) : f.fields.length = xs.length + 1 := by
  cases f with
  | lit b => obtain rfl := r; rfl
  | val s | mark s | name s => obtain rfl := r; rfl
  | bin b l r' => obtain ⟨x1, x2, rfl, h1, h2⟩ := r; rfl
  | un b a => obtain ⟨x1, rfl, h1⟩ := r; rfl
  | fix b s a => obtain ⟨x1, rfl, h1⟩ := r; rfl
def Fm.GoodW (f : Fm) : Prop := f.Texts (fun s => s.length ≤ 20) ∧ f.size ≤ 500
theorem parts_texts {p : Str → Prop} {f g : Fm} (h : f.Texts p) (gm : g ∈ f.parts) : g.Texts p := by
  cases f with
  | lit _ | val _ | mark _ | name _ => simp [Fm.parts] at gm
  | bin b l r =>
    simp only [Fm.parts, List.mem_cons, List.not_mem_nil, or_false] at gm
    rcases gm with rfl | rfl
    · exact h.1
    · exact h.2
  | un b a => simp only [Fm.parts, List.mem_cons, List.not_mem_nil, or_false] at gm; subst gm; exact h
  | fix b x a => simp only [Fm.parts, List.mem_cons, List.not_mem_nil, or_false] at gm; subst gm; exact h.2
def sp_write (K : PySem.W.Frag) (n : Nat) : Sp := fun vs H Q _ => ∃ (f : Fm) (v : V), vs = [v] ∧ Rf K H f v ∧ f.depth ≤ n ∧ f.GoodW ∧ ∀ H', Same H H' → Q (.str f.write) H'
theorem fields_len {f : Fm} (g : f.GoodW) : (f.fields.map (·.length)).sum + f.fields.length * 1 ≤ 16777216 ∧ ("(" : Str).length + (PySem.Txt.join " " f.fields).length ≤ sizeLine := by
  have hl := Fm.write_len f g.1
  have hz := g.2
  obtain ⟨l1, l2, l3, l4, l5, l6⟩ := Fm.len_signs
  have up : (16777216 : Nat) ≤ sizeLine := by decide
  cases f with
  | lit b =>
    have := Fm.len_lit b
    have e : PySem.Txt.join " " [Fm.hLit b] = Fm.hLit b := (StrLaws.glued_eq_join _ _).trans rfl
    simp only [Fm.fields, e, List.map, List.sum_cons, List.sum_nil, List.length_cons, List.length_nil]
    omega
  | name x =>
    have h : x.length ≤ 20 := g.1
    simp only [Fm.fields, Fm.join2, List.map, List.sum_cons, List.sum_nil, List.length_cons, List.length_nil, Str.length_append]
    omega
  | val s | mark s =>
    simp only [Fm.fields, Fm.write, Fm.size, Fm.wrap2, Fm.join2, List.map, List.sum_cons, List.sum_nil, List.length_cons, List.length_nil, Str.length_append] at *
    omega
  | bin b l r =>
    simp only [Fm.fields, Fm.write, Fm.size, Fm.wrap3, Fm.join3, List.map, List.sum_cons, List.sum_nil, List.length_cons, List.length_nil, Str.length_append] at *
    omega
  | un b a =>
    simp only [Fm.fields, Fm.write, Fm.size, Fm.wrap2, Fm.join2, List.map, List.sum_cons, List.sum_nil, List.length_cons, List.length_nil, Str.length_append] at *
    omega
  | fix b x a =>
    simp only [Fm.fields, Fm.write, Fm.size, Fm.wrap3, Fm.join3, List.map, List.sum_cons, List.sum_nil, List.length_cons, List.length_nil, Str.length_append] at *
    omega
theorem write_fields {f : Fm} (h0 : f.kindOf ≠ 0) (h3 : f.kindOf ≠ 3) : f.write = ("(" : Str) ++ PySem.Txt.join " " f.fields ++ (")" : Str) := by
  cases f <;> first | rfl | exact absurd rfl h0 | exact absurd rfl h3
theorem ok_write (T : Tx K mg w) : ∀ n, FnOk P w K mg base CX0 (n + 1) T.a_write_formula T.d_write_formula ["formula"] (sp_write K n)
  | 0 => by
    have no : ∀ vs H Q E, ¬ sp_write K 0 vs H Q E := fun vs H Q E ⟨f, v, _, _, hd, _⟩ => by have := f.depth_pos; omega
    exact ⟨fun vs H Q E h => absurd h (no vs H Q E), fun A outer s H args us vs Q E _ _ _ _ h => absurd h (no vs H Q E)⟩
  | n + 1 => by
    have G_write_formula := ok_write T n
    refine T.F_write_formula.ok sc_write_formula (fun vs H Q E h => ?_) (fun cdv A outer s H vs Q E hr h => ?_)
    · obtain ⟨f, v, rfl, _⟩ := h
      rfl
    obtain ⟨f, v, rfl, hf, hd, gw, q⟩ := h
    refine ⟨_, pss_cons (ps_if (pt_cmpR op_in_seq (pe_ix ix_tup (pv 0) pe_int (fun _ _ => rfl)) (pe_tup (pa_cons pe_str (pa_cons pe_str pa_nil))) (by rfl)) (pss_one (ps_ret (pe_callTy SkE.call_str_str (by rfl) T.n_str (by decide +kernel) (pa_cons (pe_ix ix_tup (pv 0) pe_int (fun _ _ => rfl)) pa_nil)))) pss_nil)
    (pss_cons (ps_if (pt_cmpR op_eq (pe_ix ix_tup (pv 0) pe_int (fun _ _ => rfl)) pe_str (nomark _)) (pss_one (ps_ret (pe_callTy SkE.call_str_str (by rfl) T.n_str (by decide +kernel) (pa_cons (pe_ix ix_tup (pv 0) pe_int (fun _ _ => rfl)) pa_nil)))) pss_nil)
    (pss_cons (ps_setLc (i := 1) (own := [("field", 2)]) (g := gName 2) (tt := tYes) rfl sc_write_formula.nd rfl rfl (sw_true rfl rfl rfl (by decide +kernel)) (pi_tup (pv 0)) (blkOk_by (N := N_write_formula) (sc := defScope St_write_formula) (by decide +kernel)) (fun _ _ _ _ _ => (pg_name (i := 2) sc_write_formula.nd rfl (Or.inl rfl))) (fun _ _ _ _ _ => pts_nil) (fun _ _ _ _ _ => (pe_ifExp (pt_val (pe_callB (kx_call_isi K) (by rfl) T.n_isinstance (by decide +kernel) (pa_cons (pv 2) (pa_cons (pe_bltn (v := .ty "tuple") (u := .type "tuple") (by rfl) T.n_tuple (by decide +kernel) rfl) pa_nil)))) (pe_call G_write_formula (hr.mono (by omega)) (by rfl) T.g_write_formula T.F_write_formula.kp T.b_write_formula .nil pass0 (pa_cons (pv 2) pa_nil)) (pe_callTy SkE.call_str_str (by rfl) T.n_str (by decide +kernel) (pa_cons (pv 2) pa_nil)))))
    (pss_one (ps_ret (pe_op op_add_str (pe_op op_add_str pe_str (pe_join pe_str (pv 1))) pe_str))))), ?_⟩
    obtain ⟨p, xs, rfl, hp, rs⟩ := hf.out
    refine ⟨_, rfl, _, _, _, _, rfl, rfl, hp, atI_nat (j := 0) rfl, (by show 2 ≤ sizeLine; decide), newQ (.tup [.str "true", .str "false"]) fun t ht0 s7 h7 => ?_⟩
    generalize upd H t (.tup [.str "true", .str "false"]) = H7 at s7 h7 ⊢
    refine ⟨t, _, rfl, .inr (SqT.of (K := K) h7), rfl, rfl, _, rfl, ?_⟩
    rw [inV_str, head_lit]
    have hp7 := s7.keeps.sqT hp
    refine ite2 (fun c0 => ?_) (fun c0 => ?_)
    · obtain ⟨b, rfl⟩ := kind_lit (of_decide_eq_true c0)
      exact ⟨_, rfl, _, _, _, _, rfl, rfl, hp7, atI_nat (j := 0) rfl, _, rfl, q H7 s7⟩
    have c0 : f.kindOf ≠ 0 := fun e => c0 (decide_eq_true e)
    refine ⟨_, rfl, _, _, _, _, rfl, rfl, hp7, atI_nat (j := 0) rfl, rfl, _, rfl, ?_⟩
    rw [eq_str, head_name]
    refine ite2 (fun c3 => ?_) (fun c3 => ?_)
    · obtain ⟨x, rfl⟩ := kind_name (of_decide_eq_true c3)
      obtain rfl := rs
      exact ⟨_, rfl, _, _, _, _, rfl, rfl, hp7, atI_nat (j := 1) rfl, _, rfl, q H7 s7⟩
    have c3 : f.kindOf ≠ 3 := fun e => c3 (decide_eq_true e)
    refine ⟨_, rfl, p, rfl, ⟨_, hp7⟩, fun D hD => ?_⟩
    have rs7 := rs.keep s7.keeps
    have fl := rs.fields_length
    have two := (Rf.fields (p := p) rs).1
    refine lc_fold (walk_tup (K := K) (a := p) (xs := .str f.head :: xs)) hD (fun i H5 ys => i ≤ f.fields.length ∧ ys = (f.fields.take i).map V.str) (fun _ => ⟨Nat.zero_le _, rfl⟩) (fun i H5 H6 xs _ h => h) ?_ (fun H5 s6 => s6.keeps.sqT hp7) ?_ ?_
    · rintro i H5 ys ⟨hi, rfl⟩
      rw [List.length_map, List.length_take]
      omega
    · rintro i x H5 H6 ys Nx Ex hi s6 ⟨hil, rfl⟩ ⟨rfl, hx⟩ k1 k2
      refine ⟨rfl, ?_⟩
      refine lcY ?_
      rcases (Rf.fields (p := p) (rs7.keep s6.keeps)).2 i x hx with ⟨z, rfl, ez⟩ | ⟨g, gm, rg, ez⟩
      · refine ⟨_, rfl, _, _, _, _, _, rfl, .ty "tuple", .base (.str z), kit_st, _, rfl, ?_⟩
        refine iteF ⟨_, rfl, z, rfl, k1 _ _ (Same.refl _) ⟨(List.getElem?_eq_some_iff.mp ez).1, ?_⟩⟩
        rw [take_snoc ez, List.map_append]
        rfl
      · obtain ⟨p2, xs2, rfl, hp2, _⟩ := rg.out
        have gd := Fm.parts_depth gm
        have gz := size_parts gm
        refine ⟨_, rfl, _, _, _, _, _, rfl, .ty "tuple", tyx_tup hp2, kit_tt, _, rfl, ?_⟩
        refine iteT ⟨_, rfl, g, _, rfl, rg, by omega, ⟨parts_texts gw.1 gm, by have := gw.2; omega⟩, fun H8 s8 => k1 _ _ s8 ⟨(List.getElem?_eq_some_iff.mp ez).1, ?_⟩⟩
        rw [take_snoc ez, List.map_append]
        rfl
    · rintro H5 ys s6 hD5 ⟨_, rfl⟩
      have e : (V.str f.head :: xs).length = f.fields.length := by rw [fl]; rfl
      rw [e, List.take_length] at hD5
      obtain ⟨z1, z2⟩ := fields_len gw
      have zl := Fm.write_len f gw.1
      rw [write_fields c0 c3, Str.length_append, Str.length_append] at zl
      have up : 40 * f.size ≤ sizeLine := by have := gw.2; have : (20000 : Nat) ≤ sizeLine := by decide
                                             omega
      refine ⟨⟨_, rfl⟩, _, rfl, " ", D, f.fields, rfl, rfl, .inl (SqL.of (K := K) hD5), z1, _, _, rfl, rfl, z2, _, _, rfl, rfl, ?_, ?_⟩
      · rw [Str.length_append]
        omega
      · have := q H5 (s7.trans s6)
        rw [write_fields c0 c3] at this
        exact this
end
/-! ### names and formulas that the law draws -/
section
variable {P : Program} {w : World} {K : PySem.W.Frag} {mg : Str → Option Value} {base : Heap}
def abc : Str := "abcdefghijklmnopqrstuvwxyz0123456789"
def isLow (c : Nat) : Bool := 97 ≤ c && c ≤ 122
def isFig (c : Nat) : Bool := 48 ≤ c && c ≤ 57
/-- a name as the law draws it: a letter, then letters and figures, a figure at the end where there are more -/
structure NameOk (x : Str) : Prop where
  pos : 1 ≤ x.length
  le : x.length ≤ 12
  all : ∀ c ∈ x.cps.toList, (isLow c || isFig c) = true
  first : ∃ c, x.cps.toList[0]? = some c ∧ isLow c = true
  last : x.length = 1 ∨ ∃ c, x.cps.toList[x.length - 1]? = some c ∧ isFig c = true
theorem abc_at {d : Int} (h0 : 0 ≤ d) (h1 : d < 36) : ∃ c, atI abc.cps.toList d = some c ∧ (isLow c || isFig c) = true ∧ (d < 26 → isLow c = true) := by
  have q : ∀ i : Fin 36, ∃ c, abc.cps.toList[i.val]? = some c ∧ (isLow c || isFig c) = true ∧ (i.val < 26 → isLow c = true) := by decide +kernel
  obtain ⟨c, h2, h3, h4⟩ := q ⟨d.toNat, by omega⟩
  refine ⟨c, ?_, h3, fun z => h4 (by show d.toNat < 26; omega)⟩
  have e : d = (d.toNat : Int) := by omega
  rw [e]
  exact atI_nat h2
theorem fig_str {d : Int} (h0 : 0 ≤ d) (h1 : d < 10) : ∃ c, (toString d : Str) = ⟨#[c]⟩ ∧ isFig c = true := by
  have q : ∀ i : Fin 10, ∃ c, (toString (i.val : Int) : Str) = ⟨#[c]⟩ ∧ isFig c = true := fun i => ⟨48 + i.val, by revert i; decide +kernel, by revert i; decide +kernel⟩
  have e : d = ((⟨d.toNat, by omega⟩ : Fin 10).val : Int) := by show d = (d.toNat : Int); omega
  rw [e]
  exact q _
theorem log_fig {d : Int} (h0 : 0 ≤ d) (h1 : d < 10) : d.natAbs.log2 < 1920 := by
  have q : ∀ i : Fin 10, (i.val : Int).natAbs.log2 < 1920 := by decide +kernel
  have e : d = ((⟨d.toNat, by omega⟩ : Fin 10).val : Int) := by show d = (d.toNat : Int); omega
  rw [e]
  exact q _
theorem one_len (c : Nat) : (⟨#[c]⟩ : Str).length = 1 := rfl
/-- letters and figures, a letter in front -/
structure Begun (x : Str) : Prop where
  all : ∀ c ∈ x.cps.toList, (isLow c || isFig c) = true
  first : ∃ c, x.cps.toList[0]? = some c ∧ isLow c = true
theorem Begun.app {x : Str} (h : Begun x) {c : Nat} (hc : (isLow c || isFig c) = true) : Begun (x ++ ⟨#[c]⟩) := by
  refine ⟨fun b hb => ?_, ?_⟩
  · rw [Str.cps_append, Array.toList_append] at hb
    rcases List.mem_append.mp hb with q | q
    · exact h.all b q
    · have : b = c := by simpa using q
      rw [this]; exact hc
  · obtain ⟨a, h1, h2⟩ := h.first
    refine ⟨a, ?_, h2⟩
    rw [Str.cps_append, Array.toList_append, List.getElem?_append_left (List.getElem?_eq_some_iff.mp h1).1]
    exact h1
theorem val_run {t : TE} {σ : L2.St} {H : Hp} {Q : V → Hp → Prop} (Pv : V → Prop) (h : ∀ Q' : V → Hp → Prop, (∀ v, Pv v → Q' v H) → t σ H Q') (q : ∀ v, Pv v → Q v H) : t σ H Q := h Q q
def sp_name (K : PySem.W.Frag) : Sp := fun vs H Q _ => ∃ (p ce : Addr), vs = [.ref p] ∧ Src K ce H p ∧ ∀ (x : Str) (H' : Hp), But p H H' → Src K ce H' p → NameOk x → Q (.str x) H'
theorem ok__law_name (T : Tx K mg w) : FnOk P w K mg base CX0 2 T.a__law_name T.d__law_name ["source"] (sp_name K) := by
  have G__law_pick := ok__law_pick (P := P) (w := w) (base := base) T
  refine T.F__law_name.ok sc__law_name (fun vs H Q E h => ?_) (fun cdv A outer s H vs Q E hr h => ?_)
  · obtain ⟨p, ce, rfl, _⟩ := h
    rfl
  obtain ⟨p, ce, rfl, hs, q⟩ := h
  refine ⟨_, pss_cons (ps_set (i := 1) sc__law_name.nd rfl (Or.inl rfl) pe_str)
    (pss_cons (ps_set (i := 2) sc__law_name.nd rfl (Or.inl rfl) (pe_ix ix_str (pv 1) (pe_call G__law_pick (hr.mono (by omega)) (by rfl) T.g__law_pick T.F__law_pick.kp T.b__law_pick .nil pass0 (pa_cons (pv 0) (pa_cons pe_int pa_nil))) (fun _ _ => rfl)))
    (pss_cons (ps_set (i := 3) sc__law_name.nd rfl (Or.inl rfl) (pe_call G__law_pick (hr.mono (by omega)) (by rfl) T.g__law_pick T.F__law_pick.kp T.b__law_pick .nil pass0 (pa_cons (pv 0) (pa_cons pe_int pa_nil))))
    (pss_cons (ps_for PassesOwn.never rfl (pi_range1 (by rfl) T.n_range (pa_cons (pe_ifExp (pt_cmpR op_eq (pv 3) pe_int (nomark _)) pe_int (pe_op op_sub (pv 3) pe_int)) pa_nil)) (pg_name (i := 4) sc__law_name.nd rfl (Or.inl rfl)) (pss_one (ps_set (i := 2) sc__law_name.nd rfl (Or.inl rfl) (pe_op op_add_str (pv 2) (pe_ix ix_str (pv 1) (pe_call G__law_pick (hr.mono (by omega)) (by rfl) T.g__law_pick T.F__law_pick.kp T.b__law_pick .nil pass0 (pa_cons (pv 0) (pa_cons pe_int pa_nil))) (fun _ _ => rfl))))))
    (pss_one (ps_ret (pe_ifExp (pt_cmpR op_gt (pv 3) pe_int (nomark _)) (pe_op op_add_str (pv 2) (pe_callTy call_str_int (by rfl) T.n_str (by decide +kernel) (pa_cons (pe_call G__law_pick (hr.mono (by omega)) (by rfl) T.g__law_pick T.F__law_pick.kp T.b__law_pick .nil pass0 (pa_cons (pv 0) (pa_cons pe_int pa_nil))) pa_nil))) (pv 2))))))), ?_⟩
  have la : abc.length ≤ sizeLine := by decide
  refine ⟨_, rfl, _, rfl, p, ce, 26, rfl, hs, by decide, fun d1 H1 b1 hs1 d10 d11 => ?_⟩
  obtain ⟨c1, a1, f1, g1⟩ := abc_at d10 (by omega)
  refine ⟨abc, d1, c1, rfl, rfl, la, a1, ?_⟩
  have bg : Begun ⟨#[c1]⟩ := by
    refine ⟨fun b hb => ?_, c1, rfl, g1 (by omega)⟩
    have : b = c1 := by simpa using hb
    rw [this]; exact f1
  refine ⟨_, rfl, p, ce, 6, rfl, hs1, by decide, fun d2 H2 b2 hs2 d20 d21 => ?_⟩
  refine ⟨_, rfl, rfl, _, rfl, ?_⟩
  refine ite2 (fun c => ?_) (fun c => ?_)
  case' refine_1 => have e5 : d2 = 5 := V.int.inj (of_decide_eq_true c)
  case' refine_2 => refine ⟨_, rfl, _, _, rfl, rfl, ?_⟩
  all_goals refine ⟨_, rfl, by omega, by omega, for_range (lo := 0) (fun i σ H3 => ∃ x v, σ = [some (.ref p), some (.str abc), some (.str x), some (.int d2), v] ∧ Begun x ∧ x.length = i + 1 ∧ But p H H3 ∧ Src K ce H3 p)
    ⟨_, none, rfl, bg, rfl, b1.trans b2, hs2⟩ ?_ ?_⟩
  any_goals
    rintro i σ H3 hi ⟨x, v, rfl, bx, lx, b3, s3⟩
    refine ⟨_, rfl, _, rfl, _, rfl, p, ce, 36, rfl, s3, by decide, fun d3 H4 b4 s4 d30 d31 => ?_⟩
    obtain ⟨c2, a2, f2, _⟩ := abc_at d30 (by omega)
    refine ⟨abc, d3, c2, rfl, rfl, la, a2, x, _, rfl, rfl, Nat.le_of_lt (smallM (by rw [lx, one_len]; omega)), ?_⟩
    exact ⟨_, _, rfl, bx.app f2, by rw [Str.length_append, one_len, lx], b3.trans b4, s4⟩
  all_goals
    rintro σ H3 ⟨x, v, rfl, bx, lx, b3, s3⟩
    refine ⟨_, rfl, _, _, rfl, rfl, _, rfl, ?_⟩
    refine ite2 (fun c => ?_) (fun c => ?_)
    · refine ⟨_, rfl, _, rfl, p, ce, 10, rfl, s3, by decide, fun d3 H4 b4 s4 d30 d31 => ?_⟩
      obtain ⟨c2, e2, f2⟩ := fig_str d30 (by omega)
      refine ⟨_, rfl, log_fig d30 (by omega), ?_⟩
      rw [show Str.ofString (toString d3) = ⟨#[c2]⟩ from e2]
      refine ⟨x, _, rfl, rfl, Nat.le_of_lt (smallM (by rw [lx, one_len]; omega)), ?_⟩
      have bz := bx.app (c := c2) (by rw [f2, Bool.or_true])
      refine q _ H4 (b3.trans b4) s4 ⟨by rw [Str.length_append, one_len]; omega, by rw [Str.length_append, one_len]; omega, bz.all, bz.first, .inr ⟨c2, ?_, f2⟩⟩
      rw [Str.cps_append, Array.toList_append, Str.length_append, one_len, Nat.add_sub_cancel]
      rw [List.getElem?_append_right (by show x.cps.toList.length ≤ x.cps.size; simp)]
      show [c2][x.cps.size - x.cps.toList.length]? = some c2
      simp
    · have : d2 ≤ 0 := by have := of_decide_eq_false (Bool.eq_false_iff.mpr c); omega
      exact ⟨_, rfl, q x H3 b3 s3 ⟨by omega, by omega, bx.all, bx.first, .inl (by omega)⟩⟩
end
/-! ### formulas that the law draws -/
section
variable {P : Program} {w : World} {K : PySem.W.Frag} {mg : Str → Option Value} {base : Heap}
theorem Src.keeps {H H' : Hp} {p ce : Addr} (s : Src K ce H p) (b : But p H H') : Keeps H H' := by
  obtain ⟨cs, i, l, m, S⟩ := s
  exact b.keeps S.at_ trivial
theorem Src.same {H H' : Hp} {p ce : Addr} (s : Src K ce H p) (e : Same H H') : Src K ce H' p := by
  obtain ⟨cs, i, l, m, S⟩ := s
  exact ⟨cs, i, l, m, ⟨e.at S.at_, (e.but p).seq S.ne S.cel, S.ne, S.hi, S.hl, S.hc, S.m0, S.m1⟩⟩
theorem Src.here {H : Hp} {p ce : Addr} (s : Src K ce H p) : ∃ o, H p = some o := by
  obtain ⟨cs, i, l, m, S⟩ := s
  exact ⟨_, S.at_⟩
theorem Src.ne {H : Hp} {p l ce : Addr} (s : Src K ce H p) (h : H l = none) : l ≠ p := fun e => by
  obtain ⟨o, q⟩ := s.here
  rw [e, q] at h; cases h
theorem Src.upd {H : Hp} {p ce D : Addr} (s : Src K ce H p) (h1 : D ≠ p) (h2 : D ≠ ce) (o : HO) : Src K ce (upd H D o) p := by
  obtain ⟨cs, i, l, m, S⟩ := s
  exact ⟨cs, i, l, m, ⟨by rw [upd_ne h1.symm]; exact S.at_, ((But.refl D H).upd o).seq h2.symm S.cel, S.ne, S.hi, S.hl, S.hc, S.m0, S.m1⟩⟩
/-- all names keep N, all values V -/
def Fm.Lk (N V : Str → Prop) : Fm → Prop
  | .lit _ => True
  | .val s => V s
  | .mark s | .name s => N s
  | .bin _ l r => l.Lk N V ∧ r.Lk N V
  | .un _ a => a.Lk N V
  | .fix _ x a => N x ∧ a.Lk N V
theorem Fm.Lk.texts {N V p : Str → Prop} (a : ∀ s, N s → p s) (b : ∀ s, V s → p s) : ∀ {f : Fm}, f.Lk N V → f.Texts p
  | .lit _, _ => trivial
  | .val _, h => b _ h
  | .mark _, h => a _ h
  | .name _, h => a _ h
  | .bin _ _ _, h => ⟨h.1.texts a b, h.2.texts a b⟩
  | .un _ g, h => Fm.Lk.texts (f := g) a b h
  | .fix _ _ _, h => ⟨a _ h.1, h.2.texts a b⟩
theorem Fm.Lk.free {N V : Str → Prop} : ∀ {f : Fm}, f.Lk N V → ∀ z ∈ f.free, N z
  | .lit _, _, z, hz => by simp [Fm.free] at hz
  | .val _, _, z, hz => by simp [Fm.free] at hz
  | .mark _, _, z, hz => by simp [Fm.free] at hz
  | .name x, h, z, hz => by
    have : z = x := by simpa [Fm.free] using hz
    rw [this]; exact h
  | .bin _ l r, h, z, hz => by
    rcases Fm.mem_join.mp hz with q | q
    · exact Fm.Lk.free h.1 z q
    · exact Fm.Lk.free h.2 z q
  | .un _ a, h, z, hz => Fm.Lk.free (f := a) h z hz
  | .fix _ x a, h, z, hz => Fm.Lk.free (f := a) h.2 z (List.mem_filter.mp hz).1
def vals : List Str := ["01", "hi", "<0/1>", "{a,b}", "3"]
def sp_any (K : PySem.W.Frag) (n : Nat) : Sp := fun vs H Q _ => ∃ (p ce a : Addr) (d : Nat) (xs : List Str), vs = [.ref p, .ref a, .int d] ∧ Src K ce H p ∧ a ≠ p ∧ SqL K H a (xs.map V.str) ∧ 1 ≤ xs.length ∧ xs.length ≤ 100 ∧ d + 1 ≤ n ∧
  ∀ (f : Fm) (v : V) (H' : Hp), But p H H' → Src K ce H' p → Rf K H' f v → f.depth ≤ d + 1 → f.size < 2 ^ (d + 1) → f.Lk (· ∈ xs) (· ∈ vals) → Q v H'
theorem nx_run {D : Ends} {σ : L2.St} {H : Hp} (h : D.nx σ H) : tNext D σ H := h
theorem set_run {te : TE} {g : TG} {u : TS} {D : Ends} {σ : L2.St} {H : Hp} (Pv : V → Hp → Prop) (h : ∀ Q' : V → Hp → Prop, (∀ v H', Pv v H' → Q' v H') → te σ H Q') (q : ∀ v H', Pv v H' → g v σ H' (u D)) : tSeq (tAsg te g) u D σ H :=
  h _ fun v H' p => q v H' p
theorem if_run {c : TT} {t u v : TS} {D : Ends} {σ : L2.St} {H : Hp} (Pv : Bool → Hp → Prop) (h : ∀ Q' : Bool → Hp → Prop, (∀ b H', Pv b H' → Q' b H') → c σ H Q')
    (q : ∀ b H', Pv b H' → if b = true then t { D with nx := v D } σ H' else u { D with nx := v D } σ H') : tSeq (tIfS c t u) v D σ H := h _ fun b H' p => q b H' p
theorem str_at {xs : List Str} {d : Int} (h0 : 0 ≤ d) (h1 : d < xs.length) : ∃ x, x ∈ xs ∧ atI (xs.map V.str) d = some (.str x) := by
  have hl : d.toNat < xs.length := by omega
  refine ⟨xs[d.toNat], List.getElem_mem hl, ?_⟩
  have e : d = (d.toNat : Int) := by omega
  have r : atI (xs.map V.str) (d.toNat : Int) = some (.str xs[d.toNat]) := atI_nat (by rw [List.getElem?_map, List.getElem?_eq_getElem hl]; rfl)
  rw [← e] at r
  exact r
theorem ok__law_any (T : Tx K mg w) : ∀ n, FnOk P w K mg base CX0 (n + 1) T.a__law_any T.d__law_any ["source", "names", "depth"] (sp_any K n)
  | 0 => by
    have no : ∀ vs H Q E, ¬ sp_any K 0 vs H Q E := fun vs H Q E ⟨p, ce, a, d, xs, _, _, _, _, _, _, hd, _⟩ => by omega
    exact ⟨fun vs H Q E h => absurd h (no vs H Q E), fun A outer s H args us vs Q E _ _ _ _ h => absurd h (no vs H Q E)⟩
  | n + 1 => by
    have G__law_any := ok__law_any T n
    have G__law_pick := ok__law_pick (P := P) (w := w) (base := base) T
    refine T.F__law_any.ok sc__law_any (fun vs H Q E h => ?_) (fun cdv A outer s H vs Q E hr h => ?_)
    · obtain ⟨p, ce, a, d, xs, rfl, _⟩ := h
      rfl
    obtain ⟨p, ce, a, d, xs, rfl, hs, ap, ha, x1, x2, hd, q⟩ := h
    refine ⟨_, pss_cons (ps_set (i := 3) sc__law_any.nd rfl (Or.inl rfl) (pe_ifExp (pt_cmpR op_gt (pv 2) pe_int (nomark _)) (pe_call G__law_pick (hr.mono (by omega)) (by rfl) T.g__law_pick T.F__law_pick.kp T.b__law_pick .nil pass0 (pa_cons (pv 0) (pa_cons pe_int pa_nil))) (pe_call G__law_pick (hr.mono (by omega)) (by rfl) T.g__law_pick T.F__law_pick.kp T.b__law_pick .nil pass0 (pa_cons (pv 0) (pa_cons pe_int pa_nil)))))
    (pss_cons (ps_set (i := 4) sc__law_any.nd rfl (Or.inl rfl) (pe_ix ix_list (pv 1) (pe_call G__law_pick (hr.mono (by omega)) (by rfl) T.g__law_pick T.F__law_pick.kp T.b__law_pick .nil pass0 (pa_cons (pv 0) (pa_cons (pe_callB call_len_seq (by rfl) T.n_len (by decide +kernel) (pa_cons (pv 1) pa_nil)) pa_nil))) (fun _ _ => rfl)))
    (pss_cons (ps_if (pt_cmpR op_eq (pv 3) pe_int (nomark _)) (pss_one (ps_ret (pe_ix ix_list (pe_lst (pa_cons (pe_tup (pa_cons pe_str pa_nil)) (pa_cons (pe_tup (pa_cons pe_str pa_nil)) pa_nil))) (pe_call G__law_pick (hr.mono (by omega)) (by rfl) T.g__law_pick T.F__law_pick.kp T.b__law_pick .nil pass0 (pa_cons (pv 0) (pa_cons pe_int pa_nil))) (fun _ _ => rfl)))) pss_nil)
    (pss_cons (ps_if (pt_cmpR op_lt (pv 3) pe_int (nomark _)) (pss_one (ps_ret (pe_ifExp (pt_cmpR op_eq (pv 3) pe_int (nomark _)) (pe_tup (pa_cons pe_str (pa_cons (pv 4) pa_nil))) (pe_tup (pa_cons pe_str (pa_cons (pv 4) pa_nil)))))) pss_nil)
    (pss_cons (ps_if (pt_cmpR op_eq (pv 3) pe_int (nomark _)) (pss_one (ps_ret (pe_tup (pa_cons pe_str (pa_cons (pe_ix ix_list (pe_lst (pa_cons pe_str (pa_cons pe_str (pa_cons pe_str (pa_cons pe_str (pa_cons pe_str pa_nil)))))) (pe_call G__law_pick (hr.mono (by omega)) (by rfl) T.g__law_pick T.F__law_pick.kp T.b__law_pick .nil pass0 (pa_cons (pv 0) (pa_cons pe_int pa_nil))) (fun _ _ => rfl)) pa_nil))))) pss_nil)
    (pss_cons (ps_set (i := 5) sc__law_any.nd rfl (Or.inl rfl) (pe_call G__law_any (hr.mono (by omega)) (by rfl) T.g__law_any T.F__law_any.kp T.b__law_any .nil pass0 (pa_cons (pv 0) (pa_cons (pv 1) (pa_cons (pe_op op_sub (pv 2) pe_int) pa_nil)))))
    (pss_cons (ps_if (pt_cmpR op_lt (pv 3) pe_int (nomark _)) (pss_one (ps_ret (pe_tup (pa_cons (pe_ix ix_list (pe_lst (pa_cons pe_str (pa_cons pe_str pa_nil))) (pe_op op_sub (pv 3) pe_int) (fun _ _ => rfl)) (pa_cons (pv 5) pa_nil))))) pss_nil)
    (pss_cons (ps_if (pt_cmpR op_lt (pv 3) pe_int (nomark _)) (pss_one (ps_ret (pe_tup (pa_cons (pe_ix ix_list (pe_lst (pa_cons pe_str (pa_cons pe_str pa_nil))) (pe_op op_mod (pe_callTy call_int1 (by rfl) T.n_int (by decide +kernel) (pa_cons (pv 3) pa_nil)) pe_int) (fun _ _ => rfl)) (pa_cons (pv 4) (pa_cons (pv 5) pa_nil)))))) pss_nil)
    (pss_one (ps_ret (pe_tup (pa_cons (pe_ix ix_list (pe_lst (pa_cons pe_str (pa_cons pe_str pa_nil))) (pe_op op_mod (pe_callTy call_int1 (by rfl) T.n_int (by decide +kernel) (pa_cons (pv 3) pa_nil)) pe_int) (fun _ _ => rfl)) (pa_cons (pv 5) (pa_cons (pe_call G__law_any (hr.mono (by omega)) (by rfl) T.g__law_any T.F__law_any.kp T.b__law_any .nil pass0 (pa_cons (pv 0) (pa_cons (pv 1) (pa_cons (pe_op op_sub (pv 2) pe_int) pa_nil)))) pa_nil))))))))))))), ?_⟩
    refine set_run (fun v H1 => ∃ k : Int, v = .int k ∧ But p H H1 ∧ Src K ce H1 p ∧ 0 ≤ k ∧ k < 12 ∧ (k < 4 ∨ 0 < d)) (fun Q' q' => ?_) ?_
    · refine ⟨_, rfl, _, _, rfl, rfl, _, rfl, ?_⟩
      refine ite2 (fun c => ?_) (fun c => ?_)
      · have c := of_decide_eq_true c
        exact ⟨_, rfl, p, ce, 12, rfl, hs, by decide, fun k H1 b1 s1 k0 k1 => q' _ _ ⟨k, rfl, b1, s1, k0, by omega, .inr (by omega)⟩⟩
      · exact ⟨_, rfl, p, ce, 4, rfl, hs, by decide, fun k H1 b1 s1 k0 k1 => q' _ _ ⟨k, rfl, b1, s1, k0, by omega, .inl (by omega)⟩⟩
    rintro v H1 ⟨k, rfl, b1, s1, k0, k1, kd⟩
    have ha1 := b1.seq ap ha
    refine ⟨_, rfl, _, rfl, _, rfl, a, _, rfl, .inl ha1, p, ce, _, rfl, s1, by rw [List.length_map]; omega, fun j H2 b2 s2 j0 j1 => ?_⟩
    rw [List.length_map] at j1
    obtain ⟨x, xm, ax⟩ := str_at (xs := xs) j0 (by omega)
    have b12 := b1.trans b2
    refine ⟨a, _, _, _, rfl, rfl, b12.seq ap ha, ax, ?_⟩
    refine ⟨_, rfl, rfl, _, rfl, ?_⟩
    refine ite2 (fun c => ?_) (fun c => ?_)
    · refine ⟨(by show 1 ≤ sizeLine; decide), newQ (.tup [.str "true"]) fun t1 _ s3 h3 => ?_⟩
      generalize upd H2 t1 (.tup [.str "true"]) = H3 at s3 h3 ⊢
      refine ⟨(by show 1 ≤ sizeLine; decide), newQ (.tup [.str "false"]) fun t2 _ s4 h4 => ?_⟩
      generalize upd H3 t2 (.tup [.str "false"]) = H4 at s4 h4 ⊢
      refine ⟨(by show 2 ≤ sizeLine; decide), newQ (.lst [.ref t1, .ref t2]) fun l hl s5 h5 => ?_⟩
      generalize upd H4 l (.lst [.ref t1, .ref t2]) = H5 at s5 h5 ⊢
      have s25 := (s3.trans s4).trans s5
      refine ⟨_, rfl, p, ce, 2, rfl, s2.same s25, by decide, fun i H6 b6 s6 i0 i1 => ?_⟩
      have lp : l ≠ p := ((s2.same s3).same s4).ne hl
      obtain ⟨b, y, ab, yb⟩ : ∃ (b : Bool) (y : Addr), atI [V.ref t1, V.ref t2] i = some (.ref y) ∧ H5 y = some (.tup [.str (Fm.hLit b)]) := by
        rcases (by omega : i = 0 ∨ i = 1) with rfl | rfl
        · exact ⟨true, t1, rfl, s5.at (s4.at h3)⟩
        · exact ⟨false, t2, rfl, s5.at h4⟩
      refine ⟨l, _, _, _, rfl, rfl, b6.seq lp (SqL.of (K := K) h5), ab, ?_⟩
      have k6 := (s2.same s25).keeps b6
      exact q (.lit b) _ H6 ((b12.trans (s25.but p)).trans b6) s6 ⟨y, rfl, k6.sqT (SqT.of (K := K) yb)⟩ (by show 1 ≤ d + 1; omega) (Nat.one_lt_two_pow (by omega)) trivial
    refine ⟨_, rfl, _, _, rfl, rfl, _, rfl, ?_⟩
    refine ite2 (fun c3 => ?_) (fun c3 => ?_)
    · refine ⟨_, rfl, rfl, _, rfl, ?_⟩
      refine ite2 (fun c4 => ?_) (fun c4 => ?_)
      · refine ⟨_, rfl, (by show 2 ≤ sizeLine; decide), newO fun t H3 _ s3 h3 => ?_⟩
        exact q (.name x) _ H3 (b12.trans (s3.but p)) (s2.same s3) ⟨t, rfl, SqT.of (K := K) h3⟩ (by show 1 ≤ d + 1; omega) (Nat.one_lt_two_pow (by omega)) xm
      · refine ⟨_, rfl, (by show 2 ≤ sizeLine; decide), newO fun t H3 _ s3 h3 => ?_⟩
        exact q (.mark x) _ H3 (b12.trans (s3.but p)) (s2.same s3) ⟨t, rfl, SqT.of (K := K) h3⟩ (by show 1 ≤ d + 1; omega) (Nat.one_lt_two_pow (by omega)) xm
    refine ⟨_, rfl, rfl, _, rfl, ?_⟩
    refine ite2 (fun c4 => ?_) (fun c4 => ?_)
    · refine ⟨(by show 5 ≤ sizeLine; decide), newQ (.lst [.str "01", .str "hi", .str "<0/1>", .str "{a,b}", .str "3"]) fun l hl s3 h3 => ?_⟩
      generalize upd H2 l (.lst [.str "01", .str "hi", .str "<0/1>", .str "{a,b}", .str "3"]) = H3 at s3 h3 ⊢
      refine ⟨_, rfl, p, ce, 5, rfl, s2.same s3, by decide, fun i H6 b6 s6 i0 i1 => ?_⟩
      have lp : l ≠ p := s2.ne hl
      obtain ⟨y, ym, ay⟩ := str_at (xs := vals) i0 (by show i < 5; omega)
      refine ⟨l, vals.map V.str, _, _, rfl, rfl, b6.seq lp (SqL.of (K := K) h3), ay, (by show 2 ≤ sizeLine; decide), newO fun t H7 _ s7 h7 => ?_⟩
      exact q (.val y) _ H7 (((b12.trans (s3.but p)).trans b6).trans (s7.but p)) (s6.same s7) ⟨t, rfl, SqT.of (K := K) h7⟩ (by show 1 ≤ d + 1; omega) (Nat.one_lt_two_pow (by omega)) ym
    have k4 : 4 ≤ k := by
      have := of_decide_eq_false (Bool.eq_false_iff.mpr c3)
      have : k ≠ 3 := fun e => c4 (by rw [e]; rfl)
      omega
    obtain ⟨d, rfl⟩ : ∃ e, d = e + 1 := ⟨d - 1, by omega⟩
    refine ⟨_, rfl, _, rfl, _, rfl, _, _, rfl, rfl, p, ce, a, d, xs, (by show [V.ref p, V.ref a, V.int (((d + 1 : Nat) : Int) - 1)] = _; rw [show (((d + 1 : Nat) : Int) - 1) = (d : Int) by omega]), s2, ap, b12.seq ap ha, x1, x2, by omega, fun f v H3 b3 s3 f3 fd fz fl => ?_⟩
    have b13 := b12.trans b3
    refine ⟨_, rfl, _, _, rfl, rfl, _, rfl, ?_⟩
    refine ite2 (fun c5 => ?_) (fun c5 => ?_)
    · have c5 := of_decide_eq_true c5
      refine ⟨(by show 2 ≤ sizeLine; decide), newQ (.lst [.str "some", .str "all"]) fun l hl s4 h4 => ?_⟩
      generalize upd H3 l (.lst [.str "some", .str "all"]) = H4 at s4 h4 ⊢
      obtain ⟨b, eb⟩ : ∃ b : Bool, atI [V.str "some", V.str "all"] (k - 4) = some (.str (Fm.hUn b)) := by
        rcases (by omega : k - 4 = 0 ∨ k - 4 = 1) with e | e
        · exact ⟨true, by rw [e]; rfl⟩
        · exact ⟨false, by rw [e]; rfl⟩
      refine ⟨_, rfl, _, _, rfl, rfl, l, _, _, _, rfl, rfl, SqL.of (K := K) h4, eb, _, rfl, (by show 2 ≤ sizeLine; decide), newO fun t H7 _ s7 h7 => ?_⟩
      exact q (.un b f) _ H7 ((b13.trans (s4.but p)).trans (s7.but p)) ((s3.same s4).same s7) ⟨t, v, rfl, SqT.of (K := K) h7, (f3.same s4).same s7⟩ (by show f.depth + 1 ≤ _; omega)
        (by show f.size + 1 < _; rw [Nat.pow_succ]; omega) fl
    refine ⟨_, rfl, _, _, rfl, rfl, _, rfl, ?_⟩
    refine ite2 (fun c6 => ?_) (fun c6 => ?_)
    · refine ⟨(by show 2 ≤ sizeLine; decide), newQ (.lst [.str "least", .str "most"]) fun l hl s4 h4 => ?_⟩
      generalize upd H3 l (.lst [.str "least", .str "most"]) = H4 at s4 h4 ⊢
      obtain ⟨b, eb⟩ : ∃ b : Bool, atI [V.str "least", V.str "most"] (k % 2) = some (.str (Fm.hFix b)) := by
        rcases (by omega : k % 2 = 0 ∨ k % 2 = 1) with e | e
        · exact ⟨true, by rw [e]; rfl⟩
        · exact ⟨false, by rw [e]; rfl⟩
      refine ⟨_, rfl, .inl ⟨_, rfl, _, _, rfl, rfl, (by show (0 : Int) < 2; decide), l, _, _, _, rfl, rfl, SqL.of (K := K) h4, eb, _, rfl, _, rfl, (by show 3 ≤ sizeLine; decide), newO fun t H7 _ s7 h7 => ?_⟩⟩
      exact q (.fix b x f) _ H7 ((b13.trans (s4.but p)).trans (s7.but p)) ((s3.same s4).same s7) ⟨t, v, rfl, SqT.of (K := K) h7, (f3.same s4).same s7⟩ (by show f.depth + 1 ≤ _; omega)
        (by show f.size + 1 < _; rw [Nat.pow_succ]; omega) ⟨xm, fl⟩
    refine ⟨(by show 2 ≤ sizeLine; decide), newQ (.lst [.str "and", .str "or"]) fun l hl s4 h4 => ?_⟩
    generalize upd H3 l (.lst [.str "and", .str "or"]) = H4 at s4 h4 ⊢
    obtain ⟨b, eb⟩ : ∃ b : Bool, atI [V.str "and", V.str "or"] (k % 2) = some (.str (Fm.hBin b)) := by
      rcases (by omega : k % 2 = 0 ∨ k % 2 = 1) with e | e
      · exact ⟨true, by rw [e]; rfl⟩
      · exact ⟨false, by rw [e]; rfl⟩
    have b14 := b13.trans (s4.but p)
    have s4' := s3.same s4
    refine ⟨_, rfl, .inl ⟨_, rfl, _, _, rfl, rfl, (by show (0 : Int) < 2; decide), l, _, _, _, rfl, rfl, SqL.of (K := K) h4, eb, _, rfl, ?_⟩⟩
    refine ⟨_, rfl, _, rfl, _, rfl, _, _, rfl, rfl, p, ce, a, d, xs, (by show [V.ref p, V.ref a, V.int (((d + 1 : Nat) : Int) - 1)] = _; rw [show (((d + 1 : Nat) : Int) - 1) = (d : Int) by omega]), s4', ap, b14.seq ap ha, x1, x2, by omega, fun f2 v2 H5 b5 s5 f5 fd5 fz5 fl5 => ?_⟩
    refine ⟨(by show 3 ≤ sizeLine; decide), newO fun t H7 _ s7 h7 => ?_⟩
    exact q (.bin b f f2) _ H7 ((b14.trans b5).trans (s7.but p)) (s5.same s7) ⟨t, v, v2, rfl, SqT.of (K := K) h7, ((f3.same s4).keep (s4'.keeps b5)).same s7, f5.same s7⟩ (by show max f.depth f2.depth + 1 ≤ _; omega)
      (by show f.size + f2.size + 1 < _; rw [Nat.pow_succ]; omega) ⟨fl, fl5⟩
end
section
variable {K : PySem.W.Frag}
theorem NameOk.strOk {x : Str} (h : NameOk x) : PyData.strOk x = true := by
  unfold PyData.strOk
  rw [Array.all_eq_true]
  intro i hi
  have q := h.all x.cps[i] (Array.getElem_mem_toList hi)
  simp only [isLow, isFig, Bool.or_eq_true, Bool.and_eq_true, decide_eq_true_eq] at q
  exact decide_eq_true (by omega)
theorem vals_ok : ∀ s ∈ vals, PyData.strOk s = true := by decide +kernel
theorem vals_len : ∀ s ∈ vals, s.length ≤ 20 := by decide +kernel
theorem dpAll_strs {H : Hp} : ∀ xs : List Str, DpAll K H (xs.map V.str) (xs.map PyData.str)
  | [] => .nil
  | x :: xs => .cons (.str x) (dpAll_strs xs)
theorem dp_strs {H : Hp} {a : Addr} {xs : List Str} (h : SqL K H a (xs.map V.str)) : Dp K H (.ref a) (.list (xs.map PyData.str)) := .lst h (dpAll_strs xs)
theorem eqvAll_strs : ∀ xs : List Str, PyData.eqvAll (xs.map PyData.str) (xs.map PyData.str) = true
  | [] => by simp [PyData.eqvAll]
  | x :: xs => by simp [PyData.eqvAll, PyData.eqv, eqvAll_strs xs]
theorem eqv_strs (xs : List Str) : PyData.eqv (.list (xs.map PyData.str)) (.list (xs.map PyData.str)) = true := by simp [PyData.eqv, eqvAll_strs xs]
theorem depth_strs : ∀ xs : List Str, PyData.depthAll (xs.map PyData.str) ≤ 1
  | [] => by simp [PyData.depthAll]
  | x :: xs => by have := depth_strs xs; simp [PyData.depthAll, PyData.depth]; omega
theorem lay_strs : ∀ xs : List Str, (∀ z ∈ xs, PyData.strOk z = true) → PyData.canLayAll0 (xs.map PyData.str) = true
  | [], _ => by simp [PyData.canLayAll0]
  | x :: xs, h => by simp [PyData.canLayAll0, PyData.canLay0, lay_strs xs (fun z hz => h z (.tail _ hz)), h x (.head _)]
theorem shp_strs {xs : List Str} (h : ∀ z ∈ xs, PyData.strOk z = true) : Shp 190 (.list (xs.map PyData.str)) :=
  ⟨by simp [PyData.canLay0, lay_strs xs h], by have := depth_strs xs; simp [PyData.depth]; omega⟩
theorem inV_strs (x : Str) : ∀ xs : List Str, inV (.str x) (xs.map V.str) = decide (x ∈ xs)
  | [] => rfl
  | y :: ys => by
    show ((y == x) || inV (.str x) (ys.map V.str)) = _
    rw [inV_strs x ys]
    by_cases h : y = x
    · subst h; simp
    · have : ¬ x = y := fun e => h e.symm
      simp [h, this]
theorem flat_strs : ∀ xs : List Str, (xs.map V.str).all flatV = true
  | [] => rfl
  | _ :: ys => flat_strs ys
theorem inV_trues : ∀ n : Nat, inV (.bl false) (List.replicate n (V.bl true)) = false
  | 0 => rfl
  | n + 1 => inV_trues n
theorem flat_trues : ∀ n : Nat, (List.replicate n (V.bl true)).all flatV = true
  | 0 => rfl
  | n + 1 => flat_trues n
end
section
variable {P : Program} {w : World} {K : PySem.W.Frag} {mg : Str → Option Value} {base : Heap}
def lowS : Str := "abcdefghijklmnopqrstuvwxyz"
def lowfS : Str := lowS ++ "0123456789"
theorem low_has {c : Nat} (h : isLow c = true) : c ∈ lowS.cps.toList := by
  have q : ∀ i : Fin 26, 97 + i.val ∈ lowS.cps.toList := by decide +kernel
  simp only [isLow, Bool.and_eq_true, decide_eq_true_eq] at h
  have := q ⟨c - 97, by omega⟩
  rwa [show 97 + (c - 97) = c by omega] at this
theorem lowf_has {c : Nat} (h : (isLow c || isFig c) = true) : c ∈ lowfS.cps.toList := by
  have q : ∀ i : Fin 26, 97 + i.val ∈ lowfS.cps.toList := by decide +kernel
  have q2 : ∀ i : Fin 10, 48 + i.val ∈ lowfS.cps.toList := by decide +kernel
  simp only [isLow, isFig, Bool.or_eq_true, Bool.and_eq_true, decide_eq_true_eq] at h
  rcases h with h | h
  · have := q ⟨c - 97, by omega⟩
    rwa [show 97 + (c - 97) = c by omega] at this
  · have := q2 ⟨c - 48, by omega⟩
    rwa [show 48 + (c - 48) = c by omega] at this
def heads : List Str := ["value", "mark", "and", "or", "some", "all", "least", "most"]
def heads2 : List Str := heads ++ (["true", "false"] : List Str)
/-- a text of more than one sign, its last no figure -/
def endsPlain (s : Str) : Bool := 2 ≤ s.length && match s.cps.toList[s.length - 1]? with | some c => !isFig c | none => true
theorem NameOk.not {x : Str} (h : NameOk x) {s : Str} (e : endsPlain s = true) : x ≠ s := by
  rintro rfl
  simp only [endsPlain, Bool.and_eq_true, decide_eq_true_eq] at e
  rcases h.last with q | ⟨c, q, f⟩
  · omega
  · rw [q] at e
    simp [f] at e
theorem heads_end : ∀ s ∈ heads2, endsPlain s = true := by decide +kernel
theorem NameOk.free_of {x : Str} (h : NameOk x) : x ∉ heads2 := fun m => h.not (heads_end x m) rfl
def sp_isname (K : PySem.W.Frag) : Sp := fun vs H Q _ => ∃ x : Str, vs = [.str x] ∧ NameOk x ∧ ∀ H', Same H H' → Q (.bl true) H'
theorem ok_is_name (T : Tx K mg w) : FnOk P w K mg base CX0 1 T.a_is_name T.d_is_name ["word"] (sp_isname K) := by
  refine T.F_is_name.ok sc_is_name (fun vs H Q E h => ?_) (fun cdv A outer s H vs Q E hr h => ?_)
  · obtain ⟨x, rfl, _⟩ := h
    rfl
  obtain ⟨x, rfl, nx, q⟩ := h
  refine ⟨_, pss_cons (ps_if (PW.pt (pw_or (pt_not (pt_chain op_le op_le pe_int (pe_callB call_len_str (by rfl) T.n_len (by decide +kernel) (pa_cons (pv 0) pa_nil)) pe_int)) (pw_or (pt_cmpR (op_in_kd ⟨T.l_SHAPES, T.y_SHAPES, T.lo_SHAPES⟩) (pv 0) (pe_glob (v := .ref T.a_SHAPES) (by rfl) T.g_SHAPES rfl) (by rfl)) (pw_or (pt_cmpR op_in_seq (pv 0) (pe_glob (v := .ref T.a_SINGLE_WORDS) (by rfl) T.g_SINGLE_WORDS rfl) (by rfl)) (pw_or1 (pt_cmpR op_notIn_sign (pe_ix ix_str (pv 0) pe_int (fun _ _ => rfl)) (pe_glob (v := .str "abcdefghijklmnopqrstuvwxyz") (by rfl) T.g_SMALL_LETTERS.choose_spec ⟨_, rfl⟩) rfl)))))) (pss_one (ps_ret pe_bl)) pss_nil)
    (pss_one (ps_ret (pe_callB (cr_all rfl) (by rfl) T.n_all (by decide +kernel) (pa_cons (pe_lc (own := [("sign", 1)]) (g := gName 1) (tt := tYes) rfl sc_is_name.nd (pi_str (pv 0)) (blkOk_by (N := N_is_name) (sc := defScope St_is_name) (by decide +kernel)) (fun _ _ _ _ _ => (pg_name (i := 1) sc_is_name.nd rfl (Or.inl rfl))) (fun _ _ _ _ _ => pts_nil) (fun _ _ _ _ _ => (pe_cmpR op_in_sign (pv 1) (pe_op op_add_str (pe_glob (v := .str "abcdefghijklmnopqrstuvwxyz") (by rfl) T.g_SMALL_LETTERS.choose_spec ⟨_, rfl⟩) (pe_glob (v := .str "0123456789") (by rfl) T.g_TEN_FIGURES.choose_spec ⟨_, rfl⟩)) rfl))) pa_nil)))), ?_⟩
  obtain ⟨c0, e0, l0⟩ := nx.first
  have n1 := nx.pos; have n2 := nx.le
  have nf := nx.free_of
  have nh : x ∉ heads := fun m => nf (List.mem_append_left _ m)
  have miss : PySem.W.nsIn K T.a_SHAPES x = some none := T.w_SHAPES.nsIn T.l_SHAPES nh
  refine if_run (fun b H1 => H1 = H ∧ b = false) (fun Q' q' => ?_) ?_
  · refine ⟨_, rfl, x, rfl, Nat.le_of_lt (smallM (by omega)), _, _, rfl, rfl, _, rfl, ?_⟩
    refine iteY (by omega) ?_
    refine ⟨_, _, rfl, rfl, _, rfl, ?_⟩
    rw [decide_eq_true (show ((x.length : Nat) : Int) ≤ 12 by omega)]
    refine iteF ?_
    refine ⟨_, rfl, x, none, rfl, rfl, miss, _, rfl, ?_⟩
    refine iteF ?_
    refine ⟨_, rfl, _, _, rfl, .inr (T.t_SINGLE_WORDS H), rfl, rfl, _, rfl, ?_⟩
    rw [show (if false = true then !inV (.str x) [.str "true", .str "false"] else inV (.str x) [.str "true", .str "false"]) = false from (inV_str _ _ _).trans (by
      rw [Bool.or_eq_false_iff]
      exact ⟨beq_eq_false_iff_ne.mpr (nx.not (by decide +kernel)), beq_eq_false_iff_ne.mpr (nx.not (by decide +kernel))⟩)]
    refine iteF ?_
    refine ⟨_, rfl, x, 0, c0, rfl, rfl, Nat.le_of_lt (smallM (by omega)), atI_nat (j := 0) e0, c0, lowS, rfl, rfl, _, rfl, ?_⟩
    rw [decide_eq_true (low_has l0)]
    exact q' _ _ ⟨rfl, rfl⟩
  rintro b H1 ⟨rfl, rfl⟩
  refine iteF ?_
  refine ⟨_, rfl, x, rfl, fun D hD => ?_⟩
  refine lc_fold walk_str hD (fun i H5 ys => i ≤ x.cps.toList.length ∧ ys = List.replicate i (V.bl true)) (fun _ => ⟨Nat.zero_le _, rfl⟩) (fun i H5 H6 xs _ h => h) ?_ (fun H5 s6 => trivial) ?_ ?_
  · rintro i H5 ys ⟨hi, rfl⟩
    have a2 : x.cps.toList.length = x.length := rfl
    rw [List.length_replicate]; omega
  · rintro i v H5 H6 ys Nx Ex hi s6 ⟨hil, rfl⟩ ⟨rfl, c, hc, rfl⟩ k1 k2
    have hc' : x.cps.toList[i]? = some c := by rw [Array.getElem?_toList]; exact hc
    have hl := (List.getElem?_eq_some_iff.mp hc').1
    refine ⟨rfl, ?_⟩
    refine lcY ?_
    refine ⟨_, rfl, _, _, rfl, rfl, (by decide +kernel), c, lowfS, rfl, rfl, ?_⟩
    rw [decide_eq_true (lowf_has (nx.all c (List.mem_of_getElem? hc')))]
    exact k1 _ _ (Same.refl _) ⟨hl, by rw [List.replicate_succ']⟩
  · rintro H5 ys s6 hD5 ⟨_, rfl⟩
    refine ⟨D, List.replicate x.cps.size true, rfl, SqL.of (K := K) (by rw [hD5, List.map_replicate]), ?_⟩
    rw [show (List.replicate x.cps.size true).all id = true from List.all_eq_true.mpr fun b hb => (List.mem_replicate.mp hb).2]
    exact q H5 s6
def sp_need : Sp := fun vs H Q _ => ∃ (p : Addr) (n : Int), vs = [.ref p, .int n, .bl true] ∧ ∀ H', Same H H' → Q .non H'
theorem ok_need (T : Tx K mg w) : FnOk P w K mg base CX0 1 T.a_Words_need T.d_Words_need ["self", "number", "good"] sp_need := by
  refine T.F_Words_need.ok sc_Words_need (fun vs H Q E h => ?_) (fun cdv A outer s H vs Q E hr h => ?_)
  · obtain ⟨p, n, rfl, _⟩ := h
    rfl
  obtain ⟨p, n, rfl, q⟩ := h
  refine ⟨_, pss_one (ps_if (pt_not (pt_val (pv 2))) (pss_one ps_dead) pss_nil), ?_⟩
  refine ⟨_, rfl, _, rfl, ?_⟩
  exact iteF (q H (Same.refl _))
end
/-! ### Words: a text cut into words -/
section
/-- blank, parentheses -/
def isSep (c : Nat) : Bool := c == 32 || c == 40 || c == 41
def flushT : Option (Nat × List Nat) → List (Str × Nat)
  | none => []
  | some (b, a) => [(⟨a.toArray⟩, b)]
/-- the words from place i on, each with its place; cur: the word begun -/
def tk : List Nat → Nat → Option (Nat × List Nat) → List (Str × Nat)
  | [], i, cur => flushT cur ++ [((("" : Str)), i)]
  | c :: cs, i, cur =>
    if isSep c then flushT cur ++ (if c = 32 then [] else [(⟨#[c]⟩, i)]) ++ tk cs (i + 1) none
    else tk cs (i + 1) (some (match cur with | none => (i, [c]) | some (b, a) => (b, a ++ [c])))
def begin_ (i c : Nat) : Option (Nat × List Nat) → Nat × List Nat
  | none => (i, [c])
  | some (b, a) => (b, a ++ [c])
theorem tk_sep {c i : Nat} {cs : List Nat} {cur : Option (Nat × List Nat)} (h : isSep c = true) : tk (c :: cs) i cur = flushT cur ++ (if c = 32 then [] else [(⟨#[c]⟩, i)]) ++ tk cs (i + 1) none := by
  rw [tk.eq_def]
  simp only [h, if_true]
theorem tk_plain {c i : Nat} {cs : List Nat} {cur : Option (Nat × List Nat)} (h : ¬ isSep c = true) : tk (c :: cs) i cur = tk cs (i + 1) (some (begin_ i c cur)) := by
  rw [tk.eq_def]
  simp only [h]
  cases cur <;> rfl
/-- what is known of the word begun -/
def Cur (cs : List Nat) (i : Nat) : Option (Nat × List Nat) → Option V → Prop
  | none, v => v = some .non
  | some (b, a), v => v = some (.int (b : Nat)) ∧ b ≤ i ∧ a = (cs.drop b).take (i - b)
variable {P : Program} {w : World} {K : PySem.W.Frag} {mg : Str → Option Value} {base : Heap}
/-- the row of words at l -/
def RowAt (K : PySem.W.Frag) (H : Hp) (l : Addr) (ws : List (Str × Nat)) : Prop := ∃ xs, H l = some (.lst xs) ∧ xs.length = ws.length ∧
  ∀ (i : Nat) (s : Str) (k : Nat), ws[i]? = some (s, k) → ∃ t, xs[i]? = some (.ref t) ∧ SqT K H t [.str s, .int (k : Nat)]
def WordsAt (T : Tx K mg w) (H : Hp) (p l : Addr) (ws : List (Str × Nat)) : Prop := (∃ dx, H p = some (.ins T.a_Words dx [("row", .ref l)])) ∧ RowAt K H l ws
theorem RowAt.push {H : Hp} {l t : Addr} {ws : List (Str × Nat)} {s : Str} {k : Nat} (h : RowAt K H l ws) (ht : H t = some (.tup [.str s, .int (k : Nat)])) : ∃ xs, H l = some (.lst xs) ∧ xs.length = ws.length ∧ RowAt K (upd H l (.lst (xs ++ [.ref t]))) l (ws ++ [(s, k)]) := by
  obtain ⟨xs, h1, h2, h3⟩ := h
  have tl : t ≠ l := ne_of ht h1 (by intro e; cases e)
  have kk : Keeps H (upd H l (.lst (xs ++ [.ref t]))) := (Keeps.refl H).mut h1 trivial
  refine ⟨xs, h1, h2, _, upd_same, by rw [List.length_append, List.length_append, h2]; rfl, fun i s' k' e => ?_⟩
  rcases snoc_at e with e | ⟨e1, e2⟩
  · obtain ⟨t', e1, e2⟩ := h3 i s' k' e
    exact ⟨t', by rw [List.getElem?_append_left (List.getElem?_eq_some_iff.mp e1).1]; exact e1, kk.sqT e2⟩
  · cases e2
    refine ⟨t, ?_, SqT.of (K := K) (by rw [upd_ne tl]; exact ht)⟩
    rw [e1, ← h2, List.getElem?_append_right (Nat.le_refl _), Nat.sub_self]; rfl
theorem cut_mid {z : Str} {b i : Nat} (h : b ≤ i) (h2 : i ≤ z.length) : cutS z (some (b : Int)) (some (i : Int)) = ⟨((z.cps.toList.drop b).take (i - b)).toArray⟩ := by
  unfold cutS
  rw [sIx_some, sIx_some, Nat.min_eq_left h2, Nat.min_eq_left (Nat.le_trans h h2)]
theorem cut_end {z : Str} {b : Nat} (h : b ≤ z.length) : cutS z (some (b : Int)) none = ⟨((z.cps.toList.drop b).take (z.length - b)).toArray⟩ := by
  unfold cutS
  rw [sIx_some, sIx_none, Nat.min_eq_left h]
theorem sep_has (c : Nat) : decide (c ∈ (" ()" : Str).cps.toList) = isSep c := by
  have e : (" ()" : Str).cps.toList = [32, 40, 41] := by decide +kernel
  rw [e]
  simp [isSep, Bool.or_assoc]
  rfl
theorem one_blank {c : Nat} (h : (⟨#[c]⟩ : Str) = " ") : c = 32 := by
  have e : (" " : Str) = ⟨#[32]⟩ := by decide +kernel
  rw [e] at h
  simpa using congrArg (fun s : Str => s.cps.toList) h
theorem take_grow {cs : List Nat} {b i c : Nat} (h : cs[i]? = some c) (hb : b ≤ i) : (cs.drop b).take (i + 1 - b) = (cs.drop b).take (i - b) ++ [c] := by
  rw [show i + 1 - b = (i - b) + 1 by omega]
  refine take_snoc ?_
  rw [List.getElem?_drop, show b + (i - b) = i by omega]
  exact h
theorem drop_at {cs : List Nat} {i c : Nat} (h : cs[i]? = some c) : cs.drop i = c :: cs.drop (i + 1) := by
  obtain ⟨hl, e⟩ := List.getElem?_eq_some_iff.mp h
  rw [List.drop_eq_getElem_cons hl, e]
theorem But.mut {p l : Addr} {H H' : Hp} (b : But p H H') (h : H l = none) (o : HO) : But p H (L2.upd H' l o) := fun c u n q => by
  rw [upd_ne (ne_of_none q h)]; exact b c u n q
theorem mid_run {b : Bool} {t u v : TS} {D : Ends} {σ : L2.St} {H : Hp} (Pv : L2.St → Hp → Prop) (h : ∀ D' : Ends, (∀ σ' H', Pv σ' H' → D'.nx σ' H') → if b = true then t D' σ H else u D' σ H)
    (q : ∀ σ' H', Pv σ' H' → v D σ' H') : if b = true then t { D with nx := v D } σ H else u { D with nx := v D } σ H := h _ q
theorem WordsAt.push {T : Tx K mg w} {H : Hp} {p l t : Addr} {ws : List (Str × Nat)} {s : Str} {k : Nat} (h : WordsAt T H p l ws) (pl : p ≠ l) (ht : H t = some (.tup [.str s, .int (k : Nat)])) :
    ∃ xs, H l = some (.lst xs) ∧ xs.length = ws.length ∧ WordsAt T (upd H l (.lst (xs ++ [.ref t]))) p l (ws ++ [(s, k)]) := by
  obtain ⟨⟨dx, a⟩, r⟩ := h
  obtain ⟨xs, b, c, d⟩ := r.push ht
  exact ⟨xs, b, c, ⟨dx, by rw [upd_ne pl]; exact a⟩, d⟩
theorem WordsAt.same {T : Tx K mg w} {H H' : Hp} {p l : Addr} {ws : List (Str × Nat)} (h : WordsAt T H p l ws) (s : Same H H') : WordsAt T H' p l ws := by
  obtain ⟨⟨dx, a⟩, xs, b, c, d⟩ := h
  exact ⟨⟨dx, s.at a⟩, xs, s.at b, c, fun i u k e => by obtain ⟨t, e1, e2⟩ := d i u k e; exact ⟨t, e1, s.keeps.sqT e2⟩⟩
def sp_winit (T : Tx K mg w) : Sp := fun vs H Q _ => ∃ (p dx : Addr) (z : Str), vs = [.ref p, .str z] ∧ H p = some (.ins T.a_Words dx []) ∧ z.length ≤ 100000 ∧
  ∀ (l : Addr) (H' : Hp), But p H H' → H l = none → WordsAt T H' p l (tk z.cps.toList 0 none) → Q .non H'
theorem ok_winit (T : Tx K mg w) : FnOk P w K mg base CX0 1 T.a_Words_init T.d_Words_init ["self", "text"] (sp_winit T) := by
  refine T.F_Words_init.ok sc_Words_init (fun vs H Q E h => ?_) (fun cdv A outer s H vs Q E hr h => ?_)
  · obtain ⟨p, dx, z, rfl, _⟩ := h
    rfl
  obtain ⟨p, dx, z, rfl, hp, hz, q⟩ := h
  refine ⟨_, pss_cons (ps_fld (pv 0) (pe_lst pa_nil) rfl)
    (pss_cons (ps_set (i := 2) sc_Words_init.nd rfl (Or.inl rfl) pe_non)
    (pss_cons (ps_for PassesOwn.never rfl (pi_enumS (by rfl) T.n_enumerate (pa_cons (pv 1) pa_nil)) (pg_tup rfl (pgs_cons (pg_name (i := 3) sc_Words_init.nd rfl (Or.inl rfl)) (pgs_cons (pg_name (i := 4) sc_Words_init.nd rfl (Or.inl rfl)) pgs_nil))) (pss_one (ps_if (pt_cmpR op_in_sign (pv 4) pe_str rfl) (pss_cons (ps_if (pt_cmpR op_notN (pv 2) pe_non (nomark _)) (pss_one (ps_expr (pe_bm PySem.F.plainAttrs_list PySem.F.slot_list_append PySem.F.type_list_append mt_append (pe_fld (pv 0) rfl) (pa_cons (pe_tup (pa_cons (pe_slice sl_str (pv 1) (po_some (pv 2)) (po_some (pv 3))) (pa_cons (pv 2) pa_nil))) pa_nil)))) pss_nil)
    (pss_cons (ps_set (i := 2) sc_Words_init.nd rfl (Or.inl rfl) pe_non)
    (pss_one (ps_if (pt_cmpR op_ne (pv 4) pe_str (nomark _)) (pss_one (ps_expr (pe_bm PySem.F.plainAttrs_list PySem.F.slot_list_append PySem.F.type_list_append mt_append (pe_fld (pv 0) rfl) (pa_cons (pe_tup (pa_cons (pv 4) (pa_cons (pv 3) pa_nil))) pa_nil)))) pss_nil)))) (pss_one (ps_if (pt_cmpR op_isN (pv 2) pe_non (nomark _)) (pss_one (ps_set (i := 2) sc_Words_init.nd rfl (Or.inl rfl) (pv 3))) pss_nil)))))
    (pss_cons (ps_if (pt_cmpR op_notN (pv 2) pe_non (nomark _)) (pss_one (ps_expr (pe_bm PySem.F.plainAttrs_list PySem.F.slot_list_append PySem.F.type_list_append mt_append (pe_fld (pv 0) rfl) (pa_cons (pe_tup (pa_cons (pe_slice sl_str (pv 1) (po_some (pv 2)) po_none) (pa_cons (pv 2) pa_nil))) pa_nil)))) pss_nil)
    (pss_one (ps_expr (pe_bm PySem.F.plainAttrs_list PySem.F.slot_list_append PySem.F.type_list_append mt_append (pe_fld (pv 0) rfl) (pa_cons (pe_tup (pa_cons pe_str (pa_cons (pe_callB call_len_str (by rfl) T.n_len (by decide +kernel) (pa_cons (pv 1) pa_nil)) pa_nil))) pa_nil))))))), ?_⟩
  refine ⟨(by show 0 ≤ sizeLine; decide), newQ (.lst []) fun l hl s1 h1 => ?_⟩
  generalize upd H l (.lst []) = H1 at s1 h1 ⊢
  have pl : p ≠ l := ne_of_none hp hl
  refine ⟨_, rfl, p, _, dx, _, rfl, s1.at hp, T.c_Words, T.n_Words_row, (by show 0 < 1000; decide), ?_⟩
  refine ⟨_, rfl, z, rfl, ?_⟩
  refine for_it walk_enumS (fun i σ H2 => ∃ (cur : Option (Nat × List Nat)) (row : List (Str × Nat)) (bv v3 v4 : Option V), σ = [some (.ref p), some (.str z), bv, v3, v4] ∧ i ≤ z.length ∧ Cur z.cps.toList i cur bv ∧ WordsAt T H2 p l row ∧
    row ++ tk (z.cps.toList.drop i) i cur = tk z.cps.toList 0 none ∧ row.length ≤ 2 * i ∧ But p H H2)
    ⟨none, [], _, none, none, rfl, Nat.zero_le _, rfl, ⟨⟨dx, by rw [upd_same]; rfl⟩, [], by rw [upd_ne pl.symm]; exact h1, rfl, fun i s k e => by simp at e⟩, rfl, Nat.le_refl _, (s1.but p).upd _⟩ (fun _ _ _ _ _ => trivial) ?_ ?_
  · rintro i x σ H2 _ hi ⟨cur, row, bv, v3, v4, rfl, hil, hcur, ⟨⟨dx2, hw⟩, hrow⟩, htk, hrl, hb⟩ ⟨t0, c, rfl, ht0, rfl, hc⟩
    have hc' : z.cps.toList[i]? = some c := by rw [Array.getElem?_toList]; exact hc
    have hi' : i < z.length := hi
    refine ⟨t0, _, rfl, SqT.of (K := K) upd_same, rfl, _, _, rfl, _, _, rfl, rfl, ?_⟩
    have s2 := Same.new ht0 (.tup [.int (i : Nat), .str ⟨#[c]⟩])
    generalize upd H2 t0 (.tup [.int (i : Nat), .str ⟨#[c]⟩]) = H3 at s2 ⊢
    have hw3 := s2.at hw
    have W3 : WordsAt T H3 p l row := WordsAt.same ⟨⟨dx2, hw⟩, hrow⟩ s2
    have hb3 : But p H H3 := hb.trans (s2.but p)
    rw [drop_at hc'] at htk
    refine ⟨_, rfl, c, _, rfl, rfl, _, rfl, ?_⟩
    rw [show decide (c ∈ (Str.ofString " ()").cps.toList) = isSep c from sep_has c]
    refine ite2 (fun hs => ?_) (fun hs => ?_)
    · rw [tk_sep hs] at htk
      refine if_run (fun b H4 => b = cur.isSome ∧ H4 = H3) (fun Q' q' => ?_) ?_
      · cases cur with
        | none => 
          have hv : bv = some .non := hcur
          subst hv
          exact ⟨_, rfl, rfl, _, rfl, q' _ _ ⟨rfl, rfl⟩⟩
        | some ba =>
          obtain ⟨b, a⟩ := ba
          obtain ⟨hv, _, _⟩ := hcur
          subst hv
          exact ⟨_, rfl, rfl, _, rfl, q' _ _ ⟨rfl, rfl⟩⟩
      rintro b H4 ⟨rfl, rfl⟩
      refine mid_run (fun σ2 H5 => σ2 = [some (.ref p), some (.str z), bv, some (.int (i : Nat)), some (.str ⟨#[c]⟩)] ∧ WordsAt T H5 p l (row ++ flushT cur) ∧ But p H H5 ∧ (row ++ flushT cur).length ≤ 2 * i + 1) (fun D hD => ?_) ?_
      · cases cur with
        | none => exact iteF (hD _ _ ⟨rfl, by rw [flushT, List.append_nil]; exact W3, hb3, by rw [flushT, List.append_nil]; omega⟩)
        | some ba =>
          obtain ⟨b, a⟩ := ba
          obtain ⟨hv, hbi, ea⟩ := hcur
          subst hv
          refine iteT ?_
          refine ⟨_, rfl, p, _, dx2, _, _, rfl, hw3, T.c_Words, T.n_Words_row, rfl, .inl ⟨rfl, _, SqL.of (K := K) W3.2.choose_spec.1⟩, ?_⟩
          refine ⟨_, rfl, _, rfl, _, rfl, _, rfl, _, rfl, z, rfl, Nat.le_of_lt (smallM (by omega)), _, rfl, (by show 2 ≤ sizeLine; decide), newQ (.tup [.str (cutS z (some (b : Int)) (some (i : Int))), .int (b : Nat)]) fun t1 _ s6 h6 => ?_⟩
          generalize upd H4 t1 (.tup [.str (cutS z (some (b : Int)) (some (i : Int))), .int (b : Nat)]) = H6 at s6 h6 ⊢
          obtain ⟨xs, x1, x2, x3⟩ := (W3.same s6).push pl h6
          refine ⟨l, xs, _, rfl, rfl, x1, smallM (by omega), hD _ _ ⟨rfl, ?_, (hb3.trans (s6.but p)).mut hl _, ?_⟩⟩
          · rw [cut_mid hbi hil, ← ea] at x3
            exact x3
          · rw [List.length_append]; show row.length + 1 ≤ _; omega
      rintro σ2 H5 ⟨rfl, W5, hb5, hl5⟩
      refine ⟨_, rfl, rfl, _, rfl, ?_⟩
      by_cases c32 : c = 32
      · subst c32
        refine iteF ?_
        refine ⟨none, _, _, _, _, rfl, by omega, rfl, W5, ?_, by omega, hb5⟩
        rw [if_pos rfl, List.append_nil, ← List.append_assoc] at htk
        exact htk
      · have e : (!decide (V.str ⟨#[c]⟩ = V.str " ")) = true := by
          have : ¬ V.str ⟨#[c]⟩ = V.str " " := fun e => c32 (one_blank (V.str.inj e))
          rw [decide_eq_false this]; rfl
        rw [e]
        refine iteT ?_
        obtain ⟨dx5, hw5⟩ := W5.1
        refine ⟨_, rfl, p, _, dx5, _, _, rfl, hw5, T.c_Words, T.n_Words_row, rfl, .inl ⟨rfl, _, SqL.of (K := K) W5.2.choose_spec.1⟩, ?_⟩
        refine ⟨_, rfl, _, rfl, (by show 2 ≤ sizeLine; decide), newQ (.tup [.str ⟨#[c]⟩, .int (i : Nat)]) fun t1 _ s6 h6 => ?_⟩
        generalize upd H5 t1 (.tup [.str ⟨#[c]⟩, .int (i : Nat)]) = H6 at s6 h6 ⊢
        obtain ⟨xs, x1, x2, x3⟩ := (W5.same s6).push pl h6
        refine ⟨l, xs, _, rfl, rfl, x1, smallM (by omega), none, _, _, _, _, rfl, by omega, rfl, x3, ?_, ?_, (hb5.trans (s6.but p)).mut hl _⟩
        · rw [if_neg c32, List.append_assoc, ← List.append_assoc] at htk
          rw [List.append_assoc]
          exact htk
        · rw [List.length_append]; show _ + 1 ≤ _; omega
    · rw [tk_plain hs] at htk
      cases cur with
      | none =>
        have hv : bv = some .non := hcur
        subst hv
        refine ⟨_, rfl, rfl, _, rfl, ?_⟩
        refine ⟨_, rfl, some (i, [c]), row, _, _, _, rfl, by omega, ⟨rfl, by omega, ?_⟩, W3, htk, by omega, hb3⟩
        rw [take_grow hc' (Nat.le_refl i), Nat.sub_self]; rfl
      | some ba =>
        obtain ⟨b, a⟩ := ba
        obtain ⟨hv, hbi, ea⟩ := hcur
        subst hv
        refine ⟨_, rfl, rfl, _, rfl, ?_⟩
        refine ⟨some (b, a ++ [c]), row, _, _, _, rfl, by omega, ⟨rfl, by omega, ?_⟩, W3, htk, by omega, hb3⟩
        rw [take_grow hc' hbi, ← ea]
  · rintro σ H2 ⟨cur, row, bv, v3, v4, rfl, hil, hcur, ⟨⟨dx2, hw⟩, hrow⟩, htk, hrl, hb⟩
    have ez : z.cps.size = z.cps.toList.length := rfl
    rw [ez, List.drop_length, tk] at htk
    have il : z.cps.size = z.length := rfl
    have W2 : WordsAt T H2 p l row := ⟨⟨dx2, hw⟩, hrow⟩
    dsimp only
    refine if_run (fun b H4 => b = cur.isSome ∧ H4 = H2) (fun Q' q' => ?_) ?_
    · cases cur with
      | none =>
        have hv : bv = some .non := hcur
        subst hv
        exact ⟨_, rfl, rfl, _, rfl, q' _ _ ⟨rfl, rfl⟩⟩
      | some ba =>
        obtain ⟨b, a⟩ := ba
        obtain ⟨hv, _, _⟩ := hcur
        subst hv
        exact ⟨_, rfl, rfl, _, rfl, q' _ _ ⟨rfl, rfl⟩⟩
    rintro b H4 ⟨rfl, rfl⟩
    refine mid_run (fun σ2 H5 => σ2 = [some (.ref p), some (.str z), bv, v3, v4] ∧ WordsAt T H5 p l (row ++ flushT cur) ∧ But p H H5 ∧ (row ++ flushT cur).length ≤ 2 * z.length + 1) (fun D hD => ?_) ?_
    · cases cur with
      | none => exact iteF (hD _ _ ⟨rfl, by rw [flushT, List.append_nil]; exact W2, hb, by rw [flushT, List.append_nil]; omega⟩)
      | some ba =>
        obtain ⟨b, a⟩ := ba
        obtain ⟨hv, hbi, ea⟩ := hcur
        subst hv
        refine iteT ?_
        refine ⟨_, rfl, p, _, dx2, _, _, rfl, hw, T.c_Words, T.n_Words_row, rfl, .inl ⟨rfl, _, SqL.of (K := K) W2.2.choose_spec.1⟩, ?_⟩
        refine ⟨_, rfl, _, rfl, _, rfl, z, rfl, Nat.le_of_lt (smallM (by omega)), _, rfl, (by show 2 ≤ sizeLine; decide), newQ (.tup [.str (cutS z (some (b : Int)) none), .int (b : Nat)]) fun t1 _ s6 h6 => ?_⟩
        generalize upd H4 t1 (.tup [.str (cutS z (some (b : Int)) none), .int (b : Nat)]) = H6 at s6 h6 ⊢
        obtain ⟨xs, x1, x2, x3⟩ := (W2.same s6).push pl h6
        refine ⟨l, xs, _, rfl, rfl, x1, smallM (by omega), hD _ _ ⟨rfl, ?_, (hb.trans (s6.but p)).mut hl _, ?_⟩⟩
        · rw [cut_end hbi] at x3
          have ea : a = (z.cps.toList.drop b).take (z.length - b) := ea
          rw [← ea] at x3
          exact x3
        · rw [List.length_append]; show row.length + 1 ≤ _; omega
    rintro σ2 H5 ⟨rfl, W5, hb5, hl5⟩
    obtain ⟨dx5, hw5⟩ := W5.1
    refine ⟨_, rfl, p, _, dx5, _, _, rfl, hw5, T.c_Words, T.n_Words_row, rfl, .inl ⟨rfl, _, SqL.of (K := K) W5.2.choose_spec.1⟩, ?_⟩
    refine ⟨_, rfl, z, rfl, Nat.le_of_lt (smallM (by omega)), (by show 2 ≤ sizeLine; decide), newQ (.tup [.str "", .int (z.length : Nat)]) fun t1 _ s6 h6 => ?_⟩
    generalize upd H5 t1 (.tup [.str "", .int (z.length : Nat)]) = H6 at s6 h6 ⊢
    obtain ⟨xs, x1, x2, x3⟩ := (W5.same s6).push pl h6
    refine ⟨l, xs, _, rfl, rfl, x1, smallM (by omega), ?_⟩
    refine q l _ ((hb5.trans (s6.but p)).mut hl _) hl ?_
    rw [← htk, ← List.append_assoc]
    exact x3
end
/-! ### formulas read -/
section
namespace Fm
def words : Fm → List Str
  | .lit b => [hLit b]
  | .name x => [x]
  | .val s => ["(", "value", s, ")"]
  | .mark s => ["(", "mark", s, ")"]
  | .bin b l r => "(" :: hBin b :: (l.words ++ r.words ++ [((")" : Str))])
  | .un b a => "(" :: hUn b :: (a.words ++ [((")" : Str))])
  | .fix b x a => "(" :: hFix b :: x :: (a.words ++ [((")" : Str))])
/-- the fields behind the head: texts and formulas -/
def fs2 : Fm → List (Str ⊕ Fm)
  | .lit _ => []
  | .val s | .mark s | .name s => [.inl s]
  | .bin _ l r => [.inr l, .inr r]
  | .un _ a => [.inr a]
  | .fix _ x a => [.inl x, .inr a]
def shape : Fm → List Str
  | .lit _ | .name _ => []
  | .val _ => ["value"]
  | .mark _ => ["name"]
  | .bin _ _ _ => ["part", "part"]
  | .un _ _ => ["part"]
  | .fix _ _ _ => ["name", "part"]
def inner (f : Fm) : Prop := f.kindOf ≠ 0 ∧ f.kindOf ≠ 3
def wordsOf : Str ⊕ Fm → List Str
  | .inl s => [s]
  | .inr g => g.words
theorem words_inner {f : Fm} (h : f.inner) : f.words = (("(" : Str)) :: f.head :: (f.fs2.flatMap wordsOf ++ [((")" : Str))]) := by
  cases f with
  | lit _ => exact absurd rfl h.1
  | name _ => exact absurd rfl h.2
  | bin b l r => simp [words, fs2, wordsOf, head]
  | _ => simp [words, fs2, wordsOf, head]
theorem shape_length {f : Fm} (h : f.inner) : f.shape.length = f.fs2.length := by
  cases f with
  | lit _ => exact absurd rfl h.1
  | name _ => exact absurd rfl h.2
  | _ => rfl
end Fm
/-- the words xs stand from i on -/
def Spans (ws : List (Str × Nat)) (i : Nat) (xs : List Str) : Prop := ∀ (j : Nat) (x : Str), xs[j]? = some x → ∃ k, ws[i + j]? = some (x, k)
theorem Spans.left {ws : List (Str × Nat)} {i : Nat} {xs ys : List Str} (h : Spans ws i (xs ++ ys)) : Spans ws i xs := fun j x e => h j x (by rw [List.getElem?_append_left (List.getElem?_eq_some_iff.mp e).1]; exact e)
theorem Spans.right {ws : List (Str × Nat)} {i : Nat} {xs ys : List Str} (h : Spans ws i (xs ++ ys)) : Spans ws (i + xs.length) ys := fun j x e => by
  obtain ⟨k, q⟩ := h (xs.length + j) x (by rw [List.getElem?_append_right (Nat.le_add_right _ _), Nat.add_sub_cancel_left]; exact e)
  exact ⟨k, by rw [Nat.add_assoc]; exact q⟩
/-- what a field is read by -/
def FieldOk (sh : Str) : Str ⊕ Fm → Prop
  | .inl s => (sh = "name" ∧ NameOk s) ∨ (sh = "value" ∧ s ∈ vals)
  | .inr g => sh = "part" ∧ g.Lk NameOk (· ∈ vals)
theorem Fm.fields_ok {f : Fm} (h : f.Lk NameOk (· ∈ vals)) {j : Nat} {sh : Str} {fd : Str ⊕ Fm} (h1 : f.shape[j]? = some sh) (h2 : f.fs2[j]? = some fd) : FieldOk sh fd := by
  cases f with
  | lit _ | name _ => simp [Fm.shape] at h1
  | val s =>
    match j, h1, h2 with
    | 0, h1, h2 => cases h1; cases h2; exact .inr ⟨rfl, h⟩
  | mark s =>
    match j, h1, h2 with
    | 0, h1, h2 => cases h1; cases h2; exact .inl ⟨rfl, h⟩
  | bin b l r =>
    match j, h1, h2 with
    | 0, h1, h2 => cases h1; cases h2; exact ⟨rfl, h.1⟩
    | 1, h1, h2 => cases h1; cases h2; exact ⟨rfl, h.2⟩
  | un b a =>
    match j, h1, h2 with
    | 0, h1, h2 => cases h1; cases h2; exact ⟨rfl, h⟩
  | fix b x a =>
    match j, h1, h2 with
    | 0, h1, h2 => cases h1; cases h2; exact .inl ⟨rfl, h.1⟩
    | 1, h1, h2 => cases h1; cases h2; exact ⟨rfl, h.2⟩
def fdDepth : Str ⊕ Fm → Nat
  | .inl _ => 0
  | .inr g => g.depth
theorem Fm.fs2_depth {f : Fm} {j : Nat} {fd : Str ⊕ Fm} (h : f.fs2[j]? = some fd) : fdDepth fd < f.depth := by
  have dp := f.depth_pos
  cases fd with
  | inl s => exact dp
  | inr g =>
    refine Fm.parts_depth (f := f) ?_
    have m := List.mem_of_getElem? h
    cases f with
    | lit _ => simp [Fm.fs2] at m
    | val _ | mark _ | name _ => simp [Fm.fs2] at m
    | bin b l r => simpa [Fm.fs2, Fm.parts] using m
    | un b a => simpa [Fm.fs2, Fm.parts] using m
    | fix b x a => simpa [Fm.fs2, Fm.parts] using m
variable {P : Program} {w : World} {K : PySem.W.Frag} {mg : Str → Option Value} {base : Heap}
def FdAt (K : PySem.W.Frag) (H : Hp) : Str ⊕ Fm → V → Prop
  | .inl s, v => v = .str s
  | .inr g, v => Rf K H g v
theorem FdAt.keep {H H' : Hp} (k : Keeps H H') : ∀ {fd : Str ⊕ Fm} {v : V}, FdAt K H fd v → FdAt K H' fd v
  | .inl _, _, h => h
  | .inr _, _, h => Rf.keep k h
/-- fields that stand make the rest of a formula -/
theorem rest_of {H : Hp} {f : Fm} (hi : f.inner) {vs : List V} (hl : vs.length = f.fs2.length) (h : ∀ (j : Nat) (v : V), vs[j]? = some v → ∃ fd, f.fs2[j]? = some fd ∧ FdAt K H fd v) : Rest K H f vs := by
  cases f with
  | lit _ => exact absurd rfl hi.1
  | name _ => exact absurd rfl hi.2
  | val s =>
    match vs, hl with
    | [v], _ => obtain ⟨fd, e, q⟩ := h 0 v rfl; cases e; rw [show v = .str s from q]; rfl
  | mark s =>
    match vs, hl with
    | [v], _ => obtain ⟨fd, e, q⟩ := h 0 v rfl; cases e; rw [show v = .str s from q]; rfl
  | bin b l r =>
    match vs, hl with
    | [v, u], _ => obtain ⟨fd, e, q⟩ := h 0 v rfl; cases e; obtain ⟨fd, e, q2⟩ := h 1 u rfl; cases e; exact ⟨v, u, rfl, q, q2⟩
  | un b a =>
    match vs, hl with
    | [v], _ => obtain ⟨fd, e, q⟩ := h 0 v rfl; cases e; exact ⟨v, rfl, q⟩
  | fix b x a =>
    match vs, hl with
    | [v, u], _ => obtain ⟨fd, e, q⟩ := h 0 v rfl; cases e; obtain ⟨fd, e, q2⟩ := h 1 u rfl; cases e; rw [show v = .str x from q]; exact ⟨u, rfl, q2⟩
theorem WordsAt.look {T : Tx K mg w} {H : Hp} {p l : Addr} {ws : List (Str × Nat)} (h : WordsAt T H p l ws) {i k : Nat} {s : Str} (e : ws[i]? = some (s, k)) :
    ∃ dx xs t, H p = some (.ins T.a_Words dx [("row", .ref l)]) ∧ SqL K H l xs ∧ atI xs (i : Nat) = some (.ref t) ∧ SqT K H t [.str s, .int (k : Nat)] := by
  obtain ⟨⟨dx, a⟩, xs, b, c, d⟩ := h
  obtain ⟨t, e1, e2⟩ := d i s k e
  exact ⟨dx, xs, t, a, SqL.of (K := K) b, atI_nat e1, e2⟩
theorem Tx.shapes (T : Tx K mg w) {f : Fm} (h : f.inner) : ∃ t, KDct K w T.a_SHAPES f.head (.ref t) ∧ ∀ H, SqT K H t (f.shape.map V.str) := by
  have go : ∀ {s : Str} {xs : List V}, (∃ t, PySem.W.nsIn K T.a_SHAPES s = some (some (.ref t)) ∧ ∀ H, SqT K H t xs) → ∃ t, KDct K w T.a_SHAPES s (.ref t) ∧ ∀ H, SqT K H t xs :=
    fun {s xs} ⟨t, a, b⟩ => ⟨t, ⟨_, _, _, T.l_SHAPES, T.y_SHAPES, a, rfl⟩, b⟩
  cases f with
  | lit _ => exact absurd rfl h.1
  | name _ => exact absurd rfl h.2
  | val _ => exact go T.k_SHAPES_value
  | mark _ => exact go T.k_SHAPES_mark
  | bin b _ _ => cases b; exact go T.k_SHAPES_or; exact go T.k_SHAPES_and
  | un b _ => cases b; exact go T.k_SHAPES_all; exact go T.k_SHAPES_some
  | fix b _ _ => cases b; exact go T.k_SHAPES_most; exact go T.k_SHAPES_least
end
section
variable {P : Program} {w : World} {K : PySem.W.Frag} {mg : Str → Option Value} {base : Heap}
def sp_fat (T : Tx K mg w) (n : Nat) : Sp := fun vs H Q _ => ∃ (p l : Addr) (ws : List (Str × Nat)) (i lv : Nat) (f : Fm), vs = [.ref p, .int i, .int lv] ∧ WordsAt T H p l ws ∧ f.Lk NameOk (· ∈ vals) ∧ f.depth ≤ n ∧ Spans ws i f.words ∧ lv + f.depth ≤ 40 ∧
  ∀ (r : Addr) (v : V) (H' : Hp), Same H H' → SqT K H' r [v, .int ((i + f.words.length : Nat) : Int)] → Rf K H' f v → Q (.ref r) H'
def sp_field (T : Tx K mg w) (n : Nat) : Sp := fun vs H Q _ => ∃ (p l : Addr) (ws : List (Str × Nat)) (sh : Str) (i lv : Nat) (fd : Str ⊕ Fm), vs = [.ref p, .str sh, .int i, .int lv] ∧ WordsAt T H p l ws ∧ FieldOk sh fd ∧ fdDepth fd ≤ n ∧ Spans ws i (Fm.wordsOf fd) ∧ lv + fdDepth fd ≤ 40 ∧
  ∀ (r : Addr) (v : V) (H' : Hp), Same H H' → SqT K H' r [v, .int ((i + (Fm.wordsOf fd).length : Nat) : Int)] → FdAt K H' fd v → Q (.ref r) H'
theorem vals_no : ∀ s ∈ vals, ¬ (s = "" ∨ s = "(" ∨ s = ")") := by decide +kernel
theorem NameOk.no {x : Str} (h : NameOk x) : ¬ (x = "" ∨ x = "(" ∨ x = ")") := by
  have e : ¬ isLow 40 = true ∧ ¬ isLow 41 = true := by decide
  obtain ⟨c, a, b⟩ := h.first
  rintro (rfl | rfl | rfl)
  · have := h.pos; exact absurd this (by decide +kernel)
  · have : c = 40 := (Option.some.inj ((show (("(" : Str)).cps.toList[0]? = some 40 by decide +kernel).symm.trans a)).symm
    rw [this] at b; exact e.1 b
  · have : c = 41 := (Option.some.inj ((show ((")" : Str)).cps.toList[0]? = some 41 by decide +kernel).symm.trans a)).symm
    rw [this] at b; exact e.2 b
theorem inV3 (x a b c : Str) : inV (.str x) [.str a, .str b, .str c] = decide (x = a ∨ x = b ∨ x = c) := by
  show ((a == x) || ((b == x) || ((c == x) || false))) = _
  have e : ∀ y : Str, (y == x) = decide (x = y) := fun y => by
    by_cases h : x = y
    · subst h; simp
    · have : ¬ y = x := fun e => h e.symm
      simp [h, this]
  rw [e, e, e, Bool.or_false]
  by_cases h1 : x = a <;> by_cases h2 : x = b <;> by_cases h3 : x = c <;> simp [h1, h2, h3]
theorem ok_field (T : Tx K mg w) (n : Nat) (G_Words_formula_at : FnOk P w K mg base CX0 (2 * n + 1) T.a_Words_formula_at T.d_Words_formula_at ["self", "number", "level"] (sp_fat T n)) :
    FnOk P w K mg base CX0 (2 * n + 2) T.a_Words_field_at T.d_Words_field_at ["self", "shape", "number", "level"] (sp_field T n) := by
  have G_is_name := ok_is_name (P := P) (base := base) T
  have G_Words_need := ok_need (P := P) (w := w) (base := base) T
  refine T.F_Words_field_at.ok sc_Words_field_at (fun vs H Q E h => ?_) (fun cdv A outer s H vs Q E hr h => ?_)
  · obtain ⟨p, l, ws, sh, i, lv, fd, rfl, _⟩ := h
    rfl
  obtain ⟨p, l, ws, sh, i, lv, fd, rfl, W, hfd, hd, hsp, hlv, q⟩ := h
  refine ⟨_, pss_cons (ps_if (pt_cmpR op_eq (pv 1) pe_str (nomark _)) (pss_one (ps_ret (pe_meth (pv 0) T.c_Words T.m_Words_formula_at G_Words_formula_at (hr.mono (by omega)) T.b_Words_formula_at .nil pass0 (pa_cons (pv 2) (pa_cons (pv 3) pa_nil))))) pss_nil)
    (pss_cons (ps_set (i := 4) sc_Words_field_at.nd rfl (Or.inl rfl) (pe_ix ix_tup (pe_ix ix_list (pe_fld (pv 0) rfl) (pv 2) (fun _ _ => rfl)) pe_int (fun _ _ => rfl)))
    (pss_cons (ps_if (pt_cmpR op_eq (pv 1) pe_str (nomark _)) (pss_one (ps_expr (pe_meth (pv 0) T.c_Words T.m_Words_need G_Words_need (hr.mono (by omega)) T.b_Words_need .nil pass0 (pa_cons (pv 2) (pa_cons (pe_call G_is_name (hr.mono (by omega)) (by rfl) T.g_is_name T.F_is_name.kp T.b_is_name .nil pass0 (pa_cons (pv 4) pa_nil)) pa_nil))))) pss_nil)
    (pss_cons (ps_expr (pe_meth (pv 0) T.c_Words T.m_Words_need G_Words_need (hr.mono (by omega)) T.b_Words_need .nil pass0 (pa_cons (pv 2) (pa_cons (pe_cmpR op_notIn_seq (pv 4) (pe_tup (pa_cons pe_str (pa_cons pe_str (pa_cons pe_str pa_nil)))) (by rfl)) pa_nil))))
    (pss_one (ps_ret (pe_tup (pa_cons (pv 4) (pa_cons (pe_op op_add (pv 2) pe_int) pa_nil)))))))), ?_⟩
  refine ⟨_, rfl, rfl, _, rfl, ?_⟩
  cases fd with
  | inr g =>
    obtain ⟨rfl, hg⟩ := hfd
    rw [eq_str, show (("part" : Str) == (Str.ofString "part")) = true from by decide +kernel]
    refine iteT ?_
    obtain ⟨dx, hp⟩ := W.1
    exact ⟨_, rfl, p, dx, _, rfl, hp, rfl, _, rfl, _, rfl, p, l, ws, i, lv, g, rfl, W, hg, hd, hsp, hlv, fun r v H' s' ht rf => q r v H' s' ht rf⟩
  | inl x =>
    have shn : (sh == (Str.ofString "part")) = false := by
      rcases hfd with ⟨rfl, _⟩ | ⟨rfl, _⟩ <;> decide +kernel
    rw [eq_str, shn]
    refine iteF ?_
    obtain ⟨k, ek⟩ := hsp 0 x rfl
    obtain ⟨dx, xs, t, hp, hl, ha, ht⟩ := W.look ek
    refine ⟨_, rfl, p, _, dx, _, _, rfl, hp, T.c_Words, T.n_Words_row, rfl, _, rfl, l, xs, _, _, rfl, rfl, hl, ha, t, _, _, _, rfl, rfl, ht, atI_nat (j := 0) rfl, ?_⟩
    dsimp only [gName]
    refine if_run (fun b H2 => b = (sh == (Str.ofString "name")) ∧ H2 = H) (fun Q' q' => ⟨_, rfl, rfl, _, rfl, q' _ _ ⟨eq_str _ _, rfl⟩⟩) ?_
    rintro b H2 ⟨rfl, rfl⟩
    refine mid_run (fun σ2 H3 => σ2 = [some (.ref p), some (.str sh), some (.int i), some (.int lv), some (.str x)] ∧ Same H2 H3) (fun D hD => ?_) ?_
    · rcases hfd with ⟨rfl, nx⟩ | ⟨rfl, nx⟩
      · rw [show (("name" : Str) == (Str.ofString "name")) = true from by decide +kernel]
        refine iteT ?_
        exact ⟨_, rfl, p, dx, _, rfl, hp, rfl, _, rfl, _, rfl, x, rfl, nx, fun H3 s3 => ⟨p, _, rfl, fun H4 s4 => hD _ _ ⟨rfl, s3.trans s4⟩⟩⟩
      · rw [show (("value" : Str) == (Str.ofString "name")) = false from by decide +kernel]
        exact iteF (hD _ _ ⟨rfl, Same.refl _⟩)
    rintro σ2 H3 ⟨rfl, s3⟩
    have nx : ¬ (x = "" ∨ x = "(" ∨ x = ")") := by
      rcases hfd with ⟨_, nx⟩ | ⟨_, nx⟩
      · exact nx.no
      · exact vals_no x nx
    refine ⟨_, rfl, p, dx, _, rfl, s3.at hp, rfl, _, rfl, _, rfl, (by show 3 ≤ sizeLine; decide), newQ (.tup [.str "", .str "(", .str ")"]) fun t2 _ s4 h4 => ?_⟩
    generalize upd H3 t2 (.tup [.str "", .str "(", .str ")"]) = H4 at s4 h4 ⊢
    refine ⟨t2, _, rfl, .inr (SqT.of (K := K) h4), rfl, rfl, ?_⟩
    rw [show (if true = true then !inV (.str x) [.str "", .str "(", .str ")"] else inV (.str x) [.str "", .str "(", .str ")"]) = true from by rw [if_pos rfl, inV3, decide_eq_false nx]; rfl]
    refine ⟨p, _, rfl, fun H5 s5 => ?_⟩
    refine ⟨_, rfl, _, rfl, _, _, rfl, rfl, (by show 2 ≤ sizeLine; decide), newO fun r H6 _ s6 h6 => ?_⟩
    exact q r (.str x) H6 (((s3.trans s4).trans s5).trans s6) (SqT.of (K := K) h6) rfl
theorem ok_fat (T : Tx K mg w) : ∀ n, FnOk P w K mg base CX0 (2 * n + 1) T.a_Words_formula_at T.d_Words_formula_at ["self", "number", "level"] (sp_fat T n)
  | 0 => by
    have no : ∀ vs H Q E, ¬ sp_fat T 0 vs H Q E := fun vs H Q E ⟨p, l, ws, i, lv, f, _, _, _, hd, _⟩ => by have := f.depth_pos; omega
    exact ⟨fun vs H Q E h => absurd h (no vs H Q E), fun A outer s H args us vs Q E _ _ _ _ h => absurd h (no vs H Q E)⟩
  | n + 1 => by
    have G_Words_field_at := ok_field (P := P) (base := base) T n (ok_fat T n)
    have G_is_name := ok_is_name (P := P) (base := base) T
    have G_Words_need := ok_need (P := P) (w := w) (base := base) T
    refine T.F_Words_formula_at.ok sc_Words_formula_at (fun vs H Q E h => ?_) (fun cdv A outer s H vs Q E hr h => ?_)
    · obtain ⟨p, l, ws, i, lv, f, rfl, _⟩ := h
      rfl
    obtain ⟨p, l, ws, i, lv, f, rfl, W, lk, hd, hsp, hlv, q⟩ := h
    refine ⟨_, pss_cons (ps_set (i := 3) sc_Words_formula_at.nd rfl (Or.inl rfl) (pe_ix ix_tup (pe_ix ix_list (pe_fld (pv 0) rfl) (pv 1) (fun _ _ => rfl)) pe_int (fun _ _ => rfl)))
    (pss_cons (ps_if (pt_cmpR op_in_seq (pv 3) (pe_tup (pa_cons pe_str (pa_cons pe_str pa_nil))) (by rfl)) (pss_one (ps_ret (pe_tup (pa_cons (pe_tup (pa_cons (pv 3) pa_nil)) (pa_cons (pe_op op_add (pv 1) pe_int) pa_nil))))) pss_nil)
    (pss_cons (ps_if (pt_cmpR op_ne (pv 3) pe_str (nomark _)) (pss_cons (ps_expr (pe_meth (pv 0) T.c_Words T.m_Words_need G_Words_need (hr.mono (by omega)) T.b_Words_need .nil pass0 (pa_cons (pv 1) (pa_cons (pe_call G_is_name (hr.mono (by omega)) (by rfl) T.g_is_name T.F_is_name.kp T.b_is_name .nil pass0 (pa_cons (pv 3) pa_nil)) pa_nil))))
    (pss_one (ps_ret (pe_tup (pa_cons (pe_tup (pa_cons pe_str (pa_cons (pv 3) pa_nil))) (pa_cons (pe_op op_add (pv 1) pe_int) pa_nil)))))) pss_nil)
    (pss_cons (ps_expr (pe_meth (pv 0) T.c_Words T.m_Words_need G_Words_need (hr.mono (by omega)) T.b_Words_need .nil pass0 (pa_cons (pv 1) (pa_cons (pe_cmpR op_lt (pv 2) (pe_glob (v := .int 40) (by rfl) T.g_MOST_LEVELS.choose_spec ⟨_, rfl⟩) (nomark _)) pa_nil))))
    (pss_cons (ps_set (i := 4) sc_Words_formula_at.nd rfl (Or.inl rfl) (pe_ix ix_tup (pe_ix ix_list (pe_fld (pv 0) rfl) (pe_op op_add (pv 1) pe_int) (fun _ _ => rfl)) pe_int (fun _ _ => rfl)))
    (pss_cons (ps_expr (pe_meth (pv 0) T.c_Words T.m_Words_need G_Words_need (hr.mono (by omega)) T.b_Words_need .nil pass0 (pa_cons (pe_op op_add (pv 1) pe_int) (pa_cons (pe_cmpR (op_in_kd ⟨T.l_SHAPES, T.y_SHAPES, T.lo_SHAPES⟩) (pv 4) (pe_glob (v := .ref T.a_SHAPES) (by rfl) T.g_SHAPES rfl) (by rfl)) pa_nil))))
    (pss_cons (ps_set (i := 5) sc_Words_formula_at.nd rfl (Or.inl rfl) (pe_lst (pa_cons (pv 4) pa_nil)))
    (pss_cons (ps_set (i := 6) sc_Words_formula_at.nd rfl (Or.inl rfl) (pe_op op_add (pv 1) pe_int))
    (pss_cons (ps_for PassesOwn.never rfl (pi_tup (pe_ix ix_kdict (pe_glob (v := .ref T.a_SHAPES) (by rfl) T.g_SHAPES rfl) (pv 4) (fun _ _ => rfl))) (pg_name (i := 7) sc_Words_formula_at.nd rfl (Or.inl rfl)) (pss_cons (ps_asg (pe_meth (pv 0) T.c_Words T.m_Words_field_at G_Words_field_at (hr.mono (by omega)) T.b_Words_field_at .nil pass0 (pa_cons (pv 7) (pa_cons (pv 6) (pa_cons (pe_op op_add (pv 2) pe_int) pa_nil)))) (pg_tup rfl (pgs_cons (pg_name (i := 8) sc_Words_formula_at.nd rfl (Or.inl rfl)) (pgs_cons (pg_name (i := 6) sc_Words_formula_at.nd rfl (Or.inl rfl)) pgs_nil))))
    (pss_one (ps_expr (pe_bm PySem.F.plainAttrs_list PySem.F.slot_list_append PySem.F.type_list_append mt_append (pv 5) (pa_cons (pv 8) pa_nil))))))
    (pss_cons (ps_expr (pe_meth (pv 0) T.c_Words T.m_Words_need G_Words_need (hr.mono (by omega)) T.b_Words_need .nil pass0 (pa_cons (pv 6) (pa_cons (pe_cmpR op_eq (pe_ix ix_tup (pe_ix ix_list (pe_fld (pv 0) rfl) (pv 6) (fun _ _ => rfl)) pe_int (fun _ _ => rfl)) pe_str (nomark _)) pa_nil))))
    (pss_one (ps_ret (pe_tup (pa_cons (pe_callTy call_tuple_of (by rfl) T.n_tuple (by decide +kernel) (pa_cons (pv 5) pa_nil)) (pa_cons (pe_op op_add (pv 6) pe_int) pa_nil)))))))))))))), ?_⟩
    obtain ⟨w0, kw, ew, ew2⟩ : ∃ w0 k, f.words[0]? = some w0 ∧ ws[i]? = some (w0, k) := by
      have : f.words ≠ [] := by cases f <;> simp [Fm.words]
      cases e : f.words with
      | nil => exact absurd e this
      | cons a r => obtain ⟨k, q⟩ := hsp 0 a (by rw [e]; rfl); exact ⟨a, k, rfl, q⟩
    obtain ⟨dx, xs, t, hp, hl, ha, ht⟩ := W.look ew2
    refine ⟨_, rfl, p, _, dx, _, _, rfl, hp, T.c_Words, T.n_Words_row, rfl, _, rfl, l, xs, _, _, rfl, rfl, hl, ha, t, _, _, _, rfl, rfl, ht, atI_nat (j := 0) rfl, ?_⟩
    refine ⟨_, rfl, (by show 2 ≤ sizeLine; decide), newQ (.tup [.str "true", .str "false"]) fun t1 _ s1 h1 => ?_⟩
    generalize upd H t1 (.tup [.str "true", .str "false"]) = H1 at s1 h1 ⊢
    refine ⟨t1, _, rfl, .inr (SqT.of (K := K) h1), rfl, rfl, _, rfl, ?_⟩
    rw [show (if false = true then !inV (.str w0) [.str "true", .str "false"] else inV (.str w0) [.str "true", .str "false"]) = (w0 == "true" || w0 == "false") from inV_str _ _ _]
    by_cases c0 : f.kindOf = 0
    · obtain ⟨b, rfl⟩ := kind_lit c0
      have e0 : w0 = Fm.hLit b := (Option.some.inj ew).symm
      subst e0
      rw [show (Fm.hLit b == "true" || Fm.hLit b == "false") = true from by cases b <;> decide +kernel]
      refine iteT ?_
      refine ⟨_, rfl, (by show 1 ≤ sizeLine; decide), newQ (.tup [.str (Fm.hLit b)]) fun t2 _ s2 h2 => ?_⟩
      generalize upd H1 t2 (.tup [.str (Fm.hLit b)]) = H2 at s2 h2 ⊢
      refine ⟨_, rfl, _, _, rfl, rfl, (by show 2 ≤ sizeLine; decide), newO fun r H3 _ s3 h3 => ?_⟩
      exact q r (.ref t2) H3 ((s1.trans s2).trans s3) (SqT.of (K := K) h3) ⟨t2, rfl, SqT.of (K := K) (s3.at h2)⟩
    by_cases c3 : f.kindOf = 3
    · obtain ⟨x, rfl⟩ := kind_name c3
      have e0 : w0 = x := (Option.some.inj ew).symm
      subst e0
      have nx : NameOk w0 := lk
      rw [show (w0 == "true" || w0 == "false") = false from by
        rw [Bool.or_eq_false_iff]
        exact ⟨beq_eq_false_iff_ne.mpr (nx.not (by decide +kernel)), beq_eq_false_iff_ne.mpr (nx.not (by decide +kernel))⟩]
      refine iteF ?_
      have np : ¬ w0 = "(" := fun e => nx.no (.inr (.inl e))
      refine ⟨_, rfl, rfl, _, rfl, ?_⟩
      rw [eq_str, show (w0 == (Str.ofString "(")) = false from beq_eq_false_iff_ne.mpr np]
      refine iteT ?_
      refine ⟨_, rfl, p, dx, _, rfl, s1.at hp, rfl, _, rfl, _, rfl, w0, rfl, nx, fun H2 s2 => ⟨p, _, rfl, fun H3 s3 => ?_⟩⟩
      refine ⟨_, rfl, (by show 2 ≤ sizeLine; decide), newQ (.tup [.str "name", .str w0]) fun t2 _ s4 h4 => ?_⟩
      generalize upd H3 t2 (.tup [.str "name", .str w0]) = H4 at s4 h4 ⊢
      refine ⟨_, rfl, _, _, rfl, rfl, (by show 2 ≤ sizeLine; decide), newO fun r H5 _ s5 h5 => ?_⟩
      exact q r (.ref t2) H5 ((((s1.trans s2).trans s3).trans s4).trans s5) (SqT.of (K := K) h5) ⟨t2, rfl, SqT.of (K := K) (s5.at h4)⟩
    have inn : f.inner := ⟨c0, c3⟩
    rw [Fm.words_inner inn] at ew
    have e0 : w0 = "(" := (Option.some.inj ew).symm
    subst e0
    rw [show ((("(" : Str)) == "true" || (("(" : Str)) == "false") = false from by decide +kernel]
    refine iteF ?_
    refine ⟨_, rfl, rfl, _, rfl, ?_⟩
    rw [eq_str, show ((("(" : Str)) == (Str.ofString "(")) = true from by decide +kernel]
    refine iteF ?_
    have dp2 : 2 ≤ f.depth ∨ f.depth = 1 := by have := f.depth_pos; omega
    have lv40 : lv < 40 := by have := f.depth_pos; omega
    refine ⟨_, rfl, p, dx, _, rfl, s1.at hp, rfl, _, rfl, _, rfl, _, _, rfl, rfl, ?_⟩
    refine ⟨p, (i : Int), (by show [V.ref p, V.int i, V.bl (decide ((lv : Int) < 40))] = _; rw [decide_eq_true (show ((lv : Nat) : Int) < 40 by omega)]), fun H2 s2 => ?_⟩
    have s02 := s1.trans s2
    rw [Fm.words_inner inn] at hsp
    obtain ⟨k2, e2⟩ := hsp 1 f.head rfl
    obtain ⟨_, xs2, t2, hp2, hl2, ha2, ht2⟩ := (W.same s02).look e2
    have ha2' : atI xs2 ((i : Int) + 1) = some (.ref t2) := by rw [show ((i : Int) + 1) = ((i + 1 : Nat) : Int) by omega]; exact ha2
    refine ⟨_, rfl, p, _, _, _, _, rfl, hp2, T.c_Words, T.n_Words_row, rfl, _, rfl, _, _, rfl, rfl, l, xs2, _, _, rfl, rfl, hl2, ha2', t2, _, _, _, rfl, rfl, ht2, atI_nat (j := 0) rfl, ?_⟩
    obtain ⟨ts, kd, hts⟩ := T.shapes inn
    obtain ⟨es0, n0, u0, _, _, kn, _⟩ := id kd
    refine ⟨_, rfl, p, _, _, rfl, hp2, rfl, _, rfl, _, _, rfl, rfl, _, rfl, f.head, _, rfl, rfl, kn, p, _, rfl, fun H3 s3 => ?_⟩
    refine ⟨_, rfl, (by show 1 ≤ sizeLine; decide), newQ (.lst [.str f.head]) fun lf hlf s4 h4 => ?_⟩
    generalize upd H3 lf (.lst [.str f.head]) = H4 at s4 h4 ⊢
    refine ⟨_, rfl, _, _, rfl, rfl, _, rfl, _, _, _, rfl, rfl, kd, ts, rfl, ⟨_, hts H4⟩, ?_⟩
    have s04 := (s02.trans s3).trans s4
    have nl : H lf = none := by
      cases e : H lf with
      | none => rfl
      | some o => rw [(s02.trans s3) lf o e] at hlf; cases hlf
    refine for_it (walk_tup (K := K) (a := ts) (xs := f.shape.map V.str)) (fun j σ H5 => ∃ (vs : List V) (v7 v8 : Option V), σ = [some (.ref p), some (.int i), some (.int lv), some (.str "("), some (.str f.head), some (.ref lf), some (.int ((i + 2 + ((f.fs2.take j).flatMap Fm.wordsOf).length : Nat) : Int)), v7, v8] ∧
      Same H H5 ∧ H5 lf = some (.lst (.str f.head :: vs)) ∧ vs.length = j ∧ j ≤ f.fs2.length ∧ ∀ (m : Nat) (v : V), vs[m]? = some v → ∃ fd, f.fs2[m]? = some fd ∧ FdAt K H5 fd v)
      ⟨[], none, none, rfl, s04, h4, rfl, Nat.zero_le _, fun m v h => by simp at h⟩ (fun _ _ H5 _ _ => hts H5) ?_ ?_
    · rintro j x σ H5b H5 hj ⟨vs, v7, v8, rfl, s5, h5, el, hjl, hV⟩ ⟨rfl, hx⟩
      rw [List.getElem?_map] at hx
      obtain ⟨sh, hsh, rfl⟩ := Option.map_eq_some_iff.mp hx
      have jl : j < f.fs2.length := by rw [← Fm.shape_length inn]; exact (List.getElem?_eq_some_iff.mp hsh).1
      obtain ⟨fd, hfd⟩ : ∃ fd, f.fs2[j]? = some fd := ⟨_, List.getElem?_eq_getElem jl⟩
      have fdd := Fm.fs2_depth hfd
      obtain ⟨dx5, hp5⟩ := (W.same s5).1
      have sp3 : Spans ws (i + 2 + ((f.fs2.take j).flatMap Fm.wordsOf).length) (Fm.wordsOf fd) := by
        have e : f.fs2 = f.fs2.take j ++ (fd :: f.fs2.drop (j + 1)) := by
          have := List.getElem?_eq_some_iff.mp hfd
          obtain ⟨hl', ee⟩ := this
          rw [← ee, ← List.drop_eq_getElem_cons hl', List.take_append_drop]
        have h2 : Spans ws (i + 2) (f.fs2.flatMap Fm.wordsOf ++ [((")" : Str))]) := by
          have := Spans.right (xs := [(("(" : Str)), f.head]) (ys := f.fs2.flatMap Fm.wordsOf ++ [((")" : Str))]) hsp
          exact this
        rw [e, List.flatMap_append, List.flatMap_cons] at h2
        exact h2.left.right.left
      refine ⟨_, rfl, p, dx5, _, rfl, hp5, rfl, _, rfl, _, rfl, _, rfl, _, _, rfl, rfl, p, l, ws, sh, (i + 2 + ((f.fs2.take j).flatMap Fm.wordsOf).length), lv + 1, fd, ?_, W.same s5, Fm.fields_ok lk hsh hfd, by omega, sp3, by omega, fun r v H7 s7 ht fa => ?_⟩
      · show [V.ref p, V.str sh, V.int _, V.int ((lv : Int) + 1)] = _
        rw [show ((lv : Int) + 1) = ((lv + 1 : Nat) : Int) by omega]
      have h7 := s7.at h5
      refine ⟨r, _, rfl, ht, rfl, _, _, rfl, _, _, rfl, rfl, ?_⟩
      have lfl : vs.length ≤ 10 := by
        have : f.fs2.length ≤ 2 := by cases f <;> simp [Fm.fs2]
        omega
      refine ⟨_, rfl, .inl ⟨rfl, _, SqL.of (K := K) h7⟩, _, rfl, lf, _, _, rfl, rfl, h7, smallM (by rw [List.length_cons]; omega), ?_⟩
      refine ⟨vs ++ [v], some (.str sh), some v, ?_, (s5.trans s7).mut nl _, upd_same, by rw [List.length_append, el]; rfl, jl, fun m u hu => ?_⟩
      · rw [take_snoc hfd, List.flatMap_append, List.length_append, List.flatMap_cons, List.flatMap_nil, List.append_nil, ← Nat.add_assoc (i + 2)]
        rfl
      · have kk : Keeps H7 (upd H7 lf (.lst (V.str f.head :: vs ++ [v]))) := (Keeps.refl H7).mut h7 trivial
        rcases snoc_at hu with hu | ⟨e1, e2⟩
        · obtain ⟨fd', a1, a2⟩ := hV m u hu
          exact ⟨fd', a1, (a2.keep s7.keeps).keep kk⟩
        · rw [e1, e2, el]
          exact ⟨fd, hfd, fa.keep kk⟩
    · rintro σ H5 ⟨vs, v7, v8, rfl, s5, h5, el, hjl, hV⟩
      rw [List.length_map, Fm.shape_length inn] at el
      have etk : (f.shape.map V.str).length = f.fs2.length := by rw [List.length_map, Fm.shape_length inn]
      rw [etk, List.take_length]
      have h2 : Spans ws (i + 2) (f.fs2.flatMap Fm.wordsOf ++ [((")" : Str))]) := Spans.right (xs := [(("(" : Str)), f.head]) (ys := f.fs2.flatMap Fm.wordsOf ++ [((")" : Str))]) hsp
      obtain ⟨k6, e6⟩ := h2.right 0 _ rfl
      obtain ⟨dx6, xs6, t6, hp6, hl6, ha6, ht6⟩ := (W.same s5).look e6
      rw [Nat.add_zero] at ha6
      refine ⟨_, rfl, p, dx6, _, rfl, hp6, rfl, _, rfl, _, rfl, p, _, _, _, _, rfl, hp6, T.c_Words, T.n_Words_row, rfl, _, rfl, l, xs6, _, _, rfl, rfl, hl6, ha6, t6, _, _, _, rfl, rfl, ht6, atI_nat (j := 0) rfl, rfl, p, _, rfl, fun H6 s6 => ?_⟩
      refine ⟨_, rfl, lf, _, rfl, .inl ⟨SqL.of (K := K) (s6.at h5), newQ (.tup (.str f.head :: vs)) fun t7 _ s7 h7 => ?_⟩⟩
      generalize upd H6 t7 (.tup (.str f.head :: vs)) = H7 at s7 h7 ⊢
      refine ⟨_, rfl, _, _, rfl, rfl, (by show 2 ≤ sizeLine; decide), newO fun r H8 _ s8 h8 => ?_⟩
      have s58 := (s6.trans s7).trans s8
      refine q r (.ref t7) H8 (s5.trans s58) (SqT.of (K := K) ?_) (Rf.in_ (SqT.of (K := K) (s8.at h7)) (rest_of inn el fun m v hv => by obtain ⟨fd, a1, a2⟩ := hV m v hv; exact ⟨fd, a1, a2.keep s58.keeps⟩))
      rw [h8, Fm.words_inner inn]
      congr 4
      rw [List.length_cons, List.length_cons, List.length_append]
      show V.int (((i + 2 + (f.fs2.flatMap Fm.wordsOf).length : Nat) : Int) + 1) = V.int ((i + ((f.fs2.flatMap Fm.wordsOf).length + 1 + 1 + 1) : Nat) : Int)
      congr 1
      omega
end
section
variable {P : Program} {w : World} {K : PySem.W.Frag} {mg : Str → Option Value} {base : Heap}
theorem spans_of {ws : List (Str × Nat)} {xs ys : List Str} (h : ws.map (·.1) = xs ++ ys) : Spans ws 0 xs := fun j x e => by
  have q : (ws.map (·.1))[j]? = some x := by rw [h, List.getElem?_append_left (List.getElem?_eq_some_iff.mp e).1]; exact e
  rw [List.getElem?_map] at q
  obtain ⟨⟨a, k⟩, h1, h2⟩ := Option.map_eq_some_iff.mp q
  exact ⟨k, by rw [Nat.zero_add, h1, ← h2]⟩
theorem last_of {ws : List (Str × Nat)} {xs : List Str} {y : Str} (h : ws.map (·.1) = xs ++ [y]) : ∃ k, ws[xs.length]? = some (y, k) := by
  have q : (ws.map (·.1))[xs.length]? = some y := by rw [h, List.getElem?_append_right (Nat.le_refl _), Nat.sub_self]; rfl
  rw [List.getElem?_map] at q
  obtain ⟨⟨a, k⟩, h1, h2⟩ := Option.map_eq_some_iff.mp q
  exact ⟨k, by rw [h1, ← h2]⟩
def sp_read (K : PySem.W.Frag) : Sp := fun vs H Q _ => ∃ (z : Str) (f : Fm), vs = [.str z] ∧ z.length ≤ 100000 ∧ f.Lk NameOk (· ∈ vals) ∧ f.depth ≤ 10 ∧ (tk z.cps.toList 0 none).map (·.1) = f.words ++ [((("") : Str))] ∧
  ∀ (v : V) (H' : Hp), Same H H' → Rf K H' f v → Q v H'
theorem ok_read (T : Tx K mg w) : FnOk P w K mg base CX0 30 T.a_read_formula T.d_read_formula ["text"] (sp_read K) := by
  have G_Words_init := ok_winit (P := P) (base := base) T
  have G_Words_formula_at := ok_fat (P := P) (base := base) T 10
  have G_Words_need := ok_need (P := P) (w := w) (base := base) T
  refine T.F_read_formula.ok sc_read_formula (fun vs H Q E h => ?_) (fun cdv A outer s H vs Q E hr h => ?_)
  · obtain ⟨z, f, rfl, _⟩ := h
    rfl
  obtain ⟨z, f, rfl, hz, lk, hd, hw, q⟩ := h
  refine ⟨_, pss_cons (ps_set (i := 1) sc_read_formula.nd rfl (Or.inl rfl) (pe_make T.M_Words G_Words_init (hr.mono (by omega)) (by rfl) T.g_Words T.b_Words_init .nil pass0 (pa_cons (pv 0) pa_nil)))
    (pss_cons (ps_asg (pe_meth (pv 1) T.c_Words T.m_Words_formula_at G_Words_formula_at (hr.mono (by omega)) T.b_Words_formula_at .nil pass0 (pa_cons pe_int (pa_cons pe_int pa_nil))) (pg_tup rfl (pgs_cons (pg_name (i := 2) sc_read_formula.nd rfl (Or.inl rfl)) (pgs_cons (pg_name (i := 3) sc_read_formula.nd rfl (Or.inl rfl)) pgs_nil))))
    (pss_cons (ps_expr (pe_meth (pv 1) T.c_Words T.m_Words_need G_Words_need (hr.mono (by omega)) T.b_Words_need .nil pass0 (pa_cons (pv 3) (pa_cons (pe_cmpR op_eq (pe_ix ix_tup (pe_ix ix_list (pe_fld (pv 1) rfl) (pv 3) (fun _ _ => rfl)) pe_int (fun _ _ => rfl)) pe_str (nomark _)) pa_nil))))
    (pss_one (ps_ret (pv 2))))), ?_⟩
  refine ⟨_, rfl, fun x dx hx hdx hne => ?_⟩
  refine ⟨x, dx, z, rfl, upd_same, hz, fun l H1 b1 hl W => ⟨rfl, ?_⟩⟩
  have s1 : Same H H1 := fun a o e => b1 a o (ne_of_none e hx) (by rw [upd_ne (ne_of_none e hx), upd_ne (ne_of_none e hdx)]; exact e)
  obtain ⟨dx1, hx1⟩ := W.1
  refine ⟨_, rfl, x, dx1, _, rfl, hx1, rfl, x, l, _, 0, 0, f, rfl, W, lk, hd, spans_of hw, by omega, fun r v H2 s2 hr2 rf2 => ?_⟩
  refine ⟨r, _, rfl, hr2, rfl, _, _, rfl, _, _, rfl, rfl, ?_⟩
  obtain ⟨k, ek⟩ := last_of hw
  obtain ⟨dx3, xs3, t3, hp3, hl3, ha3, ht3⟩ := (W.same s2).look ek
  rw [show f.words.length = 0 + f.words.length by omega] at ha3
  refine ⟨_, rfl, x, dx3, _, rfl, hp3, rfl, _, rfl, _, rfl, x, _, _, _, _, rfl, hp3, T.c_Words, T.n_Words_row, rfl, _, rfl, l, xs3, _, _, rfl, rfl, hl3, ha3, t3, _, _, _, rfl, rfl, ht3, atI_nat (j := 0) rfl, rfl, x, _, rfl, fun H3 s3 => ?_⟩
  exact ⟨_, rfl, q v H3 ((s1.trans s2).trans s3) (rf2.same s3)⟩
end
/-! ### words laid in a text -/
section
def flw : Option (List Nat) → List Str
  | none => []
  | some a => [⟨a.toArray⟩]
def tw : List Nat → Option (List Nat) → List Str
  | [], cur => flw cur ++ [((("") : Str))]
  | c :: cs, cur => if isSep c then flw cur ++ (if c = 32 then [] else [⟨#[c]⟩]) ++ tw cs none else tw cs (some (cur.getD [] ++ [c]))
theorem tk_words : ∀ (cs : List Nat) (i : Nat) (cur : Option (Nat × List Nat)), (tk cs i cur).map (·.1) = tw cs (cur.map (·.2))
  | [], i, cur => by
    rw [tk.eq_def, tw]
    cases cur with
    | none => rfl
    | some ba => rfl
  | c :: cs, i, cur => by
    by_cases h : isSep c = true
    · rw [tk_sep h, tw, if_pos h, List.map_append, List.map_append, tk_words cs (i + 1) none]
      congr 1
      congr 1
      · cases cur <;> rfl
      · by_cases h2 : c = 32
        · rw [if_pos h2, if_pos h2]; rfl
        · rw [if_neg h2, if_neg h2]; rfl
    · rw [tk_plain h, tw, if_neg h, tk_words cs (i + 1) _]
      congr 1
      cases cur <;> rfl
def PlainW (w : Str) : Prop := 1 ≤ w.length ∧ ∀ c ∈ w.cps.toList, isSep c = false
def ParW (w : Str) : Prop := w = "(" ∨ w = ")"
/-- the words ws are laid in cs; o: the last one is still open -/
def Laid (cs : List Nat) (ws : List Str) (o : Bool) : Prop := ∃ (done : List Str) (cur : Option (List Nat)), (∀ rest, tw (cs ++ rest) none = done ++ tw rest cur) ∧ done ++ flw cur = ws ∧ cur.isSome = o
theorem laid_nil : Laid [] [] false := ⟨[], none, fun _ => rfl, rfl, rfl⟩
theorem laid_end {cs : List Nat} {ws : List Str} {o : Bool} (h : Laid cs ws o) : tw cs none = ws ++ [((("") : Str))] := by
  obtain ⟨done, cur, a, b, _⟩ := h
  have q := a []
  rw [List.append_nil] at q
  rw [q, ← b, List.append_assoc]
  rfl
theorem laid_sep {cs : List Nat} {ws : List Str} {o : Bool} {c : Nat} (h : Laid cs ws o) (s : isSep c = true) : Laid (cs ++ [c]) (ws ++ if c = 32 then [] else [⟨#[c]⟩]) false := by
  obtain ⟨done, cur, a, b, _⟩ := h
  refine ⟨ws ++ (if c = 32 then [] else [⟨#[c]⟩]), none, fun rest => ?_, List.append_nil _, rfl⟩
  rw [List.append_assoc, a]
  show done ++ tw (c :: rest) cur = _
  rw [tw, if_pos s, ← b]
  simp only [List.append_assoc]
theorem laid_blanks {cs : List Nat} {ws : List Str} {o : Bool} (h : Laid cs ws o) : ∀ n : Nat, Laid (cs ++ List.replicate n 32) ws (o && decide (n = 0))
  | 0 => by rw [List.replicate_zero, List.append_nil, decide_eq_true rfl, Bool.and_true]; exact h
  | n + 1 => by
    have q := laid_sep (laid_blanks h n) (c := 32) rfl
    rw [if_pos rfl, List.append_nil] at q
    rw [List.replicate_succ', ← List.append_assoc, decide_eq_false (Nat.succ_ne_zero n), Bool.and_false]
    exact q
theorem par_cps {w : Str} (h : ParW w) : ∃ c, w.cps.toList = [c] ∧ isSep c = true ∧ c ≠ 32 ∧ w = ⟨#[c]⟩ := by
  rcases h with rfl | rfl
  · exact ⟨40, by decide +kernel, rfl, by decide, by decide +kernel⟩
  · exact ⟨41, by decide +kernel, rfl, by decide, by decide +kernel⟩
theorem laid_par {cs : List Nat} {ws : List Str} {o : Bool} {w : Str} (h : Laid cs ws o) (p : ParW w) : Laid (cs ++ w.cps.toList) (ws ++ [w]) false := by
  obtain ⟨c, e, s, n, ew⟩ := par_cps p
  have q := laid_sep h s
  rw [if_neg n] at q
  rw [e, ew]; exact q
theorem tw_word : ∀ (a : List Nat) (rest b : List Nat) , (∀ c ∈ a, isSep c = false) → tw (a ++ rest) (some b) = tw rest (some (b ++ a))
  | [], rest, b, _ => by rw [List.append_nil]; rfl
  | c :: a, rest, b, h => by
    show tw (c :: (a ++ rest)) (some b) = _
    rw [tw, if_neg (by rw [h c (.head _)]; exact Bool.false_ne_true), tw_word a rest _ (fun d hd => h d (.tail _ hd))]
    show tw rest (some (b ++ [c] ++ a)) = _
    rw [List.append_assoc]; rfl
theorem laid_word {cs : List Nat} {ws : List Str} {w : Str} (h : Laid cs ws false) (p : PlainW w) : Laid (cs ++ w.cps.toList) (ws ++ [w]) true := by
  obtain ⟨done, cur, a, b, c⟩ := h
  cases cur with
  | some _ => cases c
  | none =>
    refine ⟨ws, some w.cps.toList, fun rest => ?_, rfl, rfl⟩
    rw [List.append_assoc, a, show done = ws from (List.append_nil done).symm.trans b]
    congr 1
    have hl : w.cps.toList ≠ [] := fun e => by have := p.1; have e2 : w.length = w.cps.toList.length := rfl; rw [e2, e] at this; simp at this
    cases e : w.cps.toList with
    | nil => exact absurd e hl
    | cons x y =>
      have hs := p.2
      rw [e] at hs
      show tw (x :: (y ++ rest)) none = _
      rw [tw, if_neg (by rw [hs x (.head _)]; exact Bool.false_ne_true)]
      exact tw_word y rest [x] (fun d hd => hs d (.tail _ hd))
/-- the plain layout -/
def pl : Bool → List Str → Str
  | _, [] => ""
  | b, w :: ws => (if (b && !decide (w = ")")) = true then ((" " : Str)) else "") ++ w ++ pl (!decide (w = "(")) ws
theorem str_of {a b : Str} (h : a.cps.toList = b.cps.toList) : a = b := by
  obtain ⟨x⟩ := a
  obtain ⟨y⟩ := b
  have h2 : x = y := Array.toList_inj.mp h
  rw [h2]
def bl (b : Bool) : List Nat := if b = true then [32] else []
theorem signs_cps : ((" " : Str)).cps.toList = [32] ∧ (("" : Str)).cps.toList = [] ∧ (("(" : Str)).cps.toList = [40] ∧ ((")" : Str)).cps.toList = [41] := by decide +kernel
theorem app_cps (a b : Str) : (a ++ b).cps.toList = a.cps.toList ++ b.cps.toList := by rw [Str.cps_append, Array.toList_append]
theorem pl_cps (b : Bool) (w : Str) (ws : List Str) : (pl b (w :: ws)).cps.toList = bl (b && !decide (w = ")")) ++ (w.cps.toList ++ (pl (!decide (w = "(")) ws).cps.toList) := by
  obtain ⟨s1, s2, _, _⟩ := signs_cps
  show ((if (b && !decide (w = ")")) = true then ((" " : Str)) else "") ++ w ++ pl (!decide (w = "(")) ws).cps.toList = _
  rw [app_cps, app_cps, List.append_assoc]
  congr 1
  unfold bl
  split
  · exact s1
  · exact s2
theorem pl_plain {b : Bool} {w : Str} {ws : List Str} (h1 : ¬ w = "(") (h2 : ¬ w = ")") : (pl b (w :: ws)).cps.toList = bl b ++ (w.cps.toList ++ (pl true ws).cps.toList) := by
  rw [pl_cps, decide_eq_false h1, decide_eq_false h2]
  simp
theorem pl_open {b : Bool} {ws : List Str} : (pl b ((("(" : Str)) :: ws)).cps.toList = bl b ++ 40 :: (pl false ws).cps.toList := by
  obtain ⟨_, _, s3, _⟩ := signs_cps
  have e : ¬ (("(" : Str)) = ")" := by decide +kernel
  rw [pl_cps, decide_eq_false e, decide_eq_true rfl, s3]
  simp
theorem pl_close {b : Bool} {ws : List Str} : (pl b (((")" : Str)) :: ws)).cps.toList = 41 :: (pl true ws).cps.toList := by
  obtain ⟨_, _, _, s4⟩ := signs_cps
  have e : ¬ ((")" : Str)) = "(" := by decide +kernel
  rw [pl_cps, decide_eq_false e, decide_eq_true rfl, s4]
  simp [bl]
theorem heads_no : (∀ b, ¬ Fm.hLit b = "(" ∧ ¬ Fm.hLit b = ")") ∧ (∀ b, ¬ Fm.hBin b = "(" ∧ ¬ Fm.hBin b = ")") ∧ (∀ b, ¬ Fm.hUn b = "(" ∧ ¬ Fm.hUn b = ")") ∧ (∀ b, ¬ Fm.hFix b = "(" ∧ ¬ Fm.hFix b = ")") ∧
    (¬ (("value" : Str)) = "(" ∧ ¬ (("value" : Str)) = ")") ∧ (¬ (("mark" : Str)) = "(" ∧ ¬ (("mark" : Str)) = ")") := by decide +kernel
theorem pl_write : ∀ (f : Fm), f.Lk NameOk (· ∈ vals) → ∀ (b : Bool) (rest : List Str), (pl b (f.words ++ rest)).cps.toList = bl b ++ (f.write.cps.toList ++ (pl true rest).cps.toList)
  | .lit c, _, b, rest => pl_plain (heads_no.1 c).1 (heads_no.1 c).2
  | .name x, h, b, rest => pl_plain (fun e => h.no (.inr (.inl e))) (fun e => h.no (.inr (.inr e)))
  | .val s, h, b, rest => by
    obtain ⟨s1, _, s3, s4⟩ := signs_cps
    have n := vals_no s h
    show (pl b ((("(" : Str)) :: "value" :: s :: ((")" : Str)) :: rest)).cps.toList = bl b ++ ((Fm.wrap ["value", s]).cps.toList ++ _)
    rw [pl_open, pl_plain heads_no.2.2.2.2.1.1 heads_no.2.2.2.2.1.2, pl_plain (fun e => n (.inr (.inl e))) (fun e => n (.inr (.inr e))), pl_close, Fm.wrap2, app_cps, app_cps, app_cps, app_cps, s1, s3, s4]
    simp [bl]
  | .mark s, h, b, rest => by
    obtain ⟨s1, _, s3, s4⟩ := signs_cps
    have n := NameOk.no h
    show (pl b ((("(" : Str)) :: "mark" :: s :: ((")" : Str)) :: rest)).cps.toList = bl b ++ ((Fm.wrap ["mark", s]).cps.toList ++ _)
    rw [pl_open, pl_plain heads_no.2.2.2.2.2.1 heads_no.2.2.2.2.2.2, pl_plain (fun e => n (.inr (.inl e))) (fun e => n (.inr (.inr e))), pl_close, Fm.wrap2, app_cps, app_cps, app_cps, app_cps, s1, s3, s4]
    simp [bl]
  | .bin c l r, h, b, rest => by
    obtain ⟨s1, _, s3, s4⟩ := signs_cps
    show (pl b ((("(" : Str)) :: Fm.hBin c :: ((l.words ++ r.words ++ [((")" : Str))]) ++ rest))).cps.toList = bl b ++ ((Fm.wrap [Fm.hBin c, l.write, r.write]).cps.toList ++ _)
    rw [pl_open, pl_plain (heads_no.2.1 c).1 (heads_no.2.1 c).2, List.append_assoc, List.append_assoc, pl_write l h.1, pl_write r h.2, List.singleton_append, pl_close, Fm.wrap3, app_cps, app_cps, app_cps, app_cps, app_cps, app_cps, s1, s3, s4]
    simp [bl]
  | .un c a, h, b, rest => by
    obtain ⟨s1, _, s3, s4⟩ := signs_cps
    show (pl b ((("(" : Str)) :: Fm.hUn c :: ((a.words ++ [((")" : Str))]) ++ rest))).cps.toList = bl b ++ ((Fm.wrap [Fm.hUn c, a.write]).cps.toList ++ _)
    rw [pl_open, pl_plain (heads_no.2.2.1 c).1 (heads_no.2.2.1 c).2, List.append_assoc, pl_write a h, List.singleton_append, pl_close, Fm.wrap2, app_cps, app_cps, app_cps, app_cps, s1, s3, s4]
    simp [bl]
  | .fix c x a, h, b, rest => by
    obtain ⟨s1, _, s3, s4⟩ := signs_cps
    have n := NameOk.no h.1
    show (pl b ((("(" : Str)) :: Fm.hFix c :: x :: ((a.words ++ [((")" : Str))]) ++ rest))).cps.toList = bl b ++ ((Fm.wrap [Fm.hFix c, x, a.write]).cps.toList ++ _)
    rw [pl_open, pl_plain (heads_no.2.2.2.1 c).1 (heads_no.2.2.2.1 c).2, pl_plain (fun e => n (.inr (.inl e))) (fun e => n (.inr (.inr e))), List.append_assoc, pl_write a h.2, List.singleton_append, pl_close, Fm.wrap3, app_cps, app_cps, app_cps, app_cps, app_cps, app_cps, s1, s3, s4]
    simp [bl]
theorem plain_write {f : Fm} (h : f.Lk NameOk (· ∈ vals)) : pl false f.words = f.write := by
  refine str_of ?_
  have q := pl_write f h false []
  rw [List.append_nil] at q
  rw [q]
  have e : (pl true []).cps.toList = [] := signs_cps.2.1
  rw [e, List.append_nil]
  rfl
theorem laid_pl : ∀ (ws : List Str) (b : Bool) (cs : List Nat) (done : List Str) (o : Bool), (∀ w ∈ ws, ParW w ∨ PlainW w) → Laid cs done o → (o = true → b = true) → ∃ o', Laid (cs ++ (pl b ws).cps.toList) (done ++ ws) o'
  | [], b, cs, done, o, _, h, _ => ⟨o, by
      rw [show (pl b []).cps.toList = [] from signs_cps.2.1, List.append_nil, List.append_nil]; exact h⟩
  | w :: ws, b, cs, done, o, hw, h, ho => by
    rw [pl_cps]
    have hb : ∀ c : Bool, Laid (cs ++ bl c) done (o && !c) := fun c => by
      cases c
      · have := laid_blanks h 0
        simpa [bl] using this
      · have := laid_blanks h 1
        simpa [bl] using this
    have step : ∀ o2, Laid (cs ++ bl (b && !decide (w = ")")) ++ w.cps.toList) (done ++ [w]) o2 → (o2 = true → (!decide (w = "(")) = true) → ∃ o', Laid (cs ++ (bl (b && !decide (w = ")")) ++ (w.cps.toList ++ (pl (!decide (w = "(")) ws).cps.toList))) (done ++ w :: ws) o' := fun o2 h2 h3 => by
      obtain ⟨o', q⟩ := laid_pl ws _ _ _ o2 (fun v hv => hw v (.tail _ hv)) h2 h3
      refine ⟨o', ?_⟩
      simpa [List.append_assoc] using q
    rcases hw w (.head _) with p | p
    · exact step false (laid_par (hb _) p) (fun e => by cases e)
    · have n1 : ¬ w = ")" := fun e => by
        have := p.2 41 (by rw [e]; decide +kernel)
        cases this
      have n2 : ¬ w = "(" := fun e => by
        have := p.2 40 (by rw [e]; decide +kernel)
        cases this
      refine step true (laid_word ?_ p) (fun _ => by rw [decide_eq_false n2]; rfl)
      have q := hb (b && !decide (w = ")"))
      rw [decide_eq_false n1] at q ⊢
      have e : (o && !(b && !false)) = false := by
        cases o
        · rfl
        · rw [ho rfl]; rfl
      rw [e] at q
      exact q
end
/-! ### the law's words and layouts -/
section
theorem Fm.words_ok : ∀ (f : Fm), f.Lk NameOk (· ∈ vals) → ∀ w ∈ f.words, ParW w ∨ PlainW w := by
  have pn : ∀ {x : Str}, NameOk x → PlainW x := fun {x} h => ⟨h.pos, fun c hc => by
    have q := h.all c hc
    simp only [isLow, isFig, Bool.or_eq_true, Bool.and_eq_true, decide_eq_true_eq] at q
    simp only [isSep, Bool.or_eq_false_iff, beq_eq_false_iff_ne]
    omega⟩
  have pb : ∀ s ∈ (heads2 ++ vals), (decide (1 ≤ s.length) && s.cps.toList.all fun c => !isSep c) = true := by decide +kernel
  have pp : ∀ s ∈ (heads2 ++ vals), PlainW s := fun s hs => by
    have q := pb s hs
    rw [Bool.and_eq_true] at q
    refine ⟨of_decide_eq_true q.1, fun c hc => ?_⟩
    have := List.all_eq_true.mp q.2 c hc
    simpa using this
  have hh : (∀ b, Fm.hLit b ∈ heads2 ++ vals) ∧ (∀ b, Fm.hBin b ∈ heads2 ++ vals) ∧ (∀ b, Fm.hUn b ∈ heads2 ++ vals) ∧ (∀ b, Fm.hFix b ∈ heads2 ++ vals) ∧ (("value" : Str)) ∈ heads2 ++ vals ∧ (("mark" : Str)) ∈ heads2 ++ vals := by decide +kernel
  obtain ⟨h1, h2, h3, h4, h5, h6⟩ := hh
  intro f
  induction f with
  | lit b => intro _ w hw; rcases List.mem_singleton.mp hw with rfl; exact .inr (pp _ (h1 b))
  | name x => intro h w hw; rcases List.mem_singleton.mp hw with rfl; exact .inr (pn h)
  | val s =>
    intro h w hw
    simp only [Fm.words, List.mem_cons, List.not_mem_nil, or_false] at hw
    rcases hw with rfl | rfl | rfl | rfl
    · exact .inl (.inl rfl)
    · exact .inr (pp _ h5)
    · exact .inr (pp _ (List.mem_append_right _ h))
    · exact .inl (.inr rfl)
  | mark s =>
    intro h w hw
    simp only [Fm.words, List.mem_cons, List.not_mem_nil, or_false] at hw
    rcases hw with rfl | rfl | rfl | rfl
    · exact .inl (.inl rfl)
    · exact .inr (pp _ h6)
    · exact .inr (pn h)
    · exact .inl (.inr rfl)
  | bin b l r i1 i2 =>
    intro h w hw
    simp only [Fm.words, List.mem_cons, List.mem_append, List.not_mem_nil, or_false] at hw
    rcases hw with rfl | rfl | (hw | hw) | rfl
    · exact .inl (.inl rfl)
    · exact .inr (pp _ (h2 b))
    · exact i1 h.1 w hw
    · exact i2 h.2 w hw
    · exact .inl (.inr rfl)
  | un b a i1 =>
    intro h w hw
    simp only [Fm.words, List.mem_cons, List.mem_append, List.not_mem_nil, or_false] at hw
    rcases hw with rfl | rfl | hw | rfl
    · exact .inl (.inl rfl)
    · exact .inr (pp _ (h3 b))
    · exact i1 h w hw
    · exact .inl (.inr rfl)
  | fix b x a i1 =>
    intro h w hw
    simp only [Fm.words, List.mem_cons, List.mem_append, List.not_mem_nil, or_false] at hw
    rcases hw with rfl | rfl | rfl | hw | rfl
    · exact .inl (.inl rfl)
    · exact .inr (pp _ (h4 b))
    · exact .inr (pn h.1)
    · exact i1 h.2 w hw
    · exact .inl (.inr rfl)
theorem Fm.words_length : ∀ f : Fm, f.words.length ≤ 4 * f.size
  | .lit _ | .name _ => by show 1 ≤ 4; omega
  | .val _ | .mark _ => Nat.le_refl _
  | .bin b l r => by have := words_length l; have := words_length r; simp only [words, size, List.length_cons, List.length_append, List.length_nil]; omega
  | .un b a => by have := words_length a; simp only [words, size, List.length_cons, List.length_append, List.length_nil]; omega
  | .fix b x a => by have := words_length a; simp only [words, size, List.length_cons, List.length_append, List.length_nil]; omega
/-- the words of each field -/
def Fm.fwords : Fm → List (List Str)
  | .lit b => [[hLit b]]
  | .val s => [["value"], [s]]
  | .mark s => [["mark"], [s]]
  | .name s => [["name"], [s]]
  | .bin b l r => [[hBin b], l.words, r.words]
  | .un b a => [[hUn b], a.words]
  | .fix b x a => [[hFix b], [x], a.words]
theorem Fm.fwords_words {f : Fm} (h : f.inner) : f.words = (("(" : Str)) :: (f.fwords.flatten ++ [((")" : Str))]) := by
  cases f with
  | lit _ => exact absurd rfl h.1
  | name _ => exact absurd rfl h.2
  | _ => simp [words, fwords]
variable {P : Program} {w : World} {K : PySem.W.Frag} {mg : Str → Option Value} {base : Heap}
theorem Rest.fwords {H : Hp} {f : Fm} {xs : List V} (r : Rest K H f xs) : f.fwords.length = xs.length + 1 ∧ ∀ (i : Nat) (x : V), (V.str f.head :: xs)[i]? = some x →
    (∃ s, x = .str s ∧ f.fwords[i]? = some [s]) ∨ ∃ g, g ∈ f.parts ∧ Rf K H g x ∧ f.fwords[i]? = some g.words := by
  cases f with
  | lit b =>
    obtain rfl := r
    refine ⟨rfl, fun i x h => ?_⟩
    match i, h with
    | 0, h => cases h; exact .inl ⟨_, rfl, rfl⟩
  | val s | mark s | name s =>
    obtain rfl := r
    refine ⟨rfl, fun i x h => ?_⟩
    match i, h with
    | 0, h => cases h; exact .inl ⟨_, rfl, rfl⟩
    | 1, h => cases h; exact .inl ⟨_, rfl, rfl⟩
  | bin b l r' =>
    obtain ⟨x1, x2, rfl, h1, h2⟩ := r
    refine ⟨rfl, fun i x h => ?_⟩
    match i, h with
    | 0, h => cases h; exact .inl ⟨_, rfl, rfl⟩
    | 1, h => cases h; exact .inr ⟨l, by simp [Fm.parts], h1, rfl⟩
    | 2, h => cases h; exact .inr ⟨r', by simp [Fm.parts], h2, rfl⟩
  | un b a =>
    obtain ⟨x1, rfl, h1⟩ := r
    refine ⟨rfl, fun i x h => ?_⟩
    match i, h with
    | 0, h => cases h; exact .inl ⟨_, rfl, rfl⟩
    | 1, h => cases h; exact .inr ⟨a, by simp [Fm.parts], h1, rfl⟩
  | fix b s a =>
    obtain ⟨x1, rfl, h1⟩ := r
    refine ⟨rfl, fun i x h => ?_⟩
    match i, h with
    | 0, h => cases h; exact .inl ⟨_, rfl, rfl⟩
    | 1, h => cases h; exact .inl ⟨_, rfl, rfl⟩
    | 2, h => cases h; exact .inr ⟨a, by simp [Fm.parts], h1, rfl⟩
def sp_words (K : PySem.W.Frag) (n : Nat) : Sp := fun vs H Q _ => ∃ (f : Fm) (v : V), vs = [v] ∧ Rf K H f v ∧ f.depth ≤ n ∧ f.size ≤ 500 ∧
  ∀ (p : Addr) (H' : Hp), Same H H' → H p = none → H' p = some (.lst (f.words.map V.str)) → Q (.ref p) H'
theorem ok__law_words (T : Tx K mg w) : ∀ n, FnOk P w K mg base CX0 (n + 1) T.a__law_words T.d__law_words ["formula"] (sp_words K n)
  | 0 => by
    have no : ∀ vs H Q E, ¬ sp_words K 0 vs H Q E := fun vs H Q E ⟨f, v, _, _, hd, _⟩ => by have := f.depth_pos; omega
    exact ⟨fun vs H Q E h => absurd h (no vs H Q E), fun A outer s H args us vs Q E _ _ _ _ h => absurd h (no vs H Q E)⟩
  | n + 1 => by
    have G__law_words := ok__law_words T n
    refine T.F__law_words.ok sc__law_words (fun vs H Q E h => ?_) (fun cdv A outer s H vs Q E hr h => ?_)
    · obtain ⟨f, v, rfl, _⟩ := h
      rfl
    obtain ⟨f, v, rfl, hf, hd, hz, q⟩ := h
    refine ⟨_, pss_cons (ps_if (pt_cmpR op_in_seq (pe_ix ix_tup (pv 0) pe_int (fun _ _ => rfl)) (pe_lst (pa_cons pe_str (pa_cons pe_str pa_nil))) (by rfl)) (pss_one (ps_ret (pe_lst (pa_cons (pe_ix ix_tup (pv 0) pe_int (fun _ _ => rfl)) pa_nil)))) pss_nil)
    (pss_cons (ps_if (pt_cmpR op_eq (pe_ix ix_tup (pv 0) pe_int (fun _ _ => rfl)) pe_str (nomark _)) (pss_one (ps_ret (pe_lst (pa_cons (pe_ix ix_tup (pv 0) pe_int (fun _ _ => rfl)) pa_nil)))) pss_nil)
    (pss_cons (ps_set (i := 1) sc__law_words.nd rfl (Or.inl rfl) (pe_lst (pa_cons pe_str pa_nil)))
    (pss_cons (ps_for PassesOwn.never rfl (pi_tup (pv 0)) (pg_name (i := 2) sc__law_words.nd rfl (Or.inl rfl)) (pss_one (ps_set (i := 1) sc__law_words.nd rfl (Or.inl rfl) (pe_op op_cat (pv 1) (pe_ifExp (pt_val (pe_callB call_isi (by rfl) T.n_isinstance (by decide +kernel) (pa_cons (pv 2) (pa_cons (pe_bltn (v := .ty "tuple") (u := .type "tuple") (by rfl) T.n_tuple (by decide +kernel) rfl) pa_nil)))) (pe_call G__law_words (hr.mono (by omega)) (by rfl) T.g__law_words T.F__law_words.kp T.b__law_words .nil pass0 (pa_cons (pv 2) pa_nil)) (pe_lst (pa_cons (pv 2) pa_nil)))))))
    (pss_one (ps_ret (pe_op op_cat (pv 1) (pe_lst (pa_cons pe_str pa_nil)))))))), ?_⟩
    obtain ⟨p, xs, rfl, hp, rs⟩ := hf.out
    refine ⟨_, rfl, _, _, _, _, rfl, rfl, hp, atI_nat (j := 0) rfl, (by show 2 ≤ sizeLine; decide), newQ (.lst [.str "true", .str "false"]) fun t ht0 s1 h1 => ?_⟩
    generalize upd H t (.lst [.str "true", .str "false"]) = H1 at s1 h1 ⊢
    refine ⟨t, _, rfl, .inl (SqL.of (K := K) h1), rfl, rfl, _, rfl, ?_⟩
    rw [show (if false = true then !inV (.str f.head) [.str "true", .str "false"] else inV (.str f.head) [.str "true", .str "false"]) = decide (f.kindOf = 0) from (inV_str _ _ _).trans (head_lit f)]
    have nn : ∀ {a : Addr}, H1 a = none → H a = none := fun {a} h => by
      cases e : H a with
      | none => rfl
      | some o => rw [s1 a o e] at h; cases h
    have hp1 := s1.keeps.sqT hp
    refine ite2 (fun c => ?_) (fun c => ?_)
    · obtain ⟨b, rfl⟩ := kind_lit (of_decide_eq_true c)
      refine ⟨_, rfl, _, _, _, _, rfl, rfl, hp1, atI_nat (j := 0) rfl, (by show 1 ≤ sizeLine; decide), newO fun l H2 hl s2 h2 => ?_⟩
      exact q l H2 (s1.trans s2) (nn hl) h2
    have c0 : f.kindOf ≠ 0 := fun e => c (decide_eq_true e)
    refine ⟨_, rfl, _, _, _, _, rfl, rfl, hp1, atI_nat (j := 0) rfl, rfl, _, rfl, ?_⟩
    rw [eq_str, head_name]
    refine ite2 (fun c => ?_) (fun c => ?_)
    · obtain ⟨x, rfl⟩ := kind_name (of_decide_eq_true c)
      obtain rfl := rs
      refine ⟨_, rfl, _, _, _, _, rfl, rfl, hp1, atI_nat (j := 1) rfl, (by show 1 ≤ sizeLine; decide), newO fun l H2 hl s2 h2 => ?_⟩
      exact q l H2 (s1.trans s2) (nn hl) h2
    have c3 : f.kindOf ≠ 3 := fun e => c (decide_eq_true e)
    have inn : f.inner := ⟨c0, c3⟩
    refine ⟨(by show 1 ≤ sizeLine; decide), newQ (.lst [.str "("]) fun l0 hl0 s2 h2 => ?_⟩
    generalize upd H1 l0 (.lst [.str "("]) = H2 at s2 h2 ⊢
    obtain ⟨fl, _⟩ := rs.fwords
    have s02 := s1.trans s2
    refine ⟨_, rfl, p, rfl, ⟨_, s02.keeps.sqT hp⟩, for_it (walk_tup (K := K) (a := p) (xs := .str f.head :: xs)) (fun i σ H3 => ∃ (r : Addr) (v2 : Option V), σ = [some (.ref p), some (.ref r), v2] ∧ i ≤ f.fwords.length ∧ Same H H3 ∧ H r = none ∧ H3 r = some (.lst (((("(" : Str)) :: (f.fwords.take i).flatten).map V.str)))
      ⟨l0, none, rfl, Nat.zero_le _, s02, nn hl0, h2⟩ (fun _ _ H3 _ ⟨_, _, _, _, s3, _⟩ => s3.keeps.sqT hp) ?_ ?_⟩
    · rintro i x σ H3b H3 hi ⟨r, v2, rfl, hil, s3, hr0, h3⟩ ⟨rfl, hx⟩
      have n3 : ∀ {a : Addr}, H3 a = none → H a = none := fun {a} h => by
        cases e : H a with
        | none => rfl
        | some o => rw [s3 a o e] at h; cases h
      have wl := Fm.words_length f
      have wf := Fm.fwords_words inn
      have fin : ∀ (a : Addr) (ys : List Str) (H4 : Hp), Same H3 H4 → H4 a = some (.lst (ys.map V.str)) → f.fwords[i]? = some ys → ∀ (Qd : V → Hp → Prop), (∀ (r2 : Addr) (H5 : Hp), Same H H5 → H r2 = none → H5 r2 = some (.lst (((("(" : Str)) :: (f.fwords.take (i + 1)).flatten).map V.str)) → Qd (.ref r2) H5) → rCat (.ref r) (.ref a) H4 Qd := by
        intro a ys H4 s4 h4 ey Qd k
        have et : (f.fwords.take (i + 1)).flatten = (f.fwords.take i).flatten ++ ys := by rw [take_snoc ey, List.flatten_append]; simp
        have ln : ((f.fwords.take (i + 1)).flatten).length ≤ f.fwords.flatten.length := by
          have e : f.fwords.flatten = (f.fwords.take (i + 1)).flatten ++ (f.fwords.drop (i + 1)).flatten := by rw [← List.flatten_append, List.take_append_drop]
          rw [e, List.length_append]
          exact Nat.le_add_right _ _
        have ln2 : f.fwords.flatten.length ≤ f.words.length := by rw [wf]; simp only [List.length_cons, List.length_append]; omega
        refine ⟨r, a, _, _, rfl, rfl, s4.at h3, h4, ?_, newO fun r2 H5 hr2 s5 h5 => k r2 H5 ((s3.trans s4).trans s5) (n3 (s4.free hr2)) ?_⟩
        · rw [List.length_map, List.length_map, List.length_cons]
          rw [et, List.length_append] at ln
          exact Nat.le_of_lt (smallM (by omega))
        · rw [h5, et, ← List.map_append]
          rfl
      rcases (rs.keep s3.keeps).fwords.2 i x hx with ⟨z, rfl, ez⟩ | ⟨g, gm, rg, ez⟩
      · refine ⟨_, rfl, _, rfl, _, _, _, _, _, rfl, .ty "tuple", .base (.str z), kit_st, _, rfl, ?_⟩
        refine iteF ⟨_, rfl, (by show 1 ≤ sizeLine; decide), newQ (.lst [.str z]) fun t4 _ s4 h4 => ?_⟩
        generalize upd H3 t4 (.lst [.str z]) = H4 at s4 h4 ⊢
        refine fin t4 [z] H4 s4 h4 ez _ fun r2 H5 s5 n5 h5 => ⟨r2, _, rfl, (List.getElem?_eq_some_iff.mp ez).1, s5, n5, h5⟩
      · obtain ⟨p2, xs2, rfl, hp2, _⟩ := rg.out
        have gd := Fm.parts_depth gm
        have gz := size_parts gm
        refine ⟨_, rfl, _, rfl, _, _, _, _, _, rfl, .ty "tuple", tyx_tup hp2, kit_tt, _, rfl, ?_⟩
        refine iteT ⟨_, rfl, g, _, rfl, rg, by omega, by omega, fun t4 H4 s4 _ h4 => ?_⟩
        exact fin t4 g.words H4 s4 h4 ez _ fun r2 H5 s5 n5 h5 => ⟨r2, _, rfl, (List.getElem?_eq_some_iff.mp ez).1, s5, n5, h5⟩
    · rintro σ H3 ⟨r, v2, rfl, hil, s3, hr0, h3⟩
      have n3 : ∀ {a : Addr}, H3 a = none → H a = none := fun {a} h => by
        cases e : H a with
        | none => rfl
        | some o => rw [s3 a o e] at h; cases h
      have el : (V.str f.head :: xs).length = f.fwords.length := by rw [fl]; rfl
      rw [el, List.take_length] at h3
      have wl := Fm.words_length f
      have wf := Fm.fwords_words inn
      have ln2 : f.fwords.flatten.length + 2 = f.words.length := by rw [wf]; simp only [List.length_cons, List.length_append, List.length_nil]
      refine ⟨_, rfl, (by show 1 ≤ sizeLine; decide), newQ (.lst [.str ")"]) fun t4 _ s4 h4 => ?_⟩
      generalize upd H3 t4 (.lst [.str ")"]) = H4 at s4 h4 ⊢
      refine ⟨r, t4, _, _, rfl, rfl, s4.at h3, h4, ?_, newO fun r2 H5 hr2 s5 h5 => q r2 H5 ((s3.trans s4).trans s5) (n3 (s4.free hr2)) ?_⟩
      · rw [List.length_map, List.length_cons]
        exact Nat.le_of_lt (smallM (by show f.fwords.flatten.length + 1 + 1 ≤ _; omega))
      · rw [h5, wf, List.map_cons, List.map_cons, List.map_append]
        rfl
end
section
variable {P : Program} {w : World} {K : PySem.W.Frag} {mg : Str → Option Value} {base : Heap}
def sp_plain (K : PySem.W.Frag) : Sp := fun vs H Q _ => ∃ (a : Addr) (ws : List Str), vs = [.ref a] ∧ SqL K H a (ws.map V.str) ∧ ws.length ≤ 2000 ∧ (∀ x ∈ ws, x.length ≤ 20) ∧ ∀ H', Same H H' → Q (.str (pl false ws)) H'
theorem strs_at {ws : List Str} {i : Nat} (h : i < ws.length) : atI (ws.map V.str) (i : Nat) = some (.str ws[i]) := atI_nat (by rw [List.getElem?_map, List.getElem?_eq_getElem h]; rfl)
/-- whether the next word wants a blank ahead -/
def wants (ws : List Str) (i : Nat) : Bool := match i with | 0 => false | k + 1 => match ws[k]? with | some x => !decide (x = "(") | none => false
theorem kne (a b : Str) : (!decide (V.str a = V.str b)) = !decide (a = b) := by
  by_cases h : a = b
  · subst h; simp
  · have : ¬ V.str a = V.str b := fun e => h (V.str.inj e)
    simp [h, this]
theorem ite_str (b : Bool) {Q : V → Hp → Prop} {H : Hp} {σ : L2.St} (h : ∀ y : Str, y = (if b = true then ((" " : Str)) else "") → Q (.str y) H) : if b = true then tC (.str " ") σ H Q else tC (.str "") σ H Q := by
  cases b
  · exact iteF (h _ rfl)
  · exact iteT (h _ rfl)
theorem ok__law_plain (T : Tx K mg w) : FnOk P w K mg base CX0 1 T.a__law_plain T.d__law_plain ["words"] (sp_plain K) := by
  refine T.F__law_plain.ok sc__law_plain (fun vs H Q E h => ?_) (fun cdv A outer s H vs Q E hr h => ?_)
  · obtain ⟨a, ws, rfl, _⟩ := h
    rfl
  obtain ⟨a, ws, rfl, ha, hl, hx, q⟩ := h
  refine ⟨_, pss_cons (ps_set (i := 1) sc__law_plain.nd rfl (Or.inl rfl) pe_str)
    (pss_cons (ps_for PassesOwn.never rfl (pi_range1 (by rfl) T.n_range (pa_cons (pe_callB call_len_seq (by rfl) T.n_len (by decide +kernel) (pa_cons (pv 0) pa_nil)) pa_nil)) (pg_name (i := 2) sc__law_plain.nd rfl (Or.inl rfl)) (pss_cons (ps_set (i := 3) sc__law_plain.nd rfl (Or.inl rfl) (pe_and (pe_cmpR op_gt (pv 2) pe_int (nomark _)) (pe_and (pe_cmpR op_ne (pe_ix ix_list (pv 0) (pv 2) (fun _ _ => rfl)) pe_str (nomark _)) (pe_one (pe_cmpR op_ne (pe_ix ix_list (pv 0) (pe_op op_sub (pv 2) pe_int) (fun _ _ => rfl)) pe_str (nomark _))))))
    (pss_one (ps_set (i := 1) sc__law_plain.nd rfl (Or.inl rfl) (pe_op op_add_str (pe_op op_add_str (pv 1) (pe_ifExp (pt_val (pv 3)) pe_str pe_str)) (pe_ix ix_list (pv 0) (pv 2) (fun _ _ => rfl)))))))
    (pss_one (ps_ret (pv 1)))), ?_⟩
  refine ⟨_, rfl, a, _, rfl, .inl ha, _, rfl, by rw [List.length_map]; omega, by rw [List.length_map]; omega, for_range (lo := 0) (fun i σ H2 => ∃ (z : Str) (v2 v3 : Option V), σ = [some (.ref a), some (.str z), v2, v3] ∧ Same H H2 ∧ z.length ≤ 21 * i ∧
    z.cps.toList ++ (pl (wants ws i) (ws.drop i)).cps.toList = (pl false ws).cps.toList) ⟨"", none, none, rfl, Same.refl _, by decide +kernel, by rw [signs_cps.2.1]; rfl⟩ ?_ ?_⟩
  · rintro i σ H2 hi ⟨z, v2, v3, rfl, s2, zl, ez⟩
    have hi : i < ws.length := by rw [List.length_map] at hi; omega
    have ha2 := s2.seq ha
    rw [show (0 : Int) + (i : Int) = (i : Int) by omega]
    have dr : ws.drop i = ws[i] :: ws.drop (i + 1) := List.drop_eq_getElem_cons hi
    have wn : wants ws (i + 1) = !decide (ws[i] = "(") := by
      show (match ws[i]? with | some x => !decide (x = "(") | none => false) = _
      rw [List.getElem?_eq_getElem hi]
    refine set_run (fun v H3 => v = .bl (wants ws i && !decide (ws[i] = ")")) ∧ H3 = H2) (fun Q' q' => ?_) ?_
    · cases i with
      | zero =>
        refine ⟨_, rfl, _, _, rfl, rfl, _, rfl, ?_⟩
        refine iteN (by omega) (q' _ _ ⟨?_, rfl⟩)
        rfl
      | succ k =>
        refine ⟨_, rfl, _, _, rfl, rfl, _, rfl, ?_⟩
        refine iteY (by omega) ?_
        refine ⟨_, rfl, _, rfl, a, _, _, _, rfl, rfl, ha2, strs_at hi, rfl, _, rfl, ?_⟩
        rw [show (!decide (V.str ws[k + 1] = V.str (Str.ofString ")"))) = !decide (ws[k + 1] = ")") from kne _ _]
        have wk : wants ws (k + 1) = !decide (ws[k] = "(") := by
          show (match ws[k]? with | some x => !decide (x = "(") | none => false) = _
          rw [List.getElem?_eq_getElem (by omega : k < ws.length)]
        rw [wk] at q'
        refine ite2 (fun c => ?_) (fun c => ?_)
        · refine ⟨_, rfl, _, rfl, _, _, rfl, rfl, a, _, _, .str ws[k], rfl, rfl, ha2, ?_, rfl, ?_⟩
          · rw [show (((k + 1 : Nat) : Int) - 1) = (k : Int) by omega]; exact strs_at (by omega)
          · refine q' _ _ ⟨?_, rfl⟩
            rw [c, Bool.and_true]
            exact congrArg V.bl (kne _ _)
        · refine q' _ _ ⟨?_, rfl⟩
          rw [Bool.eq_false_iff.mpr c, Bool.and_false]
    rintro v H3 ⟨rfl, rfl⟩
    have wx := hx ws[i] (List.getElem_mem hi)
    refine ⟨_, rfl, _, rfl, _, rfl, ?_⟩
    have b1 : ∀ c : Bool, (if c = true then ((" " : Str)) else "").cps.toList = bl c ∧ (if c = true then ((" " : Str)) else "").length ≤ 1 := fun c => by cases c <;> decide +kernel
    refine ite_str (wants ws i && !decide (ws[i] = ")")) (fun y hy => ?_)
    have hy2 := b1 (wants ws i && !decide (ws[i] = ")"))
    rw [← hy] at hy2
    refine ⟨z, y, rfl, rfl, Nat.le_of_lt (smallM (by omega)), _, rfl, _, rfl, a, _, _, _, rfl, rfl, ha2, strs_at hi, _, _, rfl, rfl, ?_, ?_⟩
    · rw [Str.length_append]; exact Nat.le_of_lt (smallM (by omega))
    refine ⟨_, _, _, rfl, s2, by rw [Str.length_append, Str.length_append]; omega, ?_⟩
    rw [app_cps, app_cps, hy2.1, wn, ← ez, dr, pl_cps, List.append_assoc, List.append_assoc]
  · rintro σ H2 ⟨z, v2, v3, rfl, s2, zl, ez⟩
    rw [List.length_map, Int.toNat_natCast, List.drop_length] at ez
    refine ⟨_, rfl, ?_⟩
    rw [show z = pl false ws from str_of (by rw [← ez, show (pl (wants ws ws.length) []).cps.toList = [] from signs_cps.2.1, List.append_nil])]
    exact q H2 s2
end
section
variable {P : Program} {w : World} {K : PySem.W.Frag} {mg : Str → Option Value} {base : Heap}
theorem mul_blank {n : Int} (h0 : 0 ≤ n) (h1 : n ≤ 4) : MulOk " " n ∧ (Txt.mul " " n).cps.toList = List.replicate n.toNat 32 := by
  have q : ∀ i : Fin 5, MulOk " " (i.val : Int) ∧ (Txt.mul " " (i.val : Int)).cps.toList = List.replicate i.val 32 := by
    intro i
    refine ⟨?_, by revert i; decide +kernel⟩
    refine ⟨by revert i; decide +kernel, by revert i; decide +kernel, by revert i; decide +kernel⟩
  have e := q ⟨n.toNat, by omega⟩
  simp only at e
  rw [show ((n.toNat : Nat) : Int) = n by omega] at e
  exact e
def inPar (x : Str) : Bool := !(Builtin.Str.occurrences "()" x 0 ((("()") : Str)).length 1).isEmpty
theorem inPar_par {x : Str} (h : ParW x) : inPar x = true := by
  rcases h with rfl | rfl <;> decide +kernel
theorem inPar_plain {x : Str} (h : PlainW x) : inPar x = false := by
  refine Bool.eq_false_iff.mpr fun e => ?_
  obtain ⟨i, h1, h2⟩ := (StrLaws.found_iff _ _).mp e
  rw [StrLaws.subAt_eq, beq_iff_eq] at h2
  have hl : x.cps.toList ≠ [] := fun e => by have := h.1; have e2 : x.length = x.cps.toList.length := rfl; rw [e2, e] at this; simp at this
  cases e2 : x.cps.toList with
  | nil => exact absurd e2 hl
  | cons c r =>
    have m : c ∈ ((("()") : Str)).cps.toList := by
      rw [e2] at h2
      have : c ∈ (((("()") : Str)).cps.toList.drop i).take x.length := by rw [h2]; exact .head _
      exact List.mem_of_mem_drop (List.mem_of_mem_take this)
    have s := h.2 c (by rw [e2]; exact .head _)
    have e3 : ((("()") : Str)).cps.toList = [40, 41] := by decide +kernel
    rw [e3] at m
    simp only [List.mem_cons, List.not_mem_nil, or_false] at m
    rcases m with rfl | rfl <;> cases s
theorem ite_int (b : Bool) {Q : V → Hp → Prop} {H : Hp} {σ : L2.St} (h : ∀ m : Int, m = (if b = true then 1 else 0) → Q (.int m) H) : if b = true then tC (.int 1) σ H Q else tC (.int 0) σ H Q := by
  cases b
  · exact iteF (h _ rfl)
  · exact iteT (h _ rfl)
def sp_laid (K : PySem.W.Frag) : Sp := fun vs H Q _ => ∃ (p ce a : Addr) (ws : List Str), vs = [.ref p, .ref a] ∧ Src K ce H p ∧ a ≠ p ∧ SqL K H a (ws.map V.str) ∧ ws.length ≤ 2000 ∧ (∀ x ∈ ws, x.length ≤ 20) ∧ (∀ x ∈ ws, ParW x ∨ PlainW x) ∧
  ∀ (z : Str) (H' : Hp), But p H H' → Src K ce H' p → z.length ≤ 100000 → tw z.cps.toList none = ws ++ [((("") : Str))] → Q (.str z) H'
theorem ok__law_laid (T : Tx K mg w) : FnOk P w K mg base CX0 2 T.a__law_laid T.d__law_laid ["source", "words"] (sp_laid K) := by
  have G__law_pick := ok__law_pick (P := P) (w := w) (base := base) T
  refine T.F__law_laid.ok sc__law_laid (fun vs H Q E h => ?_) (fun cdv A outer s H vs Q E hr h => ?_)
  · obtain ⟨p, ce, a, ws, rfl, _⟩ := h
    rfl
  obtain ⟨p, ce, a, ws, rfl, hs, ap, ha, hl, hx, hp, q⟩ := h
  refine ⟨_, pss_cons (ps_set (i := 2) sc__law_laid.nd rfl (Or.inl rfl) (pe_op op_rep_str pe_str (pe_call G__law_pick (hr.mono (by omega)) (by rfl) T.g__law_pick T.F__law_pick.kp T.b__law_pick .nil pass0 (pa_cons (pv 0) (pa_cons pe_int pa_nil)))))
    (pss_cons (ps_for PassesOwn.never rfl (pi_range1 (by rfl) T.n_range (pa_cons (pe_callB call_len_seq (by rfl) T.n_len (by decide +kernel) (pa_cons (pv 1) pa_nil)) pa_nil)) (pg_name (i := 3) sc__law_laid.nd rfl (Or.inl rfl)) (pss_cons (ps_set (i := 4) sc__law_laid.nd rfl (Or.inl rfl) (pe_and (pe_cmpR op_gt (pv 3) pe_int (nomark _)) (pe_and (pe_not (pe_cmpR op_in_str (pe_ix ix_list (pv 1) (pv 3) (fun _ _ => rfl)) pe_str rfl)) (pe_one (pe_not (pe_cmpR op_in_str (pe_ix ix_list (pv 1) (pe_op op_sub (pv 3) pe_int) (fun _ _ => rfl)) pe_str rfl))))))
    (pss_one (ps_set (i := 2) sc__law_laid.nd rfl (Or.inl rfl) (pe_op op_add_str (pe_op op_add_str (pv 2) (pe_op op_rep_str pe_str (pe_op op_add (pe_call G__law_pick (hr.mono (by omega)) (by rfl) T.g__law_pick T.F__law_pick.kp T.b__law_pick .nil pass0 (pa_cons (pv 0) (pa_cons pe_int pa_nil))) (pe_ifExp (pt_val (pv 4)) pe_int pe_int)))) (pe_ix ix_list (pv 1) (pv 3) (fun _ _ => rfl)))))))
    (pss_one (ps_ret (pe_op op_add_str (pv 2) (pe_op op_rep_str pe_str (pe_call G__law_pick (hr.mono (by omega)) (by rfl) T.g__law_pick T.F__law_pick.kp T.b__law_pick .nil pass0 (pa_cons (pv 0) (pa_cons pe_int pa_nil)))))))), ?_⟩
  refine ⟨_, rfl, p, ce, 3, rfl, hs, by decide, fun d1 H1 b1 s1 d10 d11 => ?_⟩
  obtain ⟨ok1, e1⟩ := mul_blank d10 (by omega)
  refine ⟨_, _, rfl, rfl, ok1, ?_⟩
  have ln : ∀ {n : Int}, 0 ≤ n → n ≤ 4 → (Txt.mul " " n).length ≤ 4 := fun {n} h0 h1 => by
    have e := (mul_blank h0 h1).2
    have : (Txt.mul " " n).length = (Txt.mul " " n).cps.toList.length := rfl
    rw [this, e, List.length_replicate]; omega
  refine ⟨_, rfl, a, _, rfl, .inl (b1.seq ap ha), _, rfl, by rw [List.length_map]; omega, by rw [List.length_map]; omega, for_range (lo := 0) (fun i σ H2 => ∃ (z : Str) (v3 v4 : Option V) (o : Bool), σ = [some (.ref p), some (.ref a), some (.str z), v3, v4] ∧ But p H H2 ∧ Src K ce H2 p ∧ z.length ≤ 4 + 25 * i ∧
    Laid z.cps.toList (ws.take i) o ∧ (o = true → ∃ k y, i = k + 1 ∧ ws[k]? = some y ∧ PlainW y)) ⟨_, none, none, _, rfl, b1, s1, ln d10 (by omega), (by rw [e1]; exact laid_blanks laid_nil _), (fun e => by cases e)⟩ ?_ ?_⟩
  · rintro i σ H2 hi ⟨z, v3, v4, o, rfl, b2, s2, zl, lz, ho⟩
    have hi : i < ws.length := by rw [List.length_map] at hi; omega
    have ha2 := b2.seq ap ha
    rw [show (0 : Int) + (i : Int) = (i : Int) by omega]
    refine set_run (fun v H3 => ∃ c : Bool, v = .bl c ∧ H3 = H2 ∧ (PlainW ws[i] → o = true → c = true)) (fun Q' q' => ?_) ?_
    · cases i with
      | zero =>
        refine ⟨_, rfl, _, _, rfl, rfl, _, rfl, ?_⟩
        refine iteN (by omega) (q' _ _ ⟨false, rfl, rfl, fun _ e => ?_⟩)
        obtain ⟨k, y, h1, _⟩ := ho e
        cases h1
      | succ k =>
        refine ⟨_, rfl, _, _, rfl, rfl, _, rfl, ?_⟩
        refine iteY (by omega) ?_
        refine ⟨_, rfl, _, rfl, a, _, _, _, rfl, rfl, ha2, strs_at hi, _, _, rfl, rfl, _, rfl, _, rfl, ?_⟩
        refine ite2 (fun c => ?_) (fun c => ?_)
        · refine ⟨_, rfl, _, rfl, _, _, rfl, rfl, a, _, _, .str ws[k], rfl, rfl, ha2, ?_, _, _, rfl, rfl, _, rfl, ?_⟩
          · rw [show (((k + 1 : Nat) : Int) - 1) = (k : Int) by omega]; exact strs_at (by omega)
          · refine q' _ _ ⟨_, rfl, rfl, fun _ eo => ?_⟩
            obtain ⟨k', y, h1, h2, h3⟩ := ho eo
            have hk : k' = k := by omega
            subst hk
            rw [List.getElem?_eq_getElem (by omega : k' < ws.length)] at h2
            have ey : ws[k'] = y := Option.some.inj h2
            have hq : inPar ws[k'] = false := inPar_plain (by rw [ey]; exact h3)
            show (!inPar ws[k']) = true
            rw [hq]; rfl
        · refine q' _ _ ⟨false, rfl, rfl, fun pw _ => absurd ?_ c⟩
          have hq : inPar ws[k + 1] = false := inPar_plain pw
          show (!inPar ws[k + 1]) = true
          rw [hq]; rfl
    rintro v H3 ⟨c, rfl, rfl, hc⟩
    have wx := hx ws[i] (List.getElem_mem hi)
    refine ⟨_, rfl, _, rfl, p, ce, 3, rfl, s2, by decide, fun d H4 b4 s4 d0 d1 => ?_⟩
    have b24 := b2.trans b4
    have ha4 := b24.seq ap ha
    refine ⟨_, rfl, _, rfl, ?_⟩
    refine ite_int c (fun m hm => ?_)
    have m0 : 0 ≤ m ∧ m ≤ 1 ∧ (c = true → m = 1) := by rw [hm]; cases c <;> simp
    obtain ⟨okm, em⟩ := mul_blank (n := d + m) (by omega) (by omega)
    have lm := ln (n := d + m) (by omega) (by omega)
    refine ⟨_, _, rfl, rfl, _, _, rfl, rfl, okm, _, _, rfl, rfl, Nat.le_of_lt (smallM (by omega)), _, rfl, _, rfl, a, _, _, _, rfl, rfl, ha4, strs_at hi, _, _, rfl, rfl, ?_, ?_⟩
    · rw [Str.length_append]; exact Nat.le_of_lt (smallM (by omega))
    have lb := laid_blanks lz (d + m).toNat
    have tk1 : ws.take (i + 1) = ws.take i ++ [ws[i]] := take_snoc (List.getElem?_eq_getElem hi)
    rcases hp ws[i] (List.getElem_mem hi) with pp | pp
    · refine ⟨_, _, _, false, rfl, b24, s4, by rw [Str.length_append, Str.length_append]; omega, ?_, fun e => by cases e⟩
      rw [app_cps, app_cps, em, tk1]
      exact laid_par lb pp
    · refine ⟨_, _, _, true, rfl, b24, s4, by rw [Str.length_append, Str.length_append]; omega, ?_, fun _ => ⟨i, _, rfl, List.getElem?_eq_getElem hi, pp⟩⟩
      rw [app_cps, app_cps, em, tk1]
      refine laid_word ?_ pp
      have e0 : (o && decide ((d + m).toNat = 0)) = false := by
        cases o with
        | false => rfl
        | true =>
          have := m0.2.2 (hc pp rfl)
          rw [decide_eq_false (by omega)]; rfl
      rw [e0] at lb
      exact lb
  · rintro σ H2 ⟨z, v3, v4, o, rfl, b2, s2, zl, lz, ho⟩
    rw [List.length_map, Int.toNat_natCast, List.take_length] at lz
    refine ⟨_, rfl, _, rfl, p, ce, 3, rfl, s2, by decide, fun d H4 b4 s4 d0 d1 => ?_⟩
    obtain ⟨okm, em⟩ := mul_blank (n := d) (by omega) (by omega)
    have lm := ln (n := d) (by omega) (by omega)
    have zl2 : z.length ≤ 4 + 25 * 2000 := by
      rw [List.length_map, Int.toNat_natCast] at zl
      have : 25 * ws.length ≤ 25 * 2000 := Nat.mul_le_mul_left _ hl
      omega
    refine ⟨_, _, rfl, rfl, okm, _, _, rfl, rfl, Nat.le_of_lt (smallM (by omega)), ?_⟩
    refine q _ H4 (b2.trans b4) s4 (by rw [Str.length_append]; omega) ?_
    rw [app_cps, em]
    exact laid_end (laid_blanks lz _)
end
section
theorem Fm.words_le : ∀ (f : Fm), f.Lk NameOk (· ∈ vals) → ∀ w ∈ f.words, w.length ≤ 20 := by
  have hh : (∀ b, (Fm.hLit b).length ≤ 20) ∧ (∀ b, (Fm.hBin b).length ≤ 20) ∧ (∀ b, (Fm.hUn b).length ≤ 20) ∧ (∀ b, (Fm.hFix b).length ≤ 20) ∧ ((("value" : Str))).length ≤ 20 ∧ ((("mark" : Str))).length ≤ 20 ∧ ((("(" : Str))).length ≤ 20 ∧ (((")" : Str))).length ≤ 20 := by decide +kernel
  obtain ⟨h1, h2, h3, h4, h5, h6, h7, h8⟩ := hh
  have nl : ∀ {x : Str}, NameOk x → x.length ≤ 20 := fun {x} h => by have := h.le; omega
  intro f
  induction f with
  | lit b => intro _ w hw; rcases List.mem_singleton.mp hw with rfl; exact h1 b
  | name x => intro h w hw; rcases List.mem_singleton.mp hw with rfl; exact nl h
  | val s =>
    intro h w hw
    simp only [Fm.words, List.mem_cons, List.not_mem_nil, or_false] at hw
    rcases hw with rfl | rfl | rfl | rfl
    · exact h7
    · exact h5
    · exact vals_len _ h
    · exact h8
  | mark s =>
    intro h w hw
    simp only [Fm.words, List.mem_cons, List.not_mem_nil, or_false] at hw
    rcases hw with rfl | rfl | rfl | rfl
    · exact h7
    · exact h6
    · exact nl h
    · exact h8
  | bin b l r i1 i2 =>
    intro h w hw
    simp only [Fm.words, List.mem_cons, List.mem_append, List.not_mem_nil, or_false] at hw
    rcases hw with rfl | rfl | (hw | hw) | rfl
    · exact h7
    · exact h2 b
    · exact i1 h.1 w hw
    · exact i2 h.2 w hw
    · exact h8
  | un b a i1 =>
    intro h w hw
    simp only [Fm.words, List.mem_cons, List.mem_append, List.not_mem_nil, or_false] at hw
    rcases hw with rfl | rfl | hw | rfl
    · exact h7
    · exact h3 b
    · exact i1 h w hw
    · exact h8
  | fix b x a i1 =>
    intro h w hw
    simp only [Fm.words, List.mem_cons, List.mem_append, List.not_mem_nil, or_false] at hw
    rcases hw with rfl | rfl | rfl | hw | rfl
    · exact h7
    · exact h4 b
    · exact nl h.1
    · exact i1 h.2 w hw
    · exact h8
variable {P : Program} {w : World} {K : PySem.W.Frag} {mg : Str → Option Value} {base : Heap}
theorem kit_ss : PySem.W.kitOne K (.type "str") (.type "str") = some true := kit_ty (by decide +kernel)
def spLaw (K : PySem.W.Frag) : Sp := fun vs H Q _ => ∃ (a : Addr) (ns : List Int), vs = [.ref a] ∧ SqL K H a (ns.map V.int) ∧ ns.length ≤ 63 ∧ ∀ H', Q (.bl true) H'
theorem Fm.Lk.mono {N M V : Str → Prop} (h : ∀ s, N s → M s) : ∀ {f : Fm}, f.Lk N V → f.Lk M V
  | .lit _, _ => trivial
  | .val _, q => q
  | .mark _, q => h _ q
  | .name _, q => h _ q
  | .bin _ _ _, q => ⟨q.1.mono h, q.2.mono h⟩
  | .un _ g, q => Fm.Lk.mono (f := g) h q
  | .fix _ _ _, q => ⟨h _ q.1, q.2.mono h⟩
theorem ok_law (T : Tx K mg w) : FnOk P w K mg base CX0 120 T.a_law T.d_law ["script"] (spLaw K) := by
  have G__law_cells := ok__law_cells (P := P) (w := w) (base := base) T
  have G__law_pick := ok__law_pick (P := P) (w := w) (base := base) T
  have G__law_name := ok__law_name (P := P) (w := w) (base := base) T
  have G__law_any := ok__law_any (P := P) (w := w) (base := base) T 6
  have G_write_formula := ok_write (P := P) (w := w) (base := base) T 10
  have G__law_words := ok__law_words (P := P) (w := w) (base := base) T 10
  have G__law_plain := ok__law_plain (P := P) (w := w) (base := base) T
  have G__law_laid := ok__law_laid (P := P) (w := w) (base := base) T
  have G_read_formula := ok_read (P := P) (base := base) T
  refine T.F_law.ok sc_law (fun vs H Q E h => ?_) (fun cdv A outer s H vs Q E hr h => ?_)
  · obtain ⟨a, ns, rfl, _⟩ := h
    rfl
  obtain ⟨a, ns, rfl, hS, h63, q⟩ := h
  refine ⟨_, pss_cons (ps_set (i := 1) sc_law.nd rfl (Or.inr rfl) (pe_call G__law_cells (hr.mono (by omega)) (by rfl) T.g__law_cells T.F__law_cells.kp T.b__law_cells .nil pass0 (pa_cons (pv 0) pa_nil)))
    (pss_cons (ps_setLc (i := 2) (own := [("k", 3)]) (g := gName 3) (tt := tYes) rfl sc_law.nd rfl rfl (sw_true rfl rfl rfl (by decide +kernel)) (pi_range1 (by rfl) T.n_range (pa_cons (pe_op op_add pe_int (pe_call G__law_pick (hr.mono (by omega)) (by rfl) T.g__law_pick T.F__law_pick.kp T.b__law_pick .nil pass0 (pa_cons (pv 1) (pa_cons pe_int pa_nil)))) pa_nil)) (blkOk_by (N := N_law) (sc := defScope St_law) (by decide +kernel)) (fun _ _ _ _ _ => (pg_name (i := 3) sc_law.nd rfl (Or.inl rfl))) (fun _ _ _ _ _ => pts_nil) (fun _ _ _ _ _ => (pe_call G__law_name (hr.mono (by omega)) (by rfl) T.g__law_name T.F__law_name.kp T.b__law_name .nil pass0 (pa_cons (pv 1) pa_nil))))
    (pss_cons (ps_set (i := 4) sc_law.nd rfl (Or.inl rfl) (pe_call G__law_any (hr.mono (by omega)) (by rfl) T.g__law_any T.F__law_any.kp T.b__law_any .nil pass0 (pa_cons (pv 1) (pa_cons (pv 2) (pa_cons (pe_call G__law_pick (hr.mono (by omega)) (by rfl) T.g__law_pick T.F__law_pick.kp T.b__law_pick .nil pass0 (pa_cons (pv 1) (pa_cons pe_int pa_nil))) pa_nil)))))
    (pss_cons (ps_set (i := 5) sc_law.nd rfl (Or.inl rfl) (pe_call G__law_words (hr.mono (by omega)) (by rfl) T.g__law_words T.F__law_words.kp T.b__law_words .nil pass0 (pa_cons (pv 4) pa_nil)))
    (pss_cons (ps_set (i := 6) sc_law.nd rfl (Or.inl rfl) (pe_call G_write_formula (hr.mono (by omega)) (by rfl) T.g_write_formula T.F_write_formula.kp T.b_write_formula .nil pass0 (pa_cons (pv 4) pa_nil)))
    (pss_cons (ps_if (PW.pt (pw_or (pt_not (pt_val (pe_callB call_isi (by rfl) T.n_isinstance (by decide +kernel) (pa_cons (pv 6) (pa_cons (pe_bltn (v := .ty "str") (u := .type "str") (by rfl) T.n_str (by decide +kernel) rfl) pa_nil))))) (pw_or1 (pt_cmpR op_ne (pv 6) (pe_call G__law_plain (hr.mono (by omega)) (by rfl) T.g__law_plain T.F__law_plain.kp T.b__law_plain .nil pass0 (pa_cons (pv 5) pa_nil)) (nomark _))))) (pss_one (ps_ret pe_bl)) pss_nil)
    (pss_cons (ps_set (i := 7) sc_law.nd rfl (Or.inl rfl) (pe_call G_read_formula (hr.mono (by omega)) (by rfl) T.g_read_formula T.F_read_formula.kp T.b_read_formula .nil pass0 (pa_cons (pv 6) pa_nil)))
    (pss_cons (ps_if (PW.pt (pw_or (pt_cmpR (op_neX hr.un2) (pv 7) (pv 4) (nomark _)) (pw_or1 (pt_not (pt_val (pe_callB call_isi (by rfl) T.n_isinstance (by decide +kernel) (pa_cons (pv 7) (pa_cons (pe_bltn (v := .ty "tuple") (u := .type "tuple") (by rfl) T.n_tuple (by decide +kernel) rfl) pa_nil)))))))) (pss_one (ps_ret pe_bl)) pss_nil)
    (pss_one (ps_ret (pe_cmpR (op_eqX hr.un2) (pe_call G_read_formula (hr.mono (by omega)) (by rfl) T.g_read_formula T.F_read_formula.kp T.b_read_formula .nil pass0 (pa_cons (pe_call G__law_laid (hr.mono (by omega)) (by rfl) T.g__law_laid T.F__law_laid.kp T.b__law_laid .nil pass0 (pa_cons (pv 1) (pa_cons (pv 5) pa_nil))) pa_nil)) (pv 4) (nomark _))))))))))), ?_⟩
  refine ⟨_, rfl, a, ns, rfl, hS, h63, fun p c m cs H1 sm cp hc pos hp m0 m1 => ?_⟩
  have src1 : Src K c H1 p := ⟨cs, 0, 1, m, ⟨hp, SqL.of (K := K) hc, cp, Nat.zero_le _, by decide, pos, m0, m1⟩⟩
  refine ⟨_, rfl, p, c, 4, rfl, src1, by decide, fun j H2 b2 s2 j0 j1 => ?_⟩
  refine ⟨_, _, rfl, rfl, _, rfl, by omega, by omega, fun D hD => ?_⟩
  have Dp0 : D ≠ p := s2.ne hD
  have Dc0 : D ≠ c := (ne_of_none (b2 c _ cp hc) hD).symm
  refine lc_foldF walk_range (fun H3 => Src K c H3 p) (fun i H3 ys => ∃ xs : List Str, ys = xs.map V.str ∧ xs.length = i ∧ i ≤ 5 ∧ ∀ x ∈ xs, NameOk x) (s2.upd Dp0 Dc0 _) (fun H3 ys zs h _ => h.upd Dp0 Dc0 _)
    ⟨[], rfl, rfl, by omega, fun _ h => nomatch h⟩ (fun i H3 ys zs xs h _ => h) ?_ (fun _ _ => trivial) ?_ ?_
  · rintro i H3 ys ⟨xs, rfl, e, h5, _⟩
    rw [List.length_map]; omega
  · rintro i x H3 H4 ys Nx Ex hi s3 hy ⟨xs, rfl, e, h5, nk⟩ ⟨rfl, rfl⟩ k1 k2
    refine ⟨rfl, ?_⟩
    refine lcY ?_
    refine ⟨_, rfl, p, c, rfl, s3, fun x H5 b5 s5 n5 => k1 _ _ s5 (b5 _ _ Dp0 hy) ⟨xs ++ [x], by rw [List.map_append]; rfl, by rw [List.length_append, e]; rfl, by omega, fun y hy => ?_⟩⟩
    rcases List.mem_append.mp hy with h | h
    · exact nk y h
    · have : y = x := by simpa using h
      rw [this]; exact n5
  rintro H3 _ s3 hD3 ⟨xs, rfl, ex, h5, nk⟩
  refine ⟨_, rfl, _, rfl, _, rfl, p, c, 6, rfl, s3, by decide, fun i H4 b4 s4 i0 i1 => ?_⟩
  refine ⟨p, c, D, i.toNat, xs, (by show [V.ref p, V.ref D, V.int i] = _; rw [show i = (i.toNat : Int) by omega, Int.toNat_natCast]), s4, Dp0, b4.seq Dp0 (SqL.of (K := K) hD3), by omega, by omega, by omega, fun f v H5 b5 s5 f5 fd fz fl => ?_⟩
  have fd6 : f.depth ≤ 6 := by omega
  have fz6 : f.size < 64 := Nat.lt_of_lt_of_le fz (Nat.pow_le_pow_right (by omega) (by omega : i.toNat + 1 ≤ 6))
  have lk : f.Lk NameOk (· ∈ vals) := fl.mono nk
  have tok : f.Texts (fun s => PyData.strOk s = true) := fl.texts (fun s h => (nk s h).strOk) vals_ok
  have tlen : f.Texts (fun s => s.length ≤ 20) := fl.texts (fun s h => by have := (nk s h).le; omega) vals_len
  have gx : Shp 190 f.toD := ⟨f.toD_lay tok, by rw [f.toD_depth]; omega⟩
  have wl := Fm.write_len f tlen
  have wn := Fm.words_length f
  have wle := Fm.words_le f lk
  have wok := Fm.words_ok f lk
  have pw := plain_write lk
  refine ⟨_, rfl, f, v, rfl, f5, by omega, by omega, fun l1 H6 s6 hl1 h6 => ?_⟩
  refine ⟨_, rfl, f, v, rfl, f5.same s6, by omega, ⟨tlen, by omega⟩, fun H7 s7 => ?_⟩
  have h7 := s7.at h6
  have s57 := s6.trans s7
  refine ⟨_, rfl, _, _, _, _, _, rfl, .ty "str", .base (.str _), kit_ss, _, rfl, ?_⟩
  refine iteF ?_
  refine ⟨_, rfl, _, rfl, l1, f.words, rfl, SqL.of (K := K) h7, by omega, wle, fun H8 s8 => ?_⟩
  refine ⟨rfl, _, rfl, ?_⟩
  rw [kne, pw, decide_eq_true rfl]
  refine iteF ?_
  have s58 := s57.trans s8
  have twf : (tk f.write.cps.toList 0 none).map (·.1) = f.words ++ [((("") : Str))] := by
    rw [tk_words, ← pw]
    obtain ⟨o, q⟩ := laid_pl f.words false [] [] false wok laid_nil (fun e => by cases e)
    have q2 := laid_end q
    rw [List.nil_append, List.nil_append] at q2
    exact q2
  refine ⟨_, rfl, f.write, f, rfl, by omega, lk, by omega, twf, fun v9 H9 s9 r9 => ?_⟩
  have s59 := s58.trans s9
  have hf9 := f5.same s59
  refine ⟨_, rfl, _, rfl, _, _, r9.dp, hf9.dp, gx, gx, _, rfl, ?_⟩
  rw [Fm.eqv_toD, decide_eq_true rfl]
  refine iteF ?_
  obtain ⟨p9, xs9, rfl, hp9, _⟩ := r9.out
  refine ⟨_, rfl, _, _, _, _, _, rfl, .ty "tuple", tyx_tup hp9, kit_tt, _, rfl, ?_⟩
  refine iteF ?_
  have src9 : Src K c H9 p := s5.same s59
  have l1p : l1 ≠ p := fun e => by
    obtain ⟨o, q⟩ := s5.here
    rw [e, q] at hl1; cases hl1
  refine ⟨_, rfl, _, rfl, p, c, l1, f.words, rfl, src9, l1p, SqL.of (K := K) ((s8.trans s9).at h7), by omega, wle, wok, fun z H10 b10 s10 zl etw => ?_⟩
  refine ⟨z, f, rfl, zl, lk, by omega, (by rw [tk_words]; exact etw), fun v11 H11 s11 r11 => ?_⟩
  refine ⟨_, rfl, _, _, r11.dp, ((hf9.keep (src9.keeps b10)).same s11).dp, gx, gx, ?_⟩
  rw [Fm.eqv_toD, decide_eq_true rfl]
  exact q _
end
theorem all_mk {l : PySem.W.OpenLaw} {W_ : World} {K : PySem.W.Frag} {h : Heap} {mg : Str → Option Value} {fa : Addr} (X : K.In h) (G : h.Ns mainGlobals mg) (hfa : mg "law" = some (.ref fa))
    {f_write_formula f_is_name f_read_formula f__law_cells f__law_pick f__law_name f__law_any f__law_words f__law_plain f__law_laid f_law f_SHAPES t_SHAPES_value t_SHAPES_mark t_SHAPES_and t_SHAPES_or t_SHAPES_some t_SHAPES_all t_SHAPES_least t_SHAPES_most f_SINGLE_WORDS f_Words f_Words_init f_Words_need f_Words_formula_at f_Words_field_at : Addr}
    {od_write_formula an_write_formula : Option Addr} {sl_write_formula : Array (Option Value)} {oc_write_formula kV_write_formula dc_write_formula pm_write_formula cd_write_formula ct_write_formula : Value} {od_is_name an_is_name : Option Addr} {sl_is_name : Array (Option Value)} {oc_is_name kV_is_name dc_is_name pm_is_name cd_is_name ct_is_name : Value} {od_read_formula an_read_formula : Option Addr} {sl_read_formula : Array (Option Value)} {oc_read_formula kV_read_formula dc_read_formula pm_read_formula cd_read_formula ct_read_formula : Value} {od__law_cells an__law_cells : Option Addr} {sl__law_cells : Array (Option Value)} {oc__law_cells kV__law_cells dc__law_cells pm__law_cells cd__law_cells ct__law_cells : Value} {od__law_pick an__law_pick : Option Addr} {sl__law_pick : Array (Option Value)} {oc__law_pick kV__law_pick dc__law_pick pm__law_pick cd__law_pick ct__law_pick : Value} {od__law_name an__law_name : Option Addr} {sl__law_name : Array (Option Value)} {oc__law_name kV__law_name dc__law_name pm__law_name cd__law_name ct__law_name : Value} {od__law_any an__law_any : Option Addr} {sl__law_any : Array (Option Value)} {oc__law_any kV__law_any dc__law_any pm__law_any cd__law_any ct__law_any : Value} {od__law_words an__law_words : Option Addr} {sl__law_words : Array (Option Value)} {oc__law_words kV__law_words dc__law_words pm__law_words cd__law_words ct__law_words : Value} {od__law_plain an__law_plain : Option Addr} {sl__law_plain : Array (Option Value)} {oc__law_plain kV__law_plain dc__law_plain pm__law_plain cd__law_plain ct__law_plain : Value} {od__law_laid an__law_laid : Option Addr} {sl__law_laid : Array (Option Value)} {oc__law_laid kV__law_laid dc__law_laid pm__law_laid cd__law_laid ct__law_laid : Value} {od_law an_law : Option Addr} {sl_law : Array (Option Value)} {oc_law kV_law dc_law pm_law cd_law ct_law : Value} {u_SMALL_LETTERS : Tok} {u_TEN_FIGURES : Tok} {u_MOST_LEVELS : Tok} {es_SHAPES : Array DictEntry} {n_SHAPES : Nat} {n_SHAPES_value : Nat} {u0_SHAPES_value : Tok} {n_SHAPES_mark : Nat} {u0_SHAPES_mark : Tok} {n_SHAPES_and : Nat} {u0_SHAPES_and : Tok} {u1_SHAPES_and : Tok} {n_SHAPES_or : Nat} {u0_SHAPES_or : Tok} {u1_SHAPES_or : Tok} {n_SHAPES_some : Nat} {u0_SHAPES_some : Tok} {n_SHAPES_all : Nat} {u0_SHAPES_all : Tok} {n_SHAPES_least : Nat} {u0_SHAPES_least : Tok} {u1_SHAPES_least : Tok} {n_SHAPES_most : Nat} {u0_SHAPES_most : Tok} {u1_SHAPES_most : Tok} {n_SINGLE_WORDS : Nat} {u0_SINGLE_WORDS : Tok} {u1_SINGLE_WORDS : Tok} {od_Words_init an_Words_init : Option Addr} {sl_Words_init : Array (Option Value)} {oc_Words_init kV_Words_init dc_Words_init pm_Words_init cd_Words_init ct_Words_init : Value} {od_Words_need an_Words_need : Option Addr} {sl_Words_need : Array (Option Value)} {oc_Words_need kV_Words_need dc_Words_need pm_Words_need cd_Words_need ct_Words_need : Value} {od_Words_formula_at an_Words_formula_at : Option Addr} {sl_Words_formula_at : Array (Option Value)} {oc_Words_formula_at kV_Words_formula_at dc_Words_formula_at pm_Words_formula_at cd_Words_formula_at ct_Words_formula_at : Value} {od_Words_field_at an_Words_field_at : Option Addr} {sl_Words_field_at : Array (Option Value)} {oc_Words_field_at kV_Words_field_at dc_Words_field_at pm_Words_field_at cd_Words_field_at ct_Words_field_at : Value}
    (z_abs : PySem.W.nsIn K mainGlobals "abs" = some none)
    (z_all : PySem.W.nsIn K mainGlobals "all" = some none)
    (z_enumerate : PySem.W.nsIn K mainGlobals "enumerate" = some none)
    (z_int : PySem.W.nsIn K mainGlobals "int" = some none)
    (z_isinstance : PySem.W.nsIn K mainGlobals "isinstance" = some none)
    (z_len : PySem.W.nsIn K mainGlobals "len" = some none)
    (z_range : PySem.W.nsIn K mainGlobals "range" = some none)
    (z_str : PySem.W.nsIn K mainGlobals "str" = some none)
    (z_super : PySem.W.nsIn K mainGlobals "super" = some none)
    (z_tuple : PySem.W.nsIn K mainGlobals "tuple" = some none)
    (g_write_formula : PySem.W.nsIn K mainGlobals "write_formula" = some (some (.ref f_write_formula)))
    (l_write_formula : K.lookup f_write_formula = some ⟨oc_write_formula, od_write_formula, .func (PySem.W.fnOf "write_formula" "write_formula" (defArgs St_write_formula) (defBody St_write_formula) (defScope St_write_formula) .none kV_write_formula dc_write_formula pm_write_formula an_write_formula cd_write_formula ct_write_formula), sl_write_formula⟩)
    (c_write_formula : PySem.W.codeIn K cd_write_formula "write_formula" = true)
    (k_write_formula : PySem.W.keepIn K (.ref f_write_formula) = true)
    (g_is_name : PySem.W.nsIn K mainGlobals "is_name" = some (some (.ref f_is_name)))
    (l_is_name : K.lookup f_is_name = some ⟨oc_is_name, od_is_name, .func (PySem.W.fnOf "is_name" "is_name" (defArgs St_is_name) (defBody St_is_name) (defScope St_is_name) .none kV_is_name dc_is_name pm_is_name an_is_name cd_is_name ct_is_name), sl_is_name⟩)
    (c_is_name : PySem.W.codeIn K cd_is_name "is_name" = true)
    (k_is_name : PySem.W.keepIn K (.ref f_is_name) = true)
    (g_read_formula : PySem.W.nsIn K mainGlobals "read_formula" = some (some (.ref f_read_formula)))
    (l_read_formula : K.lookup f_read_formula = some ⟨oc_read_formula, od_read_formula, .func (PySem.W.fnOf "read_formula" "read_formula" (defArgs St_read_formula) (defBody St_read_formula) (defScope St_read_formula) .none kV_read_formula dc_read_formula pm_read_formula an_read_formula cd_read_formula ct_read_formula), sl_read_formula⟩)
    (c_read_formula : PySem.W.codeIn K cd_read_formula "read_formula" = true)
    (k_read_formula : PySem.W.keepIn K (.ref f_read_formula) = true)
    (g__law_cells : PySem.W.nsIn K mainGlobals "_law_cells" = some (some (.ref f__law_cells)))
    (l__law_cells : K.lookup f__law_cells = some ⟨oc__law_cells, od__law_cells, .func (PySem.W.fnOf "_law_cells" "_law_cells" (defArgs St__law_cells) (defBody St__law_cells) (defScope St__law_cells) .none kV__law_cells dc__law_cells pm__law_cells an__law_cells cd__law_cells ct__law_cells), sl__law_cells⟩)
    (c__law_cells : PySem.W.codeIn K cd__law_cells "_law_cells" = true)
    (k__law_cells : PySem.W.keepIn K (.ref f__law_cells) = true)
    (g__law_pick : PySem.W.nsIn K mainGlobals "_law_pick" = some (some (.ref f__law_pick)))
    (l__law_pick : K.lookup f__law_pick = some ⟨oc__law_pick, od__law_pick, .func (PySem.W.fnOf "_law_pick" "_law_pick" (defArgs St__law_pick) (defBody St__law_pick) (defScope St__law_pick) .none kV__law_pick dc__law_pick pm__law_pick an__law_pick cd__law_pick ct__law_pick), sl__law_pick⟩)
    (c__law_pick : PySem.W.codeIn K cd__law_pick "_law_pick" = true)
    (k__law_pick : PySem.W.keepIn K (.ref f__law_pick) = true)
    (g__law_name : PySem.W.nsIn K mainGlobals "_law_name" = some (some (.ref f__law_name)))
    (l__law_name : K.lookup f__law_name = some ⟨oc__law_name, od__law_name, .func (PySem.W.fnOf "_law_name" "_law_name" (defArgs St__law_name) (defBody St__law_name) (defScope St__law_name) .none kV__law_name dc__law_name pm__law_name an__law_name cd__law_name ct__law_name), sl__law_name⟩)
    (c__law_name : PySem.W.codeIn K cd__law_name "_law_name" = true)
    (k__law_name : PySem.W.keepIn K (.ref f__law_name) = true)
    (g__law_any : PySem.W.nsIn K mainGlobals "_law_any" = some (some (.ref f__law_any)))
    (l__law_any : K.lookup f__law_any = some ⟨oc__law_any, od__law_any, .func (PySem.W.fnOf "_law_any" "_law_any" (defArgs St__law_any) (defBody St__law_any) (defScope St__law_any) .none kV__law_any dc__law_any pm__law_any an__law_any cd__law_any ct__law_any), sl__law_any⟩)
    (c__law_any : PySem.W.codeIn K cd__law_any "_law_any" = true)
    (k__law_any : PySem.W.keepIn K (.ref f__law_any) = true)
    (g__law_words : PySem.W.nsIn K mainGlobals "_law_words" = some (some (.ref f__law_words)))
    (l__law_words : K.lookup f__law_words = some ⟨oc__law_words, od__law_words, .func (PySem.W.fnOf "_law_words" "_law_words" (defArgs St__law_words) (defBody St__law_words) (defScope St__law_words) .none kV__law_words dc__law_words pm__law_words an__law_words cd__law_words ct__law_words), sl__law_words⟩)
    (c__law_words : PySem.W.codeIn K cd__law_words "_law_words" = true)
    (k__law_words : PySem.W.keepIn K (.ref f__law_words) = true)
    (g__law_plain : PySem.W.nsIn K mainGlobals "_law_plain" = some (some (.ref f__law_plain)))
    (l__law_plain : K.lookup f__law_plain = some ⟨oc__law_plain, od__law_plain, .func (PySem.W.fnOf "_law_plain" "_law_plain" (defArgs St__law_plain) (defBody St__law_plain) (defScope St__law_plain) .none kV__law_plain dc__law_plain pm__law_plain an__law_plain cd__law_plain ct__law_plain), sl__law_plain⟩)
    (c__law_plain : PySem.W.codeIn K cd__law_plain "_law_plain" = true)
    (k__law_plain : PySem.W.keepIn K (.ref f__law_plain) = true)
    (g__law_laid : PySem.W.nsIn K mainGlobals "_law_laid" = some (some (.ref f__law_laid)))
    (l__law_laid : K.lookup f__law_laid = some ⟨oc__law_laid, od__law_laid, .func (PySem.W.fnOf "_law_laid" "_law_laid" (defArgs St__law_laid) (defBody St__law_laid) (defScope St__law_laid) .none kV__law_laid dc__law_laid pm__law_laid an__law_laid cd__law_laid ct__law_laid), sl__law_laid⟩)
    (c__law_laid : PySem.W.codeIn K cd__law_laid "_law_laid" = true)
    (k__law_laid : PySem.W.keepIn K (.ref f__law_laid) = true)
    (g_law : PySem.W.nsIn K mainGlobals "law" = some (some (.ref f_law)))
    (l_law : K.lookup f_law = some ⟨oc_law, od_law, .func (PySem.W.fnOf "law" "law" (defArgs St_law) (defBody St_law) (defScope St_law) .none kV_law dc_law pm_law an_law cd_law ct_law), sl_law⟩)
    (c_law : PySem.W.codeIn K cd_law "law" = true)
    (k_law : PySem.W.keepIn K (.ref f_law) = true)
    (g_SMALL_LETTERS : PySem.W.nsIn K mainGlobals "SMALL_LETTERS" = some (some (.str "abcdefghijklmnopqrstuvwxyz" u_SMALL_LETTERS)))
    (g_TEN_FIGURES : PySem.W.nsIn K mainGlobals "TEN_FIGURES" = some (some (.str "0123456789" u_TEN_FIGURES)))
    (g_MOST_LEVELS : PySem.W.nsIn K mainGlobals "MOST_LEVELS" = some (some (.int 40 u_MOST_LEVELS)))
    (g_SHAPES : PySem.W.nsIn K mainGlobals "SHAPES" = some (some (.ref f_SHAPES)))
    (l_SHAPES : K.lookup f_SHAPES = some ⟨.type "dict", none, .dict es_SHAPES n_SHAPES, #[]⟩)
    (y_SHAPES : PySem.W.KeysLit W_.params es_SHAPES.toList)
    (lo_SHAPES : (f_SHAPES == sysModules) = false)
    (w_SHAPES : KeysOf es_SHAPES.toList ["value", "mark", "and", "or", "some", "all", "least", "most"])
    (k_SHAPES_value : PySem.W.nsIn K f_SHAPES "value" = some (some (.ref t_SHAPES_value)))
    (j_SHAPES_value : K.lookup t_SHAPES_value = some (⟨.type "tuple", none, .seq #[.str "value" u0_SHAPES_value] n_SHAPES_value, #[]⟩ : Obj))
    (k_SHAPES_mark : PySem.W.nsIn K f_SHAPES "mark" = some (some (.ref t_SHAPES_mark)))
    (j_SHAPES_mark : K.lookup t_SHAPES_mark = some (⟨.type "tuple", none, .seq #[.str "name" u0_SHAPES_mark] n_SHAPES_mark, #[]⟩ : Obj))
    (k_SHAPES_and : PySem.W.nsIn K f_SHAPES "and" = some (some (.ref t_SHAPES_and)))
    (j_SHAPES_and : K.lookup t_SHAPES_and = some (⟨.type "tuple", none, .seq #[.str "part" u0_SHAPES_and, .str "part" u1_SHAPES_and] n_SHAPES_and, #[]⟩ : Obj))
    (k_SHAPES_or : PySem.W.nsIn K f_SHAPES "or" = some (some (.ref t_SHAPES_or)))
    (j_SHAPES_or : K.lookup t_SHAPES_or = some (⟨.type "tuple", none, .seq #[.str "part" u0_SHAPES_or, .str "part" u1_SHAPES_or] n_SHAPES_or, #[]⟩ : Obj))
    (k_SHAPES_some : PySem.W.nsIn K f_SHAPES "some" = some (some (.ref t_SHAPES_some)))
    (j_SHAPES_some : K.lookup t_SHAPES_some = some (⟨.type "tuple", none, .seq #[.str "part" u0_SHAPES_some] n_SHAPES_some, #[]⟩ : Obj))
    (k_SHAPES_all : PySem.W.nsIn K f_SHAPES "all" = some (some (.ref t_SHAPES_all)))
    (j_SHAPES_all : K.lookup t_SHAPES_all = some (⟨.type "tuple", none, .seq #[.str "part" u0_SHAPES_all] n_SHAPES_all, #[]⟩ : Obj))
    (k_SHAPES_least : PySem.W.nsIn K f_SHAPES "least" = some (some (.ref t_SHAPES_least)))
    (j_SHAPES_least : K.lookup t_SHAPES_least = some (⟨.type "tuple", none, .seq #[.str "name" u0_SHAPES_least, .str "part" u1_SHAPES_least] n_SHAPES_least, #[]⟩ : Obj))
    (k_SHAPES_most : PySem.W.nsIn K f_SHAPES "most" = some (some (.ref t_SHAPES_most)))
    (j_SHAPES_most : K.lookup t_SHAPES_most = some (⟨.type "tuple", none, .seq #[.str "name" u0_SHAPES_most, .str "part" u1_SHAPES_most] n_SHAPES_most, #[]⟩ : Obj))
    (g_SINGLE_WORDS : PySem.W.nsIn K mainGlobals "SINGLE_WORDS" = some (some (.ref f_SINGLE_WORDS)))
    (l_SINGLE_WORDS : K.lookup f_SINGLE_WORDS = some (⟨.type "tuple", none, .seq #[.str "true" u0_SINGLE_WORDS, .str "false" u1_SINGLE_WORDS] n_SINGLE_WORDS, #[]⟩ : Obj))
    (g_Words : PySem.W.nsIn K mainGlobals "Words" = some (some (.ref f_Words)))
    (pg_Words : PySem.W.plainGet K f_Words Str.empty = true)
    (hd_Words : PySem.W.hasDictIn K f_Words = true)
    (po_Words : PySem.W.plainOver K f_Words = true)
    (sa_Words : PySem.W.findIn K (.ref f_Words) "__setattr__" = some (some (.builtin "object.__setattr__")))
    (mk_Words : PySem.W.makesIn K f_Words = true)
    (kc_Words : PySem.W.keepIn K (.ref f_Words) = true)
    (na_Words_row : PySem.W.findIn K (.ref f_Words) "row" = some none)
    (h_Words_init : PySem.W.findIn K (.ref f_Words) "__init__" = some (some (.ref f_Words_init)))
    (i_Words_init : PySem.W.isFn K (.ref f_Words_init) = true)
    (l_Words_init : K.lookup f_Words_init = some ⟨oc_Words_init, od_Words_init, .func (PySem.W.fnOf "__init__" "Words.__init__" (defArgs St_Words_init) (defBody St_Words_init) (defScope St_Words_init) .none kV_Words_init dc_Words_init pm_Words_init an_Words_init cd_Words_init ct_Words_init), sl_Words_init⟩)
    (c_Words_init : PySem.W.codeIn K cd_Words_init "Words.__init__" = true)
    (k_Words_init : PySem.W.keepIn K (.ref f_Words_init) = true)
    (h_Words_need : PySem.W.findIn K (.ref f_Words) "need" = some (some (.ref f_Words_need)))
    (i_Words_need : PySem.W.isFn K (.ref f_Words_need) = true)
    (l_Words_need : K.lookup f_Words_need = some ⟨oc_Words_need, od_Words_need, .func (PySem.W.fnOf "need" "Words.need" (defArgs St_Words_need) (defBody St_Words_need) (defScope St_Words_need) .none kV_Words_need dc_Words_need pm_Words_need an_Words_need cd_Words_need ct_Words_need), sl_Words_need⟩)
    (c_Words_need : PySem.W.codeIn K cd_Words_need "Words.need" = true)
    (k_Words_need : PySem.W.keepIn K (.ref f_Words_need) = true)
    (h_Words_formula_at : PySem.W.findIn K (.ref f_Words) "formula_at" = some (some (.ref f_Words_formula_at)))
    (i_Words_formula_at : PySem.W.isFn K (.ref f_Words_formula_at) = true)
    (l_Words_formula_at : K.lookup f_Words_formula_at = some ⟨oc_Words_formula_at, od_Words_formula_at, .func (PySem.W.fnOf "formula_at" "Words.formula_at" (defArgs St_Words_formula_at) (defBody St_Words_formula_at) (defScope St_Words_formula_at) .none kV_Words_formula_at dc_Words_formula_at pm_Words_formula_at an_Words_formula_at cd_Words_formula_at ct_Words_formula_at), sl_Words_formula_at⟩)
    (c_Words_formula_at : PySem.W.codeIn K cd_Words_formula_at "Words.formula_at" = true)
    (k_Words_formula_at : PySem.W.keepIn K (.ref f_Words_formula_at) = true)
    (h_Words_field_at : PySem.W.findIn K (.ref f_Words) "field_at" = some (some (.ref f_Words_field_at)))
    (i_Words_field_at : PySem.W.isFn K (.ref f_Words_field_at) = true)
    (l_Words_field_at : K.lookup f_Words_field_at = some ⟨oc_Words_field_at, od_Words_field_at, .func (PySem.W.fnOf "field_at" "Words.field_at" (defArgs St_Words_field_at) (defBody St_Words_field_at) (defScope St_Words_field_at) .none kV_Words_field_at dc_Words_field_at pm_Words_field_at an_Words_field_at cd_Words_field_at ct_Words_field_at), sl_Words_field_at⟩)
    (c_Words_field_at : PySem.W.codeIn K cd_Words_field_at "Words.field_at" = true)
    (k_Words_field_at : PySem.W.keepIn K (.ref f_Words_field_at) = true)
    : ∃ fd : FuncData, (∀ (s : Shared) (v : Value), BindsTo s fd ⟨[v], []⟩ [("script", v)]) ∧ ∀ base : Heap, K.In base → base.Ns mainGlobals mg → FnOk l.prog W_ K mg base L2.CX0 120 fa fd ["script"] (spLaw K) := by
  have e := hfa.symm.trans (PySem.W.mg_of X G g_law)
  cases e
  have F_write_formula := fun_mk (st := St_write_formula) l_write_formula c_write_formula k_write_formula
  have b_write_formula := F_write_formula.binds (ps := ["formula"]) fun _ _ _ _ _ _ us hl => match us, hl with | [_], _ => rfl
  have F_is_name := fun_mk (st := St_is_name) l_is_name c_is_name k_is_name
  have b_is_name := F_is_name.binds (ps := ["word"]) fun _ _ _ _ _ _ us hl => match us, hl with | [_], _ => rfl
  have F_read_formula := fun_mk (st := St_read_formula) l_read_formula c_read_formula k_read_formula
  have b_read_formula := F_read_formula.binds (ps := ["text"]) fun _ _ _ _ _ _ us hl => match us, hl with | [_], _ => rfl
  have F__law_cells := fun_mk (st := St__law_cells) l__law_cells c__law_cells k__law_cells
  have b__law_cells := F__law_cells.binds (ps := ["script"]) fun _ _ _ _ _ _ us hl => match us, hl with | [_], _ => rfl
  have F__law_pick := fun_mk (st := St__law_pick) l__law_pick c__law_pick k__law_pick
  have b__law_pick := F__law_pick.binds (ps := ["source", "many"]) fun _ _ _ _ _ _ us hl => match us, hl with | [_, _], _ => rfl
  have F__law_name := fun_mk (st := St__law_name) l__law_name c__law_name k__law_name
  have b__law_name := F__law_name.binds (ps := ["source"]) fun _ _ _ _ _ _ us hl => match us, hl with | [_], _ => rfl
  have F__law_any := fun_mk (st := St__law_any) l__law_any c__law_any k__law_any
  have b__law_any := F__law_any.binds (ps := ["source", "names", "depth"]) fun _ _ _ _ _ _ us hl => match us, hl with | [_, _, _], _ => rfl
  have F__law_words := fun_mk (st := St__law_words) l__law_words c__law_words k__law_words
  have b__law_words := F__law_words.binds (ps := ["formula"]) fun _ _ _ _ _ _ us hl => match us, hl with | [_], _ => rfl
  have F__law_plain := fun_mk (st := St__law_plain) l__law_plain c__law_plain k__law_plain
  have b__law_plain := F__law_plain.binds (ps := ["words"]) fun _ _ _ _ _ _ us hl => match us, hl with | [_], _ => rfl
  have F__law_laid := fun_mk (st := St__law_laid) l__law_laid c__law_laid k__law_laid
  have b__law_laid := F__law_laid.binds (ps := ["source", "words"]) fun _ _ _ _ _ _ us hl => match us, hl with | [_, _], _ => rfl
  have F_law := fun_mk (st := St_law) l_law c_law k_law
  have b_law := F_law.binds (ps := ["script"]) fun _ _ _ _ _ _ us hl => match us, hl with | [_], _ => rfl
  have F_Words_init := fun_mk (st := St_Words_init) l_Words_init c_Words_init k_Words_init
  have b_Words_init := F_Words_init.binds (ps := ["self", "text"]) fun _ _ _ _ _ _ us hl => match us, hl with | [_, _], _ => rfl
  have F_Words_need := fun_mk (st := St_Words_need) l_Words_need c_Words_need k_Words_need
  have b_Words_need := F_Words_need.binds (ps := ["self", "number", "good"]) fun _ _ _ _ _ _ us hl => match us, hl with | [_, _, _], _ => rfl
  have F_Words_formula_at := fun_mk (st := St_Words_formula_at) l_Words_formula_at c_Words_formula_at k_Words_formula_at
  have b_Words_formula_at := F_Words_formula_at.binds (ps := ["self", "number", "level"]) fun _ _ _ _ _ _ us hl => match us, hl with | [_, _, _], _ => rfl
  have F_Words_field_at := fun_mk (st := St_Words_field_at) l_Words_field_at c_Words_field_at k_Words_field_at
  have b_Words_field_at := F_Words_field_at.binds (ps := ["self", "shape", "number", "level"]) fun _ _ _ _ _ _ us hl => match us, hl with | [_, _, _, _], _ => rfl
  let T : Tx K mg W_ := { n_abs := PySem.W.mg_none_of X G z_abs, n_all := PySem.W.mg_none_of X G z_all, n_enumerate := PySem.W.mg_none_of X G z_enumerate, n_int := PySem.W.mg_none_of X G z_int, n_isinstance := PySem.W.mg_none_of X G z_isinstance, n_len := PySem.W.mg_none_of X G z_len, n_range := PySem.W.mg_none_of X G z_range, n_str := PySem.W.mg_none_of X G z_str, n_super := PySem.W.mg_none_of X G z_super, n_tuple := PySem.W.mg_none_of X G z_tuple, a_write_formula := f_write_formula, d_write_formula := _, F_write_formula := F_write_formula, b_write_formula := b_write_formula, g_write_formula := PySem.W.mg_of X G g_write_formula, a_is_name := f_is_name, d_is_name := _, F_is_name := F_is_name, b_is_name := b_is_name, g_is_name := PySem.W.mg_of X G g_is_name, a_read_formula := f_read_formula, d_read_formula := _, F_read_formula := F_read_formula, b_read_formula := b_read_formula, g_read_formula := PySem.W.mg_of X G g_read_formula, a__law_cells := f__law_cells, d__law_cells := _, F__law_cells := F__law_cells, b__law_cells := b__law_cells, g__law_cells := PySem.W.mg_of X G g__law_cells, a__law_pick := f__law_pick, d__law_pick := _, F__law_pick := F__law_pick, b__law_pick := b__law_pick, g__law_pick := PySem.W.mg_of X G g__law_pick, a__law_name := f__law_name, d__law_name := _, F__law_name := F__law_name, b__law_name := b__law_name, g__law_name := PySem.W.mg_of X G g__law_name, a__law_any := f__law_any, d__law_any := _, F__law_any := F__law_any, b__law_any := b__law_any, g__law_any := PySem.W.mg_of X G g__law_any, a__law_words := f__law_words, d__law_words := _, F__law_words := F__law_words, b__law_words := b__law_words, g__law_words := PySem.W.mg_of X G g__law_words, a__law_plain := f__law_plain, d__law_plain := _, F__law_plain := F__law_plain, b__law_plain := b__law_plain, g__law_plain := PySem.W.mg_of X G g__law_plain, a__law_laid := f__law_laid, d__law_laid := _, F__law_laid := F__law_laid, b__law_laid := b__law_laid, g__law_laid := PySem.W.mg_of X G g__law_laid, a_law := fa, d_law := _, F_law := F_law, b_law := b_law, g_law := PySem.W.mg_of X G g_law, g_SMALL_LETTERS := ⟨_, PySem.W.mg_of X G g_SMALL_LETTERS⟩, g_TEN_FIGURES := ⟨_, PySem.W.mg_of X G g_TEN_FIGURES⟩, g_MOST_LEVELS := ⟨_, PySem.W.mg_of X G g_MOST_LEVELS⟩, a_SHAPES := f_SHAPES, g_SHAPES := PySem.W.mg_of X G g_SHAPES, e_SHAPES := es_SHAPES, m_SHAPES := n_SHAPES, l_SHAPES := l_SHAPES, y_SHAPES := y_SHAPES, lo_SHAPES := lo_SHAPES, w_SHAPES := w_SHAPES, k_SHAPES_value := ⟨_, k_SHAPES_value, fun H => .inr ⟨_, _, _, j_SHAPES_value, rfl, rfl, (by show 1 ≤ sizeLine; decide), .cons ⟨_, rfl⟩ .nil⟩⟩, k_SHAPES_mark := ⟨_, k_SHAPES_mark, fun H => .inr ⟨_, _, _, j_SHAPES_mark, rfl, rfl, (by show 1 ≤ sizeLine; decide), .cons ⟨_, rfl⟩ .nil⟩⟩, k_SHAPES_and := ⟨_, k_SHAPES_and, fun H => .inr ⟨_, _, _, j_SHAPES_and, rfl, rfl, (by show 2 ≤ sizeLine; decide), .cons ⟨_, rfl⟩ (.cons ⟨_, rfl⟩ .nil)⟩⟩, k_SHAPES_or := ⟨_, k_SHAPES_or, fun H => .inr ⟨_, _, _, j_SHAPES_or, rfl, rfl, (by show 2 ≤ sizeLine; decide), .cons ⟨_, rfl⟩ (.cons ⟨_, rfl⟩ .nil)⟩⟩, k_SHAPES_some := ⟨_, k_SHAPES_some, fun H => .inr ⟨_, _, _, j_SHAPES_some, rfl, rfl, (by show 1 ≤ sizeLine; decide), .cons ⟨_, rfl⟩ .nil⟩⟩, k_SHAPES_all := ⟨_, k_SHAPES_all, fun H => .inr ⟨_, _, _, j_SHAPES_all, rfl, rfl, (by show 1 ≤ sizeLine; decide), .cons ⟨_, rfl⟩ .nil⟩⟩, k_SHAPES_least := ⟨_, k_SHAPES_least, fun H => .inr ⟨_, _, _, j_SHAPES_least, rfl, rfl, (by show 2 ≤ sizeLine; decide), .cons ⟨_, rfl⟩ (.cons ⟨_, rfl⟩ .nil)⟩⟩, k_SHAPES_most := ⟨_, k_SHAPES_most, fun H => .inr ⟨_, _, _, j_SHAPES_most, rfl, rfl, (by show 2 ≤ sizeLine; decide), .cons ⟨_, rfl⟩ (.cons ⟨_, rfl⟩ .nil)⟩⟩, a_SINGLE_WORDS := f_SINGLE_WORDS, g_SINGLE_WORDS := PySem.W.mg_of X G g_SINGLE_WORDS, t_SINGLE_WORDS := fun H => .inr ⟨_, _, _, l_SINGLE_WORDS, rfl, rfl, (by show 2 ≤ sizeLine; decide), .cons ⟨_, rfl⟩ (.cons ⟨_, rfl⟩ .nil)⟩, a_Words := f_Words, g_Words := PySem.W.mg_of X G g_Words, c_Words := ⟨pg_Words, hd_Words, po_Words, sa_Words⟩, n_Words_row := na_Words_row, a_Words_init := f_Words_init, d_Words_init := _, F_Words_init := F_Words_init, b_Words_init := b_Words_init, M_Words := ⟨mk_Words, h_Words_init, i_Words_init, kc_Words⟩, a_Words_need := f_Words_need, d_Words_need := _, F_Words_need := F_Words_need, b_Words_need := b_Words_need, m_Words_need := ⟨h_Words_need, i_Words_need, k_Words_need⟩, a_Words_formula_at := f_Words_formula_at, d_Words_formula_at := _, F_Words_formula_at := F_Words_formula_at, b_Words_formula_at := b_Words_formula_at, m_Words_formula_at := ⟨h_Words_formula_at, i_Words_formula_at, k_Words_formula_at⟩, a_Words_field_at := f_Words_field_at, d_Words_field_at := _, F_Words_field_at := F_Words_field_at, b_Words_field_at := b_Words_field_at, m_Words_field_at := ⟨h_Words_field_at, i_Words_field_at, k_Words_field_at⟩ }
  exact ⟨T.d_law, fun s v => .of_eq rfl, fun base _ _ => ok_law T⟩
end Lw
open PySem PySem.W PyProof.Rows
set_option maxRecDepth 100000 in
set_option maxHeartbeats 0 in
theorem PySem.Challenge.cw_latticewish_k19_texts_read_back_holds : PySem.Challenge.rw_latticewish_k19_texts_read_back.Holds := by
  w_on; o_law; k_head; (case hw => w_witness2)
  k_fill
  refine L2.walk_of (n := 63) (k := 120) (x := "script") (CX := fun w => L2.CX0) (sp := fun w => Lw.spLaw _) rfl (by decide) rfl ⟨rfl, by decide, by decide⟩ (fun w h Y => PySem.W.kIn_of Y) ?F (fun _ _ a ns hl _ hS => ⟨a, ns, rfl, hS, hl, fun _ => rfl⟩) fun _ _ _ _ _ z => z
  case F =>
    intro w mg fa h KX G hmg
    refine' Lw.all_mk (l := PySem.Challenge.rw_latticewish_k19_texts_read_back) KX G hmg ?z_abs ?z_all ?z_enumerate ?z_int ?z_isinstance ?z_len ?z_range ?z_str ?z_super ?z_tuple ?g_write_formula ?l_write_formula ?c_write_formula ?k_write_formula ?g_is_name ?l_is_name ?c_is_name ?k_is_name ?g_read_formula ?l_read_formula ?c_read_formula ?k_read_formula ?g__law_cells ?l__law_cells ?c__law_cells ?k__law_cells ?g__law_pick ?l__law_pick ?c__law_pick ?k__law_pick ?g__law_name ?l__law_name ?c__law_name ?k__law_name ?g__law_any ?l__law_any ?c__law_any ?k__law_any ?g__law_words ?l__law_words ?c__law_words ?k__law_words ?g__law_plain ?l__law_plain ?c__law_plain ?k__law_plain ?g__law_laid ?l__law_laid ?c__law_laid ?k__law_laid ?g_law ?l_law ?c_law ?k_law ?g_SMALL_LETTERS ?g_TEN_FIGURES ?g_MOST_LEVELS ?g_SHAPES ?l_SHAPES ?y_SHAPES ?lo_SHAPES ?w_SHAPES ?k_SHAPES_value ?j_SHAPES_value ?k_SHAPES_mark ?j_SHAPES_mark ?k_SHAPES_and ?j_SHAPES_and ?k_SHAPES_or ?j_SHAPES_or ?k_SHAPES_some ?j_SHAPES_some ?k_SHAPES_all ?j_SHAPES_all ?k_SHAPES_least ?j_SHAPES_least ?k_SHAPES_most ?j_SHAPES_most ?g_SINGLE_WORDS ?l_SINGLE_WORDS ?g_Words ?pg_Words ?hd_Words ?po_Words ?sa_Words ?mk_Words ?kc_Words ?na_Words_row ?h_Words_init ?i_Words_init ?l_Words_init ?c_Words_init ?k_Words_init ?h_Words_need ?i_Words_need ?l_Words_need ?c_Words_need ?k_Words_need ?h_Words_formula_at ?i_Words_formula_at ?l_Words_formula_at ?c_Words_formula_at ?k_Words_formula_at ?h_Words_field_at ?i_Words_field_at ?l_Words_field_at ?c_Words_field_at ?k_Words_field_at
    (case z_abs => k_is)
    (case z_all => k_is)
    (case z_enumerate => k_is)
    (case z_int => k_is)
    (case z_isinstance => k_is)
    (case z_len => k_is)
    (case z_range => k_is)
    (case z_str => k_is)
    (case z_super => k_is)
    (case z_tuple => k_is)
    (case g_write_formula => k_is)
    (case l_write_formula => k_is)
    (case c_write_formula => k_is)
    (case k_write_formula => k_is)
    (case g_is_name => k_is)
    (case l_is_name => k_is)
    (case c_is_name => k_is)
    (case k_is_name => k_is)
    (case g_read_formula => k_is)
    (case l_read_formula => k_is)
    (case c_read_formula => k_is)
    (case k_read_formula => k_is)
    (case g__law_cells => k_is)
    (case l__law_cells => k_is)
    (case c__law_cells => k_is)
    (case k__law_cells => k_is)
    (case g__law_pick => k_is)
    (case l__law_pick => k_is)
    (case c__law_pick => k_is)
    (case k__law_pick => k_is)
    (case g__law_name => k_is)
    (case l__law_name => k_is)
    (case c__law_name => k_is)
    (case k__law_name => k_is)
    (case g__law_any => k_is)
    (case l__law_any => k_is)
    (case c__law_any => k_is)
    (case k__law_any => k_is)
    (case g__law_words => k_is)
    (case l__law_words => k_is)
    (case c__law_words => k_is)
    (case k__law_words => k_is)
    (case g__law_plain => k_is)
    (case l__law_plain => k_is)
    (case c__law_plain => k_is)
    (case k__law_plain => k_is)
    (case g__law_laid => k_is)
    (case l__law_laid => k_is)
    (case c__law_laid => k_is)
    (case k__law_laid => k_is)
    (case g_law => k_is)
    (case l_law => k_is)
    (case c_law => k_is)
    (case k_law => k_is)
    (case g_SMALL_LETTERS => k_is)
    (case g_TEN_FIGURES => k_is)
    (case g_MOST_LEVELS => k_is)
    (case g_SHAPES => k_is)
    (case l_SHAPES => k_is)
    (case y_SHAPES => repeat (first | exact trivial | (refine ⟨⟨_, _, rfl, rfl⟩, ?_⟩)))
    (case lo_SHAPES => decide +kernel)
    (case w_SHAPES => repeat (first | exact trivial | (refine ⟨⟨_, rfl⟩, ?_⟩)))
    (case k_SHAPES_value => k_is)
    (case j_SHAPES_value => k_is)
    (case k_SHAPES_mark => k_is)
    (case j_SHAPES_mark => k_is)
    (case k_SHAPES_and => k_is)
    (case j_SHAPES_and => k_is)
    (case k_SHAPES_or => k_is)
    (case j_SHAPES_or => k_is)
    (case k_SHAPES_some => k_is)
    (case j_SHAPES_some => k_is)
    (case k_SHAPES_all => k_is)
    (case j_SHAPES_all => k_is)
    (case k_SHAPES_least => k_is)
    (case j_SHAPES_least => k_is)
    (case k_SHAPES_most => k_is)
    (case j_SHAPES_most => k_is)
    (case g_SINGLE_WORDS => k_is)
    (case l_SINGLE_WORDS => k_is)
    (case g_Words => k_is)
    (case pg_Words => k_is)
    (case hd_Words => k_is)
    (case po_Words => k_is)
    (case sa_Words => k_is)
    (case mk_Words => k_is)
    (case kc_Words => k_is)
    (case na_Words_row => k_is)
    (case h_Words_init => k_is)
    (case i_Words_init => k_is)
    (case l_Words_init => k_is)
    (case c_Words_init => k_is)
    (case k_Words_init => k_is)
    (case h_Words_need => k_is)
    (case i_Words_need => k_is)
    (case l_Words_need => k_is)
    (case c_Words_need => k_is)
    (case k_Words_need => k_is)
    (case h_Words_formula_at => k_is)
    (case i_Words_formula_at => k_is)
    (case l_Words_formula_at => k_is)
    (case c_Words_formula_at => k_is)
    (case k_Words_formula_at => k_is)
    (case h_Words_field_at => k_is)
    (case i_Words_field_at => k_is)
    (case l_Words_field_at => k_is)
    (case c_Words_field_at => k_is)
    (case k_Words_field_at => k_is)
#print axioms PySem.Challenge.cw_latticewish_k19_texts_read_back_holds
