import PyProof.Rows.All
import Wide.All
import OpenK.AllK
import Wide.FinOn
import HandS.ForMost
import KE.OsRunLaw
import HandS.Walk
import HandS.Zip
import KE.GoesMore
import HandS.Deep
import HandS.DictComp
import HandS.IsInst
import HandS.RaiseMore
import HandS.ExcOwn
import KE.KSuper
import HandS.ClsMeth
import KE.RegKSuper
import HandS.ExcInit
import HandS.ExcSuper
import KE.KExcSuper
import KE.KExcInit
import HandS.ExcIs
import HandS.ExcField
import HandS.TryOnly
import HandS.Strs
import HandS.FStr
import HandS.Conv
import HandS.Defaults
import HandS.SetFor
import HandS.Star
import HandS.Text
import HandS.More
import HandS.ListItems
import HandS.Finally
import KE.KDictList
import PySem.Challenge.RW_latticewish_k47_whole_long_rows
set_option Elab.async false
set_option linter.all false
set_option maxRecDepth 100000
set_option maxHeartbeats 4000000
namespace Lw
open PySem L2
local macro_rules | `(tactic| walk_at "up") => `(tactic| first | assumption | (refine Same.at (by assumption) ?_; walk_at "up") | (refine Same.seq (by assumption) ?_; walk_at "up"))
local macro_rules | `(tactic| walk_at "rd") => `(tactic| repeat (first | (refine ⟨_, rfl, ?_⟩) | (refine ⟨_, _, rfl, rfl, ?_⟩) | (refine ⟨(by decide), ?_⟩)))
theorem _root_.L2.Same.new {H : Hp} {p : Addr} (h : H p = none) (o : HO) : Same H (upd H p o) := fun b u q => by rw [upd_ne (ne_of_none q h)]; exact q
theorem _root_.L2.Same.mut {H H' : Hp} {p : Addr} (s : Same H H') (h : H p = none) (o : HO) : Same H (upd H' p o) := fun b u q => by
  rw [upd_ne (ne_of_none q h)]; exact s b u q
theorem _root_.L2.Same.at {H H' : Hp} {p : Addr} {o : HO} (s : Same H H') (h : H p = some o) : H' p = some o := s p o h
/-- a new object, its heap told by what is known of it -/
theorem newO {H : Hp} {o : HO} {Q : Addr → Hp → Prop} (h : ∀ p H', H p = none → Same H H' → H' p = some o → Q p H') : ∀ p, H p = none → Q p (upd H p o) :=
  fun p hp => h p _ hp (Same.new hp o) upd_same
/-- the same, the object said, the heap as it is -/
theorem newQ {H : Hp} (o : HO) {G : Addr → Prop} (h : ∀ p, H p = none → Same H (upd H p o) → upd H p o p = some o → G p) : ∀ p, H p = none → G p :=
  fun p hp => h p hp (Same.new hp o) upd_same
theorem ans_run {t : TT} {σ : L2.St} {H : Hp} {Q : Bool → Hp → Prop} (b : Bool) (h : ∀ Q' : Bool → Hp → Prop, Q' b H → t σ H Q') (q : Q b H) : t σ H Q := h Q q
theorem iteN {c A B : Prop} [Decidable c] (hc : ¬ c) (h : B) : if decide c = true then A else B := by
  rw [decide_eq_false hc]
  exact iteF h
theorem iteY {c A B : Prop} [Decidable c] (hc : c) (h : A) : if decide c = true then A else B := by
  rw [decide_eq_true hc]
  exact iteT h
theorem lcY {σ : L2.St} {H : Hp} {A B : Hp → Prop} (h : A H) : tYes σ H (fun b H3 => if b = true then A H3 else B H3) := by
  show (if true = true then A H else B H)
  exact iteT h
theorem abs_map (ns : List Int) : ∀ z ∈ ns.map (fun i : Int => if i < 0 then -i else i), 0 ≤ z := by
  intro z hz
  obtain ⟨i, _, rfl⟩ := List.mem_map.mp hz
  split <;> omega
theorem map_at {ns : List Int} {i : Nat} {x : V} (h : (ns.map V.int)[i]? = some x) : ∃ z, ns[i]? = some z ∧ x = .int z := by
  rw [List.getElem?_map] at h
  cases e : ns[i]? with
  | none => rw [e] at h; cases h
  | some z => rw [e] at h; exact ⟨z, rfl, (Option.some.inj h).symm⟩
theorem take_snoc {α : Type} {l : List α} {i : Nat} {x : α} (h : l[i]? = some x) : l.take (i + 1) = l.take i ++ [x] := by
  obtain ⟨hl, rfl⟩ := List.getElem?_eq_some_iff.mp h
  rw [List.take_succ, List.getElem?_eq_getElem hl]; rfl
/-- what draws are made of -/
structure SrcIs (K : PySem.W.Frag) (H : Hp) (p c : Addr) (cs : List Int) (i : Nat) (l m : Int) : Prop where
  at_ : H p = some (.lst [.ref c, .int i, .int l, .int m])
  cel : SqL K H c (cs.map V.int)
  ne : c ≠ p
  hi : i ≤ cs.length
  hl : 0 ≤ l
  hc : ∀ z ∈ cs, 0 ≤ z
  m0 : 0 ≤ m
  m1 : m < 2147483563
def Src (K : PySem.W.Frag) (c : Addr) (H : Hp) (p : Addr) : Prop := ∃ cs i l m, SrcIs K H p c cs i l m
/-- all but p is as it was -/
def But (p : Addr) (H H' : Hp) : Prop := ∀ b o, b ≠ p → H b = some o → H' b = some o
theorem But.refl (p : Addr) (H : Hp) : But p H H := fun _ _ _ h => h
theorem But.trans {p : Addr} {H H1 H2 : Hp} (a : But p H H1) (b : But p H1 H2) : But p H H2 := fun c o n h => b c o n (a c o n h)
theorem But.upd {p : Addr} {H H' : Hp} (s : But p H H') (o : HO) : But p H (upd H' p o) := fun b u n h => by rw [upd_ne n]; exact s b u n h
theorem _root_.L2.Same.but {H H' : Hp} (s : Same H H') (p : Addr) : But p H H' := fun b o _ h => s b o h
theorem But.seq {K : PySem.W.Frag} {H H' : Hp} {p a : Addr} {xs : List V} (e : But p H H') (n : a ≠ p) (h : SqL K H a xs) : SqL K H' a xs := by
  rcases h with (h | ⟨o, h⟩) | h
  · exact .inl (.inl (e _ _ n h))
  · exact .inl (.inr ⟨o, e _ _ n h⟩)
  · exact .inr h
theorem SrcIs.put {K : PySem.W.Frag} {H : Hp} {p c : Addr} {cs : List Int} {i : Nat} {l m : Int} (h : SrcIs K H p c cs i l m) {i' : Nat} {l' m' : Int} (a : i' ≤ cs.length) (b : 0 ≤ l') (d : 0 ≤ m') (e : m' < 2147483563) :
    SrcIs K (upd H p (.lst [.ref c, .int i', .int l', .int m'])) p c cs i' l' m' :=
  ⟨upd_same, (But.upd (But.refl p H) _).seq h.ne h.cel, h.ne, a, b, h.hc, d, e⟩
theorem smallM {n : Nat} (h : n ≤ 1000000) : n < sizeLine := Nat.lt_of_le_of_lt h (by decide)
/-- a comprehension: R i H ys: what is known of the list made so far; F: what is kept of the heap; the list itself stands at D -/
theorem lc_foldF {J : It} {n : Nat} {G : Hp → Prop} {Yw : Nat → Hp → V → Hp → Prop} (w : Walk J n G Yw) {g : TG} {tt : TT} {te : TE} {vs : List Nat} {σ : L2.St} {H1 : Hp} {D : Addr} {Qd : Hp → Prop}
    (F : Hp → Prop) (R : Nat → Hp → List V → Prop) (f0 : F (upd H1 D (.lst []))) (fD : ∀ H ys zs, F H → H D = some (.lst ys) → F (upd H D (.lst zs))) (r0 : R 0 (upd H1 D (.lst [])) [])
    (rD : ∀ i H ys zs xs, R i H xs → H D = some (.lst ys) → R i (upd H D (.lst zs)) xs) (len : ∀ i H ys, R i H ys → ys.length ≤ 1000000) (hG : ∀ H, F H → G H)
    (hs : ∀ i x H H' ys (Nx : V → Hp → Prop) (Ex : Hp → Prop), i < n → F H → H D = some (.lst ys) → R i H ys → Yw i H x H' →
      (∀ y H2, F H2 → H2 D = some (.lst ys) → R (i + 1) H2 (ys ++ [y]) → Nx y H2) → (∀ H2, F H2 → H2 D = some (.lst ys) → R (i + 1) H2 ys → Ex H2) →
      g x (wipe σ vs) H' fun σ2 H2 => wipe σ2 vs = wipe σ vs ∧ tt σ2 H2 fun b H3 => if b = true then te σ2 H3 Nx else Ex H3)
    (hd : ∀ H ys, F H → H D = some (.lst ys) → R n H ys → Qd H) :
    ∃ W : Nat → Nat → Hp → Prop, (∃ m, W 0 m (upd H1 D (.lst []))) ∧ ∀ i m H, W i m H →
      (J.stop i H ∧ Qd H) ∨ (J.go i H ∧ ∃ Nx : Hp → Prop, (∀ H', Nx H' → ∃ m', m' < m ∧ W (i + 1) m' H') ∧ ∀ x H', J.yld i H x H' → g x (wipe σ vs) H' fun σ2 H2 => wipe σ2 vs = wipe σ vs ∧ tt σ2 H2 fun b H3 =>
        if b = true then te σ2 H3 fun y H4 => ∃ acc, H4 D = some (.lst acc) ∧ acc.length < sizeLine ∧ Nx (upd H4 D (.lst (acc ++ [y]))) else Nx H3) := by
  refine lc_it w (fun i H => F H ∧ ∃ ys, H D = some (.lst ys) ∧ R i H ys) ⟨f0, [], upd_same, r0⟩ (fun i H _ h => hG H h.1) ?_ ?_
  · rintro i x H H' hi ⟨f, ys, hy, r⟩ y
    refine hs i x H H' ys _ _ hi f hy r y (fun z H2 f2 h2 r2 => ?_) (fun H2 f2 h2 r2 => ⟨f2, ys, h2, r2⟩)
    exact ⟨ys, h2, smallM (len i H ys r), fD _ _ _ f2 h2, _, upd_same, rD _ _ _ _ _ r2 h2⟩
  · rintro H ⟨f, ys, hy, r⟩
    exact hd H ys f hy r
theorem snoc_at {α : Type} {l : List α} {x y : α} {j : Nat} (h : (l ++ [x])[j]? = some y) : l[j]? = some y ∨ (j = l.length ∧ y = x) := by
  rcases Nat.lt_or_ge j l.length with hj | hj
  · rw [List.getElem?_append_left hj] at h; exact .inl h
  · rw [List.getElem?_append_right hj] at h
    have := (List.getElem?_eq_some_iff.mp h).1
    simp at this
    have e : j = l.length := by omega
    subst e
    rw [Nat.sub_self] at h
    cases h
    exact .inr ⟨rfl, rfl⟩
theorem _root_.L2.Room.un2 {k : Nat} {A : Around} (r : Room k A) : A.units + 200 < cLine := by have := r.un; omega
theorem ixN_nat {n : Nat} {z : Int} (h0 : 0 ≤ z) (h : z.toNat < n) : ixN n z = some z.toNat := by
  unfold ixN
  rw [if_pos h0, if_pos (by omega : z < (n : Int))]
theorem sIx_some (n d k : Nat) : HT.sIx n d (some (k : Int)) = min k n := by first | exact HT.sIx_nat n d k | exact HT.sIx_some n d k | simp [HT.sIx]
theorem sIx_none (n d : Nat) : HT.sIx n d none = d := by first | rfl | simp [HT.sIx]
theorem cut1 (x : V) (xs : List V) : cutV (x :: xs) (some 1) none = xs := by
  unfold cutV
  rw [show (some (1 : Int)) = some ((1 : Nat) : Int) from rfl, sIx_some, sIx_none]
  have e : min 1 (x :: xs).length = 1 := by rw [List.length_cons]; omega
  rw [e]
  show List.take ((x :: xs).length - 1) xs = xs
  exact List.take_of_length_le (by rw [List.length_cons]; omega)
theorem cut1_not (x : V) (xs : List V) : ¬ (HT.sIx (x :: xs).length 0 (some 1) = 0 ∧ HT.sIx (x :: xs).length (x :: xs).length none = (x :: xs).length) := by
  rw [show (some (1 : Int)) = some ((1 : Nat) : Int) from rfl, sIx_some, List.length_cons]
  omega
/-! ### further rules: data compared and looked for at greater depths, dict.update, get of a written dict, zip of a tuple and a list -/
section
open PySem.Spec PyProof.Rows
variable {X : Cx}
/-- a datum that may be compared: n deep at most -/
def Shp (n : Nat) (d : PyData) : Prop := d.canLay0 = true ∧ d.depth ≤ n
def rEqX (K : PySem.W.Frag) : R2 := fun x y H Q => ∃ d e, Dp K H x d ∧ Dp K H y e ∧ Shp 190 d ∧ Shp 190 e ∧ Q (.bl (PyData.eqv d e)) H
def rNeX (K : PySem.W.Frag) : R2 := fun x y H Q => ∃ d e, Dp K H x d ∧ Dp K H y e ∧ Shp 190 d ∧ Shp 190 e ∧ Q (.bl (!PyData.eqv d e)) H
theorem op_eqX (hu : X.A.units + 200 < cLine) : OpR X (compareOp .Eq) (rEqX X.K) := by
  intro pins s σ H x y v u Q I rx ry ⟨d, e, hd, he, ⟨c1, d1⟩, ⟨c2, d2⟩, q⟩
  obtain ⟨as, r1⟩ := Dp.reads I d x v hd rx
  obtain ⟨bs, r2⟩ := Dp.reads I e y u he ry
  exact SeqAt.compareEq_reads r1 r2 c1 c2 (by have := Nat.min_le_left d.depth e.depth; omega) ⟨.bl _, H, I, rfl, q⟩
theorem op_neX (hu : X.A.units + 200 < cLine) : OpR X (compareOp .NotEq) (rNeX X.K) := by
  intro pins s σ H x y v u Q I rx ry ⟨d, e, hd, he, ⟨c1, d1⟩, ⟨c2, d2⟩, q⟩
  obtain ⟨as, r1⟩ := Dp.reads I d x v hd rx
  obtain ⟨bs, r2⟩ := Dp.reads I e y u he ry
  exact SeqAt.compareNe_reads r1 r2 c1 c2 (by have := Nat.min_le_left d.depth e.depth; omega) ⟨.bl _, H, I, rfl, q⟩
/-- x in (a, b, ..): data of any kind in a tuple -/
def rInTX (K : PySem.W.Frag) : R2 := fun x y H Q => ∃ d ds, Dp K H x d ∧ Dp K H y (.tuple ds) ∧ Shp 190 d ∧ PyData.canLayAll0 ds = true ∧ Q (.bl (ds.any fun z => PyData.eqv z d)) H
theorem op_inTX (hu : X.A.units + 200 < cLine) : OpR X (compareOp .In) (rInTX X.K) := by
  intro pins s σ H x y v u Q I rx ry ⟨d, ds, hd, he, ⟨c1, d1⟩, c2, q⟩
  obtain ⟨as, r1⟩ := Dp.reads I d x v hd rx
  obtain ⟨bs, r2⟩ := Dp.reads I (.tuple ds) y u he ry
  exact SeqAt.in_tuple_reads r2 r1 c2 c1 (by have := Nat.min_le_right (PyData.depthAll ds) d.depth; omega) ⟨.bl _, H, I, rfl, q⟩
/-- x in [a, b, ..]: the same in a list -/
def rInLX (K : PySem.W.Frag) : R2 := fun x y H Q => ∃ d ds, Dp K H x d ∧ Dp K H y (.list ds) ∧ Shp 190 d ∧ PyData.canLayAll0 ds = true ∧ Q (.bl (ds.any fun z => PyData.eqv z d)) H
theorem op_inLX (hu : X.A.units + 200 < cLine) : OpR X (compareOp .In) (rInLX X.K) := by
  intro pins s σ H x y v u Q I rx ry ⟨d, ds, hd, he, ⟨c1, d1⟩, c2, q⟩
  obtain ⟨as, r1⟩ := Dp.reads I d x v hd rx
  obtain ⟨bs, r2⟩ := Dp.reads I (.list ds) y u he ry
  exact SeqAt.in_list_reads r2 r1 c2 c1 (by have := Nat.min_le_right (PyData.depthAll ds) d.depth; omega) ⟨.bl _, H, I, rfl, q⟩
/-- blanks, n times -/
def rRepS : R2 := fun x y H Q => ∃ z n, x = .str z ∧ y = .int n ∧ MulOk z n ∧ Q (.str (Txt.mul z n)) H
theorem op_rep_str : OpR X (binaryOp .Mult) rRepS := by
  intro pins s σ H x y v u Q I rx ry ⟨z, n, e1, e2, ok, q⟩
  subst e1
  subst e2
  obtain ⟨t, rfl⟩ := rx
  obtain ⟨t2, rfl⟩ := ry
  exact SB.mul ok fun t' k => ⟨.str (Txt.mul z n), H, I.tok _, ⟨_, rfl⟩, q⟩
/-- d.update(e), two dicts of the call's own -/
def rUpdate : V → List V → Hp → VK → Prop := fun x vs H Q => ∃ (a b : Addr) (kvs more : List (Key × V)), x = .ref a ∧ vs = [.ref b] ∧ a ≠ b ∧ H a = some (.dK kvs) ∧ H b = some (.dK more) ∧ kvs.length + more.length ≤ sizeLine ∧ Q .non (upd H a (.dK (mergeK kvs more)))
theorem mt_update : MtR X "dict.update" rUpdate := by
  intro pins s σ H x vs v us Q I rx rv ⟨a, b, kvs, more, e1, e2, ne, ha, hb, hz, q⟩
  subst e1 e2
  cases rx
  obtain ⟨u, rfl, ru⟩ := rv.one
  cases ru
  obtain ⟨z1, lo1, ws, k1, D1⟩ := I.hok a _ ha
  obtain ⟨z2, lo2, rs, k2, D2⟩ := I.hok b _ hb
  have l1 := k1.length
  have l2 := k2.length
  refine call_meetsIn PySem.F.slot_dict_update D1.typeIs PySem.F.entry_dict_update (PySem.F.args_dict_update_2 _ _) (meets_dict_update (mixKind X.prog X.w) a b ne lo2)
    ⟨ws, rs, D1, D2, by omega, fun h' m1 m2 sb => ?_⟩
  have hm : Mut (H a) := by rw [ha]; trivial
  have new : ObjOk X.prog X.w (upd H a (.dK (mergeK kvs more))) h' a (.dK (mergeK kvs more)) :=
    ⟨Nat.le_trans (length_mergeK more kvs) hz, lo1, _, k2.merge k1, m1⟩
  obtain ⟨ob, _, _, q1, _⟩ := id m1
  refine ⟨.non, _, I.write (t' := s.toks) hm (.inl rfl) (fun c o n e => (sb.2 c n).trans e) ⟨ob, q1⟩ new, rfl, q⟩
/-- a dict that stands in the written part, its keys texts -/
structure KdAt (K : PySem.W.Frag) (w : World) (a : Addr) : Prop where
  at_ : ∃ es n, K.lookup a = some ⟨.type "dict", none, .dict es n, #[]⟩ ∧ PySem.W.KeysLit w.params es.toList
  low : (a == sysModules) = false
/-- D.get(k, d) of a written dict: r is what stands at k -/
theorem pe_kget2 {o e f : Expr} {td ty tx : TE} {apos cpos : Pos} (ho : PE X o td) (he : PE X e ty) (hf : PE X f tx) (m : M2 X o "get" apos e f cpos) :
    PE X (.Call (.Attribute o "get" apos) [e, f] [] cpos) (fun σ H Q => td σ H fun x H1 => ∃ a, x = .ref a ∧ KdAt X.K X.w a ∧ ty σ H1 fun y H2 => tx σ H2 fun z H3 =>
      ∃ (k : Str) (r : Option Value), y = .str k ∧ PySem.W.nsIn X.K a k = some r ∧ ∃ v, RelO (some v) (some (r.getD (.none))) ∧ Q (if r.isSome then v else z) H3) := by
  refine ⟨fun pins s σ H Q I h => ?_⟩
  refine wpAny_Call_method m.base m.few m.line PySem.F.plainAttrs_dict PySem.F.slot_dict_get PySem.F.type_dict_get (thn (ho.run pins s σ H _ I h) fun u s1 ⟨x, H1, I1, rx, a, ex, ⟨⟨es, n, hl, hk⟩, lo⟩, q1⟩ => ?_)
  subst ex
  obtain rfl : u = Value.ref a := rx
  have hm := PySem.W.mapOf_K (prog := X.prog) (w := X.w) I1.kIn hl hk
  refine ⟨hm.typeIs, fun b eb => ?_, ?_⟩
  · cases eb
    exact ⟨_, I1.kIn _ _ hl, rfl⟩
  rw [m.trees]
  refine Calls.callWith_builtin rfl (Calls.evalArgs_plain (Calls.spliced_cons (thn (he.run pins s1 σ H1 _ I1 q1) fun iv s2 ⟨y, H2, I2, ry, q2⟩ =>
    Calls.spliced_cons (thn (hf.run pins s2 σ H2 _ I2 q2) fun fv s3 ⟨z, H3, I3, rz, k, r, ey, hn, v, rv, q3⟩ => Calls.spliced_nil ?_))))
  subst ey
  obtain ⟨t, rfl⟩ := ry
  have hm3 := PySem.W.mapOf_K (prog := X.prog) (w := X.w) I3.kIn hl hk
  refine call_meetsIn PySem.F.slot_dict_get hm3.typeIs PySem.F.entry_dict_get (PySem.F.args_dict_get_3 _ _ _) (meets_dict_get_default (strKind X.prog X.w) a (strKind_is X.prog X.w k t) lo fv) ⟨_, hm3, ?_⟩
  rw [PySem.W.find_K hl hn]
  cases r with
  | none => exact ⟨_, H3, I3.tok _, rz, q3⟩
  | some u => exact ⟨_, H3, I3.tok _, rv, q3⟩
end

section
open PySem.Spec PyProof.Rows
/-- zip of the tuple at a and the list at b: their items in new pairs -/
def ItzM (K : PySem.W.Frag) (a b : Addr) : It where
  go := fun i H => ∃ (xs ys : List V) (x y : V), SqT K H a xs ∧ SqL K H b ys ∧ xs[i]? = some x ∧ ys[i]? = some y
  yld := fun i H v H' => ∃ T x y, v = .ref T ∧ H T = none ∧ H' = upd H T (.tup [x, y]) ∧ (∀ xs, SqT K H a xs → xs[i]? = some x) ∧ ∀ ys, SqL K H b ys → ys[i]? = some y
  stop := fun i H => ∃ xs ys : List V, SqT K H a xs ∧ SqL K H b ys ∧ i ≤ xs.length ∧ i ≤ ys.length ∧ (i = xs.length ∨ i = ys.length)
theorem turn_zipM {P : Program} {w : World} {K : PySem.W.Frag} {elts : List Expr} {kk : Nat} {tpos : Pos} {a b z TI TO i1 i2 : Addr} (D : ZipApart z TI TO i1 i2 a b) :
    Turn P w K (.Tuple elts kk tpos) (ItzM K a b) [z, TI, TO, i1, i2] z (fun i h => IsZip h z TI TO .none ∧ IsTupOf2 h TI (.ref i1) (.ref i2) ∧ (∃ x y, IsTupOf2 h TO x y) ∧ h.IsTupleIter i1 a i ∧ h.IsListIter i2 b i) := by
  have S : ZipSep2 z TI TO i1 i2 [i1, a] [i2, b] := by
    obtain ⟨d1, d2, d3, d4, d5, d6, d7, d8, d9, d10, d11, d12, d13, d14, d15, d16, d17, d18⟩ := D
    exact ⟨d1, d2, d5, d6, by simp, by simp [d3.symm, d11.symm], by simp [d8, d12.symm], d7, by simp, by simp [d4.symm, d15.symm], by simp [d9, d16.symm], by simp [d10, d17.symm], by simp [d10.symm, d14.symm]⟩
  have five : ∀ {c : Addr} {p : Addr → Prop}, c ∈ [z, TI, TO, i1, i2] → p z → p TI → p TO → p i1 → p i2 → p c := fun {c p} hc p1 p2 p3 p4 p5 => by
    rcases (by simpa using hc : c = z ∨ c = TI ∨ c = TO ∨ c = i1 ∨ c = i2) with r | r | r | r | r <;> rw [r] <;> assumption
  constructor
  case mem => simp
  case obj =>
    intro i h ⟨hz, hTI, ⟨x, y, hTO⟩, ⟨o1, e1, _, f1⟩, ⟨o2, e2, _, f2⟩⟩ c hc
    refine five (p := fun c => ∃ o, h.get? c = some o ∧ ∀ v, o.data ≠ .cell v) hc ⟨_, hz, fun v q => nomatch q⟩ ⟨_, hTI, fun v q => nomatch q⟩ ⟨_, hTO, fun v q => nomatch q⟩ ⟨o1, e1, fun v q => ?_⟩ ⟨o2, e2, fun v q => ?_⟩
    · rw [f1] at q; cases q
    · rw [f2] at q; cases q
  case keep =>
    intro i h h' ⟨hz, hTI, ⟨x, y, hTO⟩, h1, h2⟩ k
    exact ⟨k _ (by simp) _ hz, k _ (by simp) _ hTI, ⟨_, _, k _ (by simp) _ hTO⟩, h1.at fun o q => k _ (by simp) o q, h2.at fun o q => k _ (by simp) o q⟩
  case item =>
    intro X hP hw hK hc i pins s σ H E I hf ⟨hz, hTI, ⟨x0, y0, hTO⟩, h1, h2⟩ ⟨xs, ys, x, y, hqx, hqy, hx, hy⟩
    subst hP hw hK
    have hh := I.ok.hd hc
    obtain ⟨its, rv, p, _⟩ := I.tuple hqx
    obtain ⟨its2, rv2, p2, _⟩ := I.list hqy
    obtain ⟨u, hu, ru⟩ := rv.get hx
    obtain ⟨u2, hu2, ru2⟩ := rv2.get hy
    have hzl : z < s.heap.objs.size := Heap.lt_size hz
    have g1 : i < its.toArray.size := by simpa using (List.getElem?_eq_some_iff.mp hu).1
    have g2 : i < its2.toArray.size := by simpa using (List.getElem?_eq_some_iff.mp hu2).1
    refine wpAny_pyNext_zipD2_item S (Draws.tuple (A := X.A.in1) hh i1 a D.l1i1 its.toArray) (Draws.list (A := X.A.in1) hh i2 b D.l2i2 its2.toArray) hz hTI hTO ⟨h1, p⟩ ⟨h2, p2.isList⟩ g1 g2 fun v1 v2 h' tk w1 w2 z' TO' s1 s2 hT hsz hk => ?_
    have ev1 : v1 = u := by
      have q : its[i]? = some v1 := by simpa using w1
      rw [hu] at q; exact (Option.some.inj q).symm
    have ev2 : v2 = u2 := by
      have q : its2[i]? = some v2 := by simpa using w2
      rw [hu2] at q; exact (Option.some.inj q).symm
    subst ev1 ev2
    refine ⟨_, rfl, wpAny_letOwnedTupleGo_zip (s := { s with heap := h', toks := tk }) z' fun h'' z'' sb => ?_⟩
    have hT2 : h''.get? s.heap.objs.size = some { cls := .type "tuple", data := .seq #[v1, v2] } := (sb.2 _ (Nat.ne_of_gt hzl)).trans hT
    have new : ObjOk X.prog X.w (upd H s.heap.objs.size (.tup [x, y])) h'' s.heap.objs.size (.tup [x, y]) :=
      ⟨by show 2 ≤ sizeLine; decide, [v1, v2], .cons ru (.cons ru2 .nil), ⟨_, hT2, rfl, _, rfl⟩⟩
    have out : ∀ {c : Addr}, c ∉ [z, TI, TO, i1, i2] → c ≠ z ∧ c ≠ TO ∧ c ≠ i1 ∧ c ≠ i2 := fun {c} hc => by
      simp only [List.mem_cons, not_or] at hc
      exact ⟨hc.1, hc.2.2.1, hc.2.2.2.1, hc.2.2.2.2.1⟩
    have I1 : Inv X pins σ (upd H s.heap.objs.size (.tup [x, y])) { s with heap := h'', toks := tk } :=
      I.turnedNew (t' := tk) (ch := [z, TI, TO, i1, i2]) (fun c o hb q => let ⟨n1, n2, n3, n4⟩ := out hb; (sb.2 c n1).trans (hk c o n1 n2 n3 n4 q)) hf (Nat.le_refl _) new
    refine ⟨.ref s.heap.objs.size, _, I1, rfl, ⟨_, x, y, rfl, I.hok.fresh (Nat.le_refl _), rfl, fun l hl => ?_, fun l hl => ?_⟩, ⟨z'', ?_, ⟨v1, v2, ?_⟩, ?_, ?_⟩, fun c hcm => ?_⟩
    · rw [I.tuple_inj hl hqx]; exact hx
    · rw [I.list_inj hl hqy]; exact hy
    · exact (sb.2 _ D.TIz).trans (hk _ _ D.TIz D.TITO D.TIi1 D.TIi2 hTI)
    · exact (sb.2 _ D.TOz).trans TO'
    · exact s1.1.at fun o q => (sb.2 _ D.i1z).trans q
    · exact s2.1.at fun o q => (sb.2 _ D.i2z).trans q
    · have lt1 : i1 < s.heap.objs.size := by obtain ⟨_, e1, _⟩ := h1; exact Heap.lt_size e1
      have lt2 : i2 < s.heap.objs.size := by obtain ⟨_, e1, _⟩ := h2; exact Heap.lt_size e1
      have hlt : c < s.heap.objs.size := five (p := fun c => c < s.heap.objs.size) hcm hzl (Heap.lt_size hTI) (Heap.lt_size hTO) lt1 lt2
      rw [upd_ne (Nat.ne_of_lt hlt)]
      exact (hf c hcm).1
  case done =>
    intro X hP hw hK hc i pins s σ H E I hf ⟨hz, hTI, ⟨x0, y0, hTO⟩, h1, h2⟩ ⟨xs, ys, hqx, hqy, b1, b2, hend⟩
    subst hP hw hK
    have hh := I.ok.hd hc
    obtain ⟨its, rv, p, _⟩ := I.tuple hqx
    obtain ⟨its2, rv2, p2, _⟩ := I.list hqy
    have l1 : xs.length = its.toArray.size := by simpa using rv.length
    have l2 : ys.length = its2.toArray.size := by simpa using rv2.length
    refine wpAny_pyNext_zipD2_end S (Draws.tuple (A := X.A.in1) hh i1 a D.l1i1 its.toArray) (Draws.list (A := X.A.in1) hh i2 b D.l2i2 its2.toArray) hz hTI hTO ⟨h1, p⟩ ⟨h2, p2.isList⟩ (by omega) (by omega) (by omega) fun h' tk hk => ⟨rfl, ?_⟩
    refine I.turnedL (t' := tk) (ch := [z, TI, TO, i1, i2]) (fun c o hb q => ?_) hf
    simp only [List.mem_cons, not_or] at hb
    exact hk c o hb.1 hb.2.2.1 hb.2.2.2.1 hb.2.2.2.2.1 q
  case self => exact fun A i s Q E st h => wpAny_pyIter_zip st.1 h
def iZipM (K : PySem.W.Frag) (ta : TA) : TI := fun σ H R => ta σ H fun vs H1 => ∃ a b xs ys, vs = [.ref a, .ref b] ∧ SqT K H1 a xs ∧ SqL K H1 b ys ∧ R (ItzM K a b) H1
theorem pi_zipM {X : Cx} {e e2 : Expr} {ta : TA} {p pos tpos : Pos} {elts : List Expr} {kk : Nat} (hg : Gl X "zip") (hm : X.mg "zip" = none) (ha : PA X [e, e2] ta)
    (hs : starEach [e, e2] X.env = (false, eval e X.env) :: starEach [e2] X.env := by rfl) (hpl : (backTo pos (starEach [e2] X.env)).any (·.1) = false := by rfl) :
    PI X (.Tuple elts kk tpos) (.Call (.Name "zip" p) [e, e2] [] pos) (iZipM X.K ta) := by
  refine ⟨fun pins s σ H R I h => ?_⟩
  refine Call_ (ld_blt I hg hm PyProof.Rows.boot_zip (PyProof.Rows.callWith_type1 (thn (ha.run pos pins s σ H _ I h) fun us s1 ⟨vs, H1, I1, r1, a, b, xs, ys, ex, hqx, hqy, q⟩ => ?_) hs hpl))
  subst ex
  obtain ⟨u, u', rfl, r, r'⟩ := r1.two
  cases r
  cases r'
  obtain ⟨its, rv, p1, _⟩ := I1.tuple hqx
  obtain ⟨its2, rv2, p2, _⟩ := I1.list hqy
  have la : a < s1.heap.objs.size := by obtain ⟨o1, ho1, _⟩ := id p1; exact Heap.lt_size ho1
  refine zip_begins2 (begins_tuple a its.toArray) (begins_list b its2.toArray) p1 p2.isList fun h' hz hTI hTO h1 h2 hsz hk => wpAny_pyIter_zip hz ?_
  have I2 : Inv X pins σ H1 { s1 with heap := h' } := I1.kept (t' := s1.toks) hk
  refine ⟨s1.heap.objs.size + 4, [s1.heap.objs.size + 4, s1.heap.objs.size + 2, s1.heap.objs.size + 3, s1.heap.objs.size, s1.heap.objs.size + 1], _, _, H1, rfl, I2, turn_zipM (PySem.W.ktu_apart s1.heap.objs.size a b la p2.lt), ⟨hz, hTI, ⟨_, _, hTO⟩, ⟨_, h1, rfl, rfl⟩, ⟨_, h2, rfl, rfl⟩⟩, fun c hcm => ?_, q⟩
  have hle : s1.heap.objs.size ≤ c := by
    rcases (by simpa using hcm : c = s1.heap.objs.size + 4 ∨ c = s1.heap.objs.size + 2 ∨ c = s1.heap.objs.size + 3 ∨ c = s1.heap.objs.size ∨ c = s1.heap.objs.size + 1) with r | r | r | r | r <;> rw [r]
    · exact Nat.le_add_right _ _
    · exact Nat.le_add_right _ _
    · exact Nat.le_add_right _ _
    · exact Nat.le_refl _
    · exact Nat.le_add_right _ _
  exact I1.fpOk hle (I1.hok.fresh hle)
/-- a loop over such a zip, as many items on both sides -/
theorem for_zipM {K : PySem.W.Frag} {a b : Addr} {xs ys : List V} {g : TG} {tb : TS} {D : Ends} {σ : L2.St} {H : Hp} (hl : xs.length = ys.length) (Pv : Nat → L2.St → Hp → Prop) (h0 : Pv 0 σ H) (hq : ∀ i σ H, Pv i σ H → SqT K H a xs ∧ SqL K H b ys)
    (hs : ∀ (i : Nat) (x y : V) (T : Addr) (σ : L2.St) (H : Hp), xs[i]? = some x → ys[i]? = some y → Pv i σ H → H T = none → g (.ref T) σ (upd H T (.tup [x, y])) fun σ2 H2 => tb { D with nx := Pv (i + 1), ct := Pv (i + 1), bk := D.nx } σ2 H2) (hd : ∀ σ H, Pv xs.length σ H → D.nx σ H) :
    ∃ W : Nat → Nat → L2.St → Hp → Prop, (∃ m, W 0 m σ H) ∧ ∀ i m σ H, W i m σ H →
      ((ItzM K a b).stop i H ∧ D.nx σ H) ∨ ((ItzM K a b).go i H ∧ ∃ N : L2.St → Hp → Prop, (∀ σ' H', N σ' H' → ∃ m', m' < m ∧ W (i + 1) m' σ' H') ∧ ∀ v H', (ItzM K a b).yld i H v H' → g v σ H' fun σ2 H2 => tb { D with nx := N, ct := N, bk := D.nx } σ2 H2) := by
  refine ⟨fun i m σ H => m = xs.length - i ∧ i ≤ xs.length ∧ Pv i σ H, ⟨xs.length, rfl, Nat.zero_le _, h0⟩, fun i m σ H ⟨em, hi, p⟩ => ?_⟩
  subst em
  obtain ⟨qx, qy⟩ := hq i σ H p
  rcases Nat.lt_or_ge i xs.length with hlt | hge
  · refine .inr ⟨⟨xs, ys, _, _, qx, qy, List.getElem?_eq_getElem hlt, List.getElem?_eq_getElem (by omega : i < ys.length)⟩, Pv (i + 1), fun σ' H' p' => ⟨xs.length - (i + 1), by omega, rfl, hlt, p'⟩, fun v H' ⟨T, x', y', e1, hT, e2, f1, f2⟩ => ?_⟩
    subst e1 e2
    exact hs i x' y' T σ H (f1 xs qx) (f2 ys qy) p hT
  · have e : i = xs.length := by omega
    subst e
    exact .inl ⟨⟨xs, ys, qx, qy, Nat.le_refl _, by omega, .inl rfl⟩, hd σ H p⟩
end
/-! ### rules for a comprehension's block: the written part by its name -/
section
variable {X : Cx} (K : PySem.W.Frag)
theorem kx_ix_tup (h : X.K = K := by rfl) : IxR X (rIxT K) := h ▸ ix_tup
theorem kx_ix_list (h : X.K = K := by rfl) : IxR X (rIxL K) := h ▸ ix_list
theorem kx_ix_kdict (w : World) (h : X.K = K := by rfl) (hw : X.w = w := by rfl) : IxR X (rIxD K w) := by subst h hw; exact ix_kdict
theorem kx_op_eqX (hu : X.A.units + 200 < cLine) (h : X.K = K := by rfl) : OpR X (compareOp .Eq) (rEqX K) := h ▸ op_eqX hu
theorem kx_op_neX (hu : X.A.units + 200 < cLine) (h : X.K = K := by rfl) : OpR X (compareOp .NotEq) (rNeX K) := h ▸ op_neX hu
theorem kx_op_in_seq (h : X.K = K := by rfl) : OpR X (compareOp .In) (rIn K false) := h ▸ op_in_seq
theorem kx_op_notIn_seq (h : X.K = K := by rfl) : OpR X (compareOp .NotIn) (rIn K true) := h ▸ op_notIn_seq
theorem kx_call_isi (h : X.K = K := by rfl) : CallR X (.builtin "isinstance") (rIsi K) := h ▸ call_isi
def rLenQ (K : PySem.W.Frag) : List V → Hp → VK → Prop := fun xs H Q => ∃ p ys, xs = [.ref p] ∧ (SqL K H p ys ∨ SqT K H p ys) ∧ Q (.int ys.length) H
theorem kx_call_len_seq (h : X.K = K := by rfl) : CallR X (.builtin "len") (rLenQ K) := h ▸ call_len_seq
theorem kx_bm {e : Expr} {ty : String} {r : V → List V → Hp → VK → Prop} {to : TE} {t : TA} (p : PE X e (tBM X.K ty r to t)) (h : X.K = K := by rfl) : PE X e (tBM K ty r to t) := h ▸ p
theorem kx_bm0 {e : Expr} {ty : String} {r : V → List V → Hp → VK → Prop} {to : TE} (p : PE X e (tBM0 X.K ty r to)) (h : X.K = K := by rfl) : PE X e (tBM0 K ty r to) := h ▸ p
theorem kx_cr_sum (hc : X.calm = true := by rfl) (h : X.K = K := by rfl) : CallR X (.builtin "sum") (rSum K) := h ▸ cr_sum hc
end

section
variable {X : Cx}
/-- a new thing is locked as soon as it is there (a dict that is walked and dropped) -/
def tFrz (t : TE) : TE := fun σ H Q => t σ H fun x H1 => ∃ d u, x = .ref d ∧ H1 d = some u ∧ Mut (some u) ∧ ∀ od, Q x (upd H1 d (.frz od u))
theorem pe_frz {e : Expr} {t : TE} (he : PE X e t) : PE X e (tFrz t) := by
  refine ⟨fun pins s σ H Q I hw => ?_⟩
  refine thn (he.run pins s σ H _ I hw) fun v s1 ⟨x, H1, I1, r, d, u, ex, hd, mu, q⟩ => ?_
  obtain ⟨od, I2⟩ := I1.lock hd mu
  exact ⟨x, _, I2, r, q od⟩
end
section
/-- the keys that a written dict has, in order -/
def KeysOf : List DictEntry → List Str → Prop
  | [], [] => True
  | e :: r, k :: ks => (∃ t, e.key = .str k t) ∧ KeysOf r ks
  | _, _ => False
theorem isStr_str (k s : Str) (t : Tok) : Value.isStr (.str k t) s = (k == s) := by
  first | rfl | (unfold Value.isStr; first | rfl | simp)
theorem KeysOf.miss {s : Str} : ∀ {es : List DictEntry} {ks : List Str}, KeysOf es ks → s ∉ ks → es.find? (fun e => e.key.isStr s) = none ∧ es.any (fun e => e.refKey) = false
  | [], [], _, _ => ⟨rfl, rfl⟩
  | e :: r, k :: ks, ⟨⟨t, h⟩, h2⟩, n => by
    obtain ⟨a, b⟩ := KeysOf.miss h2 fun q => n (.tail _ q)
    have c : e.key.isStr s = false := by
      rw [h, isStr_str]
      exact beq_eq_false_iff_ne.mpr fun q => n (q ▸ .head _)
    have d : e.refKey = false := by unfold DictEntry.refKey; rw [h]
    refine ⟨?_, ?_⟩
    · rw [List.find?_cons_of_neg (by simp [c])]; exact a
    · rw [List.any_cons, d, b]; rfl
  | [], _ :: _, h, _ => h.elim
  | _ :: _, [], h, _ => h.elim
theorem KeysOf.nsIn {K : PySem.W.Frag} {a : Addr} {c : Value} {o : Option Addr} {es : Array DictEntry} {n : Nat} {sl : Array (Option Value)} {ks : List Str} {s : Str} (h : KeysOf es.toList ks) (l : K.lookup a = some ⟨c, o, .dict es n, sl⟩) (m : s ∉ ks) : PySem.W.nsIn K a s = some none := by
  obtain ⟨x, y⟩ := h.miss m
  unfold PySem.W.nsIn
  rw [l]
  simp only [x]
  rw [if_neg]
  rw [y]; exact Bool.false_ne_true
end
/-! ### the plain law: sets of places as numbers, lattices -/
/-- the number whose binary digits are the places below n with p -/
def mask (n : Nat) (p : Nat → Bool) : Nat := match n with
  | 0 => 0
  | n + 1 => mask n p + if p n then 2 ^ n else 0
theorem mask_lt (p : Nat → Bool) : ∀ n, mask n p < 2 ^ n
  | 0 => by show 0 < 1; omega
  | n + 1 => by
    have h := mask_lt p n
    show mask n p + (if p n then 2 ^ n else 0) < 2 ^ (n + 1)
    rw [Nat.pow_succ]
    split <;> omega
theorem mask_bit (p : Nat → Bool) : ∀ n i, (mask n p).testBit i = (decide (i < n) && p i)
  | 0, i => by
    show Nat.testBit 0 i = _
    simp
  | n + 1, i => by
    have h := mask_lt p n
    have ih := mask_bit p n i
    show (mask n p + if p n then 2 ^ n else 0).testBit i = _
    by_cases c : p n = true
    · rw [if_pos c, Nat.add_comm]
      by_cases e : i = n
      · subst e
        rw [Nat.testBit_two_pow_add_eq, ih, c]
        simp
      · rcases Nat.lt_or_ge i n with l | l
        · rw [Nat.testBit_two_pow_add_gt (by omega), ih]
          have : i < n + 1 := by omega
          simp [l, this]
        · have l2 : ¬ i < n + 1 := by omega
          have z : 2 ^ n + mask n p < 2 ^ i := Nat.lt_of_lt_of_le (by rw [Nat.pow_succ]; omega : 2 ^ n + mask n p < 2 ^ (n + 1)) (Nat.pow_le_pow_right (by decide) (by omega))
          rw [Nat.testBit_lt_two_pow z]
          simp [l2]
    · rw [if_neg c, Nat.add_zero, ih]
      by_cases e : i = n
      · subst e
        simp [Bool.not_eq_true _ ▸ c]
      · have : (i < n) ↔ (i < n + 1) := by omega
        simp [this]
theorem mask_ext {n : Nat} {p q : Nat → Bool} (h : ∀ i, i < n → p i = q i) : mask n p = mask n q := by
  refine Nat.eq_of_testBit_eq fun i => ?_
  rw [mask_bit, mask_bit]
  by_cases c : i < n
  · rw [h i c]
  · simp [c]
theorem mask_eq {n : Nat} {p q : Nat → Bool} : mask n p = mask n q ↔ ∀ i, i < n → p i = q i := by
  refine ⟨fun h i hi => ?_, mask_ext⟩
  have := congrArg (Nat.testBit · i) h
  simpa [mask_bit, hi] using this
theorem mask_and (n : Nat) (p q : Nat → Bool) : mask n p &&& mask n q = mask n fun i => p i && q i := by
  refine Nat.eq_of_testBit_eq fun i => ?_
  rw [Nat.testBit_and, mask_bit, mask_bit, mask_bit]
  cases decide (i < n) <;> simp
theorem mask_or (n : Nat) (p q : Nat → Bool) : mask n p ||| mask n q = mask n fun i => p i || q i := by
  refine Nat.eq_of_testBit_eq fun i => ?_
  rw [Nat.testBit_or, mask_bit, mask_bit, mask_bit]
  cases decide (i < n) <;> simp
theorem mask_all (n : Nat) : mask n (fun _ => true) = 2 ^ n - 1 := by
  refine Nat.eq_of_testBit_eq fun i => ?_
  rw [mask_bit, Nat.testBit_two_pow_sub_one]
  simp
theorem mask_one {n a : Nat} (h : a < n) : mask n (fun i => i == a) = 2 ^ a := by
  refine Nat.eq_of_testBit_eq fun i => ?_
  rw [mask_bit, Nat.testBit_two_pow]
  by_cases e : i = a
  · subst e; simp [h]
  · simp [e, Ne.symm e]
theorem mask_of {n m : Nat} (h : m < 2 ^ n) : m = mask n m.testBit := by
  refine Nat.eq_of_testBit_eq fun i => ?_
  rw [mask_bit]
  by_cases c : i < n
  · simp [c]
  · rw [Nat.testBit_lt_two_pow (Nat.lt_of_lt_of_le h (Nat.pow_le_pow_right (by decide) (by omega)))]
    simp [c]
/-! #### the same as whole numbers of the program -/
theorem bit_int (m a : Nat) : Builtin.bitAnd ((m : Int) / 2 ^ a) 1 = if m.testBit a then 1 else 0 := by
  have e : Builtin.bitAnd ((m : Int) / 2 ^ a) 1 = ((m : Int) / 2 ^ a) % 2 := by
    have := Bits.bitAnd_mask (x := (m : Int) / 2 ^ a) 1 (Int.ediv_nonneg (Int.natCast_nonneg _) (by exact Int.le_of_lt (Int.pow_pos (by decide))))
    simpa using this
  rw [e, Nat.testBit_eq_decide_div_mod_eq]
  have e2 : ((m : Int) / 2 ^ a) % 2 = ((m / 2 ^ a % 2 : Nat) : Int) := by
    rw [Int.natCast_emod, Int.natCast_ediv, Int.natCast_pow]
    rfl
  rw [e2]
  rcases Nat.mod_two_eq_zero_or_one (m / 2 ^ a) with h | h <;> rw [h] <;> rfl
theorem bit_is (m a : Nat) : decide (Builtin.bitAnd ((m : Int) / 2 ^ a) 1 = 1) = m.testBit a := by
  rw [bit_int]
  cases m.testBit a <;> rfl
theorem and_int_nat (a b : Nat) : Builtin.bitAnd (a : Int) (b : Int) = ((a &&& b : Nat) : Int) := by
  rw [PyProof.Rows.bitAnd_pp (Int.natCast_nonneg _) (Int.natCast_nonneg _)]
  rfl
theorem or_int_nat (a b : Nat) : Builtin.bitOr (a : Int) (b : Int) = ((a ||| b : Nat) : Int) := by
  rw [Bits.bitOr_pp (Int.natCast_nonneg _) (Int.natCast_nonneg _)]
  rfl
/-- a & ~b -/
theorem andnot_int (n : Nat) (p q : Nat → Bool) : Builtin.bitAnd (mask n p : Int) (Builtin.bitNot (mask n q : Int)) = (mask n (fun i => p i && !q i) : Int) := by
  have hneg : ¬ (0 ≤ Builtin.bitNot (mask n q : Int)) := by show ¬ (0 ≤ -(mask n q : Int) - 1); omega
  have hpos : (0 : Int) ≤ (mask n p : Int) := Int.natCast_nonneg _
  have nn : Builtin.bitNot (Builtin.bitNot (mask n q : Int)) = (mask n q : Int) := by show -(-(mask n q : Int) - 1) - 1 = _; omega
  have e : Builtin.bitAnd (mask n p : Int) (Builtin.bitNot (mask n q : Int)) = (mask n p : Int) - ((mask n p &&& mask n q : Nat) : Int) := by
    unfold Builtin.bitAnd
    rw [show decide ((0 : Int) ≤ (mask n p : Int)) = true from decide_eq_true hpos, show decide ((0 : Int) ≤ Builtin.bitNot (mask n q : Int)) = false from decide_eq_false hneg]
    show (mask n p : Int) - (((mask n p : Int).toNat &&& (Builtin.bitNot (Builtin.bitNot (mask n q : Int))).toNat : Nat) : Int) = _
    rw [nn]
    rfl
  rw [e, mask_and]
  have s : ∀ m, mask m (fun i => p i && q i) + mask m (fun i => p i && !q i) = mask m p := fun m => by
    induction m with
    | zero => rfl
    | succ m ih =>
      show (mask m _ + if (p m && q m) = true then 2 ^ m else 0) + (mask m _ + if (p m && !q m) = true then 2 ^ m else 0) = mask m p + if p m = true then 2 ^ m else 0
      rw [← ih]
      cases p m <;> cases q m <;> simp <;> omega
  have := s n
  omega
/-- the sum of 2 ** i over the places with p -/
theorem sum_mask (p : Nat → Bool) : ∀ n, ((((List.range n).filter p).map fun i => ((2 ^ i : Nat) : Int))).sum = (mask n p : Int)
  | 0 => rfl
  | n + 1 => by
    rw [List.range_succ, List.filter_append, List.map_append, List.sum_append, sum_mask p n]
    show _ = ((mask n p + if p n then 2 ^ n else 0 : Nat) : Int)
    by_cases c : p n = true
    · simp [List.filter, c]
    · simp [List.filter, c]
/-- the first place below n with p -/
def first : Nat → (Nat → Bool) → Option Nat := fun n p => (List.range n).find? p
theorem first_some {n k : Nat} {p : Nat → Bool} (h : first n p = some k) : k < n ∧ p k = true ∧ ∀ j, j < k → p j = false := by
  unfold first at h
  obtain ⟨h1, as, bs, h2, h3⟩ := List.find?_eq_some_iff_append.mp h
  have hk : k < n := List.mem_range.mp (List.mem_of_find?_eq_some h)
  refine ⟨hk, h1, fun j hj => ?_⟩
  have hl : as.length = k := by
    have e1 : (List.range n)[as.length]? = some k := by rw [h2, List.getElem?_append_right (Nat.le_refl _), Nat.sub_self]; rfl
    have e2 := (List.getElem?_eq_some_iff.mp e1).1
    rw [List.getElem?_range (by simpa using e2)] at e1
    exact Option.some.inj e1
  have e1 : (List.range n)[j]? = some j := List.getElem?_range (by omega)
  rw [h2, List.getElem?_append_left (by omega)] at e1
  have := h3 j (List.mem_of_getElem? e1)
  simpa using this
theorem first_none {n : Nat} {p : Nat → Bool} (h : first n p = none) : ∀ j, j < n → p j = false := fun j hj => by
  have := List.find?_eq_none.mp h j (List.mem_range.mpr hj)
  simpa using this
theorem first_is {n k : Nat} {p : Nat → Bool} (hk : k < n) (h1 : p k = true) (h2 : ∀ j, j < k → p j = false) : first n p = some k := by
  cases e : first n p with
  | none => have := first_none e k hk; rw [h1] at this; cases this
  | some m =>
    obtain ⟨a, b, c⟩ := first_some e
    rcases Nat.lt_trichotomy m k with l | l | l
    · have := h2 m l; rw [b] at this; cases this
    · rw [l]
    · have := c k l; rw [h1] at this; cases this
theorem first_not {n : Nat} {p : Nat → Bool} (h : ∀ j, j < n → p j = false) : first n p = none := by
  cases e : first n p with
  | none => rfl
  | some m =>
    obtain ⟨a, b, _⟩ := first_some e
    rw [h m a] at b; cases b
theorem first_ext {n : Nat} {p q : Nat → Bool} (h : ∀ i, i < n → p i = q i) : first n p = first n q := by
  cases e : first n p with
  | none => exact (first_not fun j hj => by rw [← h j hj]; exact first_none e j hj).symm
  | some m =>
    obtain ⟨a, b, c⟩ := first_some e
    exact (first_is a (by rw [← h m a]; exact b) fun j hj => by rw [← h j (by omega)]; exact c j hj).symm
/-- a lattice: its label, names, order and depth -/
structure Lt where
  label : Str
  names : List Str
  le : Nat → Nat → Bool
  depth : Nat
namespace Lt
def n (L : Lt) : Nat := L.names.length
def down (L : Lt) (b : Nat) : Nat := mask L.n fun a => L.le a b
def up (L : Lt) (a : Nat) : Nat := mask L.n fun b => L.le a b
def join (L : Lt) (a b : Nat) : Option Nat := first L.n fun k => L.up k == (L.up a &&& L.up b)
def meet (L : Lt) (a b : Nat) : Option Nat := first L.n fun k => L.down k == (L.down a &&& L.down b)
def bot (L : Lt) : Option Nat := first L.n fun k => L.up k == 2 ^ L.n - 1
def top (L : Lt) : Option Nat := first L.n fun k => L.down k == 2 ^ L.n - 1
def irr (L : Lt) (a : Nat) : Bool := (List.range L.n).any fun k => L.down k == mask L.n (fun i => L.le i a && !(i == a))
def irrs (L : Lt) : List Nat := (List.range L.n).filter L.irr
end Lt
def optV : Option Nat → V
  | none => .non
  | some k => .int k
def natV (l : List Nat) : List V := l.map fun k => V.int (k : Nat)
/-! ### defs that say super(): the frame with the class's cell -/
section
open PySem.W PyProof.Rows PySem.Calls
theorem lookup_class {cc c : Addr} {x : Str} (h : ([("__class__", cc)] : List (Str × Addr)).lookup x = some c) : x = "__class__" ∧ c = cc := by
  by_cases e : x = "__class__"
  · subst e
    simp at h
    exact ⟨rfl, h.symm⟩
  · have : (x == ("__class__" : Str)) = false := beq_eq_false_iff_ne.mpr e
    simp [List.lookup, this] at h
theorem start_get {N : List Str} {vs : List V} {i : Nat} {v : V} (h : (L2.start N vs)[i]? = some (some v)) : vs[i]? = some v := by
  rcases Nat.lt_or_ge i vs.length with hi | hi
  · simpa [L2.start, List.getElem?_append_left, hi] using h
  · simp only [L2.start, List.getElem?_append, List.length_map, Nat.not_lt.mpr hi, if_false, List.getElem?_replicate] at h
    split at h <;> cases h
end
section
open PySem.W PyProof.Rows PySem.Calls ClX
variable {X : Cx} {c : Code} {st : Stmt} {ss rest : List Stmt} {t u : TS}
/-- a suite run where the frame's own code stands below -/
structure PSa (X : Cx) (c : Code) (ss : List Stmt) (t : TS) : Prop where
  run : ∀ (pins : List (Addr × Obj)) (s : Shared) (σ : L2.St) (H : Hp) (D : Ends), Inv X pins σ H s → t D σ H → _root_.PySem.wpAt (model X.prog X.w) X.A c (execs ss X.env) (SP X pins D) X.xe s
theorem psa_any (h : PSs X ss t) : PSa X c ss t := ⟨fun pins s σ H D I q => _root_.PySem.wpAt_of_wpAny (h.run pins s σ H D I q)⟩
theorem psa_cons (h1 : PS X st t) (h2 : PSa X c rest u) : PSa X c (st :: rest) (tSeq t u) := by
  refine ⟨fun pins s σ H D I h => ?_⟩
  refine ks_wpAt_execs_cons (_root_.PySem.wpAt_of_wpAny (thn (h1.run pins s σ H { D with nx := u D } I h) fun f s1 q => ?_))
  match f, q with
  | .next, ⟨σ', H', I', q⟩ => exact h2.run pins s1 σ' H' D I' q
  | .ret v, q => exact q
  | .brk, q => exact q
  | .cont, q => exact q
/-- a local name, or one with a cell of the frame's own -/
def locK (sc : Scope) (x : Str) : Bool := match sc.names.lookup x with
  | some .local => true
  | some .cell => true
  | _ => false
theorem locK_vis {sc : Scope} {x : Str} (h : locK sc x = true) : Vis sc x := by
  unfold locK at h
  split at h
  · exact .inl ‹_›
  · exact .inr (.inl ‹_›)
  · cases h
theorem load_self {M : Model} {A : Around} {E : Value → Shared → Prop} {env : Env} {s : Shared} {me : Str} {u : Value} {m0 : Str → Option Value} {Q : Value → Shared → Prop} (hk : env.scope.kind = .function) (ka : locK env.scope me = true) (hn : s.heap.Ns env.locals m0) (lk : Look env s.heap m0 me u) (h : Q u s) : wpAny M A (loadName env me) Q E s := by
  rcases lk with ⟨a, q⟩ | ⟨a, c, e1, e2⟩
  · exact wpAny_loadName_local hk a hn q h
  · unfold locK at ka
    rcases a with a | a
    · exact wpAny_loadName_cell hk a e1 e2 h
    · have a' : env.scope.names.lookup me = some .free := a
      rw [a'] at ka
      cases ka
/-- what a frame with the class's cell knows of itself -/
structure SupX (X : Cx) (f cd cc D : Addr) (me : Str) : Prop where
  ks : X.env.scope.names.lookup ("super" : Str) = some .globalImplicit
  kc : X.env.scope.names.lookup ("__class__" : Str) = some .free
  ka : locK X.env.scope me = true
  fn : X.env.func = some f
  fd : ∃ o : Obj, X.K.lookup f = some o ∧ ∃ d : FuncData, o.data = .func d ∧ ∃ ar : Arg, (d.params.posonlyargs ++ d.params.args).head? = some ar ∧ ar.arg = me
  co : X.env.code = .ref cd
  cv : ∃ o : Obj, X.K.lookup cd = some o ∧ ∃ vs, o.data = .fields vs ∧ ∃ (file : Str) (tf : Tok), vs[2]? = some (.str file tf) ∧ ((X.prog.main.file : Str) == file) = true
  top : (X.prog.main.scope.names.lookup ("super" : Str)).isSome = false
  cl : X.env.cells.lookup ("__class__" : Str) = some cc
  cc : ∃ (a : Value) (b : Option Addr) (e : Array (Option Value)), X.K.lookup cc = some ⟨a, b, .cell (some (.ref D)), e⟩
  cls : ∃ cdD, clsIn X.K D = some cdD
  mg : X.mg "super" = none
  st : nsIn X.K cStatics "thirdparty.any" = some none
/-- super().m(..) where self stands in slot 0 -/
def tSup (K : PySem.W.Frag) (D : Addr) (m : Str) (f2 : Addr) (sp : Sp) (dvs : List V) (E : XK) (ta : TA) : TS := fun Dn σ H => ∃ (a C : Addr) (dx : Addr) (fs : List (Str × V)), σ[0]? = some (some (.ref a)) ∧ H a = some (.ins C dx fs) ∧ mroIn K C (.ref D) = some true ∧
  ks_superIn K C D m = some (some (.ref f2)) ∧ ta σ H fun vs H1 => sp (.ref a :: (vs ++ dvs)) H1 (fun _ H2 => Dn.nx σ H2) E
theorem cls_obj {K : PySem.W.Frag} {h : Heap} {D : Addr} {cd : ClassData} (k : K.In h) (e : clsIn K D = some cd) : ∃ oD, h.get? D = some oD ∧ oD.data = .cls cd := by
  unfold clsIn at e
  split at e
  · rename_i ho
    cases e
    exact ⟨_, k _ _ ho, rfl⟩
  · cases e
theorem run_fnC {pins : List (Addr × Obj)} {σ : L2.St} {H : Hp} {s : Shared} {CX : CXT} {k : Nat} {f : Addr} {fd : FuncData} {ps : List Str} {sp : Sp} {E : XK} {Q : VK} {us ds : List Value} {vs dvs : List V} (F : FnOk X.prog X.w X.K X.mg X.base CX k f fd ps sp) (hr : Room k X.A) (hb : Binds X.K fd ps ds) (hd : Vals dvs ds)
    (hx : Passes CX X E) (I : Inv X pins σ H s) (r : Vals vs us) (h : sp (vs ++ dvs) H Q E) :
    codeAny (model X.prog X.w) X.A (.call (.ref f) ⟨us, []⟩) (fun r s' => match r with | .ok (.ret v) => EP X pins σ Q v s' | .ok _ => False | .error e => X.xe e s') s := by
  have r2 : Vals (vs ++ dvs) (us ++ ds) := r.append hd
  have hl : (us ++ ds).length = ps.length := r2.length.symm.trans (F.len _ _ _ _ h)
  refine codeAny_mono (F.run X.A X.stack s H ⟨us, []⟩ (us ++ ds) (vs ++ dvs) Q E hr I.env0 (hb s us I.kIn hl) r2 h) fun r s' hq => ?_
  match r, hq with
  | .error e, hq => exact hx pins σ H s e s' I hq
  | .ok (.ret u), hq => exact I.after hq
  | .ok .next, hq => exact hq.elim
  | .ok .brk, hq => exact hq.elim
  | .ok .cont, hq => exact hq.elim
theorem psa_super {f cd cc D f2 : Addr} {me m : Str} {body : List Stmt} {p0 p1 apos pos pos' : Pos} {e : Expr} {es : List Expr} {ta : TA} {CX : CXT} {k : Nat} {fd2 : FuncData} {ps : List Str} {sp : Sp} {ds : List Value} {dvs : List V} {E : XK} {pl : Sem Bool}
    (S : SupX X f cd cc D me) (hN : X.N[0]? = some me) (ha : PA X (e :: es) ta) (F : FnOk X.prog X.w X.K X.mg X.base CX k f2 fd2 ps sp) (hr : Room k X.A) (hb : Binds X.K fd2 ps ds) (hd : Vals dvs ds) (hx : Passes CX X E)
    (ht : typeIn X.K (.ref f2) = some (.type "function")) (hf2 : fnIn X.K f2 = true) (hm : (m == ("__class__" : Str)) = false)
    (hst : starEach (e :: es) X.env = (false, eval e X.env) :: starEach es X.env) (hpl : (backTo pos (starEach es X.env)).any (·.1) = false)
    (hev : eval (.Call (.Attribute (.Call (.Name "super" p0) [] [] p1) m apos) (e :: es) [] pos) X.env = (do
      let ov ← attributeBase (.Call (.Name "super" p0) [] [] p1) m X.env (eval (.Call (.Name "super" p0) [] [] p1) X.env)
      standAt apos.atName
      let (g, first) ← holding [ov] (getMethod ov m pl)
      callWith pos g first (backTo pos (starEach (e :: es) X.env)) []) )
    (hi : interactive X.env = false) (hs : swapsWith (.Call (.Attribute (.Call (.Name "super" p0) [] [] p1) m apos) (e :: es) [] pos) none pos'.line X.env = pure false) (h2 : PSa X (.func body X.env) rest u) :
    PSa X (.func body X.env) (.Expr (.Call (.Attribute (.Call (.Name "super" p0) [] [] p1) m apos) (e :: es) [] pos) pos' :: rest) (tSeq (tSup X.K D m f2 sp dvs E ta) u) := by
  refine ⟨fun pins s σ H Dn I h => ?_⟩
  obtain ⟨a, C, dx, fs, h0, hins, hmro, hsup, h⟩ := h
  obtain ⟨hh, gg, dd, tt, os⟩ := s
  have KX : X.K.In hh := I.kIn
  obtain ⟨o1, l1, d1, e1, ar, hp1, har⟩ := S.fd
  obtain ⟨o2, l2, vs2, e2, file, tf, hv2, hfile⟩ := S.cv
  obtain ⟨ca, cb, ce, lc⟩ := S.cc
  obtain ⟨cdD, hcd⟩ := S.cls
  obtain ⟨oD, hD1, hD2⟩ := cls_obj KX hcd
  obtain ⟨m0, hn0, hlook⟩ := I.loc
  obtain ⟨uv, ru, lk⟩ := hlook 0 me (.ref a) hN h0 (locK_vis S.ka)
  obtain rfl : uv = Value.ref a := ru
  obtain ⟨mb, hb1, hb2⟩ := I.mod.blt
  refine ks_wpAt_execs_cons (ks_wpAt_Expr_any (ks_wpAt_MethodCall ?_ hev) hi hs)
  refine ks_wpAt_super_base S.ks S.kc hm S.fn (KX _ _ l1) e1 hp1 S.co (KX _ _ l2) e2 hv2 hfile S.top ?_
  refine ks_loadName_global I.ok.kind S.ks (loadGlobal_builtin (by rw [I.ok.glob]; exact I.mod.glob.keeps I.bk) S.mg (by rw [I.ok.blt]; exact hb1.keeps I.bk) ((hb2 _ (by decide)).trans (by first | rfl | decide +kernel)) ⟨rfl, ?_⟩)
  refine wpAny_loadName_free I.ok.kind S.kc S.cl ⟨_, KX _ _ lc, rfl⟩ ?_
  rw [har]
  refine load_self I.ok.kind S.ka hn0 lk ?_
  refine ks_wpAny_isType_cls hD1 hD2 ⟨rfl, ?_⟩
  obtain ⟨mA, O, _, _, _, _⟩ := ins_get I.hok hins
  have xC : a ≠ C := fun e => by
    have h1 := O.obj
    obtain ⟨oC, c1, c2⟩ : ∃ oC, hh.get? C = some oC ∧ ∃ cd2, oC.data = .cls cd2 := by
      cases hc : clsIn X.K C with
      | none => unfold ks_superIn at hsup; rw [hc] at hsup; cases hsup
      | some cd2 => obtain ⟨oC, c1, c2⟩ := cls_obj KX hc; exact ⟨oC, c1, cd2, c2⟩
    obtain ⟨cd2, c2⟩ := c2
    rw [e, c1] at h1
    rw [Option.some.inj h1] at c2
    cases c2
  refine ks_wpAny_call_super hD1 hD2 O.obj rfl (fun c z => nomatch z) (looks_mroIn KX hmro) (fun h' hso hk' => ?_)
  have I1 : Inv X ((hh.objs.size, ks_superObj D a C) :: pins) σ H ⟨h', gg, dd, tt, os⟩ := pin_new (t' := tt) I hk' (Nat.le_refl _) hso (fun v z => nomatch z)
  have K1 : X.K.In h' := I1.kIn
  cases hc : clsIn X.K C with
  | none => unfold ks_superIn at hsup; rw [hc] at hsup; cases hsup
  | some cdC =>
    unfold ks_superIn at hsup
    rw [hc] at hsup
    obtain ⟨of, hof, hofc⟩ : ∃ of, h'.get? f2 = some of ∧ of.cls = .type "function" := by
      have ht' : (X.K.lookup f2).map (·.cls) = some (.type "function") := ht
      cases z : X.K.lookup f2 with
      | none => rw [z] at ht'; cases ht'
      | some of => rw [z] at ht'; exact ⟨of, K1 _ _ z, Option.some.inj ht'⟩
    refine ks_wpAny_getMethod_super hso (looks_opaque K1 S.st) (l₀ := cdC.mro) (fun A Q E s k q => wpAny_bind ((looks_clsIn K1 hc) A _ E s k (wpAny_pure q))) rfl K1 hsup hof hofc xC hm ?_
    have I2 : Inv X ((h'.objs.size, methodObj (.ref f2) (.ref a)) :: (hh.objs.size, ks_superObj D a C) :: pins) σ H { (⟨h', gg, dd, tt, os⟩ : Shared) with heap := h'.push (methodObj (.ref f2) (.ref a)), toks := tt + 1 } := met_new I1
    refine callwith_cm I2 (base_none I1 (Nat.le_refl _)) hf2 (thn (ha.run pos _ _ σ H _ I2 h) fun us s3 ⟨vs, H1, I3, r3, q3⟩ => ⟨⟨pin_at I3, I3.kIn⟩, ?_⟩) hst hpl
    refine wpAny_call (method_call (pin_at I3) (codeAny_mono (run_fnC (us := .ref a :: us) (vs := .ref a :: vs) F hr hb hd hx I3 (.cons rfl r3) q3) fun r s4 hq => ?_))
    match r, hq with
    | .ok (.ret _), ⟨_, H', I', _, q⟩ => exact h2.run pins s4 σ H' Dn (unpin (unpin I')) q
    | .ok .next, hq => exact hq
    | .ok .brk, hq => exact hq
    | .ok .cont, hq => exact hq
    | .error e, hq => exact hq
end
/-! ### super().__init__(..) of an exception over ValueError -/
section
open PySem.W PyProof.Rows PySem.Calls ClX
theorem mro_VE {K : PySem.W.Frag} {C : Addr} (T : OexC K C) {y : String} (hy : PySem.HandSPX.veTail.contains (.type y) = true) : mroIn K C (.type y) = some true := by
  obtain ⟨nm, q, N, bs, bm, sn, sub, ab, col, dd, k0, k1, k2, k3, k5, hC, hbm⟩ := T.cls
  have hcl : clsIn K C = some { name := nm, bases := bs, mro := .ref C :: bm, ns := N, qualname := q, hasDict := true, slotNames := sn, subclasses := sub, abstract := ab, collection := col, hasDel := false } := by
    unfold clsIn
    rw [hC] <;> rfl
  have e := PySem.HandSPX.refsVE_contains y bm hbm
  unfold mroIn
  rw [hcl, Option.bind_some]
  show (if (List.isEmpty (Value.ref C :: bm)) = true then _ else some ((Value.ref C :: bm).contains (.type y))) = some true
  rw [if_neg (by simp)]
  rw [List.contains_cons, e, hy, Bool.or_true]
section
variable {prog : Program} {w : World} {A : Around} {E : Value → Shared → Prop} {h : Heap} {g : Array GenState} {d : Drawn} {t : Nat} {os : OsState}
variable {nm q : Str} {C N : Addr} {bs bm : List Value} {hdct : Bool} {sn : List Str} {sub : List Value} {ab : Bool} {col : Option Bool} {dd : Option Addr} {k0 k1 k2 k3 k5 : Option Value}
theorem mw_run {u e t0 : Addr} {rest : List Value} {Q : Value → Shared → Prop} (hC : h.get? C = some (excClassObj nm q C N bs bm hdct sn sub ab col dd k0 k1 k2 k3 k5 "ValueError.__new__")) (he : h.get? e = some (PySem.HandSPX.excO C t0))
    (hu : h.get? u = some (kxs_mw "ValueError.__init__" e)) (hz : rest.length ≤ sizeLine) (hq : ∀ h' t1, (∀ b o, b ≠ e → h.get? b = some o → h'.get? b = some o) → h'.get? e = some (PySem.HandSPX.excO C t1) → Q .none ⟨h', g, d, t, os⟩) :
    wpAny (model prog w) A (call (.ref u) rest) Q E ⟨h, g, d, t, os⟩ := by
  refine wpAny_call (codeAny_of_tree ?_)
  show wpAny _ A.in1 (callAny (.ref u) ⟨rest, []⟩) _ _ _
  simp only [callAny]
  refine wpAny_bind (wpAny_load hu ?_)
  simp only [kxs_mw]
  refine KFB.if_so (by decide) ?_
  refine wpAny_bind (PySem.ESX.check_bound F.excBase_ValueError hC he rfl ?_)
  refine wpAny_bind (wpAny_pure (wpAny_pure ?_))
  refine ⟨Code.quiet_builtin _ (by decide +kernel), codeAny_builtin F.excBase_ValueError.initEntry ?_⟩
  rw [Around.under_plainId F.excBase_ValueError.init.plain _]
  wp_walk
  refine hq _ h.objs.size (fun b o hb ho => ?_) ?_
  · rw [Heap.get?_update_other _ _ (Ne.symm hb)]; exact Heap.get?_push_of_some _ ho
  · rw [Heap.get?_update_self _ (Heap.get?_push_of_some _ he) rfl]; rfl
end
/-- super().m(..) where self is an exception that is being made -/
def tSupX (K : PySem.W.Frag) (D : Addr) (m : Str) (ta : TA) : TS := fun Dn σ H => ∃ (a C : Addr), σ[0]? = some (some (.ref a)) ∧ H a = some (exo a C none) ∧ OexC K C ∧ mroIn K C (.ref D) = some true ∧
  ks_superIn K C D m = some (some (.builtin "ValueError.__init__")) ∧ ta σ H fun vs H1 => vs.length ≤ 1000 ∧ H1 a = some (exo a C none) ∧ Dn.nx σ H1
variable {X : Cx} {c : Code} {st : Stmt} {ss rest : List Stmt} {t u : TS}
theorem psa_superX {f cd cc D : Addr} {me m : Str} {body : List Stmt} {p0 p1 apos pos pos' : Pos} {e : Expr} {es : List Expr} {ta : TA} {pl : Sem Bool}
    (S : SupX X f cd cc D me) (hN : X.N[0]? = some me) (ha : PA X (e :: es) ta) (hm : (m == ("__class__" : Str)) = false)
    (hst : starEach (e :: es) X.env = (false, eval e X.env) :: starEach es X.env) (hpl : (backTo pos (starEach es X.env)).any (·.1) = false)
    (hev : eval (.Call (.Attribute (.Call (.Name "super" p0) [] [] p1) m apos) (e :: es) [] pos) X.env = (do
      let ov ← attributeBase (.Call (.Name "super" p0) [] [] p1) m X.env (eval (.Call (.Name "super" p0) [] [] p1) X.env)
      standAt apos.atName
      let (g, first) ← holding [ov] (getMethod ov m pl)
      callWith pos g first (backTo pos (starEach (e :: es) X.env)) []) )
    (hi : interactive X.env = false) (hs : swapsWith (.Call (.Attribute (.Call (.Name "super" p0) [] [] p1) m apos) (e :: es) [] pos) none pos'.line X.env = pure false) (h2 : PSa X (.func body X.env) rest u) :
    PSa X (.func body X.env) (.Expr (.Call (.Attribute (.Call (.Name "super" p0) [] [] p1) m apos) (e :: es) [] pos) pos' :: rest) (tSeq (tSupX X.K D m ta) u) := by
  refine ⟨fun pins s σ H Dn I h => ?_⟩
  obtain ⟨a, C, h0, hins, TC, hmro, hsup, h⟩ := h
  obtain ⟨hh, gg, dd, tt, os⟩ := s
  have KX : X.K.In hh := I.kIn
  obtain ⟨o1, l1, d1, e1, ar, hp1, har⟩ := S.fd
  obtain ⟨o2, l2, vs2, e2, file, tf, hv2, hfile⟩ := S.cv
  obtain ⟨ca, cb, ce, lc⟩ := S.cc
  obtain ⟨cdD, hcd⟩ := S.cls
  obtain ⟨oD, hD1, hD2⟩ := cls_obj KX hcd
  obtain ⟨m0, hn0, hlook⟩ := I.loc
  obtain ⟨uv, ru, lk⟩ := hlook 0 me (.ref a) hN h0 (locK_vis S.ka)
  obtain rfl : uv = Value.ref a := ru
  obtain ⟨mb, hb1, hb2⟩ := I.mod.blt
  refine ks_wpAt_execs_cons (ks_wpAt_Expr_any (ks_wpAt_MethodCall ?_ hev) hi hs)
  refine ks_wpAt_super_base S.ks S.kc hm S.fn (KX _ _ l1) e1 hp1 S.co (KX _ _ l2) e2 hv2 hfile S.top ?_
  refine ks_loadName_global I.ok.kind S.ks (loadGlobal_builtin (by rw [I.ok.glob]; exact I.mod.glob.keeps I.bk) S.mg (by rw [I.ok.blt]; exact hb1.keeps I.bk) ((hb2 _ (by decide)).trans (by first | rfl | decide +kernel)) ⟨rfl, ?_⟩)
  refine wpAny_loadName_free I.ok.kind S.kc S.cl ⟨_, KX _ _ lc, rfl⟩ ?_
  rw [har]
  refine load_self I.ok.kind S.ka hn0 lk ?_
  refine ks_wpAny_isType_cls hD1 hD2 ⟨rfl, ?_⟩
  obtain ⟨nm, q, N, bs, bm, sn, sub, ab, col, dd0, k0, k1, k2, k3, k5, hC, hbm⟩ := id TC.cls
  obtain ⟨t1, ho⟩ := exo_at I.hok hins
  have hcl : clsIn X.K C = some { name := nm, bases := bs, mro := .ref C :: bm, ns := N, qualname := q, hasDict := true, slotNames := sn, subclasses := sub, abstract := ab, collection := col, hasDel := false } := by
    unfold clsIn
    rw [hC] <;> rfl
  have xC : a ≠ C := fun e => by
    have c1 := KX _ _ hC
    rw [← e, ho] at c1
    have c2 := congrArg Obj.data (Option.some.inj c1)
    cases c2
  refine ks_wpAny_call_super hD1 hD2 ho rfl (fun c z => nomatch z) (looks_mroIn KX hmro) (fun h' hso hk' => ?_)
  have I1 : Inv X ((hh.objs.size, ks_superObj D a C) :: pins) σ H ⟨h', gg, dd, tt, os⟩ := pin_new (t' := tt) I hk' (Nat.le_refl _) hso (fun v z => nomatch z)
  have K1 : X.K.In h' := I1.kIn
  obtain ⟨t2, ho2⟩ := exo_at I1.hok hins
  have J1 : InstAt h' a { cls := .ref C, dict := none, data := .fields #[.ref t2, .none, .none, .none, .bool false, .none] } C none := ⟨ho2, rfl, rfl, trivial⟩
  have isVE : Looks (model X.prog X.w) h' (isInstance (.ref a) (.type "ValueError")) true := J1.type.andThen (looks_mroIn K1 (mro_VE TC (by decide +kernel)))
  unfold ks_superIn at hsup
  rw [hcl] at hsup
  refine kxs_getMethod kxs_ValueError hso (looks_opaque K1 S.st) (l₀ := .ref C :: bm) (fun A Q E s k q => wpAny_bind ((looks_clsIn K1 hcl) A _ E s k (wpAny_pure q))) rfl K1 hsup isVE xC hm ?_
  have I2 : Inv X ((h'.objs.size, kxs_mw "ValueError.__init__" a) :: (hh.objs.size, ks_superObj D a C) :: pins) σ H { (⟨h', gg, dd, tt, os⟩ : Shared) with heap := h'.push (kxs_mw "ValueError.__init__" a), toks := tt + 1 } :=
    pin_new I1 (fun _ _ z => Heap.get?_push_of_some _ z) (Nat.le_refl _) (Heap.get?_push_size h' rfl) (fun v z => nomatch z)
  have hL : h'.objs.size ≠ X.env.locals := (I2.pin (h'.objs.size, kxs_mw "ValueError.__init__" a) (List.mem_append_right _ List.mem_cons_self)).2.2.1
  refine kxs_callWith1 (news_at hL (base_none I1 (Nat.le_refl _)) (pin_at I2)) List.mem_cons_self (thn (ha.run pos _ _ σ H _ I2 h) fun us s3 ⟨vs, H1, I3, r3, hl3, e3, q3⟩ => ⟨pin_at I3, ?_⟩) hst hpl
  obtain ⟨t3, ho3⟩ := exo_at I3.hok e3
  have hmw := pin_at I3
  obtain ⟨h3, g3, d3, k3', os3⟩ := s3
  have hlen : us.length ≤ sizeLine := by rw [← r3.length, sizeLine_eq]; omega
  refine mw_run (I3.kIn _ _ hC) ho3 hmw hlen (fun h4 t4 kk hx4 => ?_)
  have J := I3.write (t' := k3') (x := a) (e := a) (o := exo a C none) (by rw [e3]; exact True.intro) (.inl rfl) kk ⟨_, hx4⟩ (exo_ok hx4)
  have eu : upd H1 a (exo a C none) = H1 := by
    funext b
    by_cases hb : b = a
    · rw [hb, upd_same, e3]
    · rw [upd_ne hb]
  rw [eu] at J
  exact h2.run pins _ σ H1 Dn (unpin (unpin J)) q3
end
/-! ### the entry of a def with cells of its own and the class's cell -/
section
open PySem.W PyProof.Rows PySem.Calls
variable {M : Model} {A : Around} {E : Value → Shared → Prop} {s0 s : Shared} {m cm : Str → Option Value} {env : Env} {cs : List (Str × Addr)}
theorem stS_loc {n : Str} {v : Value} {Q : Unit → Shared → Prop} (x : InCallC s0 env.locals m cs cm s) (hk : env.scope.kind = .function) (hl : env.kindOf n = some .local)
    (h : ∀ s', InCallC s0 env.locals (fun y => if y = n then some v else m y) cs cm s' → Q () s') : wpAny M A (storeName env n v) Q E s := by
  refine wpAny_storeName_local hl x.toInCall.ns (fun h' hn' hs' => h _ ?_) (by rw [hk]; rfl)
  have le : ∀ b o, s0.heap.get? b = some o → b ≠ env.locals := fun b o e => Nat.ne_of_lt (Nat.lt_of_lt_of_le (Heap.lt_size e) x.toInCall.fresh)
  obtain ⟨h₁, tk, es⟩ := x.toInCall.same
  exact ⟨⟨⟨h', _, by rw [es]⟩, hn', fun b o e => hs'.extBut b o (le b o e) (x.toInCall.keep b o e), x.toInCall.fresh⟩,
    fun k c hc => (x.cell k c hc).sameBut hs' (Nat.ne_of_gt (x.above k c (PySem.mem_of_lookup hc))), x.apart, x.above⟩
theorem stS_cell {n : Str} {c : Addr} {v : Value} {Q : Unit → Shared → Prop} (x : InCallC s0 env.locals m cs cm s) (hk : env.scope.kind = .function) (hl : env.kindOf n = some .cell) (he : env.cells.lookup n = some c) (hc : cs.lookup n = some c)
    (h : ∀ s', InCallC s0 env.locals m cs (fun y => if y = n then some v else cm y) s' → Q () s') : wpAny M A (storeName env n v) Q E s := by
  have up := x.above n c (PySem.mem_of_lookup hc)
  refine wpAny_storeName_cell hk hl he (x.cell n c hc) fun h' hc' hs' => h _ ?_
  have le : ∀ b o, s0.heap.get? b = some o → b ≠ c := fun b o e => Nat.ne_of_lt (Nat.lt_trans (Nat.lt_of_lt_of_le (Heap.lt_size e) x.toInCall.fresh) up)
  obtain ⟨h₁, tk, es⟩ := x.toInCall.same
  refine ⟨⟨⟨h', _, by rw [es]⟩, x.toInCall.ns.sameBut hs' (Nat.ne_of_lt up), fun b o e => hs'.extBut b o (le b o e) (x.toInCall.keep b o e), x.toInCall.fresh⟩, fun k c' hk' => ?_, x.apart, x.above⟩
  by_cases hkn : k = n
  · subst hkn
    rw [hc] at hk'
    cases hk'
    simpa using hc'
  · rw [if_neg hkn]
    exact (x.cell k c' hk').sameBut hs' fun e => hkn (name_of_addr x.apart (PySem.mem_of_lookup hk') (e ▸ PySem.mem_of_lookup hc))
theorem bindS (f : Str × Value → PUnit → Sem (ForInStep PUnit)) (hf : ∀ n v u, f (n, v) u = (do storeName env n v; pure (.yield ⟨⟩))) (hk : env.scope.kind = .function) :
    ∀ (binds : List (Str × Value)) (m cm : Str → Option Value) (s : Shared) (Q : PUnit → Shared → Prop), InCallC s0 env.locals m cs cm s →
      (∀ y ∈ binds, env.kindOf y.1 = some .local ∨ (env.kindOf y.1 = some .cell ∧ ∃ c, cs.lookup y.1 = some c ∧ env.cells.lookup y.1 = some c)) →
      (∀ s', InCallC s0 env.locals (bindL env.kindOf binds m) cs (bindC env.kindOf binds cm) s' → Q ⟨⟩ s') → wpAny M A (forIn binds ⟨⟩ f) Q E s
  | [], m, cm, s, Q, x, _, h => by rw [List.forIn_nil]; exact wpAny_pure (h s x)
  | (n, v) :: r, m, cm, s, Q, x, hy, h => by
    have hr := fun y (q : y ∈ r) => hy y (.tail _ q)
    rw [List.forIn_cons, hf]
    rcases hy (n, v) (.head _) with hl | ⟨hl, c, hc, he⟩
    · refine wpAny_bind (wpAny_bind (stS_loc x hk hl fun s' x' => wpAny_pure (bindS f hf hk r _ _ s' Q x' hr fun s2 x2 => h s2 ?_)))
      show InCallC s0 env.locals (bindL env.kindOf r (if env.kindOf n = some .local then _ else m)) cs (bindC env.kindOf r (if env.kindOf n = some .local then cm else _)) s2
      rw [if_pos hl, if_pos hl]; exact x2
    · have hnl : ¬ env.kindOf n = some .local := by rw [hl]; decide
      refine wpAny_bind (wpAny_bind (stS_cell x hk hl he hc fun s' x' => wpAny_pure (bindS f hf hk r _ _ s' Q x' hr fun s2 x2 => h s2 ?_)))
      show InCallC s0 env.locals (bindL env.kindOf r (if env.kindOf n = some .local then _ else m)) cs (bindC env.kindOf r (if env.kindOf n = some .local then cm else _)) s2
      rw [if_neg hnl, if_neg hnl]; exact x2
theorem cells_app : ∀ (names : List (Str × NameKind)) (n : Nat) (acc cl : List (Str × Addr)), cellsFrom n names (acc ++ cl) = cellsFrom n names acc ++ cl
  | [], _, _, _ => rfl
  | (x, k) :: r, n, acc, cl => by
    unfold cellsFrom
    split
    · exact cells_app r (n + 1) ((x, n) :: acc) cl
    · exact cells_app r n acc cl
theorem newEnvS {scope : Scope} {globals : Addr} {cl : List (Str × Addr)} {binds : List (Str × Value)} {qual : Str} {func : Option Addr} {code : Value} {builtins : Addr} {Q : Env → Shared → Prop} (hk : scope.kind = .function)
    (hkind : ∀ y ∈ binds, scope.names.lookup y.1 = some .local ∨ (scope.names.lookup y.1 = some .cell ∧ ∃ c, (cellsFrom (s.heap.objs.size + 1) scope.names []).lookup y.1 = some c ∧ (cellsFrom (s.heap.objs.size + 1) scope.names [] ++ cl).lookup y.1 = some c))
    (hQ : ∀ env, env = newEnv scope s.heap.objs.size globals (cellsFrom (s.heap.objs.size + 1) scope.names [] ++ cl) qual func code none builtins →
      ∀ s', InCallC s env.locals (bindL env.kindOf binds fun _ => none) (cellsFrom (s.heap.objs.size + 1) scope.names []) (bindC env.kindOf binds fun _ => none) s' → Q env s') :
    wpAny M A (newFunctionEnv scope globals cl binds qual func code none builtins) Q E s := by
  simp only [newFunctionEnv, Option.isSome_none, Bool.false_eq_true, if_false]
  refine wpAny_bind (wpAny_alloc ?_)
  refine wpAny_bind (wpAny_layCells _ (fun x kind cells => by cases hkc : kind == NameKind.cell <;> simp [hkc]) scope.names cl _ _ ?_)
  have sz : (s.heap.push { cls := .type "frame", data := .dict #[] }).objs.size = s.heap.objs.size + 1 := Heap.size_push ..
  have ok := cellsFrom_ok scope.names (s.heap.push { cls := .type "frame", data := .dict #[] }) (s.heap.objs.size + 1) [] ⟨fun _ _ hm => (nomatch hm), List.Pairwise.nil⟩ (by rw [sz]; exact Nat.le_refl _)
  rw [sz] at ok
  have ec := cells_app scope.names (s.heap.objs.size + 1) [] cl
  rw [List.nil_append] at ec
  show wpAny M A _ Q E _
  rw [show ({ s with heap := s.heap.push { cls := .type "frame", data := .dict #[] } } : Shared).heap.objs.size = s.heap.objs.size + 1 from sz, ec]
  refine wpAny_bind (bindS (s0 := s) (cs := cellsFrom (s.heap.objs.size + 1) scope.names []) (env := newEnv scope s.heap.objs.size globals (cellsFrom (s.heap.objs.size + 1) scope.names [] ++ cl) qual func code none builtins)
    _ (fun _ _ _ => rfl) hk binds (fun _ => none) (fun _ => none) _ _ ?_ hkind fun s' x => wpAny_pure (hQ _ rfl s' x))
  exact ⟨⟨⟨_, _, rfl⟩, (Heap.Ns.new s.heap (.type "frame")).keeps (pushCells_keeps _ _), fun b o e => pushCells_keeps _ _ b o (Heap.get?_push_of_some _ e), Nat.le_refl _⟩,
    fun n c hc => (ok.empty n c (PySem.mem_of_lookup hc)).1, ok.apart, fun n c hm => (ok.empty n c hm).2⟩
end
section
open PySem.W PyProof.Rows PySem.Calls
/-- the frame: its own cells, and the class's -/
abbrev envK (qual : Str) (scope : Scope) (L f : Addr) (cd : Value) (cc : Addr) : Env := envX qual scope L f cd (cellsFrom (L + 1) scope.names [] ++ [((("__class__" : Str)), cc)])
def cxK (CX : CXT) (P : Program) (w : World) (K : PySem.W.Frag) (mg : Str → Option Value) (base : Heap) (N : List Str) (qual : Str) (scope : Scope) (f : Addr) (cd : Value) (cc : Addr) (A : Around) (outer : List Env) (s : Shared) (H : Hp) (E : XK) : Cx where
  prog := P
  w := w
  K := K
  mg := mg
  base := base
  A := A.deeper (envK qual scope s.heap.objs.size f cd cc)
  N := N
  s_0 := s
  H_0 := H
  env := envK qual scope s.heap.objs.size f cd cc
  outer := outer
  stack := envK qual scope s.heap.objs.size f cd cc :: outer
  ex := []
  calm := true
  fn := fun x => x != "__class__"
  pn := []
  xe := fun e s' => wpAny (model P w) (A.deeper (envK qual scope s.heap.objs.size f cd cc)) (leaving (envK qual scope s.heap.objs.size f cd cc) e) (fun _ s'' => CX outer H s E e s'') (fun e' s'' => CX outer H s E e' s'') s'
structure FnScopeK (N ps : List Str) (sc : Scope) : Prop where
  kind : sc.kind = .function
  co : sc.isCoroutine = false
  gen : sc.isGenerator = false
  nd : N.Nodup
  pre : N.take ps.length = ps
  par : ∀ x ∈ ps, (sc.names.lookup x = some .local ∨ sc.names.lookup x = some .cell)
  noC : ∀ y ∈ sc.names, y.2 = .cell → y.1 ≠ "__class__"
  free : ∀ y ∈ sc.names, y.2 = .free → y.1 = "__class__"
theorem cells_mem {x : Str} {c : Addr} : ∀ {names : List (Str × NameKind)} {n : Nat} {acc : List (Str × Addr)}, (x, c) ∈ cellsFrom n names acc → (x, c) ∈ acc ∨ (x, NameKind.cell) ∈ names
  | [], _, _, h => .inl h
  | (y, k) :: r, n, acc, h => by
    unfold cellsFrom at h
    split at h
    · rename_i hk
      rcases cells_mem h with h | h
      · rcases List.mem_cons.mp h with h | h
        · have ek : k = NameKind.cell := eq_of_beq hk
          cases h
          exact .inr (by rw [ek]; exact .head _)
        · exact .inl h
      · exact .inr (.tail _ h)
    · rcases cells_mem h with h | h
      · exact .inl h
      · exact .inr (.tail _ h)
theorem look_app {cs : List (Str × Addr)} {x : Str} {c cc : Addr} (h : (cs ++ [((("__class__" : Str)), cc)]).lookup x = some c) : cs.lookup x = some c ∨ (x = "__class__" ∧ c = cc) := by
  rw [List.lookup_append] at h
  cases e : cs.lookup x with
  | some d => rw [e] at h; exact .inl h
  | none =>
    rw [e] at h
    exact .inr (lookup_class (by simpa using h))
theorem look_own {cs : List (Str × Addr)} {x : Str} {c cc : Addr} (h : cs.lookup x = some c) : (cs ++ [((("__class__" : Str)), cc)]).lookup x = some c := by
  rw [List.lookup_append, h]; rfl
theorem look_class {cs : List (Str × Addr)} {cc : Addr} (h : cs.lookup (("__class__" : Str)) = none) : (cs ++ [((("__class__" : Str)), cc)]).lookup (("__class__" : Str)) = some cc := by
  rw [List.lookup_append, h]
  show ([("__class__", cc)] : List (Str × Addr)).lookup (("__class__" : Str)) = some cc
  simp [List.lookup]
theorem no_class {N ps : List Str} {sc : Scope} (S : FnScopeK N ps sc) (n : Nat) : (cellsFrom n sc.names []).lookup (("__class__" : Str)) = none := by
  cases e : (cellsFrom n sc.names []).lookup (("__class__" : Str)) with
  | none => rfl
  | some c =>
    rcases cells_mem (PySem.mem_of_lookup e) with h | h
    · cases h
    · exact absurd rfl (S.noC _ h rfl)
theorem inv_startK {CX : CXT} {P : Program} {w : World} {K : PySem.W.Frag} {mg : Str → Option Value} {base : Heap} {N ps : List Str} {qual : Str} {scope : Scope} {f cc : Addr} {cd : Value} {A : Around} {outer : List Env} {s s1 : Shared} {H : Hp} {E : XK} {us : List Value} {vs : List V}
    {ccl : Value} {cld : Option Addr} {cv : Value} {csl : Array (Option Value)}
    (S : FnScopeK N ps scope) (hd : A.handled = none) (e0 : Env0 P w K mg base A outer s H) (hl : vs.length = ps.length) (r : Vals vs us) (hcc : K.lookup cc = some ⟨ccl, cld, .cell (some cv), csl⟩)
    (x : InCallC s s.heap.objs.size (bindL (envK qual scope s.heap.objs.size f cd cc).kindOf (ps.zip us) fun _ => none) (cellsFrom (s.heap.objs.size + 1) scope.names []) (bindC (envK qual scope s.heap.objs.size f cd cc).kindOf (ps.zip us) fun _ => none) s1) :
    Inv (cxK CX P w K mg base N qual scope f cd cc A outer s H E) [] (L2.start N vs) H s1 := by
  have hpl : ps.length ≤ N.length := by have := congrArg List.length S.pre; rw [List.length_take] at this; omega
  have cb : base.get? cc = some ⟨ccl, cld, .cell (some cv), csl⟩ := e0.mod.kin _ _ hcc
  have sb := e0.bs _ _ cb
  have cl : cc < s.heap.objs.size := Heap.lt_size sb.1
  obtain ⟨h1, tk, es, hk⟩ := x.done
  subst es
  have noA : ∀ b : Addr, b ∉ (cxK CX P w K mg base N qual scope f cd cc A outer s H E).ex := fun b z => absurd (show b ∈ ([] : List Addr) from z) (by simp)
  have lk : ∀ {y : Str} {c : Addr}, (cxK CX P w K mg base N qual scope f cd cc A outer s H E).env.cells.lookup y = some c → (cellsFrom (s.heap.objs.size + 1) scope.names []).lookup y = some c ∨ (y = "__class__" ∧ c = cc) := fun h => look_app h
  have ab : ∀ {y : Str} {c : Addr}, (cellsFrom (s.heap.objs.size + 1) scope.names []).lookup y = some c → s.heap.objs.size < c := fun h => x.above _ _ (PySem.mem_of_lookup h)
  refine ⟨⟨e0.mod, S.kind, rfl, rfl, Nat.le_refl _, fun y z c h1 h2 => ?_, fun y hy => ?_, fun y c hf h => ?_, fun _ => hd, Around.frames_deeper e0.frames, .inr ⟨rfl, rfl⟩, fun b z => absurd z (noA b), e0.bs, e0.bsz, fun b _ _ => noA b, fun b z => absurd z (noA b), e0.funs, e0.frf⟩,
    rfl, e0.bare, Un.kept hk, ⟨_, x.toInCall.ns, fun i y v h1 h2 h3 => ?_⟩, fun y c h => ?_, e0.hok.fresh (Nat.le_refl _), fun y c h => ?_, fun p hp => absurd (show p ∈ ([] : List (Addr × Obj)) from hp) (by simp), e0.hok.kept hk, ?_⟩
  · rcases lk h1 with a | ⟨a, b⟩ <;> rcases lk h2 with a' | ⟨a', b'⟩
    · exact name_of_addr x.apart (PySem.mem_of_lookup a) (PySem.mem_of_lookup a')
    · have q := ab a; rw [b'] at q; exact absurd cl (Nat.lt_asymm q)
    · have q := ab a'; rw [b] at q; exact absurd cl (Nat.lt_asymm q)
    · exact a.trans a'.symm
  · have hy : scope.names.lookup y = some .cell ∨ scope.names.lookup y = some .free := hy
    rcases hy with hy | hy
    · obtain ⟨c, e⟩ := cell_has (n := s.heap.objs.size + 1) hy
      exact ⟨c, look_own e⟩
    · have ey : y = "__class__" := S.free _ (PySem.mem_of_lookup hy) rfl
      subst ey
      exact ⟨cc, look_class (no_class S _)⟩
  · rcases lk h with a | ⟨a, _⟩
    · exact Nat.le_of_lt (ab a)
    · subst a
      have : (("__class__" : Str) != "__class__") = true := hf
      simp at this
  · have ha := start_get h2
    obtain ⟨u, hu, rv⟩ := r.get ha
    have il : i < ps.length := hl ▸ (List.getElem?_eq_some_iff.mp ha).1
    have hp : ps[i]? = some y := (congrArg (·[i]?) S.pre).symm.trans ((List.getElem?_take_of_lt il).trans h1)
    have ndP : ps.Nodup := S.pre ▸ S.nd.sublist (List.take_sublist _ _)
    refine ⟨u, rv, ?_⟩
    rcases S.par y (List.mem_of_getElem? hp) with k | k
    · exact .inl ⟨k, bindL_get ndP hp hu k⟩
    · obtain ⟨c, e⟩ := cell_has (n := s.heap.objs.size + 1) k
      have q := x.cell y c e
      rw [bindC_get ndP hp hu (by show scope.names.lookup y ≠ _; rw [k]; decide)] at q
      exact .inr ⟨.inl k, c, look_own e, q⟩
  · rcases lk h with a | ⟨_, rfl⟩
    · exact ⟨_, x.cell y c a⟩
    · exact ⟨_, _, hk _ _ sb.1, rfl⟩
  · rcases lk h with a | ⟨_, rfl⟩
    · exact e0.hok.fresh (Nat.le_of_lt (ab a))
    · exact sb.2
  · show (L2.start N vs).length = N.length
    simp only [L2.start, List.length_append, List.length_map, List.length_replicate]
    omega
/-- a def that says super(), by its body -/
theorem fnK_of {CX : CXT} {P : Program} {w : World} {K : PySem.W.Frag} {mg : Str → Option Value} {base : Heap} {k : Nat} {f cc : Addr} {name qual : Str} {params : Arguments} {body : List Stmt} {scope : Scope} {dV kV doc pm cdv ct oc : Value} {an od : Option Addr}
    {osl : Array (Option Value)} {N ps : List Str} {sp : Sp} {ccl : Value} {cld : Option Addr} {cv : Value} {csl : Array (Option Value)} (lk : K.lookup f = some ⟨oc, od, .func (ksFn name qual params body scope dV kV doc pm an cdv ct cc), osl⟩)
    (hcc : K.lookup cc = some ⟨ccl, cld, .cell (some cv), csl⟩) (hcd : PySem.W.codeIn K cdv qual = true) (S : FnScopeK N ps scope) (len : ∀ vs H Q E, sp vs H Q E → vs.length = ps.length)
    (hbody : ∀ (A : Around) (outer : List Env) (s : Shared) (H : Hp) (vs : List V) (Q : VK) (E : XK), Room k (A.deeper (envK qual scope s.heap.objs.size f cdv cc)) → sp vs H Q E →
      ∃ t, PSa (cxK CX P w K mg base N qual scope f cdv cc A outer s H E) (.func body (envK qual scope s.heap.objs.size f cdv cc)) body t ∧ t { nx := fun _ H' => Q .non H', rt := Q } (L2.start N vs) H) :
    FnOk P w K mg base CX (k + 1) f (ksFn name qual params body scope dV kV doc pm an cdv ct cc) ps sp := by
  refine ⟨len, fun A outer s H args us vs Q E hr e0 hb r hsp => ?_⟩
  have hl := len _ _ _ _ hsp
  have KX : K.In s.heap := e0.mod.kin.keeps fun b o e => (e0.bs b o e).1
  have lim : s.heap.NoLimit := e0.mod.nolimit.keeps fun b o e => (e0.bs b o e).1
  obtain ⟨t, ht, hq⟩ := hbody A outer s H vs Q E (hr.deeper _) hsp
  have hkind : ∀ y ∈ ps.zip us, scope.names.lookup y.1 = some .local ∨ (scope.names.lookup y.1 = some .cell ∧ ∃ c, (cellsFrom (s.heap.objs.size + 1) scope.names []).lookup y.1 = some c ∧ (cellsFrom (s.heap.objs.size + 1) scope.names [] ++ [((("__class__" : Str)), cc)]).lookup y.1 = some c) := fun y hy => by
    rcases S.par y.1 (List.of_mem_zip (a := y.1) (b := y.2) hy).1 with q | q
    · exact .inl q
    · obtain ⟨c, e⟩ := cell_has (n := s.heap.objs.size + 1) q
      exact .inr ⟨q, c, e, look_own e⟩
  refine codeAny_call_function hr.depth (KX _ _ lk) rfl S.co S.gen rfl (codeRec_of KX hcd) (hb _ _ _ _ ?_)
  refine newEnvS S.kind hkind fun env he s1 x => ?_
  subst he
  refine ⟨lim.keeps x.toInCall.keep, ks_codeAny_funcAt ?_⟩
  have I : Inv (cxK CX P w K mg base N qual scope f cdv cc A outer s H E) [] (L2.start N vs) H s1 := inv_startK S hr.hd e0 hl r hcc x
  refine ks_wpAt_mono (ht.run [] _ (L2.start N vs) H _ I hq) (fun fl s' hs => ?_) fun e s' hs => hs
  have fin : ∀ {σ' : L2.St} {H' : Hp} {v : V} {u : Value}, Inv (cxK CX P w K mg base N qual scope f cdv cc A outer s H E) [] σ' H' s' → RelV v u → Q v H' → CE outer P w H s Q u s' :=
    fun {σ' H' v u} J rv q => ⟨v, H', J.os, J.bare, J.base, J.hok, rv, q⟩
  match fl, hs with
  | .ret u, ⟨v, σ', H', J, rv, q⟩ => exact fin J rv q
  | .next, ⟨σ', H', J, q⟩ => exact fin (v := V.non) (u := Value.none) J rfl q
  | .brk, ⟨_, _, _, q⟩ => exact q.elim
  | .cont, ⟨_, _, _, q⟩ => exact q.elim
end
section
/-- a def of the text that says super(): its record, its cell, its code's file -/
structure FunK (K : PySem.W.Frag) (PL : Program) (x qual : Str) (st : Stmt) (f : Addr) (fd : FuncData) (D : Addr) : Prop where
  ex : ∃ (oc : Value) (od : Option Addr) (kV doc pm : Value) (an : Option Addr) (cda : Addr) (ct : Value) (osl : Array (Option Value)) (cc : Addr), fd = PySem.W.ksFn x qual (defArgs st) (defBody st) (defScope st) .none kV doc pm an (.ref cda) ct cc ∧
    K.lookup f = some ⟨oc, od, .func fd, osl⟩ ∧ PySem.W.codeIn K (.ref cda) qual = true ∧ (∃ a b e, K.lookup cc = some ⟨a, b, .cell (some (.ref D)), e⟩) ∧
    ∃ o : Obj, K.lookup cda = some o ∧ ∃ vs, o.data = .fields vs ∧ ∃ (file : Str) (tf : Tok), vs[2]? = some (.str file tf) ∧ ((PL.main.file : Str) == file) = true
  kp : PySem.W.keepIn K (.ref f) = true
theorem funK_mk {K : PySem.W.Frag} {PL : Program} {x qual : Str} {st : Stmt} {f D cda cc : Addr} {oc : Value} {od an vb cb : Option Addr} {osl ve ce : Array (Option Value)} {kV doc pm ct va ca : Value} {vs : Array Value} {fl : Str} {tf : Tok}
    (l : K.lookup f = some ⟨oc, od, .func (PySem.W.ksFn x qual (defArgs st) (defBody st) (defScope st) .none kV doc pm an (.ref cda) ct cc), osl⟩) (c : PySem.W.codeIn K (.ref cda) qual = true) (k : PySem.W.keepIn K (.ref f) = true)
    (q : K.lookup cc = some ⟨ca, cb, .cell (some (.ref D)), ce⟩) (v : K.lookup cda = some ⟨va, vb, .fields vs, ve⟩) (vf : vs[2]? = some (.str fl tf)) (vg : ((PL.main.file : Str) == fl) = true) :
    FunK K PL x qual st f (PySem.W.ksFn x qual (defArgs st) (defBody st) (defScope st) .none kV doc pm an (.ref cda) ct cc) D :=
  ⟨⟨oc, od, kV, doc, pm, an, cda, ct, osl, cc, rfl, l, c, ⟨_, _, _, q⟩, _, v, vs, rfl, fl, tf, vf, vg⟩, k⟩
theorem FunK.binds {K : PySem.W.Frag} {PL : Program} {x qual : Str} {st : Stmt} {f D : Addr} {fd : FuncData} {ps : List Str} (F : FunK K PL x qual st f fd D)
    (h : ∀ (kV doc pm : Value) (an : Option Addr) (cdv ct : Value) (cc : Addr) (us : List Value), us.length = ps.length → bindArgs (PySem.W.ksFn x qual (defArgs st) (defBody st) (defScope st) .none kV doc pm an cdv ct cc) ⟨us, []⟩ = pure (ps.zip us)) : Binds K fd ps [] := by
  obtain ⟨oc, od, kV, doc, pm, an, cda, ct, osl, cc, rfl, _⟩ := F.ex
  exact .all (h kV doc pm an (.ref cda) ct cc)
end
section
/-- a def of the text with defaults (their tuple at t) -/
structure FunD (K : PySem.W.Frag) (x qual : Str) (st : Stmt) (f : Addr) (fd : FuncData) (t : Addr) : Prop where
  ex : ∃ (oc : Value) (od : Option Addr) (kV doc pm : Value) (an : Option Addr) (cdv ct : Value) (osl : Array (Option Value)),
    fd = PySem.W.fnOf x qual (defArgs st) (defBody st) (defScope st) (.ref t) kV doc pm an cdv ct ∧ K.lookup f = some ⟨oc, od, .func fd, osl⟩ ∧ PySem.W.codeIn K cdv qual = true
  kp : PySem.W.keepIn K (.ref f) = true
theorem FunD.ok {P : Program} {w : World} {K : PySem.W.Frag} {mg : Str → Option Value} {base : Heap} {x qual : Str} {st : Stmt} {f t0 : Addr} {fd : FuncData} {N ps : List Str} {k : Nat} {sp : Sp} (F : FunD K x qual st f fd t0) (S : FnScope N ps (defScope st))
    (len : ∀ vs H Q E, sp vs H Q E → vs.length = ps.length)
    (hbody : ∀ (cdv : Value) (A : Around) (outer : List Env) (s : Shared) (H : Hp) (vs : List V) (Q : VK) (E : XK), Room k (A.deeper (PyProof.Rows.envOfC qual (defScope st) s.heap.objs.size f cdv)) → sp vs H Q E →
      ∃ t, PSs (cxOf CX0 P w K mg base N qual (defScope st) f cdv A outer s H E).nox (defBody st) t ∧ t { nx := fun _ H' => Q .non H', rt := Q } (L2.start N vs) H) : FnOk P w K mg base CX0 (k + 1) f fd ps sp := by
  obtain ⟨oc, od, kV, doc, pm, an, cdv, ct, osl, rfl, lk, hcd⟩ := F.ex
  refine fn_of lk hcd S len fun A outer s H vs Q E hr hsp => ?_
  obtain ⟨t, h, q⟩ := hbody cdv A outer s H vs Q E hr hsp
  exact ⟨t, h.nox, q⟩
end
section
open PySem.W PyProof.Rows
/-- what the frame of such a def knows of itself -/
theorem supK {CX : CXT} {P PL : Program} {w : World} {K : PySem.W.Frag} {mg : Str → Option Value} {base : Heap} {N ps : List Str} {qual : Str} {st : Stmt} {f cda cc D : Addr} {me : Str} {A : Around} {outer : List Env} {s : Shared} {H : Hp} {E : XK}
    {x : Str} {oc kV doc pm ct : Value} {od an : Option Addr} {osl : Array (Option Value)} (hP : P = PL)
    (l : K.lookup f = some ⟨oc, od, .func (PySem.W.ksFn x qual (defArgs st) (defBody st) (defScope st) .none kV doc pm an (.ref cda) ct cc), osl⟩) (q : ∃ a b e, K.lookup cc = some ⟨a, b, .cell (some (.ref D)), e⟩)
    (v : ∃ o : Obj, K.lookup cda = some o ∧ ∃ vs, o.data = .fields vs ∧ ∃ (file : Str) (tf : Tok), vs[2]? = some (.str file tf) ∧ ((PL.main.file : Str) == file) = true)
    (S : FnScopeK N ps (defScope st)) (ks : (defScope st).names.lookup ("super" : Str) = some .globalImplicit) (kc : (defScope st).names.lookup ("__class__" : Str) = some .free) (ka : locK (defScope st) me = true)
    (ar : ∃ ar : Arg, ((defArgs st).posonlyargs ++ (defArgs st).args).head? = some ar ∧ ar.arg = me) (top : (P.main.scope.names.lookup ("super" : Str)).isSome = false) (cls : ∃ cd, clsIn K D = some cd) (hm : mg "super" = none) (sa : nsIn K cStatics "thirdparty.any" = some none) :
    SupX (cxK CX P w K mg base N qual (defScope st) f (.ref cda) cc A outer s H E) f cda cc D me := by
  subst hP
  exact ⟨ks, kc, ka, rfl, ⟨_, l, _, rfl, ar⟩, rfl, v, top, look_class (no_class S _), q, cls, hm, sa⟩
/-- THE RULE for a def that says super(): the program is PL itself -/
theorem FunK.ok {CX : CXT} {PL : Program} {w : World} {K : PySem.W.Frag} {mg : Str → Option Value} {base : Heap} {x qual : Str} {st : Stmt} {f D : Addr} {fd : FuncData} {N ps : List Str} {k : Nat} {sp : Sp} {me : Str} (F : FunK K PL x qual st f fd D) (S : FnScopeK N ps (defScope st))
    (ks : (defScope st).names.lookup ("super" : Str) = some .globalImplicit) (kc : (defScope st).names.lookup ("__class__" : Str) = some .free) (ka : locK (defScope st) me = true)
    (ar : ∃ ar : Arg, ((defArgs st).posonlyargs ++ (defArgs st).args).head? = some ar ∧ ar.arg = me) (top : (PL.main.scope.names.lookup ("super" : Str)).isSome = false) (cls : ∃ cd, clsIn K D = some cd) (hm : mg "super" = none) (sa : nsIn K cStatics "thirdparty.any" = some none)
    (len : ∀ vs H Q E, sp vs H Q E → vs.length = ps.length)
    (hbody : ∀ (cda cc : Addr) (A : Around) (outer : List Env) (s : Shared) (H : Hp) (vs : List V) (Q : VK) (E : XK), Room k (A.deeper (envK qual (defScope st) s.heap.objs.size f (.ref cda) cc)) → SupX (cxK CX PL w K mg base N qual (defScope st) f (.ref cda) cc A outer s H E) f cda cc D me → sp vs H Q E →
      ∃ t, PSa (cxK CX PL w K mg base N qual (defScope st) f (.ref cda) cc A outer s H E) (.func (defBody st) (envK qual (defScope st) s.heap.objs.size f (.ref cda) cc)) (defBody st) t ∧ t { nx := fun _ H' => Q .non H', rt := Q } (L2.start N vs) H) :
    FnOk PL w K mg base CX (k + 1) f fd ps sp := by
  obtain ⟨oc, od, kV, doc, pm, an, cda, ct, osl, cc, rfl, lk, hcd, ⟨a, b, e, lc⟩, v⟩ := F.ex
  exact fnK_of lk lc hcd S len fun A outer s H vs Q E hr hsp => hbody cda cc A outer s H vs Q E hr (supK rfl lk ⟨a, b, e, lc⟩ v S ks kc ka ar top cls hm sa) hsp
end
/-! ### exceptions over any built-in base: made by a walked __init__, super().__init__ within it -/
section
open PySem.W PyProof.Rows PySem.Calls ClX Builtin Builtin.ObjectAttr
/-- what is known of the built-in base -/
structure XB (B nw ini : String) (bl : List Value) : Prop where
  F : ExcBaseFacts B nw ini bl
  S : StoreFacts B bl "object.__setattr__" "object"
  Z : KxsFacts B ini
  qi : ini.startsWith "lifetime." = false
theorem xb_VE : XB "ValueError" "ValueError.__new__" "ValueError.__init__" [.type "ValueError", .type "Exception", .type "BaseException", .type "object"] := ⟨F.excBase_ValueError, F.store_ValueError, kxs_ValueError, by decide +kernel⟩
theorem xb_LE : XB "LookupError" "LookupError.__new__" "LookupError.__init__" [.type "LookupError", .type "Exception", .type "BaseException", .type "object"] := ⟨F.excBase_LookupError, F.store_LookupError, kxs_LookupError, by decide +kernel⟩
/-- own classes, then the base's row -/
inductive Ov (bl : List Value) : List Value → Prop where
  | nil : Ov bl bl
  | cons {c : Addr} {l : List Value} : Ov bl l → Ov bl (.ref c :: l)
theorem Ov.pass {B nw ini : String} {bl : List Value} (X : XB B nw ini bl) (self : Value) : ∀ {l : List Value}, Ov bl l → refuseLoop self "__setattr__" l = pure ()
  | _, .nil => X.S.passes self
  | _, .cons h => by rw [refuseLoop_ref]; exact h.pass X self
theorem Ov.has {bl : List Value} (x : String) : ∀ {l : List Value}, Ov bl l → l.contains (.type x) = bl.contains (.type x)
  | _, .nil => rfl
  | _, .cons h => by rw [List.contains_cons, h.has x]; rfl
theorem Ov.ne {B nw ini : String} {bl l : List Value} (X : XB B nw ini bl) (h : Ov bl l) : l.isEmpty = false := by
  cases h with
  | nil => exact List.isEmpty_eq_false_iff.mpr (fun z => by have := X.F.hasB; rw [z] at this; cases this)
  | cons _ => rfl
structure OexG (nw : String) (bl : List Value) (K : PySem.W.Frag) (C : Addr) : Prop where
  cls : ∃ nm q N bs bm sn sub ab col dd k0 k1 k2 k3 k5, K.lookup C = some (excClassObj nm q C N bs bm true sn sub ab col dd k0 k1 k2 k3 k5 nw) ∧ Ov bl bm
  sa : findIn K (.ref C) "__setattr__" = some (some (.builtin "object.__setattr__"))
  exC : subIn K (.ref C) (.type "BaseException") = some true
  tyC : typeIn K (.ref C) = some (.type "type")
  kC : keepIn K (.ref C) = true
theorem OexG.mro {B nw ini : String} {bl : List Value} (X : XB B nw ini bl) {K : PySem.W.Frag} {C : Addr} (T : OexG nw bl K C) {y : String} (hy : bl.contains (.type y) = true) : mroIn K C (.type y) = some true := by
  obtain ⟨nm, q, N, bs, bm, sn, sub, ab, col, dd, k0, k1, k2, k3, k5, hC, hb⟩ := T.cls
  have hcl : clsIn K C = some { name := nm, bases := bs, mro := .ref C :: bm, ns := N, qualname := q, hasDict := true, slotNames := sn, subclasses := sub, abstract := ab, collection := col, hasDel := false } := by
    unfold clsIn; rw [hC] <;> rfl
  unfold mroIn
  rw [hcl, Option.bind_some, if_neg (by simp), List.contains_cons, hb.has, hy, Bool.or_true]
section
variable {prog : Program} {w : World} {A : Around} {R : Result → Shared → Prop} {hp : Heap} {g : Array GenState} {d : Drawn} {t : Nat} {os : OsState} {B nw ini : String} {bl : List Value}
/-- self.x = v, the first one -/
theorem exg_osa (XX : XB B nw ini bl) {K : W.Frag} {name : Str} {tk : Tok} {v : Value} {x C : Addr} {fv : Array Value} {cd : ClassData} {row : List Value}
    (X : K.In hp) (hx : hp.get? x = some { cls := .ref C, data := .fields fv }) (hcd : clsIn K C = some cd) (hm : cd.mro = .ref C :: row) (ho : Ov bl row) (hh : cd.hasDict = true) (hno : findIn K (.ref C) name = some none)
    (hq : ∀ h' tk' dx, (∀ b o, b ≠ x → hp.get? b = some o → h'.get? b = some o) → hp.objs.size ≤ dx → dx ≠ x → h'.get? x = some { cls := .ref C, dict := some dx, data := .fields fv } →
      h'.Ns1 dx (fun y => if y = name then some v else none) → R (.ok (.ret .none)) ⟨h', g, d, tk', os⟩) :
    codeAny (model prog w) A (.call (.builtin "object.__setattr__") ⟨[.ref x, .str name tk, v], []⟩) R ⟨hp, g, d, t, os⟩ := by
  have J : InstAt hp x { cls := .ref C, data := .fields fv } C none := ⟨hx, rfl, rfl, trivial⟩
  have G := F.store_object
  have hob : cd.mro.contains (.type "object") = true := by rw [hm, List.contains_cons, ho.has]; exact (by rw [XX.S.hasOwner, Bool.or_true])
  have hne : cd.mro.isEmpty = false := by rw [hm]; rfl
  have hxs : x ≠ hp.objs.size := Nat.ne_of_lt (Heap.lt_size hx)
  have sub : Looks (model prog w) hp (isInstance (.ref x) (.type "object")) true := J.type.andThen (looks_mroIn X (by unfold mroIn; rw [hcd, Option.bind_some, if_neg (by rw [hne]; decide), hob]))
  refine codeAny_call_builtin G.slot.plain G.entry (@check_slot (model prog w) _ _ ⟨hp, g, d, t, os⟩ "object.__setattr__" "object" "__setattr__" (.ref x) [.str name tk, v] [] _ G.kind G.split sub (G.args (.ref x) (.str name tk) v) ?_)
  have l1 : Looks (model prog w) hp (mroOf (.ref C)) cd.mro := (looks_clsIn X hcd).andThen .now
  have l2 : Looks (model prog w) hp (storeTaker? none) none := .now
  have l3 : Looks (model prog w) hp (classData C) cd := looks_clsIn X hcd
  have pass : refuseLoop (.ref x) "__setattr__" cd.mro = pure () := by rw [hm, refuseLoop_ref]; exact ho.pass XX _
  rw [osa_eq, refuse_eq]
  refine wpAny_bind (wpAny_bind (J.type.at (wpAny_bind (l1.at ?_))))
  rw [pass]
  refine wpAny_pure (wpAny_bind (J.type.at (wpAny_bind ((looks_findIn X hno).at (wpAny_bind (l2.at ?_))))))
  show wpAny _ _ (storeInOwnDict (.ref x) (.ref C) (.str name tk) name v false) _ _ _
  obtain ⟨nm, bs, mro, ns, qn, hd, sn, sb, ab, col, del⟩ := cd
  dsimp only at hh
  subst hh
  unfold storeInOwnDict ownDictForStores
  repeat (first | with_reducible refine HandSPX.store_in_new ?_ ?_ | with_reducible refine wpAny_loadPart_at hx ?_ | with_reducible refine l3.at ?_ | wp_step)
  · exact ⟨_, #[], _, (Heap.get?_update_ne _ _ _ _ hxs.symm).trans (Heap.get?_push_at rfl rfl), rfl, fun e he => absurd he (by simp), fun _ => rfl⟩
  · intro h' tk' hn' hs
    have hy : (hp.push { cls := .type "dict", data := .dict #[] }).get? x = some { cls := .ref C, data := .fields fv } := Heap.get?_push_of_some _ hx
    refine hq h' tk' hp.objs.size (fun b o hb ho => ?_) (Nat.le_refl _) hxs.symm ?_ hn'
    · exact (hs.2 b (Nat.ne_of_lt (Heap.lt_size ho))).trans ((Heap.get?_update_ne _ _ _ _ hb).trans (Heap.get?_push_of_some _ ho))
    · exact (hs.2 x hxs).trans (Heap.get?_update_self _ hy rfl)
end
section
variable {X : Cx} {pins : List (Addr × Obj)} {σ : L2.St} {H : Hp} {s : Shared} {a C dx : Addr} {f : Str} {y : V} {u : Value} {B nw ini : String} {bl : List Value}
theorem exg_set (XX : XB B nw ini bl) {Q : Unit → Shared → Prop} {E : Value → Shared → Prop} {A : Around} (T : OexG nw bl X.K C) (I : Inv X pins σ H s) (e : H a = some (exo a C none)) (hno : findIn X.K (.ref C) f = some none) (ry : RelV y u)
    (h : ∀ dx s', H dx = none → dx ≠ a → Inv X pins σ (upd (upd H dx (exd dx [(f, y)])) a (exo a C (some dx))) s' → Q () s') : wpAny (model X.prog X.w) A (setAttr (.ref a) f u) Q E s := by
  obtain ⟨nm, q, N, bs, bm, sn, sub, ab, col, dd, k0, k1, k2, k3, k5, hC, hbm⟩ := T.cls
  have hcl : clsIn X.K C = some { name := nm, bases := bs, mro := .ref C :: bm, ns := N, qualname := q, hasDict := true, slotNames := sn, subclasses := sub, abstract := ab, collection := col, hasDel := false } := by
    unfold clsIn; rw [hC] <;> rfl
  obtain ⟨t1, ho⟩ := exo_at I.hok e
  obtain ⟨hp, gg, dd', tt, os⟩ := s
  refine set_plain I.kIn (ox := { cls := .ref C, dict := none, data := .fields #[.ref t1, .none, .none, .none, .bool false, .none] }) (od := none) ⟨ho, rfl, rfl, trivial⟩ T.sa ?_
  refine exg_osa XX I.kIn ho hcl rfl hbm rfl hno (fun h' tk' dx k dn dne hx hn => ?_)
  have hnd : H dx = none := I.hok.fresh dn
  have nd : ∀ {b : Addr} {o : Obj}, hp.get? b = some o → b ≠ dx := fun {b o} q => Nat.ne_of_lt (Nat.lt_of_lt_of_le (Heap.lt_size q) dn)
  have na : ∀ {b : Addr}, H b = none → b ≠ a := fun {b} n z => by rw [z, e] at n; cases n
  have U : Un X.fs [] H (upd (upd H dx (exd dx [(f, y)])) a (exo a C (some dx))) hp h' := {
    keep := fun b o q n _ _ => k b o (na n) q
    slot := fun b o q n _ _ => ⟨o.slots, k b o (na n) q⟩
    free := fun b o q n _ => by rw [upd_ne (na n), upd_ne (nd q)]; exact n
    there := fun b o q _ => by
      by_cases hb : b = a
      · exact ⟨_, by rw [hb]; exact hx⟩
      · exact ⟨o, k b o hb q⟩
    tups := fun b xs q => by rw [upd_ne (at_ne e q exo_tup), upd_ne (ne_of_none q hnd)]; exact q
    frzs := fun b o v q => by rw [upd_ne (at_ne e q exo_frz), upd_ne (ne_of_none q hnd)]; exact q
    tbls := fun b ps q => ⟨#[], by rw [upd_ne (at_ne e q exo_tbl), upd_ne (ne_of_none q hnd), q]; simp⟩ }
  refine h dx _ hnd dne (I.un (t' := tk') U fun b o q => ?_)
  by_cases hb : b = a
  · subst hb
    rw [upd_same] at q
    cases q
    exact exo_ok hx
  rw [upd_ne hb] at q
  by_cases hd : b = dx
  · subst hd
    rw [upd_same] at q
    cases q
    exact exd_ok hn (relO_put (fs := []) ry fun g => True.intro)
  rw [upd_ne hd] at q
  refine (I.hok b o q).stay (fun c v hc z => k c v ?_ z) (fun c hc => ?_) (fun c xs hc => ?_)
  · rcases hc with hc | hc
    · rw [hc]; exact hb
    · exact at_ne e hc exo_own
  · rw [upd_ne (at_ne e hc exo_own), upd_ne (ne_of_none hc hnd)]; exact hc
  · rw [upd_ne (at_ne e hc exo_tup), upd_ne (ne_of_none hc hnd)]; exact hc
end
/-- self.f = e, self an exception without a dict -/
def tSetG (nw : String) (bl : List Value) (K : PySem.W.Frag) (f : Str) (to te : TE) : TS := fun D σ H => te σ H fun y H1 => to σ H1 fun x H2 => ∃ a C : Addr, x = .ref a ∧ OexG nw bl K C ∧ findIn K (.ref C) f = some none ∧
  H2 a = some (exo a C none) ∧ ∀ dx, H2 dx = none → dx ≠ a → D.nx σ (upd (upd H2 dx (exd dx [(f, y)])) a (exo a C (some dx)))
theorem ps_setG {B nw ini : String} {bl : List Value} (XX : XB B nw ini bl) {X : Cx} {o e : Expr} {to te : TE} {f : Str} {p' pos : Pos} (ho : PE X o to) (he : PE X e te) (hs : swapsWith e (some (.Attribute o f p')) pos.line X.env = pure false := by rfl) :
    PS X (.Assign [.Attribute o f p'] e pos) (tSetG nw bl X.K f to te) := by
  refine ⟨fun pins s σ H D I h => ?_⟩
  refine plainObj_wpAny_Assign_Attribute (thn (he.run pins s σ H _ I h) fun v s1 ⟨y, H1, I1, r1, q1⟩ => thn (ho.run pins s1 σ H1 _ I1 q1) fun u s2 ⟨x, H2, I2, r2, a, C, ex, T, hno, ea, q⟩ => ?_) hs
  subst ex
  obtain rfl : u = Value.ref a := r2
  exact exg_set XX T I2 ea hno r1 fun dx s' n ne J => ⟨σ, _, J, q dx n ne⟩
/-- the body of C(e, ..) -/
theorem run_mkG {B nw ini : String} {bl : List Value} (XX : XB B nw ini bl) {X : Cx} {pins : List (Addr × Obj)} {σ : L2.St} {H1 : Hp} {s1 : Shared} {us : List Value} {vs : List V} {C fI : Addr} {k : Nat} {fd : FuncData} {CX : CXT} {ps : List Str} {sp : Sp} {ds : List Value} {dvs : List V} {Qp : Addr → V → Hp → Prop} {R : Value → Shared → Prop}
    (T : OexG nw bl X.K C) (iC : findIn X.K (.ref C) "__init__" = some (some (.ref fI))) (tI : typeIn X.K (.ref fI) = some (.type "function"))
    (F1 : FnOk X.prog X.w X.K X.mg X.base CX k fI fd ps sp) (hr : Room (k + 1) X.A) (hb : Binds X.K fd ps ds) (hd : Vals dvs ds) (hx : Passes CX X (fun _ _ _ => False)) (I1 : Inv X pins σ H1 s1) (r1 : Vals vs us) (hz : vs.length ≤ 1000)
    (hq : ∀ a, H1 a = none → sp (.ref a :: (vs ++ dvs)) (upd H1 a (exo a C none)) (Qp a) (fun _ _ _ => False))
    (out : ∀ (s' : Shared) (v : V) (u : Value) (a : Addr), H1 a = none → s1.heap.objs.size ≤ a → (∀ (H2 : Hp), s'.os = s1.os → AllBare s'.gens →
        Un (frs X.stack) [] (upd H1 a (exo a C none)) H2 ((s1.heap.push (kdv_tup us)).push (HandSPX.excO C s1.heap.objs.size)) s'.heap → HOk X.prog X.w H2 s'.heap → (∀ b o, s1.heap.get? b = some o → ((s1.heap.push (kdv_tup us)).push (HandSPX.excO C s1.heap.objs.size)).get? b = some o) →
        a = s1.heap.objs.size + 1 → Inv X pins σ (upd H1 a (exo a C none)) { s1 with heap := (s1.heap.push (kdv_tup us)).push (HandSPX.excO C s1.heap.objs.size) } → RelV v u → Qp a v H2 → u = .none ∧ R (.ref a) s')) :
    wpAny (model X.prog X.w) X.A (call (.ref C) us) R X.xe s1 := by
  obtain ⟨nm, q, N, bs, bm, sn, sub, ab, col, dd, k0, k1, k2, k3, k5, hC, hbm⟩ := T.cls
  obtain ⟨hp, g, dr, tk, os⟩ := s1
  have hsz : hp.objs.size ≤ hp.objs.size + 1 := Nat.le_succ _
  have hn : H1 (hp.objs.size + 1) = none := I1.hok.fresh hsz
  have hq := hq (hp.objs.size + 1) hn
  have kk : ∀ b o, hp.get? b = some o → ((hp.push (kdv_tup us)).push (HandSPX.excO C hp.objs.size)).get? b = some o := fun b o e => Heap.get?_push_of_some _ (Heap.get?_push_of_some _ e)
  have hget : ((hp.push (kdv_tup us)).push (HandSPX.excO C hp.objs.size)).get? (hp.objs.size + 1) = some (HandSPX.excO C hp.objs.size) := by heap_get
  have I2 : Inv X pins σ (upd H1 (hp.objs.size + 1) (exo (hp.objs.size + 1) C none)) ⟨(hp.push (kdv_tup us)).push (HandSPX.excO C hp.objs.size), g, dr, tk, os⟩ :=
    I1.laid (t' := tk) (a := hp.objs.size + 1) (o := exo (hp.objs.size + 1) C none) (h' := (hp.push (kdv_tup us)).push (HandSPX.excO C hp.objs.size)) kk hsz (exo_ok hget)
  have r2 : Vals (V.ref (hp.objs.size + 1) :: (vs ++ dvs)) (Value.ref (hp.objs.size + 1) :: (us ++ ds)) := .cons rfl (r1.append hd)
  have hl : (Value.ref (hp.objs.size + 1) :: us ++ ds).length = ps.length := by
    have e := r2.length
    rw [F1.len _ _ _ _ hq] at e
    exact e.symm
  have hus : us.length ≤ sizeLine := by rw [← Paired.length r1, sizeLine_eq]; omega
  refine wpAny_call (HandSPX.call_own XX.F (fun Y => hbm.has Y) (I1.kIn _ _ hC) (looks_findIn I1.kIn iC) (fun self => bind_fn I1.kIn self tI) hus
    (codeAny_mono (F1.run _ X.stack _ _ ⟨Value.ref (hp.objs.size + 1) :: us, []⟩ (Value.ref (hp.objs.size + 1) :: (us ++ ds)) _ _ (fun _ _ _ => False) (hr.make C us []) (I2.env0.make C us []) (hb _ (Value.ref (hp.objs.size + 1) :: us) I2.kIn hl) r2 hq) fun r s' hq' => ?_))
  match r, hq' with
  | .error er, hq' => exact hx pins σ _ _ er s' I2 hq'
  | .ok .next, hq' => exact hq'.elim
  | .ok .brk, hq' => exact hq'.elim
  | .ok .cont, hq' => exact hq'.elim
  | .ok (.ret u), ⟨v, H2, os2, bare2, un2, hok2, rv, q2⟩ =>
    obtain ⟨rfl, z⟩ := out s' v u _ hn hsz H2 os2 bare2 un2 hok2 kk rfl I2 rv q2
    exact ⟨rfl, z⟩
/-- raise C(e, ..), C's own __init__ keeping sp -/
theorem pmk_G {B nw ini : String} {bl : List Value} (XX : XB B nw ini bl) {X : Cx} {e : Expr} {es : List Expr} {ta : TA} {p pos : Pos} {CX : CXT} {x : Str} {C fI : Addr} {k : Nat} {fd : FuncData} {ps : List Str} {sp : Sp} {ds : List Value} {dvs : List V} (T : OexG nw bl X.K C) (iC : findIn X.K (.ref C) "__init__" = some (some (.ref fI))) (tI : typeIn X.K (.ref fI) = some (.type "function"))
    (F1 : FnOk X.prog X.w X.K X.mg X.base CX k fI fd ps sp) (hr : Room (k + 1) X.A) (hb : Binds X.K fd ps ds) (hd : Vals dvs ds) (hx : Passes CX X (fun _ _ _ => False)) (hg : Gl X x) (hm : X.mg x = some (.ref C)) (ha : PA X (e :: es) ta)
    (hdb : (x == ("__debug__" : Str)) = false := by decide) (he : starEach (e :: es) X.env = (false, eval e X.env) :: starEach es X.env := by rfl) (hpl : (backTo pos (starEach es X.env)).any (·.1) = false := by rfl) :
    PMk X (.Call (.Name x p) (e :: es) [] pos) (tMkO C sp dvs ta) := by
  intro pins s σ H Q I h
  refine wpAny_Call_Name_kw (ld_glob I hg hm ?_ hdb)
  refine callWith_K (h₀ := X.base) I.ok.mod.kin T.kC (thn (ha.run pos pins s σ H _ I h) fun us s1 ⟨vs, H1, I1, r1, hz, q1⟩ => ⟨I1.kIn, ?_⟩) he hpl
  refine run_mkG (Qp := fun a v H2 => v = .non ∧ ∃ (d : Addr) (fs : List (Str × V)), H2 a = some (exo a C (some d)) ∧ H2 d = some (exd d fs) ∧ H1 d = none ∧ Q (.ref C) (some d) (upd (del H2 a) d (.xd fs))) XX T iC tI F1 hr hb hd hx I1 r1 hz q1 fun s' v u a hn hsz H2 os2 bare2 un2 hok2 kk ea0 I2 rv q2 => ?_
  obtain ⟨ev, d, fs, ea, ed, hd1, q2⟩ := q2
  subst ev
  obtain ⟨h2, g2, d2, t2, os'⟩ := s'
  obtain ⟨hp, g, dr, tk, os⟩ := s1
  exact ⟨rv, mk_end (raises_own T.exC T.tyC) I1 hsz kk un2 hok2 os2 bare2 ea ed hd1 q2⟩
/-- C(e, ..) as a value: the exception stands at a -/
def tMkV (C : Addr) (sp : Sp) (dvs : List V) (ta : TA) : TE := fun σ H Q => ta σ H fun vs H1 => vs.length ≤ 1000 ∧ ∀ a, H1 a = none → sp (.ref a :: (vs ++ dvs)) (upd H1 a (exo a C none))
  (fun v H2 => v = .non ∧ Q (.ref a) H2) (fun _ _ _ => False)
theorem pe_mkV {B nw ini : String} {bl : List Value} (XX : XB B nw ini bl) {X : Cx} {e : Expr} {es : List Expr} {ta : TA} {p pos : Pos} {CX : CXT} {x : Str} {C fI : Addr} {k : Nat} {fd : FuncData} {ps : List Str} {sp : Sp} {ds : List Value} {dvs : List V} (T : OexG nw bl X.K C) (iC : findIn X.K (.ref C) "__init__" = some (some (.ref fI))) (tI : typeIn X.K (.ref fI) = some (.type "function"))
    (F1 : FnOk X.prog X.w X.K X.mg X.base CX k fI fd ps sp) (hr : Room (k + 1) X.A) (hb : Binds X.K fd ps ds) (hd : Vals dvs ds) (hx : Passes CX X (fun _ _ _ => False)) (hg : Gl X x) (hm : X.mg x = some (.ref C)) (ha : PA X (e :: es) ta)
    (hdb : (x == ("__debug__" : Str)) = false := by decide) (he : starEach (e :: es) X.env = (false, eval e X.env) :: starEach es X.env := by rfl) (hpl : (backTo pos (starEach es X.env)).any (·.1) = false := by rfl) :
    PE X (.Call (.Name x p) (e :: es) [] pos) (tMkV C sp dvs ta) := by
  refine ⟨fun pins s σ H Q I h => ?_⟩
  refine wpAny_Call_Name_kw (ld_glob I hg hm ?_ hdb)
  refine callWith_K (h₀ := X.base) I.ok.mod.kin T.kC (thn (ha.run pos pins s σ H _ I h) fun us s1 ⟨vs, H1, I1, r1, hz, q1⟩ => ⟨I1.kIn, ?_⟩) he hpl
  refine run_mkG (Qp := fun a v H2 => v = .non ∧ Q (.ref a) H2) XX T iC tI F1 hr hb hd hx I1 r1 hz q1 fun s' v u a hn hsz H2 os2 bare2 un2 hok2 kk ea I2 rv q2 => ?_
  obtain ⟨ev, q2⟩ := q2
  subst ev
  obtain ⟨h2, g2, d2, t2, os'⟩ := s'
  refine ⟨rv, .ref a, H2, I2.call' (ch := []) os2 ?_ hok2 bare2 (fun b z => absurd z (by simp)), rfl, q2⟩
  exact un2
end
section
open PySem.W PyProof.Rows PySem.Calls ClX
section
variable {prog : Program} {w : World} {A : Around} {E : Value → Shared → Prop} {h : Heap} {g : Array GenState} {d : Drawn} {t : Nat} {os : OsState} {B nw ini : String} {bl : List Value}
variable {nm q : Str} {C N : Addr} {bs bm : List Value} {hdct : Bool} {sn : List Str} {sub : List Value} {ab : Bool} {col : Option Bool} {dd : Option Addr} {k0 k1 k2 k3 k5 : Option Value}
theorem run_mwG (XX : XB B nw ini bl) {u e t0 : Addr} {rest : List Value} {Q : Value → Shared → Prop} (hC : h.get? C = some (excClassObj nm q C N bs bm hdct sn sub ab col dd k0 k1 k2 k3 k5 nw)) (he : h.get? e = some (HandSPX.excO C t0))
    (hu : h.get? u = some (kxs_mw ini e)) (hz : rest.length ≤ sizeLine) (hq : ∀ h' t1, (∀ b o, b ≠ e → h.get? b = some o → h'.get? b = some o) → h'.get? e = some (HandSPX.excO C t1) → Q .none ⟨h', g, d, t, os⟩) :
    wpAny (model prog w) A (call (.ref u) rest) Q E ⟨h, g, d, t, os⟩ := by
  refine wpAny_call (codeAny_of_tree ?_)
  show wpAny _ A.in1 (callAny (.ref u) ⟨rest, []⟩) _ _ _
  simp only [callAny]
  refine wpAny_bind (wpAny_load hu ?_)
  simp only [kxs_mw]
  refine KFB.if_so (by decide) ?_
  refine wpAny_bind (ESX.check_bound XX.F hC he rfl ?_)
  refine wpAny_bind (wpAny_pure (wpAny_pure ?_))
  refine ⟨Code.quiet_builtin _ XX.qi, codeAny_builtin XX.F.initEntry ?_⟩
  rw [Around.under_plainId XX.F.init.plain _]
  wp_walk
  refine hq _ h.objs.size (fun b o hb ho => ?_) ?_
  · rw [Heap.get?_update_other _ _ (Ne.symm hb)]; exact Heap.get?_push_of_some _ ho
  · rw [Heap.get?_update_self _ (Heap.get?_push_of_some _ he) rfl]; rfl
end
/-- super().m(..) where self is an exception that is being made -/
def tSupG (nw ini : String) (bl : List Value) (K : PySem.W.Frag) (D : Addr) (m : Str) (ta : TA) : TS := fun Dn σ H => ∃ (a C : Addr), σ[0]? = some (some (.ref a)) ∧ H a = some (exo a C none) ∧ OexG nw bl K C ∧ mroIn K C (.ref D) = some true ∧
  ks_superIn K C D m = some (some (.builtin ini)) ∧ ta σ H fun vs H1 => vs.length ≤ 1000 ∧ H1 a = some (exo a C none) ∧ Dn.nx σ H1
variable {X : Cx} {c : Code} {st : Stmt} {ss rest : List Stmt} {t u : TS} {B nw ini : String} {bl : List Value}
theorem psa_superG (XX : XB B nw ini bl) {f cd cc D : Addr} {me m : Str} {body : List Stmt} {p0 p1 apos pos pos' : Pos} {e : Expr} {es : List Expr} {ta : TA} {pl : Sem Bool}
    (S : SupX X f cd cc D me) (hN : X.N[0]? = some me) (ha : PA X (e :: es) ta) (hm : (m == ("__class__" : Str)) = false)
    (hst : starEach (e :: es) X.env = (false, eval e X.env) :: starEach es X.env) (hpl : (backTo pos (starEach es X.env)).any (·.1) = false)
    (hev : eval (.Call (.Attribute (.Call (.Name "super" p0) [] [] p1) m apos) (e :: es) [] pos) X.env = (do
      let ov ← attributeBase (.Call (.Name "super" p0) [] [] p1) m X.env (eval (.Call (.Name "super" p0) [] [] p1) X.env)
      standAt apos.atName
      let (g, first) ← holding [ov] (getMethod ov m pl)
      callWith pos g first (backTo pos (starEach (e :: es) X.env)) []) )
    (hi : interactive X.env = false) (hs : swapsWith (.Call (.Attribute (.Call (.Name "super" p0) [] [] p1) m apos) (e :: es) [] pos) none pos'.line X.env = pure false) (h2 : PSa X (.func body X.env) rest u) :
    PSa X (.func body X.env) (.Expr (.Call (.Attribute (.Call (.Name "super" p0) [] [] p1) m apos) (e :: es) [] pos) pos' :: rest) (tSeq (tSupG nw ini bl X.K D m ta) u) := by
  refine ⟨fun pins s σ H Dn I h => ?_⟩
  obtain ⟨a, C, h0, hins, TC, hmro, hsup, h⟩ := h
  obtain ⟨hh, gg, dd, tt, os⟩ := s
  have KX : X.K.In hh := I.kIn
  obtain ⟨o1, l1, d1, e1, ar, hp1, har⟩ := S.fd
  obtain ⟨o2, l2, vs2, e2, file, tf, hv2, hfile⟩ := S.cv
  obtain ⟨ca, cb, ce, lc⟩ := S.cc
  obtain ⟨cdD, hcd⟩ := S.cls
  obtain ⟨oD, hD1, hD2⟩ := cls_obj KX hcd
  obtain ⟨m0, hn0, hlook⟩ := I.loc
  obtain ⟨uv, ru, lk⟩ := hlook 0 me (.ref a) hN h0 (locK_vis S.ka)
  obtain rfl : uv = Value.ref a := ru
  obtain ⟨mb, hb1, hb2⟩ := I.mod.blt
  refine ks_wpAt_execs_cons (ks_wpAt_Expr_any (ks_wpAt_MethodCall ?_ hev) hi hs)
  refine ks_wpAt_super_base S.ks S.kc hm S.fn (KX _ _ l1) e1 hp1 S.co (KX _ _ l2) e2 hv2 hfile S.top ?_
  refine ks_loadName_global I.ok.kind S.ks (loadGlobal_builtin (by rw [I.ok.glob]; exact I.mod.glob.keeps I.bk) S.mg (by rw [I.ok.blt]; exact hb1.keeps I.bk) ((hb2 _ (by decide)).trans (by first | rfl | decide +kernel)) ⟨rfl, ?_⟩)
  refine wpAny_loadName_free I.ok.kind S.kc S.cl ⟨_, KX _ _ lc, rfl⟩ ?_
  rw [har]
  refine load_self I.ok.kind S.ka hn0 lk ?_
  refine ks_wpAny_isType_cls hD1 hD2 ⟨rfl, ?_⟩
  obtain ⟨nm, q, N, bs, bm, sn, sub, ab, col, dd0, k0, k1, k2, k3, k5, hC, hbm⟩ := id TC.cls
  obtain ⟨t1, ho⟩ := exo_at I.hok hins
  have hcl : clsIn X.K C = some { name := nm, bases := bs, mro := .ref C :: bm, ns := N, qualname := q, hasDict := true, slotNames := sn, subclasses := sub, abstract := ab, collection := col, hasDel := false } := by
    unfold clsIn
    rw [hC] <;> rfl
  have xC : a ≠ C := fun e => by
    have c1 := KX _ _ hC
    rw [← e, ho] at c1
    have c2 := congrArg Obj.data (Option.some.inj c1)
    cases c2
  refine ks_wpAny_call_super hD1 hD2 ho rfl (fun c z => nomatch z) (looks_mroIn KX hmro) (fun h' hso hk' => ?_)
  have I1 : Inv X ((hh.objs.size, ks_superObj D a C) :: pins) σ H ⟨h', gg, dd, tt, os⟩ := pin_new (t' := tt) I hk' (Nat.le_refl _) hso (fun v z => nomatch z)
  have K1 : X.K.In h' := I1.kIn
  obtain ⟨t2, ho2⟩ := exo_at I1.hok hins
  have J1 : InstAt h' a { cls := .ref C, dict := none, data := .fields #[.ref t2, .none, .none, .none, .bool false, .none] } C none := ⟨ho2, rfl, rfl, trivial⟩
  have isB : Looks (model X.prog X.w) h' (isInstance (.ref a) (.type B)) true := J1.type.andThen (looks_mroIn K1 (TC.mro XX XX.F.hasB))
  unfold ks_superIn at hsup
  rw [hcl] at hsup
  refine kxs_getMethod XX.Z hso (looks_opaque K1 S.st) (l₀ := .ref C :: bm) (fun A Q E s k q => wpAny_bind ((looks_clsIn K1 hcl) A _ E s k (wpAny_pure q))) rfl K1 hsup isB xC hm ?_
  have I2 : Inv X ((h'.objs.size, kxs_mw ini a) :: (hh.objs.size, ks_superObj D a C) :: pins) σ H { (⟨h', gg, dd, tt, os⟩ : Shared) with heap := h'.push (kxs_mw ini a), toks := tt + 1 } :=
    pin_new I1 (fun _ _ z => Heap.get?_push_of_some _ z) (Nat.le_refl _) (Heap.get?_push_size h' rfl) (fun v z => nomatch z)
  have hL : h'.objs.size ≠ X.env.locals := (I2.pin (h'.objs.size, kxs_mw ini a) (List.mem_append_right _ List.mem_cons_self)).2.2.1
  refine kxs_callWith1 (news_at hL (base_none I1 (Nat.le_refl _)) (pin_at I2)) List.mem_cons_self (thn (ha.run pos _ _ σ H _ I2 h) fun us s3 ⟨vs, H1, I3, r3, hl3, e3, q3⟩ => ⟨pin_at I3, ?_⟩) hst hpl
  obtain ⟨t3, ho3⟩ := exo_at I3.hok e3
  have hmw := pin_at I3
  obtain ⟨h3, g3, d3, k3', os3⟩ := s3
  have hlen : us.length ≤ sizeLine := by rw [← r3.length, sizeLine_eq]; omega
  refine run_mwG XX (I3.kIn _ _ hC) ho3 hmw hlen (fun h4 t4 kk hx4 => ?_)
  have J := I3.write (t' := k3') (x := a) (e := a) (o := exo a C none) (by rw [e3]; exact True.intro) (.inl rfl) kk ⟨_, hx4⟩ (exo_ok hx4)
  have eu : upd H1 a (exo a C none) = H1 := by
    funext b
    by_cases hb : b = a
    · rw [hb, upd_same, e3]
    · rw [upd_ne hb]
  rw [eu] at J
  exact h2.run pins _ σ H1 Dn (unpin (unpin J)) q3
end
/-! ### rules for lattices: methods of an object of one of several classes, tuple.index of flat items, defaults -/
section
open PySem.Spec PyProof.Rows
variable {X : Cx}
/-- o.m(e, ..): the class is found when it is asked; the method is one def -/
def tMethG (K : PySem.W.Frag) (m : Str) (f : Addr) (sp : Sp) (dvs : List V) (E : XK) (ta : TE) (t : TA) : TE := fun σ H Q => ta σ H fun x H1 => ∃ a C dx fs, x = .ref a ∧ H1 a = some (.ins C dx fs) ∧ Cls K C ∧ Meth K C m f ∧ fs.lookup m = none ∧
  t σ H1 fun vs H2 => sp (x :: (vs ++ dvs)) H2 Q E
section
variable {o e : Expr} {es : List Expr} {ta : TE} {t : TA} {m : Str} {apos pos : Pos} {CX : CXT} {k : Nat} {f : Addr} {fd : FuncData} {ps : List Str} {sp : Sp} {ds : List Value} {dvs : List V} {E : XK}
theorem pe_methG {pl : Sem Bool} (he : PE X o ta) (F : FnOk X.prog X.w X.K X.mg X.base CX k f fd ps sp) (hr : Room k X.A) (hb : Binds X.K fd ps ds) (hd : Vals dvs ds) (hx : Passes CX X E) (ha : PA X (e :: es) t)
    (hst : starEach (e :: es) X.env = (false, eval e X.env) :: starEach es X.env := by rfl) (hpl : (backTo pos (starEach es X.env)).any (·.1) = false := by rfl)
    (ht : eval (.Call (.Attribute o m apos) (e :: es) [] pos) X.env = (do
      let ov ← eval o X.env
      standAt apos.atName
      let (g, first) ← holding [ov] (getMethod ov m pl)
      callWith pos g first (backTo pos (starEach (e :: es) X.env)) (backToKw pos (keywordEach [] X.env))) := by rfl) :
    PE X (.Call (.Attribute o m apos) (e :: es) [] pos) (tMethG X.K m f sp dvs E ta t) := by
  refine ⟨fun pins s σ H Q I h => ?_⟩
  refine PySem.W.methodCall_KW (pl := pl) (thn (he.run pins s σ H _ I h) fun u s1 ⟨x, H1, I1, rx, a, C, dx, fs, ex, ea, c, hm, l, q⟩ => ?_) ht
  subst ex
  obtain rfl : u = Value.ref a := rx
  refine getmeth_ok I1 ea c hm l (PySem.W.callWith_K (first := [.ref a]) (h₀ := X.base) I.ok.mod.kin hm.kp (thn (ha.run pos pins s1 σ H1 _ I1 q) fun us s2 ⟨vs, H2, I2, r, q2⟩ => ⟨I2.kIn, ?_⟩) hst hpl)
  exact run_fn (us := .ref a :: us) (vs := .ref a :: vs) F hr hb hd hx I2 (.cons rfl r) q2
theorem pe_methG0 {pl : Sem Bool} (he : PE X o ta) (F : FnOk X.prog X.w X.K X.mg X.base CX k f fd ps sp) (hr : Room k X.A) (hb : Binds X.K fd ps ds) (hd : Vals dvs ds) (hx : Passes CX X E)
    (ht : eval (.Call (.Attribute o m apos) [] [] pos) X.env = (do
      let ov ← eval o X.env
      standAt apos.atName
      let (g, first) ← holding [ov] (getMethod ov m pl)
      callWith pos g first (backTo pos (starEach [] X.env)) (backToKw pos (keywordEach [] X.env))) := by rfl) :
    PE X (.Call (.Attribute o m apos) [] [] pos) (tMethG X.K m f sp dvs E ta tNil) := by
  refine ⟨fun pins s σ H Q I h => ?_⟩
  refine PySem.W.methodCall_KW (pl := pl) (thn (he.run pins s σ H _ I h) fun u s1 ⟨x, H1, I1, rx, a, C, dx, fs, ex, ea, c, hm, l, q⟩ => ?_) ht
  subst ex
  obtain rfl : u = Value.ref a := rx
  refine getmeth_ok I1 ea c hm l (PySem.W.callWith_K0 (first := [.ref a]) I1.kIn hm.kp ?_)
  exact run_fn (us := [.ref a]) (vs := [.ref a]) F hr hb hd hx I1 (.cons rfl .nil) q
end
/-- t.index(x), flat items -/
def rTupIx (K : PySem.W.Frag) : V → List V → Hp → VK → Prop := fun x xs H Q => ∃ (a : Addr) (ys : List V) (y : V) (j : Nat) (z : V), x = V.ref a ∧ xs = [y] ∧ SqT K H a ys ∧ flatV y = true ∧ ys.all flatV = true ∧ ys[j]? = some z ∧ eqV z y = true ∧
  (∀ (m : Nat) (z' : V), m < j → ys[m]? = some z' → eqV z' y = false) ∧ Q (.int (j : Nat)) H
theorem mt_tindexF : MtR X "tuple.index" (rTupIx X.K) := by
  intro pins s σ H x xs v us Q I rx rxs h
  obtain ⟨a, ys, y, j, z, rfl, rfl, hs, fy, fys, hz, hzj, hno, q⟩ := h
  cases rx
  obtain ⟨uy, rfl, ry⟩ := rxs.one
  obtain ⟨its, rv, ⟨⟨cls, dd, dt, sl⟩, ho, hc, n, hd⟩, hlen⟩ := I.tuple hs
  simp only at hc hd
  subst hc hd
  have hsz : its.toArray.size = ys.length := by rw [List.size_toArray, ← rv.length]
  have each : ∀ (m : Nat) (hm : m < its.toArray.size) (y' : V), ys[m]? = some y' → eqU y its.toArray[m] = eqV y' y := fun m hm y' hy' => by
    obtain ⟨u2, hu2, ru2⟩ := rv.get hy'
    have e1 : its.toArray[m] = u2 := by simpa using (List.getElem?_eq_some_iff.mp hu2).2
    rw [e1, eqU_of ru2 (flat_at fys hy')]
  have hjl := (List.getElem?_eq_some_iff.mp hz).1
  refine call_meets PySem.F.slot_tuple_index ⟨_, ho, rfl⟩ PySem.F.entry_tuple_index (PySem.F.args_tuple_index_2 _ _) (TI.tuple_indexAt a its.toArray n dd sl uy (eqU y) j (by omega) ?_ ?_)
    ⟨ho, fun w hw => mem_eqAt ry fy rv fys w (by simpa using hw), ⟨.int (j : Nat), H, I.tok _, ⟨_, rfl⟩, q⟩⟩
  · rw [each j _ _ hz, hzj]
  · intro m hm hmj
    have hy' : ys[m]? = some ys[m] := List.getElem?_eq_getElem (by omega)
    rw [each m hm _ hy', hno m _ hmj hy']
/-- the tuple at p has no dict of its own (so its methods may be asked) -/
def NdT (K : PySem.W.Frag) (H : Hp) (p : Addr) : Prop := (∃ (o : Obj) (xs : List V), H p = some (.frz o (.tup xs)) ∧ o.dict = none) ∨ ∃ o : Obj, K.lookup p = some o ∧ o.dict = none
theorem NdT.get {pins : List (Addr × Obj)} {σ : L2.St} {H : Hp} {s : Shared} {p : Addr} (h : NdT X.K H p) (I : Inv X pins σ H s) : ∃ o, s.heap.get? p = some o ∧ o.dict = none := by
  rcases h with ⟨o, xs, h, d⟩ | ⟨o, h, d⟩
  · have x : ObjOk X.prog X.w H s.heap p (.frz o (.tup xs)) := I.hok p _ h
    exact ⟨o, x.1, d⟩
  · exact ⟨o, I.kIn _ _ h, d⟩
/-- t.m(e, ..), t a tuple without a dict -/
def tTM (K : PySem.W.Frag) (r : V → List V → Hp → VK → Prop) (to : TE) (t : TA) : TE := fun σ H Q => to σ H fun x H1 => ∃ (p : Addr) (ys : List V), x = .ref p ∧ NdT K H1 p ∧ SqT K H1 p ys ∧ t σ H1 fun xs H2 => r x xs H2 Q
theorem pe_tbm {o e : Expr} {es : List Expr} {to : TE} {t : TA} {name : Str} {apos cpos : Pos} {id : String} {r : V → List V → Hp → VK → Prop} (pa : PlainAttrs "tuple") (slot : Slot "tuple" name id) (hty : typeOf (.builtin id) = pure (.type "method_descriptor")) (hm : MtR X id r) (ho : PE X o to) (ha : PA X (e :: es) t)
    (hbase : attributeBase o name X.env (eval o X.env) = eval o X.env := by rfl)
    (hfew : ((backTo cpos (starEach (e :: es) X.env)).all (fun x => !x.1) && (backToKw cpos (keywordEach [] X.env)).all (fun x => x.1.isSome)
      && decide ((e :: es).length + ([] : List Keyword).length + (if ([] : List Keyword).isEmpty then 0 else 1) < 30)) = true := by rfl)
    (hline : (apos.endLine == cpos.line) = true := by rfl) (hs : starEach (e :: es) X.env = (false, eval e X.env) :: starEach es X.env := by rfl) (hpl : (backTo cpos (starEach es X.env)).any (·.1) = false := by rfl) :
    PE X (.Call (.Attribute o name apos) (e :: es) [] cpos) (tTM X.K r to t) := by
  refine ⟨fun pins s σ H Q I h => ?_⟩
  refine wpAny_Call_method_late hbase hfew hline rfl (thn (ho.run pins s σ H _ I h) fun v s1 ⟨x, H1, I1, r1, p, ys, ex, nd, hq, q1⟩ => ?_)
  subst ex
  obtain rfl : v = Value.ref p := r1
  obtain ⟨its, _, ⟨o1, ho1, hc1, _⟩, _⟩ := I1.tuple hq
  refine ⟨"tuple", id, pa, slot, hty, ⟨o1, ho1, hc1⟩, fun a ea => by cases ea; exact nd.get I1, ?_⟩
  have hA := ha.run cpos pins s1 σ H1 _ I1 q1
  rw [hs] at hA ⊢
  refine Calls.callWith_builtin (by show (false || (backTo cpos (starEach es X.env)).any (·.1)) = false; rw [hpl] <;> rfl) (Calls.evalArgs_plain ?_)
  exact thn hA fun us s2 ⟨vs, H2, I2, r2, q2⟩ => hm pins s2 σ H2 (V.ref p) vs (Value.ref p) us Q I2 rfl r2 q2
/-- tuple(xs): a list's items in a new tuple without a dict, or the tuple itself -/
theorem call_tupleN : CallR X (.type "tuple") (fun xs H Q => ∃ p ys, xs = [.ref p] ∧ ((SqL X.K H p ys ∧ ∀ (l : Addr) (o : Obj), H l = none → o.dict = none → Q (.ref l) (upd H l (.frz o (.tup ys)))) ∨ (SqT X.K H p ys ∧ Q (.ref p) H))) := by
  intro pins s σ H xs us Q I r h
  obtain ⟨p, ys, rfl, h⟩ := h
  obtain ⟨u, rfl, rx⟩ := r.one
  cases rx
  rcases h with ⟨hq, q⟩ | ⟨hq, q⟩
  · obtain ⟨its, r', pl, hz⟩ := I.list hq
    have hlen := r'.length
    refine call_tuple_list pl.isList (fun h' kp => ?_) (by simp only [List.size_toArray] <;> omega)
    have J : Inv X pins σ H { s with heap := h' } := I.kept (t' := s.toks) kp
    have hg : (h'.push { cls := .type "tuple", data := .seq its.toArray }).get? h'.objs.size = some ({ cls := .type "tuple", data := .seq its.toArray } : Obj) := Heap.get?_push_size _ rfl
    have J2 : Inv X pins σ (upd H h'.objs.size (.frz { cls := .type "tuple", data := .seq its.toArray } (.tup ys))) { s with heap := h'.push { cls := .type "tuple", data := .seq its.toArray } } :=
      J.laid (t' := s.toks) (fun b o e => Heap.get?_push_of_some _ e) (Nat.le_refl _) (show ObjOk X.prog X.w _ _ _ (.frz _ (.tup ys)) from ⟨hg, hz, its, r', IsTup.new _ _⟩)
    exact ⟨.ref h'.objs.size, _, J2, rfl, q _ _ (J.hok.fresh (Nat.le_refl _)) rfl⟩
  · obtain ⟨its, r', pl, hz⟩ := I.tuple hq
    exact call_tuple_same pl ⟨.ref p, H, I, rfl, q⟩
theorem kx_pi_list {X : Cx} (K : PySem.W.Frag) {tg l : Expr} {tl : TE} (p : PI X tg l (iList X.K tl)) (h : X.K = K := by rfl) : PI X tg l (iList K tl) := h ▸ p
theorem kx_pi_enum {X : Cx} (K : PySem.W.Frag) {tg l : Expr} {ta : TA} (p : PI X tg l (iEnum X.K ta)) (h : X.K = K := by rfl) : PI X tg l (iEnum K ta) := h ▸ p
theorem kx_pe_fld {X : Cx} (K : PySem.W.Frag) {e : Expr} {ta : TE} {f : Str} (p : PE X e (tFld X.K ta f)) (h : X.K = K := by rfl) : PE X e (tFld K ta f) := h ▸ p
theorem kx_tbm {X : Cx} (K : PySem.W.Frag) {e : Expr} {r : V → List V → Hp → VK → Prop} {to : TE} {t : TA} (p : PE X e (tTM X.K r to t)) (h : X.K = K := by rfl) : PE X e (tTM K r to t) := h ▸ p
theorem kx_ix_seq {X : Cx} (K : PySem.W.Frag) (h : X.K = K := by rfl) : IxR X (rIx K) := h ▸ ix_seq
theorem kx_methG {X : Cx} (K : PySem.W.Frag) {e : Expr} {ta : TE} {t : TA} {m : Str} {f : Addr} {sp : Sp} {dvs : List V} {E : XK} (p : PE X e (tMethG X.K m f sp dvs E ta t)) (h : X.K = K := by rfl) : PE X e (tMethG K m f sp dvs E ta t) := h ▸ p
/-- how a def with defaults binds: n values are written, the defaults behind the first j fill up -/
theorem FunD.bindsD {K : PySem.W.Frag} {x qual : Str} {st : Stmt} {f t0 : Addr} {fd : FuncData} {ps : List Str} (F : FunD K x qual st f fd t0) {its : List Value} {m : Nat} (lt : K.lookup t0 = some (⟨.type "tuple", none, .seq its.toArray m, #[]⟩ : Obj)) (n j : Nat)
    (hn : n + (its.length - j) = ps.length)
    (h : ∀ (kV doc pm : Value) (an : Option Addr) (cdv ct : Value) (us : List Value), us.length = n →
      ∃ k, bindArgs (PySem.W.fnOf x qual (defArgs st) (defBody st) (defScope st) (.ref t0) kV doc pm an cdv ct) ⟨us, []⟩ = seqItems? (.ref t0) >>= k ∧ k (some its.toArray) = pure (ps.zip (us ++ its.drop j))) : Binds K fd ps (its.drop j) := by
  obtain ⟨oc, od, kV, doc, pm, an, cdv, ct, osl, rfl, lk, hcd⟩ := F.ex
  refine fun s us X hlen => ?_
  have l2 : us.length = n := by rw [List.length_append, List.length_drop] at hlen; omega
  obtain ⟨k, e1, e2⟩ := h kV doc pm an cdv ct us l2
  refine BindsTo.of_looks fun M => ?_
  rw [e1]
  exact looks_items X lt rfl (.of_pure e2)
end
/-- sep.join(xs) within a block -/
def rJoinK (K : PySem.W.Frag) : V → List V → Hp → VK → Prop := fun x xs H Q => ∃ a p, ∃ ys : List Str, x = .str a ∧ xs = [.ref p] ∧ (SqL K H p (ys.map V.str) ∨ SqT K H p (ys.map V.str)) ∧
    (ys.map (·.length)).sum + ys.length * a.length ≤ 16777216 ∧ Q (.str (PySem.Txt.join a ys)) H
theorem kx_pe_join {X : Cx} (K : PySem.W.Frag) {e : Expr} {to tx : TE} (p : PE X e (tM1 (rJoinK X.K) to tx)) (h : X.K = K := by rfl) : PE X e (tM1 (rJoinK K) to tx) := h ▸ p
/-- f'..' of several parts -/
def tJoin (ts : List TE) : TE := fun σ H Q => tJs ts Str.empty σ H fun out H1 => Q (.str out) H1
theorem pe_joinedT {X : Cx} {v1 v2 : Expr} {rest : List Expr} {ts : List TE} {pos : Pos} (h : PJ X (v1 :: v2 :: rest) ts) : PE X (.JoinedStr (v1 :: v2 :: rest) pos) (tJoin ts) := pe_joined h
/-! ### formulas as data -/
inductive Fm where
  | lit (b : Bool)
  | val (v : Str)
  | mark (m : Str)
  | name (x : Str)
  | bin (b : Bool) (l r : Fm)
  | un (b : Bool) (a : Fm)
  | fix (b : Bool) (x : Str) (a : Fm)
  deriving DecidableEq
namespace Fm
def hLit : Bool → Str | true => "true" | false => "false"
def hBin : Bool → Str | true => "and" | false => "or"
def hUn : Bool → Str | true => "some" | false => "all"
def hFix : Bool → Str | true => "least" | false => "most"
def head : Fm → Str
  | .lit b => hLit b
  | .val _ => "value"
  | .mark _ => "mark"
  | .name _ => "name"
  | .bin b _ _ => hBin b
  | .un b _ => hUn b
  | .fix b _ _ => hFix b
def parts : Fm → List Fm
  | .lit _ | .val _ | .mark _ | .name _ => []
  | .bin _ l r => [l, r]
  | .un _ a => [a]
  | .fix _ _ a => [a]
/-- the field behind the head that is a text -/
def text : Fm → Str
  | .val s | .mark s | .name s | .fix _ s _ => s
  | _ => ""
def depth : Fm → Nat
  | .lit _ | .val _ | .mark _ | .name _ => 1
  | .bin _ l r => max l.depth r.depth + 1
  | .un _ a => a.depth + 1
  | .fix _ _ a => a.depth + 1
def size : Fm → Nat
  | .lit _ | .val _ | .mark _ | .name _ => 1
  | .bin _ l r => l.size + r.size + 1
  | .un _ a => a.size + 1
  | .fix _ _ a => a.size + 1
/-- all texts in it keep p -/
def Texts (p : Str → Prop) : Fm → Prop
  | .lit _ => True
  | .val s | .mark s | .name s => p s
  | .bin _ l r => l.Texts p ∧ r.Texts p
  | .un _ a => a.Texts p
  | .fix _ x a => p x ∧ a.Texts p
theorem depth_pos : ∀ f : Fm, 1 ≤ f.depth
  | .lit _ | .val _ | .mark _ | .name _ => Nat.le_refl _
  | .bin _ _ _ | .un _ _ | .fix _ _ _ => Nat.le_add_left _ _
theorem depth_size : ∀ f : Fm, f.depth ≤ f.size
  | .lit _ | .val _ | .mark _ | .name _ => Nat.le_refl _
  | .bin _ l r => by have := depth_size l; have := depth_size r; simp only [depth, size]; omega
  | .un _ a => by have := depth_size a; simp only [depth, size]; omega
  | .fix _ _ a => by have := depth_size a; simp only [depth, size]; omega
theorem parts_depth {f g : Fm} (h : g ∈ f.parts) : g.depth < f.depth := by
  cases f with
  | lit _ | val _ | mark _ | name _ => simp [parts] at h
  | bin b l r =>
    simp only [parts, List.mem_cons, List.not_mem_nil, or_false] at h
    rcases h with rfl | rfl <;> simp only [depth] <;> omega
  | un b a => simp only [parts, List.mem_cons, List.not_mem_nil, or_false] at h; subst h; simp only [depth]; omega
  | fix b x a => simp only [parts, List.mem_cons, List.not_mem_nil, or_false] at h; subst h; simp only [depth]; omega
theorem parts_two : ∀ f : Fm, f.parts.length ≤ 2
  | .lit _ | .val _ | .mark _ | .name _ => Nat.zero_le _
  | .bin _ _ _ => Nat.le_refl _
  | .un _ _ | .fix _ _ _ => by show 1 ≤ 2; omega
/-- with other parts -/
def withParts : Fm → List Fm → Fm
  | .bin b _ _, [l, r] => .bin b l r
  | .un b _, [a] => .un b a
  | .fix b x _, [a] => .fix b x a
  | f, _ => f
def toD : Fm → PyData
  | .lit b => .tuple [.str (hLit b)]
  | .val s => .tuple [.str "value", .str s]
  | .mark s => .tuple [.str "mark", .str s]
  | .name s => .tuple [.str "name", .str s]
  | .bin b l r => .tuple [.str (hBin b), l.toD, r.toD]
  | .un b a => .tuple [.str (hUn b), a.toD]
  | .fix b x a => .tuple [.str (hFix b), .str x, a.toD]
theorem toD_depth : ∀ f : Fm, f.toD.depth = f.depth
  | .lit _ | .val _ | .mark _ | .name _ => by simp [toD, depth, PyData.depth, PyData.depthAll]
  | .bin _ l r => by have := toD_depth l; have := toD_depth r; simp only [toD, depth, PyData.depth, PyData.depthAll]; omega
  | .un _ a => by have := toD_depth a; simp only [toD, depth, PyData.depth, PyData.depthAll]; omega
  | .fix _ _ a => by have := toD_depth a; simp only [toD, depth, PyData.depth, PyData.depthAll]; omega
theorem ok_bin : ∀ b, PyData.strOk (hBin b) = true := by decide +kernel
theorem ok_un : ∀ b, PyData.strOk (hUn b) = true := by decide +kernel
theorem ok_fix : ∀ b, PyData.strOk (hFix b) = true := by decide +kernel
theorem toD_lay : ∀ f : Fm, f.Texts (fun s => PyData.strOk s = true) → f.toD.canLay0 = true
  | .lit b, _ => by cases b <;> decide +kernel
  | .val s, h | .mark s, h | .name s, h => by
    have h : PyData.strOk s = true := h
    simp only [toD, PyData.canLay0, PyData.canLayAll0, h, Bool.and_true]
    decide +kernel
  | .bin b l r, ⟨h1, h2⟩ => by
    simp only [toD, PyData.canLay0, PyData.canLayAll0, toD_lay l h1, toD_lay r h2, Bool.and_true]
    exact ok_bin b
  | .un b a, h => by
    simp only [toD, PyData.canLay0, PyData.canLayAll0, toD_lay a h, Bool.and_true]
    exact ok_un b
  | .fix b x a, ⟨h1, h2⟩ => by
    simp only [toD, PyData.canLay0, PyData.canLayAll0, toD_lay a h2, show PyData.strOk x = true from h1, Bool.and_true]
    exact ok_fix b
/-- kinds of heads, as a number -/
theorem hLit_inj {b c : Bool} (h : hLit b = hLit c) : b = c := by cases b <;> cases c <;> first | rfl | (exact absurd h (by decide +kernel))
theorem hBin_inj {b c : Bool} (h : hBin b = hBin c) : b = c := by cases b <;> cases c <;> first | rfl | (exact absurd h (by decide +kernel))
theorem hUn_inj {b c : Bool} (h : hUn b = hUn c) : b = c := by cases b <;> cases c <;> first | rfl | (exact absurd h (by decide +kernel))
theorem hFix_inj {b c : Bool} (h : hFix b = hFix c) : b = c := by cases b <;> cases c <;> first | rfl | (exact absurd h (by decide +kernel))
def kindOf : Fm → Nat
  | .lit _ => 0 | .val _ => 1 | .mark _ => 2 | .name _ => 3 | .bin _ _ _ => 4 | .un _ _ => 5 | .fix _ _ _ => 6
def kindStr (s : Str) : Nat :=
  if s = "true" then 0 else if s = "false" then 0 else if s = "value" then 1 else if s = "mark" then 2 else if s = "name" then 3
  else if s = "and" then 4 else if s = "or" then 4 else if s = "some" then 5 else if s = "all" then 5 else if s = "least" then 6 else if s = "most" then 6 else 7
theorem kind_lit : ∀ b, kindStr (hLit b) = 0 := by decide +kernel
theorem kind_bin : ∀ b, kindStr (hBin b) = 4 := by decide +kernel
theorem kind_un : ∀ b, kindStr (hUn b) = 5 := by decide +kernel
theorem kind_fix : ∀ b, kindStr (hFix b) = 6 := by decide +kernel
theorem kind_head : ∀ f : Fm, kindStr f.head = f.kindOf
  | .lit b => kind_lit b
  | .val _ => by show kindStr "value" = 1; decide +kernel
  | .mark _ => by show kindStr "mark" = 2; decide +kernel
  | .name _ => by show kindStr "name" = 3; decide +kernel
  | .bin b _ _ => kind_bin b
  | .un b _ => kind_un b
  | .fix b _ _ => kind_fix b
theorem head_kind {f g : Fm} (h : f.head = g.head) : f.kindOf = g.kindOf := by rw [← kind_head, ← kind_head, h]
theorem eqv_one {a b : Str} : PyData.eqv (.tuple [.str a]) (.tuple [.str b]) = (a == b) := by simp [PyData.eqv, PyData.eqvAll]
/-- two formulas' data are equal just if they are -/
theorem eqv_toD : ∀ f g : Fm, PyData.eqv f.toD g.toD = decide (f = g) := by
  have up : ∀ {x y : Str} {xs ys : List PyData} {c : Bool}, PyData.eqvAll xs ys = c → PyData.eqv (.tuple (.str x :: xs)) (.tuple (.str y :: ys)) = ((x == y) && c) := fun {x y xs ys c} h => by
    simp only [PyData.eqv, PyData.eqvAll, h]
  have e1 : ∀ x : PyData, ∀ y : PyData, PyData.eqvAll [x] [y] = PyData.eqv x y := fun x y => by simp only [PyData.eqvAll, Bool.and_true]
  have no : ∀ f g : Fm, f.kindOf ≠ g.kindOf → PyData.eqv f.toD g.toD = decide (f = g) := fun f g h => by
    have h1 : ¬ f = g := fun e => h (by rw [e])
    have h2 : ∀ {xs ys : List PyData}, PyData.eqv (.tuple (.str f.head :: xs)) (.tuple (.str g.head :: ys)) = false := fun {xs ys} => by
      rw [up rfl, beq_eq_false_iff_ne.mpr fun e => h (head_kind e), Bool.false_and]
    rw [decide_eq_false h1]
    cases f <;> cases g <;> exact h2
  intro f
  induction f with
  | lit b =>
    intro g
    cases g with
    | lit c =>
      show PyData.eqv (.tuple [.str (hLit b)]) (.tuple [.str (hLit c)]) = _
      rw [eqv_one]
      by_cases e : b = c
      · subst e; simp
      · rw [decide_eq_false (by intro z; cases z; exact e rfl), beq_eq_false_iff_ne.mpr fun z => e (hLit_inj z)]
    | _ => exact no _ _ (by simp [kindOf])
  | val s =>
    intro g
    cases g with
    | val u =>
      show PyData.eqv (.tuple [.str "value", .str s]) (.tuple [.str "value", .str u]) = _
      rw [up (e1 _ _), beq_self_eq_true, Bool.true_and]
      simp only [PyData.eqv, val.injEq]
      by_cases e : s = u
      · subst e; simp
      · rw [decide_eq_false e, beq_eq_false_iff_ne.mpr e]
    | _ => exact no _ _ (by simp [kindOf])
  | mark s =>
    intro g
    cases g with
    | mark u =>
      show PyData.eqv (.tuple [.str "mark", .str s]) (.tuple [.str "mark", .str u]) = _
      rw [up (e1 _ _), beq_self_eq_true, Bool.true_and]
      simp only [PyData.eqv, mark.injEq]
      by_cases e : s = u
      · subst e; simp
      · rw [decide_eq_false e, beq_eq_false_iff_ne.mpr e]
    | _ => exact no _ _ (by simp [kindOf])
  | name s =>
    intro g
    cases g with
    | name u =>
      show PyData.eqv (.tuple [.str "name", .str s]) (.tuple [.str "name", .str u]) = _
      rw [up (e1 _ _), beq_self_eq_true, Bool.true_and]
      simp only [PyData.eqv, name.injEq]
      by_cases e : s = u
      · subst e; simp
      · rw [decide_eq_false e, beq_eq_false_iff_ne.mpr e]
    | _ => exact no _ _ (by simp [kindOf])
  | bin b l r il ir =>
    intro g
    cases g with
    | bin c l' r' =>
      show PyData.eqv (.tuple [.str (hBin b), l.toD, r.toD]) (.tuple [.str (hBin c), l'.toD, r'.toD]) = _
      rw [up (c := decide (l = l') && decide (r = r')) (by simp only [PyData.eqvAll, il l', ir r', Bool.and_true])]
      by_cases e : b = c
      · subst e
        rw [beq_self_eq_true, Bool.true_and, ← Bool.decide_and]
        simp only [bin.injEq, true_and]
      · rw [beq_eq_false_iff_ne.mpr fun z => e (hBin_inj z), Bool.false_and]
        exact (decide_eq_false fun z => e (by injection z)).symm
    | _ => exact no _ _ (by simp [kindOf])
  | un b a ia =>
    intro g
    cases g with
    | un c a' =>
      show PyData.eqv (.tuple [.str (hUn b), a.toD]) (.tuple [.str (hUn c), a'.toD]) = _
      rw [up (e1 _ _), ia a']
      by_cases e : b = c
      · subst e
        rw [beq_self_eq_true, Bool.true_and]
        simp only [un.injEq, true_and]
      · rw [beq_eq_false_iff_ne.mpr fun z => e (hUn_inj z), Bool.false_and]
        exact (decide_eq_false fun z => e (by injection z)).symm
    | _ => exact no _ _ (by simp [kindOf])
  | fix b x a ia =>
    intro g
    cases g with
    | fix c y a' =>
      show PyData.eqv (.tuple [.str (hFix b), .str x, a.toD]) (.tuple [.str (hFix c), .str y, a'.toD]) = _
      rw [up (c := (x == y) && decide (a = a')) (by simp only [PyData.eqvAll, PyData.eqv, ia a', Bool.and_true])]
      by_cases e : b = c
      · subst e
        rw [beq_self_eq_true, Bool.true_and]
        by_cases e2 : x = y
        · subst e2
          simp only [beq_self_eq_true, Bool.true_and, fix.injEq, true_and]
        · rw [beq_eq_false_iff_ne.mpr e2, Bool.false_and]
          exact (decide_eq_false fun z => e2 (by injection z)).symm
      · rw [beq_eq_false_iff_ne.mpr fun z => e (hFix_inj z), Bool.false_and]
        exact (decide_eq_false fun z => e (by injection z)).symm
    | _ => exact no _ _ (by simp [kindOf])
end Fm
/-! ### what stays in the heap; folds of comprehensions; readings cut off -/
/-- tuples (and what is locked) stay -/
structure Keeps (H H' : Hp) : Prop where
  tup : ∀ a xs, H a = some (.tup xs) → H' a = some (.tup xs)
  frz : ∀ a o xs, H a = some (.frz o (.tup xs)) → H' a = some (.frz o (.tup xs))
theorem Keeps.refl (H : Hp) : Keeps H H := ⟨fun _ _ h => h, fun _ _ _ h => h⟩
theorem Keeps.trans {H H1 H2 : Hp} (a : Keeps H H1) (b : Keeps H1 H2) : Keeps H H2 := ⟨fun c xs h => b.tup c xs (a.tup c xs h), fun c o u h => b.frz c o u (a.frz c o u h)⟩
theorem _root_.L2.Same.keeps {H H' : Hp} (s : Same H H') : Keeps H H' := ⟨fun a xs h => s a _ h, fun a o u h => s a _ h⟩
theorem Keeps.mut {H H' : Hp} {D : Addr} {o o' : HO} (k : Keeps H H') (h : H' D = some o) (m : Mut (some o)) : Keeps H (upd H' D o') := by
  refine ⟨fun a xs q => ?_, fun a ob u q => ?_⟩
  · have q' := k.tup a xs q
    rw [upd_ne (ne_of q' h (by intro e; subst e; exact m))]; exact q'
  · have q' := k.frz a ob u q
    rw [upd_ne (ne_of q' h (by intro e; subst e; exact m))]; exact q'
theorem But.keeps {H H' : Hp} {D : Addr} {o : HO} (b : But D H H') (h : H D = some o) (m : Mut (some o)) : Keeps H H' :=
  ⟨fun a xs q => b a _ (ne_of q h (by intro e; subst e; exact m)) q, fun a ob u q => b a _ (ne_of q h (by intro e; subst e; exact m)) q⟩
theorem Keeps.sqT {K : PySem.W.Frag} {H H' : Hp} {a : Addr} {xs : List V} (k : Keeps H H') (h : SqT K H a xs) : SqT K H' a xs := by
  rcases h with (h | ⟨o, h⟩) | h
  · exact .inl (.inl (k.tup _ _ h))
  · exact .inl (.inr ⟨o, k.frz _ _ _ h⟩)
  · exact .inr h
theorem lc_fold {J : It} {n : Nat} {G : Hp → Prop} {Yw : Nat → Hp → V → Hp → Prop} (w : Walk J n G Yw) {g : TG} {tt : TT} {te : TE} {vs : List Nat} {σ : L2.St} {H1 : Hp} {D : Addr} {Qd : Hp → Prop} (hD : H1 D = none)
    (R : Nat → Hp → List V → Prop) (r0 : ∀ H, R 0 H []) (mono : ∀ i H H' xs, Keeps H H' → R i H xs → R i H' xs) (len : ∀ i H ys, R i H ys → ys.length ≤ 1000000) (hG : ∀ H, Same H1 H → G H)
    (hs : ∀ i x H H' ys (Nx : V → Hp → Prop) (Ex : Hp → Prop), i < n → Same H1 H → R i H ys → Yw i H x H' →
      (∀ y H2, Same H H2 → R (i + 1) H2 (ys ++ [y]) → Nx y H2) → (∀ H2, Same H H2 → R (i + 1) H2 ys → Ex H2) →
      g x (wipe σ vs) H' fun σ2 H2 => wipe σ2 vs = wipe σ vs ∧ tt σ2 H2 fun b H3 => if b = true then te σ2 H3 Nx else Ex H3)
    (hd : ∀ H ys, Same H1 H → H D = some (.lst ys) → R n H ys → Qd H) :
    ∃ W : Nat → Nat → Hp → Prop, (∃ m, W 0 m (upd H1 D (.lst []))) ∧ ∀ i m H, W i m H →
      (J.stop i H ∧ Qd H) ∨ (J.go i H ∧ ∃ Nx : Hp → Prop, (∀ H', Nx H' → ∃ m', m' < m ∧ W (i + 1) m' H') ∧ ∀ x H', J.yld i H x H' → g x (wipe σ vs) H' fun σ2 H2 => wipe σ2 vs = wipe σ vs ∧ tt σ2 H2 fun b H3 =>
        if b = true then te σ2 H3 fun y H4 => ∃ acc, H4 D = some (.lst acc) ∧ acc.length < sizeLine ∧ Nx (upd H4 D (.lst (acc ++ [y]))) else Nx H3) :=
  lc_foldF w (Same H1) R (Same.new hD _) (fun H ys zs s _ => s.mut hD _) (r0 _) (fun i H ys zs xs r h => mono _ _ _ _ ((Keeps.refl H).mut h trivial) r) len hG
    (fun i x H H' ys Nx Ex hi s hy r y k1 k2 => hs i x H H' ys Nx Ex hi s r y (fun z H2 s2 r2 => k1 z H2 (s.trans s2) (s2 _ _ hy) r2) (fun H2 s2 r2 => k2 H2 (s.trans s2) (s2 _ _ hy) r2)) hd
/-- a dict comprehension over any walk, as lc_it -/
theorem dc_it {J : It} {n : Nat} {G : Hp → Prop} {Y : Nat → Hp → V → Hp → Prop} (w : Walk J n G Y) {g : TG} {tt : TT} {tk tv : TE} {vs : List Nat} {σ : L2.St} {H1 : Hp} {D : Addr} {Qd : Hp → Prop} (Pv : Nat → Hp → Prop) (h0 : Pv 0 (upd H1 D (.dK []))) (hG : ∀ i H, i ≤ n → Pv i H → G H)
    (hs : ∀ i x H H', i < n → Pv i H → Y i H x H' → g x (wipe σ vs) H' fun σ2 H2 => wipe σ2 vs = wipe σ vs ∧ tt σ2 H2 fun b H3 =>
      if b = true then tk σ2 H3 fun y H4 => tv σ2 H4 fun z H5 => ∃ kvs k, y = kV k ∧ H5 D = some (.dK kvs) ∧ kvs.length < sizeLine ∧ Pv (i + 1) (upd H5 D (.dK (putK kvs k z))) else Pv (i + 1) H3) (hd : ∀ H, Pv n H → Qd H) :
    ∃ W : Nat → Nat → Hp → Prop, (∃ m, W 0 m (upd H1 D (.dK []))) ∧ ∀ i m H, W i m H →
      (J.stop i H ∧ Qd H) ∨ (J.go i H ∧ ∃ Nx : Hp → Prop, (∀ H', Nx H' → ∃ m', m' < m ∧ W (i + 1) m' H') ∧ ∀ x H', J.yld i H x H' → g x (wipe σ vs) H' fun σ2 H2 => wipe σ2 vs = wipe σ vs ∧ tt σ2 H2 fun b H3 =>
        if b = true then tk σ2 H3 fun y H4 => tv σ2 H4 fun z H5 => ∃ kvs k, y = kV k ∧ H5 D = some (.dK kvs) ∧ kvs.length < sizeLine ∧ Nx (upd H5 D (.dK (putK kvs k z))) else Nx H3) := by
  refine ⟨fun i m H => m = n - i ∧ i ≤ n ∧ Pv i H, ⟨n, rfl, Nat.zero_le _, h0⟩, fun i m H ⟨em, hi, p⟩ => ?_⟩
  subst em
  have q := hG i H hi p
  rcases Nat.lt_or_ge i n with hlt | hge
  · exact .inr ⟨w.goes i H hlt q, Pv (i + 1), fun H' p' => ⟨n - (i + 1), by omega, rfl, hlt, p'⟩, fun x H' y => hs i x H H' hlt p (w.yields i H x H' hlt q y)⟩
  · have e : i = n := by omega
    subst e
    exact .inl ⟨w.stops H q, hd H p⟩
/-- R i H kvs: what is known of the dict made so far -/
theorem dc_fold {J : It} {n : Nat} {G : Hp → Prop} {Yw : Nat → Hp → V → Hp → Prop} (w : Walk J n G Yw) {g : TG} {tt : TT} {tk tv : TE} {vs : List Nat} {σ : L2.St} {H1 : Hp} {D : Addr} {Qd : Hp → Prop} (hD : H1 D = none)
    (R : Nat → Hp → List (Key × V) → Prop) (r0 : ∀ H, R 0 H []) (mono : ∀ i H H' xs, Keeps H H' → R i H xs → R i H' xs) (len : ∀ i H ys, R i H ys → ys.length ≤ 1000000) (hG : ∀ H, Same H1 H → G H)
    (hs : ∀ i x H H' ys (Nx : V → V → Hp → Prop) (Ex : Hp → Prop), i < n → Same H1 H → R i H ys → Yw i H x H' →
      (∀ k z H2, Same H H2 → R (i + 1) H2 (putK ys k z) → Nx (kV k) z H2) → (∀ H2, Same H H2 → R (i + 1) H2 ys → Ex H2) →
      g x (wipe σ vs) H' fun σ2 H2 => wipe σ2 vs = wipe σ vs ∧ tt σ2 H2 fun b H3 => if b = true then tk σ2 H3 fun y H4 => tv σ2 H4 fun z H5 => Nx y z H5 else Ex H3)
    (hd : ∀ H ys, Same H1 H → H D = some (.dK ys) → R n H ys → Qd H) :
    ∃ W : Nat → Nat → Hp → Prop, (∃ m, W 0 m (upd H1 D (.dK []))) ∧ ∀ i m H, W i m H →
      (J.stop i H ∧ Qd H) ∨ (J.go i H ∧ ∃ Nx : Hp → Prop, (∀ H', Nx H' → ∃ m', m' < m ∧ W (i + 1) m' H') ∧ ∀ x H', J.yld i H x H' → g x (wipe σ vs) H' fun σ2 H2 => wipe σ2 vs = wipe σ vs ∧ tt σ2 H2 fun b H3 =>
        if b = true then tk σ2 H3 fun y H4 => tv σ2 H4 fun z H5 => ∃ kvs k, y = kV k ∧ H5 D = some (.dK kvs) ∧ kvs.length < sizeLine ∧ Nx (upd H5 D (.dK (putK kvs k z))) else Nx H3) := by
  refine dc_it w (fun i H => Same H1 H ∧ ∃ ys, H D = some (.dK ys) ∧ R i H ys) ⟨Same.new hD _, [], upd_same, r0 _⟩ (fun i H _ h => hG H h.1) ?_ ?_
  · rintro i x H H' hi ⟨s, ys, hy, r⟩ y
    refine hs i x H H' ys (fun y z H5 => ∃ kvs k, y = kV k ∧ H5 D = some (.dK kvs) ∧ kvs.length < sizeLine ∧ (Same H1 (upd H5 D (.dK (putK kvs k z))) ∧ ∃ ys, (upd H5 D (.dK (putK kvs k z))) D = some (.dK ys) ∧ R (i + 1) (upd H5 D (.dK (putK kvs k z))) ys)) _ hi s r y (fun k z H2 s2 r2 => ?_) (fun H2 s2 r2 => ⟨s.trans s2, ys, s2 _ _ hy, r2⟩)
    have h2 := s2 _ _ hy
    exact ⟨ys, k, rfl, h2, smallM (len i H ys r), (s.trans s2).mut hD _, _, upd_same, mono _ _ _ _ ((Keeps.refl H2).mut h2 trivial) r2⟩
  · rintro H ⟨s, ys, hy, r⟩
    exact hd H ys s hy r
section
variable {K : PySem.W.Frag}
theorem Src.keeps {H H' : Hp} {p ce : Addr} (s : Src K ce H p) (b : But p H H') : Keeps H H' := by
  obtain ⟨cs, i, l, m, S⟩ := s
  exact b.keeps S.at_ trivial
theorem Src.same {H H' : Hp} {p ce : Addr} (s : Src K ce H p) (e : Same H H') : Src K ce H' p := by
  obtain ⟨cs, i, l, m, S⟩ := s
  exact ⟨cs, i, l, m, ⟨e.at S.at_, (e.but p).seq S.ne S.cel, S.ne, S.hi, S.hl, S.hc, S.m0, S.m1⟩⟩
theorem Src.here {H : Hp} {p ce : Addr} (s : Src K ce H p) : ∃ o, H p = some o := by
  obtain ⟨cs, i, l, m, S⟩ := s
  exact ⟨_, S.at_⟩
theorem Src.ne {H : Hp} {p l ce : Addr} (s : Src K ce H p) (h : H l = none) : l ≠ p := fun e => by
  obtain ⟨o, q⟩ := s.here
  rw [e, q] at h; cases h
theorem Src.upd {H : Hp} {p ce D : Addr} (s : Src K ce H p) (h1 : D ≠ p) (h2 : D ≠ ce) (o : HO) : Src K ce (upd H D o) p := by
  obtain ⟨cs, i, l, m, S⟩ := s
  exact ⟨cs, i, l, m, ⟨by rw [upd_ne h1.symm]; exact S.at_, ((But.refl D H).upd o).seq h2.symm S.cel, S.ne, S.hi, S.hl, S.hc, S.m0, S.m1⟩⟩
end
theorem nx_run {D : Ends} {σ : L2.St} {H : Hp} (h : D.nx σ H) : tNext D σ H := h
theorem set_run {te : TE} {g : TG} {u : TS} {D : Ends} {σ : L2.St} {H : Hp} (Pv : V → Hp → Prop) (h : ∀ Q' : V → Hp → Prop, (∀ v H', Pv v H' → Q' v H') → te σ H Q') (q : ∀ v H', Pv v H' → g v σ H' (u D)) : tSeq (tAsg te g) u D σ H :=
  h _ fun v H' p => q v H' p
theorem if_run {c : TT} {t u v : TS} {D : Ends} {σ : L2.St} {H : Hp} (Pv : Bool → Hp → Prop) (h : ∀ Q' : Bool → Hp → Prop, (∀ b H', Pv b H' → Q' b H') → c σ H Q')
    (q : ∀ b H', Pv b H' → if b = true then t { D with nx := v D } σ H' else u { D with nx := v D } σ H') : tSeq (tIfS c t u) v D σ H := h _ fun b H' p => q b H' p
theorem val_run {t : TE} {σ : L2.St} {H : Hp} {Q : V → Hp → Prop} (Pv : V → Prop) (h : ∀ Q' : V → Hp → Prop, (∀ v, Pv v → Q' v H) → t σ H Q') (q : ∀ v, Pv v → Q v H) : t σ H Q := h Q q
theorem inV_strs (x : Str) : ∀ xs : List Str, inV (.str x) (xs.map V.str) = decide (x ∈ xs)
  | [] => rfl
  | y :: ys => by
    show ((y == x) || inV (.str x) (ys.map V.str)) = _
    rw [inV_strs x ys]
    by_cases h : y = x
    · subst h; simp
    · have : ¬ x = y := fun e => h e.symm
      simp [h, this]
theorem flat_strs : ∀ xs : List Str, (xs.map V.str).all flatV = true
  | [] => rfl
  | _ :: ys => flat_strs ys
theorem inV_trues : ∀ n : Nat, inV (.bl false) (List.replicate n (V.bl true)) = false
  | 0 => rfl
  | n + 1 => inV_trues n
theorem flat_trues : ∀ n : Nat, (List.replicate n (V.bl true)).all flatV = true
  | 0 => rfl
  | n + 1 => flat_trues n
/-- what is never reached -/
theorem ps_dead {X : Cx} {st : Stmt} : PS X st (fun _ _ _ => False) := ⟨fun _ _ _ _ _ _ h => h.elim⟩
/-- o.f = e: what is known of e's value behind it -/
theorem fld_run {K : PySem.W.Frag} {ta tv : TE} {f : Str} {u : TS} {D : Ends} {σ : L2.St} {H : Hp} (Pv : V → Hp → Prop) (h : ∀ Q' : V → Hp → Prop, (∀ v H', Pv v H' → Q' v H') → tv σ H Q')
    (q : ∀ v H', Pv v H' → ta σ H' fun x H2 => ∃ a C dx fs, x = .ref a ∧ H2 a = some (.ins C dx fs) ∧ Cls K C ∧ NoAttr K C f ∧ fs.length < 1000 ∧ u D σ (upd H2 a (.ins C dx (putF f v fs)))) : tSeq (sFld K ta tv f) u D σ H :=
  h _ fun v H' p => q v H' p
/-! ### formulas in the heap -/
/-- the formula f stands at v -/
def Rf (K : PySem.W.Frag) (H : Hp) : Fm → V → Prop
  | .lit b, v => ∃ p, v = .ref p ∧ SqT K H p [.str (Fm.hLit b)]
  | .val s, v => ∃ p, v = .ref p ∧ SqT K H p [.str "value", .str s]
  | .mark s, v => ∃ p, v = .ref p ∧ SqT K H p [.str "mark", .str s]
  | .name s, v => ∃ p, v = .ref p ∧ SqT K H p [.str "name", .str s]
  | .bin b l r, v => ∃ p x y, v = .ref p ∧ SqT K H p [.str (Fm.hBin b), x, y] ∧ Rf K H l x ∧ Rf K H r y
  | .un b a, v => ∃ p x, v = .ref p ∧ SqT K H p [.str (Fm.hUn b), x] ∧ Rf K H a x
  | .fix b s a, v => ∃ p x, v = .ref p ∧ SqT K H p [.str (Fm.hFix b), .str s, x] ∧ Rf K H a x
theorem Rf.keep {K : PySem.W.Frag} {H H' : Hp} (k : Keeps H H') : ∀ {f : Fm} {v : V}, Rf K H f v → Rf K H' f v
  | .lit _, _, ⟨p, e, h⟩ => ⟨p, e, k.sqT h⟩
  | .val _, _, ⟨p, e, h⟩ => ⟨p, e, k.sqT h⟩
  | .mark _, _, ⟨p, e, h⟩ => ⟨p, e, k.sqT h⟩
  | .name _, _, ⟨p, e, h⟩ => ⟨p, e, k.sqT h⟩
  | .bin _ _ _, _, ⟨p, x, y, e, h, h1, h2⟩ => ⟨p, x, y, e, k.sqT h, h1.keep k, h2.keep k⟩
  | .un _ _, _, ⟨p, x, e, h, h1⟩ => ⟨p, x, e, k.sqT h, h1.keep k⟩
  | .fix _ _ _, _, ⟨p, x, e, h, h1⟩ => ⟨p, x, e, k.sqT h, h1.keep k⟩
theorem Rf.same {K : PySem.W.Frag} {H H' : Hp} {f : Fm} {v : V} (h : Rf K H f v) (s : Same H H') : Rf K H' f v := h.keep s.keeps
theorem Rf.dp {K : PySem.W.Frag} {H : Hp} : ∀ {f : Fm} {v : V}, Rf K H f v → Dp K H v f.toD
  | .lit _, _, ⟨p, e, h⟩ => by subst e; exact .tup h (.cons (.str _) .nil)
  | .val _, _, ⟨p, e, h⟩ => by subst e; exact .tup h (.cons (.str _) (.cons (.str _) .nil))
  | .mark _, _, ⟨p, e, h⟩ => by subst e; exact .tup h (.cons (.str _) (.cons (.str _) .nil))
  | .name _, _, ⟨p, e, h⟩ => by subst e; exact .tup h (.cons (.str _) (.cons (.str _) .nil))
  | .bin _ _ _, _, ⟨p, x, y, e, h, h1, h2⟩ => by subst e; exact .tup h (.cons (.str _) (.cons h1.dp (.cons h2.dp .nil)))
  | .un _ _, _, ⟨p, x, e, h, h1⟩ => by subst e; exact .tup h (.cons (.str _) (.cons h1.dp .nil))
  | .fix _ _ _, _, ⟨p, x, e, h, h1⟩ => by subst e; exact .tup h (.cons (.str _) (.cons (.str _) (.cons h1.dp .nil)))
/-- the fields behind the head -/
def Rest (K : PySem.W.Frag) (H : Hp) : Fm → List V → Prop
  | .lit _, xs => xs = []
  | .val s, xs | .mark s, xs | .name s, xs => xs = [.str s]
  | .bin _ l r, xs => ∃ x y, xs = [x, y] ∧ Rf K H l x ∧ Rf K H r y
  | .un _ a, xs => ∃ x, xs = [x] ∧ Rf K H a x
  | .fix _ s a, xs => ∃ x, xs = [.str s, x] ∧ Rf K H a x
theorem Rf.out {K : PySem.W.Frag} {H : Hp} : ∀ {f : Fm} {v : V}, Rf K H f v → ∃ p xs, v = .ref p ∧ SqT K H p (.str f.head :: xs) ∧ Rest K H f xs
  | .lit _, _, ⟨p, e, h⟩ => ⟨p, _, e, h, rfl⟩
  | .val _, _, ⟨p, e, h⟩ => ⟨p, _, e, h, rfl⟩
  | .mark _, _, ⟨p, e, h⟩ => ⟨p, _, e, h, rfl⟩
  | .name _, _, ⟨p, e, h⟩ => ⟨p, _, e, h, rfl⟩
  | .bin _ _ _, _, ⟨p, x, y, e, h, h1, h2⟩ => ⟨p, _, e, h, x, y, rfl, h1, h2⟩
  | .un _ _, _, ⟨p, x, e, h, h1⟩ => ⟨p, _, e, h, x, rfl, h1⟩
  | .fix _ _ _, _, ⟨p, x, e, h, h1⟩ => ⟨p, _, e, h, x, rfl, h1⟩
theorem Rf.in_ {K : PySem.W.Frag} {H : Hp} : ∀ {f : Fm} {p : Addr} {xs : List V}, SqT K H p (.str f.head :: xs) → Rest K H f xs → Rf K H f (.ref p)
  | .lit _, _, _, h, rfl => ⟨_, rfl, h⟩
  | .val _, _, _, h, rfl => ⟨_, rfl, h⟩
  | .mark _, _, _, h, rfl => ⟨_, rfl, h⟩
  | .name _, _, _, h, rfl => ⟨_, rfl, h⟩
  | .bin _ _ _, _, _, h, ⟨x, y, e, h1, h2⟩ => by subst e; exact ⟨_, x, y, rfl, h, h1, h2⟩
  | .un _ _, _, _, h, ⟨x, e, h1⟩ => by subst e; exact ⟨_, x, rfl, h, h1⟩
  | .fix _ _ _, _, _, h, ⟨x, e, h1⟩ => by subst e; exact ⟨_, x, rfl, h, h1⟩
theorem Rest.keep {K : PySem.W.Frag} {H H' : Hp} (k : Keeps H H') {f : Fm} {xs : List V} (r : Rest K H f xs) : Rest K H' f xs := by
  cases f with
  | lit _ | val _ | mark _ | name _ => exact r
  | bin b l r' => obtain ⟨x, y, e, h1, h2⟩ := r; exact ⟨x, y, e, h1.keep k, h2.keep k⟩
  | un b a => obtain ⟨x, e, h1⟩ := r; exact ⟨x, e, h1.keep k⟩
  | fix b s a => obtain ⟨x, e, h1⟩ := r; exact ⟨x, e, h1.keep k⟩
/-- where the parts stand -/
def Fm.places : Fm → List Int
  | .lit _ | .val _ | .mark _ | .name _ => []
  | .bin _ _ _ => [1, 2]
  | .un _ _ => [1]
  | .fix _ _ _ => [2]
theorem Fm.places_length : ∀ f : Fm, f.places.length = f.parts.length
  | .lit _ | .val _ | .mark _ | .name _ | .bin _ _ _ | .un _ _ | .fix _ _ _ => rfl
/-- the part at the i-th place -/
theorem Rest.part {K : PySem.W.Frag} {H : Hp} {f : Fm} {xs : List V} (r : Rest K H f xs) {i : Nat} {z : Int} (hz : f.places[i]? = some z) :
    ∃ g x, f.parts[i]? = some g ∧ atI (V.str f.head :: xs) z = some x ∧ Rf K H g x := by
  cases f with
  | lit _ | val _ | mark _ | name _ => simp [Fm.places] at hz
  | bin b l r' =>
    obtain ⟨x, y, rfl, h1, h2⟩ := r
    match i, hz with
    | 0, e => cases e; exact ⟨_, _, rfl, atI_nat (j := 1) rfl, h1⟩
    | 1, e => cases e; exact ⟨_, _, rfl, atI_nat (j := 2) rfl, h2⟩
    | n + 2, e => simp [Fm.places] at e
  | un b a =>
    obtain ⟨x, rfl, h1⟩ := r
    match i, hz with
    | 0, e => cases e; exact ⟨_, _, rfl, atI_nat (j := 1) rfl, h1⟩
    | n + 1, e => simp [Fm.places] at e
  | fix b s a =>
    obtain ⟨x, rfl, h1⟩ := r
    match i, hz with
    | 0, e => cases e; exact ⟨_, _, rfl, atI_nat (j := 2) rfl, h1⟩
    | n + 1, e => simp [Fm.places] at e
/-! ### heads asked for -/
theorem beq_comm_str (s t : Str) : (s == t) = (t == s) := by
  by_cases h : s = t
  · subst h; rfl
  · rw [beq_eq_false_iff_ne.mpr h, beq_eq_false_iff_ne.mpr fun q => h q.symm]
theorem inV_str (s a b : Str) : inV (.str s) [.str a, .str b] = (s == a || s == b) := by
  show (eqV (.str a) (.str s) || (eqV (.str b) (.str s) || false)) = _
  show ((a == s) || ((b == s) || false)) = _
  rw [Bool.or_false, beq_comm_str a, beq_comm_str b]
theorem eq_str (s a : Str) : decide (V.str s = V.str a) = (s == a) := dec_str
theorem kind_by (a b : Str) (n : Nat) (ha : Fm.kindStr a = n) (hb : Fm.kindStr b = n) (h : ∀ s, Fm.kindStr s = n → s = a ∨ s = b) (f : Fm) : (f.head == a || f.head == b) = decide (f.kindOf = n) := by
  rw [← Fm.kind_head]
  by_cases e : Fm.kindStr f.head = n
  · rw [decide_eq_true e]
    rcases h _ e with q | q <;> rw [q] <;> simp
  · have h1 : ¬ f.head = a := fun q => e (by rw [q, ha])
    have h2 : ¬ f.head = b := fun q => e (by rw [q, hb])
    rw [decide_eq_false e, beq_eq_false_iff_ne.mpr h1, beq_eq_false_iff_ne.mpr h2]
    rfl
theorem kindStr_inv (s : Str) : (Fm.kindStr s = 0 → s = "true" ∨ s = "false") ∧ (Fm.kindStr s = 3 → s = "name" ∨ s = "name") ∧ (Fm.kindStr s = 4 → s = "and" ∨ s = "or") ∧ (Fm.kindStr s = 6 → s = "least" ∨ s = "most") := by
  unfold Fm.kindStr
  refine ⟨?_, ?_, ?_, ?_⟩ <;> (repeat' split) <;> intro h <;> first | (exact absurd h (by decide)) | (left; assumption) | (right; assumption)
theorem head_fix (f : Fm) : (f.head == "least" || f.head == "most") = decide (f.kindOf = 6) := kind_by _ _ 6 (by decide +kernel) (by decide +kernel) (fun s => (kindStr_inv s).2.2.2) f
theorem head_bin (f : Fm) : (f.head == "and" || f.head == "or") = decide (f.kindOf = 4) := kind_by _ _ 4 (by decide +kernel) (by decide +kernel) (fun s => (kindStr_inv s).2.2.1) f
theorem head_lit (f : Fm) : (f.head == "true" || f.head == "false") = decide (f.kindOf = 0) := kind_by _ _ 0 (by decide +kernel) (by decide +kernel) (fun s => (kindStr_inv s).1) f
theorem head_name (f : Fm) : (f.head == "name") = decide (f.kindOf = 3) := by
  have h := kind_by "name" "name" 3 (by decide +kernel) (by decide +kernel) (fun s => (kindStr_inv s).2.1) f
  rwa [Bool.or_self] at h
theorem kind_fix {f : Fm} (h : f.kindOf = 6) : ∃ b x a, f = .fix b x a := by cases f <;> first | exact ⟨_, _, _, rfl⟩ | (simp [Fm.kindOf] at h)
theorem kind_bin {f : Fm} (h : f.kindOf = 4) : ∃ b l r, f = .bin b l r := by cases f <;> first | exact ⟨_, _, _, rfl⟩ | (simp [Fm.kindOf] at h)
theorem kind_name {f : Fm} (h : f.kindOf = 3) : ∃ x, f = .name x := by cases f <;> first | exact ⟨_, rfl⟩ | (simp [Fm.kindOf] at h)
theorem kind_lit {f : Fm} (h : f.kindOf = 0) : ∃ b, f = .lit b := by cases f <;> first | exact ⟨_, rfl⟩ | (simp [Fm.kindOf] at h)
/-! ### lattices in the heap -/
def downsV (L : Lt) : List V := (List.range L.n).map fun b => V.int (L.down b : Nat)
def upsV (L : Lt) : List V := (List.range L.n).map fun a => V.int (L.up a : Nat)
def latAttrs : List Str := ["label", "size", "depth", "value_names", "downs", "ups", "bottom_at", "top_at"]
/-- a class of lattices, its methods mm -/
structure LatC (K : PySem.W.Frag) (mm : List (Str × Addr)) (C : Addr) : Prop where
  cl : Cls K C
  na : ∀ f ∈ latAttrs, NoAttr K C f
  me : ∀ q ∈ mm, Meth K C q.1 q.2
structure LatAt (K : PySem.W.Frag) (mm : List (Str × Addr)) (H : Hp) (p : Addr) (L : Lt) (C dx : Addr) (fs : List (Str × V)) (tn td tu : Addr) : Prop where
  at_ : H p = some (.ins C dx fs)
  c : LatC K mm C
  no : ∀ q ∈ mm, fs.lookup q.1 = none
  label : fs.lookup ("label" : Str) = some (.str L.label)
  size : fs.lookup ("size" : Str) = some (.int (L.n : Nat))
  depth : fs.lookup ("depth" : Str) = some (.int (L.depth : Nat))
  names : fs.lookup ("value_names" : Str) = some (.ref tn)
  downs : fs.lookup ("downs" : Str) = some (.ref td)
  ups : fs.lookup ("ups" : Str) = some (.ref tu)
  bot : fs.lookup ("bottom_at" : Str) = some (optV L.bot)
  top : fs.lookup ("top_at" : Str) = some (optV L.top)
  tn : NdT K H tn ∧ SqT K H tn (L.names.map V.str)
  td : NdT K H td ∧ SqT K H td (downsV L)
  tu : NdT K H tu ∧ SqT K H tu (upsV L)
def IsLat (K : PySem.W.Frag) (mm : List (Str × Addr)) (H : Hp) (p : Addr) (L : Lt) : Prop := ∃ C dx fs tn td tu, LatAt K mm H p L C dx fs tn td tu
theorem NdT.keep {K : PySem.W.Frag} {H H' : Hp} {p : Addr} (h : NdT K H p) (k : Keeps H H') : NdT K H' p := by
  rcases h with ⟨o, xs, h, d⟩ | h
  · exact .inl ⟨o, xs, k.frz _ _ _ h, d⟩
  · exact .inr h
theorem LatAt.to {K : PySem.W.Frag} {mm : List (Str × Addr)} {H H' : Hp} {p : Addr} {L : Lt} {C dx : Addr} {fs : List (Str × V)} {tn td tu : Addr} (A : LatAt K mm H p L C dx fs tn td tu) (k : Keeps H H') (e : H' p = some (.ins C dx fs)) : LatAt K mm H' p L C dx fs tn td tu :=
  ⟨e, A.c, A.no, A.label, A.size, A.depth, A.names, A.downs, A.ups, A.bot, A.top, ⟨A.tn.1.keep k, k.sqT A.tn.2⟩, ⟨A.td.1.keep k, k.sqT A.td.2⟩, ⟨A.tu.1.keep k, k.sqT A.tu.2⟩⟩
theorem LatAt.same {K : PySem.W.Frag} {mm : List (Str × Addr)} {H H' : Hp} {p : Addr} {L : Lt} {C dx : Addr} {fs : List (Str × V)} {tn td tu : Addr} (A : LatAt K mm H p L C dx fs tn td tu) (s : Same H H') : LatAt K mm H' p L C dx fs tn td tu := A.to s.keeps (s _ _ A.at_)
theorem IsLat.same {K : PySem.W.Frag} {mm : List (Str × Addr)} {H H' : Hp} {p : Addr} {L : Lt} (h : IsLat K mm H p L) (s : Same H H') : IsLat K mm H' p L := by
  obtain ⟨C, dx, fs, tn, td, tu, A⟩ := h
  exact ⟨C, dx, fs, tn, td, tu, A.same s⟩
/-- all but what stands at q, a list | an instance, is as it was -/
theorem IsLat.but {K : PySem.W.Frag} {mm : List (Str × Addr)} {H H' : Hp} {p q : Addr} {L : Lt} {o : HO} (h : IsLat K mm H p L) (b : But q H H') (hq : H q = some o) (m : Mut (some o)) (ne : p ≠ q) : IsLat K mm H' p L := by
  obtain ⟨C, dx, fs, tn, td, tu, A⟩ := h
  exact ⟨C, dx, fs, tn, td, tu, A.to (b.keeps hq m) (b _ _ ne A.at_)⟩
/-- a draw leaves it -/
theorem IsLat.drawn {K : PySem.W.Frag} {mm : List (Str × Addr)} {H H' : Hp} {p q ce : Addr} {L : Lt} (h : IsLat K mm H p L) (s : Src K ce H q) (b : But q H H') : IsLat K mm H' p L := by
  obtain ⟨cs, i, l, m, S⟩ := s
  refine h.but b S.at_ trivial fun e => ?_
  obtain ⟨C, dx, fs, tn, td, tu, A⟩ := h
  have := A.at_
  rw [e, S.at_] at this
  cases this
theorem flat_ints (l : List Nat) (f : Nat → Nat) : (l.map fun i => V.int (f i : Nat)).all flatV = true := by
  rw [List.all_map]
  exact List.all_eq_true.mpr fun _ _ => rfl
theorem at_map {n i : Nat} {f : Nat → V} (h : i < n) : ((List.range n).map f)[i]? = some (f i) := by
  rw [List.getElem?_map, List.getElem?_range h]; rfl
theorem at_map' {n i : Nat} {f : Nat → V} {x : V} (h : ((List.range n).map f)[i]? = some x) : i < n ∧ x = f i := by
  have hl := (List.getElem?_eq_some_iff.mp h).1
  rw [List.length_map, List.length_range] at hl
  rw [at_map hl] at h
  exact ⟨hl, (Option.some.inj h).symm⟩
theorem eqV_nat (a b : Nat) : eqV (.int (a : Nat)) (.int (b : Nat)) = (a == b) := by
  show ((a : Int) == (b : Int)) = (a == b)
  by_cases h : a = b
  · subst h; simp
  · have : ¬ (a : Int) = (b : Int) := by omega
    rw [beq_eq_false_iff_ne.mpr h, beq_eq_false_iff_ne.mpr this]
theorem inV_map (m n : Nat) (f : Nat → Nat) : inV (.int (m : Nat)) ((List.range n).map fun i => V.int (f i : Nat)) = (first n fun k => f k == m).isSome := by
  cases e : first n fun k => f k == m with
  | none =>
    show List.any _ _ = false
    rw [List.any_map, List.any_eq_false]
    intro i hi
    have := first_none e i (List.mem_range.mp hi)
    simp only [Function.comp, eqV_nat]
    rw [this]; decide
  | some k =>
    obtain ⟨h1, h2, _⟩ := first_some e
    show List.any _ _ = true
    rw [List.any_map, List.any_eq_true]
    exact ⟨k, List.mem_range.mpr h1, by simp only [Function.comp, eqV_nat]; exact h2⟩
theorem dec_bl {p : Prop} [Decidable p] : V.bl (decide p) = V.bl (decide p) := rfl
theorem int_ext {a b : Nat} : decide (V.int (a : Nat) = V.int (b : Nat)) = (a == b) := by
  by_cases h : a = b
  · subst h; simp
  · have : ¬ V.int (a : Nat) = V.int (b : Nat) := fun z => h (by have := V.int.inj z; omega)
    rw [decide_eq_false this, beq_eq_false_iff_ne.mpr h]
theorem dec_int {a b : Int} : decide (V.int a = V.int b) = decide (a = b) := by
  by_cases h : a = b
  · subst h; simp
  · have : ¬ V.int a = V.int b := fun z => h (V.int.inj z)
    rw [decide_eq_false this, decide_eq_false h]
theorem any_first (n : Nat) (p : Nat → Bool) : (List.range n).any p = (first n p).isSome := by
  cases e : first n p with
  | none =>
    rw [List.any_eq_false.mpr fun i hi => by rw [first_none e i (List.mem_range.mp hi)]; decide]
    rfl
  | some k =>
    obtain ⟨h1, h2, _⟩ := first_some e
    rw [List.any_eq_true.mpr ⟨k, List.mem_range.mpr h1, h2⟩]
    rfl
theorem one_shl (i : Nat) : (1 : Int) * 2 ^ ((i : Int)).toNat = ((2 ^ i : Nat) : Int) := by
  rw [Int.one_mul, Int.toNat_natCast, Int.natCast_pow]
  rfl
theorem rg_nat (n : Nat) : rgV 0 (n : Int) = natV (List.range n) := by
  unfold rgV natV
  rw [Int.sub_zero, Int.toNat_natCast]
  refine List.map_congr_left fun i _ => ?_
  rw [Int.zero_add]
theorem natV_append (a b : List Nat) : natV (a ++ b) = natV a ++ natV b := List.map_append
theorem natV_length (a : List Nat) : (natV a).length = a.length := List.length_map _
theorem filter_snoc (p : Nat → Bool) (i : Nat) : (List.range (i + 1)).filter p = (List.range i).filter p ++ if p i then [i] else [] := by
  rw [List.range_succ, List.filter_append]
  cases h : p i <;> simp [List.filter, h]
theorem filter_le (p : Nat → Bool) (i : Nat) : ((List.range i).filter p).length ≤ i := Nat.le_trans (List.length_filter_le _ _) (by rw [List.length_range]; exact Nat.le_refl _)
theorem yfn0 {x : V} {i : Nat} (h : x = (fun i : Nat => V.int (0 + (i : Int))) i) : x = .int (i : Nat) := by
  rw [h]
  show V.int (0 + (i : Int)) = _
  rw [Int.zero_add]
theorem andnot_nat (a b : Nat) : Builtin.bitAnd (a : Int) (Builtin.bitNot (b : Int)) = ((a - (a &&& b) : Nat) : Int) := by
  have hneg : ¬ (0 ≤ Builtin.bitNot (b : Int)) := by show ¬ (0 ≤ -(b : Int) - 1); omega
  have hpos : (0 : Int) ≤ (a : Int) := Int.natCast_nonneg _
  have nn : Builtin.bitNot (Builtin.bitNot (b : Int)) = (b : Int) := by show -(-(b : Int) - 1) - 1 = _; omega
  have le : a &&& b ≤ a := Nat.and_le_left
  have e : Builtin.bitAnd (a : Int) (Builtin.bitNot (b : Int)) = (a : Int) - ((a &&& b : Nat) : Int) := by
    unfold Builtin.bitAnd
    rw [show decide ((0 : Int) ≤ (a : Int)) = true from decide_eq_true hpos, show decide ((0 : Int) ≤ Builtin.bitNot (b : Int)) = false from decide_eq_false hneg]
    show (a : Int) - (((a : Int).toNat &&& (Builtin.bitNot (Builtin.bitNot (b : Int))).toNat : Nat) : Int) = _
    rw [nn]
    rfl
  rw [e]
  omega
/-- a's digits are all in b -/
def part (a b : Nat) : Bool := (a &&& b) == a
theorem part_is (a b : Nat) : decide (V.int (Builtin.bitAnd (a : Int) (Builtin.bitNot (b : Int))) = V.int 0) = part a b := by
  rw [dec_int, andnot_nat]
  unfold part
  have le : a &&& b ≤ a := Nat.and_le_left
  by_cases h : a &&& b = a
  · rw [beq_iff_eq.mpr h, h, Nat.sub_self]; rfl
  · rw [beq_eq_false_iff_ne.mpr h]
    exact decide_eq_false (by omega)
theorem eqV_str' (a b : Str) : eqV (.str a) (.str b) = (a == b) := rfl
theorem nodup_at' {α : Type} {l : List α} (nd : l.Nodup) {i j : Nat} {x : α} (h1 : l[i]? = some x) (h2 : l[j]? = some x) : i = j := by
  obtain ⟨l1, e1⟩ := List.getElem?_eq_some_iff.mp h1
  obtain ⟨l2, e2⟩ := List.getElem?_eq_some_iff.mp h2
  rcases Nat.lt_trichotomy i j with c | c | c
  · exact absurd (e1.trans e2.symm) (List.pairwise_iff_getElem.mp nd i j l1 l2 c)
  · exact c
  · exact absurd (e2.trans e1.symm) (List.pairwise_iff_getElem.mp nd j i l2 l1 c)
/-! ### the plain law: chains and sets; small facts -/
section
theorem empty_app (x : Str) : Str.empty ++ x = x := by
  obtain ⟨a⟩ := x
  show (⟨#[] ++ a⟩ : Str) = ⟨a⟩
  rw [Array.empty_append]
theorem log_small {i : Nat} (h : i < 2 ^ 64) : ((i : Nat) : Int).natAbs.log2 < 1920 := by
  rw [Int.natAbs_natCast]
  rcases Nat.eq_zero_or_pos i with e | e
  · subst e; decide
  · exact Nat.lt_trans ((Nat.log2_lt (by omega)).mpr h) (by decide)
def natS (i : Nat) : Str := Str.ofString (toString ((i : Nat) : Int))
theorem mask_upto {n i : Nat} (h : i < n) : mask n (fun a => decide (a ≤ i)) = 2 ^ (i + 1) - 1 := by
  refine Nat.eq_of_testBit_eq fun j => ?_
  rw [mask_bit, Nat.testBit_two_pow_sub_one]
  by_cases c : j ≤ i
  · have : j < n := by omega
    have c2 : j < i + 1 := by omega
    simp [c, this, c2]
  · have c2 : ¬ j < i + 1 := by omega
    simp [c, c2]
theorem natS_len {i : Nat} (h : i ≤ 100) : (natS i).length ≤ 3 := by
  have q : ∀ j : Fin 101, (natS j.val).length ≤ 3 := by decide +kernel
  exact q ⟨i, by omega⟩
theorem small_line {n : Nat} (h : n ≤ 1000000) : n ≤ sizeLine := Nat.le_trans h (by decide)
def chainL (n : Nat) : Lt := { label := ("(chain " : Str) ++ natS n ++ (")" : Str), names := (List.range n).map natS, le := fun a b => decide (a ≤ b), depth := 1 }
theorem chainL_n (n : Nat) : (chainL n).n = n := by simp [chainL, Lt.n]
/-- one digit of a number, as a text -/
def digS (m k : Nat) : Str := if m.testBit k then ("1" : Str) else ("0" : Str)
theorem digS_is (m k : Nat) : (Str.ofString (toString (Builtin.bitAnd ((m : Int) / 2 ^ k) 1)) : Str) = digS m k := by
  rw [bit_int]
  unfold digS
  cases m.testBit k <;> rfl
theorem digS_log (m k : Nat) : (Builtin.bitAnd ((m : Int) / 2 ^ k) 1).natAbs.log2 < 1920 := by
  rw [bit_int]
  cases m.testBit k <;> decide
theorem digS_len (m k : Nat) : (digS m k).length = 1 := by
  unfold digS
  cases m.testBit k <;> rfl
def setDigs (c m : Nat) : List Str := (List.range c).map fun j => digS m (c - 1 - j)
def setName (c m : Nat) : Str := PySem.Txt.join (("" : Str)) (setDigs c m)
def setsL (c : Nat) : Lt := { label := ("(sets " : Str) ++ natS c ++ (")" : Str), names := (List.range (2 ^ c)).map (setName c), le := fun a b => part a b, depth := 1 }
theorem setsL_n (c : Nat) : (setsL c).n = 2 ^ c := by simp [setsL, Lt.n]
theorem setDigs_sum (c m : Nat) : ((setDigs c m).map (·.length)).sum = c := by
  unfold setDigs
  rw [List.map_map]
  have : ((fun x : Str => x.length) ∘ fun j => digS m (c - 1 - j)) = fun _ => 1 := by funext j; exact digS_len _ _
  rw [this, List.map_const']
  simp
end
/-! ### the plain law: joins and meets, chains and sets -/
namespace Lt
structure Ord (L : Lt) : Prop where
  refl : ∀ a, a < L.n → L.le a a = true
  anti : ∀ a b, a < L.n → b < L.n → L.le a b = true → L.le b a = true → a = b
theorem up_eq (L : Lt) (k : Nat) (p : Nat → Bool) : (L.up k == mask L.n p) = true ↔ ∀ i, i < L.n → L.le k i = p i := by
  rw [beq_iff_eq]; exact mask_eq
theorem down_eq (L : Lt) (k : Nat) (p : Nat → Bool) : (L.down k == mask L.n p) = true ↔ ∀ i, i < L.n → L.le i k = p i := by
  rw [beq_iff_eq]; exact mask_eq
theorem join_eq (L : Lt) (a b : Nat) : L.join a b = first L.n fun k => L.up k == mask L.n fun i => L.le a i && L.le b i := by
  unfold join
  rw [show L.up a &&& L.up b = mask L.n fun i => L.le a i && L.le b i from mask_and _ _ _]
theorem meet_eq (L : Lt) (a b : Nat) : L.meet a b = first L.n fun k => L.down k == mask L.n fun i => L.le i a && L.le i b := by
  unfold meet
  rw [show L.down a &&& L.down b = mask L.n fun i => L.le i a && L.le i b from mask_and _ _ _]
theorem Ord.ups {L : Lt} (o : L.Ord) {p : Nat → Bool} {k : Nat} (hk : k < L.n) (h : ∀ i, i < L.n → L.le k i = p i) : (first L.n fun k => L.up k == mask L.n p) = some k := by
  refine first_is hk ((up_eq L k p).mpr h) fun j hj => Bool.eq_false_iff.mpr fun z => ?_
  have z := (up_eq L j p).mp z
  have hj' : j < L.n := by omega
  have e := o.anti j k hj' hk (by rw [z k hk, ← h k hk]; exact o.refl k hk) (by rw [h j hj', ← z j hj']; exact o.refl j hj')
  omega
theorem Ord.downs {L : Lt} (o : L.Ord) {p : Nat → Bool} {k : Nat} (hk : k < L.n) (h : ∀ i, i < L.n → L.le i k = p i) : (first L.n fun k => L.down k == mask L.n p) = some k := by
  refine first_is hk ((down_eq L k p).mpr h) fun j hj => Bool.eq_false_iff.mpr fun z => ?_
  have z := (down_eq L j p).mp z
  have hj' : j < L.n := by omega
  have e := o.anti j k hj' hk (by rw [h j hj', ← z j hj']; exact o.refl j hj') (by rw [z k hk, ← h k hk]; exact o.refl k hk)
  omega
theorem Ord.join {L : Lt} (o : L.Ord) {a b k : Nat} (hk : k < L.n) (h : ∀ i, i < L.n → L.le k i = (L.le a i && L.le b i)) : L.join a b = some k := by rw [join_eq]; exact o.ups hk h
theorem Ord.meet {L : Lt} (o : L.Ord) {a b k : Nat} (hk : k < L.n) (h : ∀ i, i < L.n → L.le i k = (L.le i a && L.le i b)) : L.meet a b = some k := by rw [meet_eq]; exact o.downs hk h
theorem Ord.bot {L : Lt} (o : L.Ord) {k : Nat} (hk : k < L.n) (h : ∀ i, i < L.n → L.le k i = true) : L.bot = some k := by
  unfold Lt.bot
  rw [← mask_all]
  exact o.ups hk h
theorem Ord.top {L : Lt} (o : L.Ord) {k : Nat} (hk : k < L.n) (h : ∀ i, i < L.n → L.le i k = true) : L.top = some k := by
  unfold Lt.top
  rw [← mask_all]
  exact o.downs hk h
theorem irr_iff (L : Lt) (a : Nat) : L.irr a = true ↔ ∃ k, k < L.n ∧ ∀ i, i < L.n → L.le i k = (L.le i a && !(i == a)) := by
  unfold irr
  rw [List.any_eq_true]
  constructor
  · rintro ⟨k, hk, h⟩
    exact ⟨k, List.mem_range.mp hk, (down_eq L k _).mp h⟩
  · rintro ⟨k, hk, h⟩
    exact ⟨k, List.mem_range.mpr hk, (down_eq L k _).mpr h⟩
end Lt
theorem chain_ord (n : Nat) : (chainL n).Ord := ⟨fun a _ => by simp [chainL], fun a b _ _ h1 h2 => by simp [chainL] at h1 h2; omega⟩
theorem chain_join {n a b : Nat} (ha : a < n) (hb : b < n) : (chainL n).join a b = some (max a b) :=
  (chain_ord n).join (by rw [chainL_n]; omega) fun i _ => by
    show decide (max a b ≤ i) = (decide (a ≤ i) && decide (b ≤ i))
    rw [← Bool.decide_and]
    exact decide_eq_decide.mpr (by omega)
theorem chain_meet {n a b : Nat} (ha : a < n) (hb : b < n) : (chainL n).meet a b = some (min a b) :=
  (chain_ord n).meet (by rw [chainL_n]; omega) fun i _ => by
    show decide (i ≤ min a b) = (decide (i ≤ a) && decide (i ≤ b))
    rw [← Bool.decide_and]
    exact decide_eq_decide.mpr (by omega)
theorem chain_bot {n : Nat} (h : 1 ≤ n) : (chainL n).bot = some 0 := (chain_ord n).bot (by rw [chainL_n]; omega) fun i _ => by simp [chainL]
theorem chain_top {n : Nat} (h : 1 ≤ n) : (chainL n).top = some (n - 1) := (chain_ord n).top (by rw [chainL_n]; omega) fun i hi => by rw [chainL_n] at hi; simp [chainL]; omega
theorem chain_irr {n a : Nat} (ha : a < n) : (chainL n).irr a = decide (1 ≤ a) := by
  rw [Bool.eq_iff_iff, Lt.irr_iff, decide_eq_true_iff]
  rw [chainL_n]
  constructor
  · rintro ⟨k, hk, h⟩
    have := h k hk
    simp [chainL] at this
    omega
  · intro h
    refine ⟨a - 1, by omega, fun i hi => ?_⟩
    show decide (i ≤ a - 1) = (decide (i ≤ a) && !(i == a))
    rw [Bool.eq_iff_iff]
    simp
    omega
theorem range_pos : ∀ n : Nat, (List.range n).filter (fun a => decide (1 ≤ a)) = (List.range (n - 1)).map (· + 1)
  | 0 => rfl
  | 1 => rfl
  | n + 2 => by
    rw [List.range_succ, List.filter_append, range_pos (n + 1)]
    show _ = (List.range (n + 1)).map (· + 1)
    rw [List.range_succ (n := n), List.map_append]
    simp [List.filter]
theorem chain_irrs (n : Nat) : (chainL n).irrs = (List.range (n - 1)).map (· + 1) := by
  unfold Lt.irrs
  rw [chainL_n, ← range_pos]
  refine List.filter_congr fun a ha => ?_
  exact chain_irr (List.mem_range.mp ha)
theorem part_bits {a b : Nat} : part a b = true ↔ ∀ j, a.testBit j = true → b.testBit j = true := by
  unfold part
  rw [beq_iff_eq]
  constructor
  · intro h j hj
    have := congrArg (Nat.testBit · j) h
    simp only [Nat.testBit_and, hj, Bool.true_and] at this
    exact this
  · intro h
    refine Nat.eq_of_testBit_eq fun j => ?_
    rw [Nat.testBit_and]
    cases e : a.testBit j with
    | false => rfl
    | true => rw [h j e]; rfl
theorem part_refl (a : Nat) : part a a = true := part_bits.mpr fun _ h => h
theorem part_anti {a b : Nat} (h1 : part a b = true) (h2 : part b a = true) : a = b := by
  refine Nat.eq_of_testBit_eq fun j => ?_
  rw [Bool.eq_iff_iff]
  exact ⟨part_bits.mp h1 j, part_bits.mp h2 j⟩
theorem part_or (a b i : Nat) : part (a ||| b) i = (part a i && part b i) := by
  rw [Bool.eq_iff_iff, Bool.and_eq_true, part_bits, part_bits, part_bits]
  constructor
  · intro h
    exact ⟨fun j hj => h j (by rw [Nat.testBit_or, hj, Bool.true_or]), fun j hj => h j (by rw [Nat.testBit_or, hj, Bool.or_true])⟩
  · rintro ⟨h1, h2⟩ j hj
    rw [Nat.testBit_or, Bool.or_eq_true] at hj
    exact hj.elim (h1 j) (h2 j)
theorem part_and (a b i : Nat) : part i (a &&& b) = (part i a && part i b) := by
  rw [Bool.eq_iff_iff, Bool.and_eq_true, part_bits, part_bits, part_bits]
  constructor
  · intro h
    exact ⟨fun j hj => by have := h j hj; rw [Nat.testBit_and, Bool.and_eq_true] at this; exact this.1, fun j hj => by have := h j hj; rw [Nat.testBit_and, Bool.and_eq_true] at this; exact this.2⟩
  · rintro ⟨h1, h2⟩ j hj
    rw [Nat.testBit_and, h1 j hj, h2 j hj]; rfl
theorem sets_ord (c : Nat) : (setsL c).Ord := ⟨fun a _ => part_refl a, fun a b _ _ h1 h2 => part_anti h1 h2⟩
theorem sets_join {c a b : Nat} (ha : a < 2 ^ c) (hb : b < 2 ^ c) : (setsL c).join a b = some (a ||| b) :=
  (sets_ord c).join (by rw [setsL_n]; exact Nat.or_lt_two_pow ha hb) fun i _ => part_or a b i
theorem sets_meet {c a b : Nat} (ha : a < 2 ^ c) : (setsL c).meet a b = some (a &&& b) :=
  (sets_ord c).meet (by rw [setsL_n]; exact Nat.lt_of_le_of_lt Nat.and_le_left ha) fun i _ => part_and a b i
theorem sets_bot (c : Nat) : (setsL c).bot = some 0 := (sets_ord c).bot (by rw [setsL_n]; exact Nat.pow_pos (by decide)) fun i _ => part_bits.mpr fun j h => by simp at h
theorem sets_top (c : Nat) : (setsL c).top = some (2 ^ c - 1) := (sets_ord c).top (by rw [setsL_n]; have := Nat.pow_pos (n := c) (show 0 < 2 by decide); omega) fun i hi => by
  rw [setsL_n] at hi
  refine part_bits.mpr fun j h => ?_
  rw [Nat.testBit_two_pow_sub_one]
  refine decide_eq_true (Nat.lt_of_not_le fun z => ?_)
  rw [Nat.testBit_lt_two_pow (Nat.lt_of_lt_of_le hi (Nat.pow_le_pow_right (by decide) z))] at h
  cases h
theorem sets_irrs : ∀ c, c ≤ 6 → (setsL c).irrs = (List.range c).map (2 ^ ·) := by
  have q : ∀ c : Fin 7, (setsL c.val).irrs = (List.range c.val).map (2 ^ ·) := by decide +kernel
  exact fun c h => q ⟨c, by omega⟩
theorem sets_nodup : ∀ c, c ≤ 6 → (setsL c).names.Nodup := by
  have q : ∀ c : Fin 7, (setsL c.val).names.Nodup := by decide +kernel
  exact fun c h => q ⟨c, by omega⟩
theorem chain_nodup {n : Nat} (h : n ≤ 64) : (chainL n).names.Nodup := by
  have q : (chainL 64).names.Nodup := by decide +kernel
  have e : (chainL n).names = (chainL 64).names.take n := by
    show (List.range n).map natS = ((List.range 64).map natS).take n
    rw [← List.map_take, List.take_range, Nat.min_eq_left h]
  rw [e]
  exact q.sublist (List.take_sublist _ _)
section
/-- a statement: what is known behind it -/
theorem st_run {t u : TS} {D : Ends} {σ : L2.St} {H : Hp} (Pv : L2.St → Hp → Prop) (h : ∀ D' : Ends, D'.rt = D.rt → (∀ σ' H', Pv σ' H' → D'.nx σ' H') → t D' σ H) (q : ∀ σ' H', Pv σ' H' → u D σ' H') : tSeq t u D σ H := h _ rfl q
theorem rg_run {te : TE} {g : TG} {tb u : TS} {D : Ends} {σ : L2.St} {H : Hp} (Pv : Int → Hp → Prop) (h : ∀ Q' : V → Hp → Prop, (∀ n H', Pv n H' → Q' (.int n) H') → te σ H Q')
    (q : ∀ n H', Pv n H' → tSeq (tFor (iRng1 (tCons (tC (.int n)) tNil)) g tb) u D σ H') : tSeq (tFor (iRng1 (tCons te tNil)) g tb) u D σ H := h _ fun n H' p => q n H' p
/-- behind a new instance's __init__ -/
theorem made_same {H H' : Hp} {x dx : Addr} {o o2 : HO} (hx : H x = none) (hd : H dx = none) (b : But x (upd (upd H dx o) x o2) H') : Same H H' := fun c u hc => by
  have n1 := ne_of_none hc hx
  have n2 := ne_of_none hc hd
  exact b c u n1 (by rw [upd_ne n1, upd_ne n2]; exact hc)
theorem natV_int (l : List Nat) : natV l = (l.map fun i : Nat => (i : Int)).map V.int := by unfold natV; rw [List.map_map]; rfl
end
theorem str_at' {xs : List Str} {d : Int} (h0 : 0 ≤ d) (h1 : d < xs.length) : ∃ x, x ∈ xs ∧ atI (xs.map V.str) d = some (.str x) := by
  have hl : d.toNat < xs.length := by omega
  refine ⟨xs[d.toNat], List.getElem_mem hl, ?_⟩
  have e : d = (d.toNat : Int) := by omega
  have r : atI (xs.map V.str) (d.toNat : Int) = some (.str xs[d.toNat]) := atI_nat (by rw [List.getElem?_map, List.getElem?_eq_getElem hl]; rfl)
  rw [← e] at r
  exact r
/-! ### list.count of flat items -/
section
open PySem.Spec PyProof.Rows
variable {X : Cx}
theorem countP_eqU {x : V} : ∀ {xs : List V} {us : List Value}, Vals xs us → xs.all flatV = true → us.countP (eqU x) = xs.countP fun y => eqV y x
  | _, _, .nil, _ => rfl
  | y :: xs, u :: us, .cons r t, f => by
    rw [List.all_cons, Bool.and_eq_true] at f
    rw [List.countP_cons, List.countP_cons, countP_eqU t f.2, eqU_of r f.1]
def rCntF (K : PySem.W.Frag) : V → List V → Hp → VK → Prop := fun x xs H Q => ∃ (p : Addr) (ys : List V) (y : V), x = .ref p ∧ xs = [y] ∧ SqL K H p ys ∧ flatV y = true ∧ ys.all flatV = true ∧ Q (.int (ys.countP (fun z => eqV z y) : Nat)) H
theorem mt_countF : MtR X "list.count" (rCntF X.K) := by
  intro pins s σ H x xs v us Q I rx rxs h
  obtain ⟨p, ys, y, rfl, rfl, hs, fy, fys, q⟩ := h
  cases rx
  obtain ⟨uy, rfl, ry⟩ := rxs.one
  obtain ⟨its, rv, ⟨⟨cls, dd, dt, sl⟩, n, ho, hc, hdn, hd⟩, hlen⟩ := I.list hs
  simp only at hc hd
  subst hc hd
  refine call_meets PySem.F.slot_list_count ⟨_, ho, rfl⟩ PySem.F.entry_list_count (PySem.F.args_list_count_2 _ _)
    (SeqAt.list_countAt p its.toArray n dd sl uy (eqU y)) ⟨ho, fun w hw => mem_eqAt ry fy rv fys w (by simpa using hw), ?_⟩
  have ec : its.toArray.toList.countP (eqU y) = ys.countP fun z => eqV z y := countP_eqU rv fys
  refine ⟨.int (ys.countP (fun z => eqV z y) : Nat), H, I.tok _, ⟨s.toks, ?_⟩, q⟩
  show Value.int ((its.toArray.toList.countP (eqU y) : Nat) : Int) s.toks = _
  rw [ec]
theorem kx_mt_countF {X : Cx} (K : PySem.W.Frag) (h : X.K = K := by rfl) : MtR X "list.count" (rCntF K) := h ▸ mt_countF
theorem kx_mt_index {X : Cx} (K : PySem.W.Frag) (h : X.K = K := by rfl) : MtR X "list.index" (rIndex K) := h ▸ mt_index
theorem kx_mt_tindexF {X : Cx} (K : PySem.W.Frag) (h : X.K = K := by rfl) : MtR X "tuple.index" (rTupIx K) := h ▸ mt_tindexF
end
/-! ### the plain law: rows of pairs -/
/-- from a, along at most k pairs, to b -/
def reachK (ps : List (Nat × Nat)) : Nat → Nat → Nat → Bool
  | 0, a, b => a == b
  | k + 1, a, b => reachK ps k a b || ps.any fun q => q.2 == b && reachK ps k a q.1
inductive Reach (ps : List (Nat × Nat)) (a : Nat) : Nat → Prop where
  | here : Reach ps a a
  | step {b c : Nat} : Reach ps a b → (b, c) ∈ ps → Reach ps a c
theorem reachK_sound {ps : List (Nat × Nat)} {a : Nat} : ∀ {k b : Nat}, reachK ps k a b = true → Reach ps a b
  | 0, b, h => by
    have : a = b := by simpa [reachK] using h
    subst this; exact .here
  | k + 1, b, h => by
    rw [reachK, Bool.or_eq_true] at h
    rcases h with h | h
    · exact reachK_sound h
    · obtain ⟨⟨l, u⟩, hq, h2⟩ := List.any_eq_true.mp h
      rw [Bool.and_eq_true] at h2
      have e : u = b := by simpa using h2.1
      subst e
      exact .step (reachK_sound h2.2) hq
/-- what is closed under the pairs holds all that is reached -/
theorem Reach.of_closed {ps : List (Nat × Nat)} {a : Nat} (r : Nat → Prop) (h0 : r a) (hs : ∀ b c, (b, c) ∈ ps → r b → r c) : ∀ {b : Nat}, Reach ps a b → r b
  | _, .here => h0
  | _, .step h m => hs _ _ m (Reach.of_closed r h0 hs h)
theorem Reach.trans {ps : List (Nat × Nat)} {a b : Nat} (h1 : Reach ps a b) : ∀ {c : Nat}, Reach ps b c → Reach ps a c
  | _, .here => h1
  | _, .step h m => .step (Reach.trans h1 h) m
/-- the order of the pairs: closed at k steps -/
theorem reach_iff {ps : List (Nat × Nat)} {n k : Nat} (hp : ∀ q ∈ ps, q.1 < n ∧ q.2 < n) (hc : ∀ a b, a < n → b < n → reachK ps (k + 1) a b = true → reachK ps k a b = true) {a b : Nat} (ha : a < n) : Reach ps a b ↔ reachK ps k a b = true := by
  constructor
  · intro h
    have refl : ∀ j, reachK ps j a a = true := fun j => by
      induction j with
      | zero => simp [reachK]
      | succ j ih => rw [reachK, ih, Bool.true_or]
    refine Reach.of_closed (fun b => reachK ps k a b = true) (refl k) (fun b c m hb => hc a c ha (hp _ m).2 ?_) h
    rw [reachK, Bool.or_eq_true]
    exact .inr (List.any_eq_true.mpr ⟨(b, c), m, by simp [hb]⟩)
  · exact reachK_sound
open Classical in
noncomputable def reachB (ps : List (Nat × Nat)) (a b : Nat) : Bool := decide (Reach ps a b)
open Classical in
theorem reachB_iff {ps : List (Nat × Nat)} {a b : Nat} : reachB ps a b = true ↔ Reach ps a b := by unfold reachB; exact decide_eq_true_iff
/-- the number of marks in rows -/
def marks (n : Nat) (p : Nat → Nat → Bool) : Nat := ((List.range n).map fun b => ((List.range n).filter (p b)).length).sum
theorem sum_le {f g : Nat → Nat} : ∀ {l : List Nat}, (∀ x ∈ l, f x ≤ g x) → (l.map f).sum ≤ (l.map g).sum
  | [], _ => Nat.le_refl _
  | x :: l, h => by
    simp only [List.map_cons, List.sum_cons]
    exact Nat.add_le_add (h x (.head _)) (sum_le fun y hy => h y (.tail _ hy))
theorem sum_lt {f g : Nat → Nat} : ∀ {l : List Nat}, (∀ x ∈ l, f x ≤ g x) → (∃ x ∈ l, f x < g x) → (l.map f).sum < (l.map g).sum
  | [], _, ⟨x, hx, _⟩ => by cases hx
  | x :: l, h, ⟨y, hy, hl⟩ => by
    simp only [List.map_cons, List.sum_cons]
    rcases List.mem_cons.mp hy with e | e
    · subst e
      exact Nat.add_lt_add_of_lt_of_le hl (sum_le fun z hz => h z (.tail _ hz))
    · exact Nat.add_lt_add_of_le_of_lt (h x (.head _)) (sum_lt (fun z hz => h z (.tail _ hz)) ⟨y, e, hl⟩)
theorem filter_len_le {p q : Nat → Bool} : ∀ {l : List Nat}, (∀ x ∈ l, p x = true → q x = true) → (l.filter p).length ≤ (l.filter q).length
  | [], _ => Nat.le_refl _
  | x :: l, h => by
    have ih := filter_len_le (l := l) fun y hy => h y (.tail _ hy)
    have hx := h x (.head _)
    cases e : p x with
    | false =>
      cases e2 : q x <;> simp [List.filter, e, e2] <;> omega
    | true =>
      have e2 := hx e
      simp [List.filter, e, e2]; omega
theorem filter_len_lt {p q : Nat → Bool} : ∀ {l : List Nat}, (∀ x ∈ l, p x = true → q x = true) → (∃ x ∈ l, p x = false ∧ q x = true) → (l.filter p).length < (l.filter q).length
  | [], _, ⟨x, hx, _⟩ => by cases hx
  | x :: l, h, ⟨y, hy, h1, h2⟩ => by
    have hx := h x (.head _)
    have ih := filter_len_le (l := l) fun y hy => h y (.tail _ hy)
    rcases List.mem_cons.mp hy with e | e
    · subst e
      simp [List.filter, h1, h2]; omega
    · have ih2 := filter_len_lt (l := l) (fun z hz => h z (.tail _ hz)) ⟨y, e, h1, h2⟩
      cases e3 : p x with
      | false => cases e4 : q x <;> simp [List.filter, e3, e4] <;> omega
      | true => have e4 := hx e3; simp [List.filter, e3, e4]; omega
theorem marks_lt {n : Nat} {p q : Nat → Nat → Bool} (h : ∀ b a, b < n → a < n → p b a = true → q b a = true) {b a : Nat} (hb : b < n) (ha : a < n) (h1 : p b a = false) (h2 : q b a = true) : marks n p < marks n q := by
  unfold marks
  refine sum_lt (fun x hx => filter_len_le fun y hy => h x y (List.mem_range.mp hx) (List.mem_range.mp hy)) ⟨b, List.mem_range.mpr hb, filter_len_lt (fun y hy => h b y hb (List.mem_range.mp hy)) ⟨a, List.mem_range.mpr ha, h1, h2⟩⟩
theorem sum_rep (m : Nat) : ∀ k, (List.replicate k m).sum = k * m
  | 0 => by simp
  | k + 1 => by rw [List.replicate_succ, List.sum_cons, sum_rep m k, Nat.succ_mul]; omega
theorem marks_le (n : Nat) (p : Nat → Nat → Bool) : marks n p ≤ n * n := by
  unfold marks
  have : ((List.range n).map fun b => ((List.range n).filter (p b)).length).sum ≤ ((List.range n).map fun _ => n).sum := sum_le fun x _ => filter_le _ _
  rw [List.map_const', List.length_range, sum_rep] at this
  exact this
/-! ### comprehensions of two fors -/
section
theorem lc2_it {J : It} {n : Nat} {G : Hp → Prop} {Y : Nat → Hp → V → Hp → Prop} (w : Walk J n G Y) {g : TG} {tt : TT} {vs : List Nat} {σ : L2.St} {H1 : Hp} {D : Addr} {Qd : Hp → Prop} {In : L2.St → Hp → (Hp → Prop) → Prop} (Pv : Nat → Hp → Prop) (h0 : Pv 0 (upd H1 D (.lst [])))
    (hG : ∀ i H, i ≤ n → Pv i H → G H)
    (hs : ∀ i x H H', i < n → Pv i H → Y i H x H' → g x (wipe σ vs) H' fun σ2 H2 => wipe σ2 vs = wipe σ vs ∧ tt σ2 H2 fun b H3 => if b = true then In σ2 H3 (Pv (i + 1)) else Pv (i + 1) H3) (hd : ∀ H, Pv n H → Qd H) :
    ∃ W : Nat → Nat → Hp → Prop, (∃ m, W 0 m (upd H1 D (.lst []))) ∧ ∀ i m H, W i m H →
      (J.stop i H ∧ Qd H) ∨ (J.go i H ∧ ∃ Nx : Hp → Prop, (∀ H', Nx H' → ∃ m', m' < m ∧ W (i + 1) m' H') ∧ ∀ x H', J.yld i H x H' → g x (wipe σ vs) H' fun σ2 H2 => wipe σ2 vs = wipe σ vs ∧ tt σ2 H2 fun b H3 => if b = true then In σ2 H3 Nx else Nx H3) := by
  refine ⟨fun i m H => m = n - i ∧ i ≤ n ∧ Pv i H, ⟨n, rfl, Nat.zero_le _, h0⟩, fun i m H ⟨em, hi, p⟩ => ?_⟩
  subst em
  have q := hG i H hi p
  rcases Nat.lt_or_ge i n with hlt | hge
  · exact .inr ⟨w.goes i H hlt q, Pv (i + 1), fun H' p' => ⟨n - (i + 1), by omega, rfl, hlt, p'⟩, fun x H' y => hs i x H H' hlt p (w.yields i H x H' hlt q y)⟩
  · have e : i = n := by omega
    subst e
    exact .inl ⟨w.stops H q, hd H p⟩
theorem in_fold {J : It} {n : Nat} {G : Hp → Prop} {Y : Nat → Hp → V → Hp → Prop} (w : Walk J n G Y) {g : TG} {tt : TT} {te : TE} {vs : List Nat} {σ : L2.St} {H1 : Hp} {D : Addr} {Qd : Hp → Prop} (Pv : Nat → Hp → Prop) (h0 : Pv 0 H1) (hG : ∀ i H, i ≤ n → Pv i H → G H)
    (hs : ∀ i x H H', i < n → Pv i H → Y i H x H' → g x (wipe σ vs) H' fun σ2 H2 => wipe σ2 vs = wipe σ vs ∧ tt σ2 H2 fun b H3 => if b = true then te σ2 H3 fun y H4 => ∃ acc, H4 D = some (.lst acc) ∧ acc.length < sizeLine ∧ Pv (i + 1) (upd H4 D (.lst (acc ++ [y]))) else Pv (i + 1) H3)
    (hd : ∀ H, Pv n H → Qd H) :
    ∃ W : Nat → Nat → Hp → Prop, (∃ m, W 0 m H1) ∧ ∀ i m H, W i m H →
      (J.stop i H ∧ Qd H) ∨ (J.go i H ∧ ∃ Nx : Hp → Prop, (∀ H', Nx H' → ∃ m', m' < m ∧ W (i + 1) m' H') ∧ ∀ x H', J.yld i H x H' → g x (wipe σ vs) H' fun σ2 H2 => wipe σ2 vs = wipe σ vs ∧ tt σ2 H2 fun b H3 =>
        if b = true then te σ2 H3 fun y H4 => ∃ acc, H4 D = some (.lst acc) ∧ acc.length < sizeLine ∧ Nx (upd H4 D (.lst (acc ++ [y]))) else Nx H3) := by
  refine ⟨fun i m H => m = n - i ∧ i ≤ n ∧ Pv i H, ⟨n, rfl, Nat.zero_le _, h0⟩, fun i m H ⟨em, hi, p⟩ => ?_⟩
  subst em
  have q := hG i H hi p
  rcases Nat.lt_or_ge i n with hlt | hge
  · exact .inr ⟨w.goes i H hlt q, Pv (i + 1), fun H' p' => ⟨n - (i + 1), by omega, rfl, hlt, p'⟩, fun x H' y => hs i x H H' hlt p (w.yields i H x H' hlt q y)⟩
  · have e : i = n := by omega
    subst e
    exact .inl ⟨w.stops H q, hd H p⟩
end
/-! ### {**d, k: v} -/
section
open PySem.Spec PyProof.Rows
section
variable {prog : Program} {w : World} {K : Type} [DecidableEq K] {knd : KeyKind prog w K} {A : Around} {E : Value → Shared → Prop} {s : Shared}
theorem wpAny_dictPut_pairs {d : Addr} {kvs : List (K × Value)} {k : K} {key v : Value} {Q : Unit → Shared → Prop} (hkey : knd.is k key = true) (hm : s.heap.DictOf knd d kvs)
    (hQ : ∀ h', h'.DictOf knd d (stored kvs k v) → Heap.SameBut d s.heap h' → Q () { s with heap := h' })
    (hsz : kvs.length ≤ sizeLine := by size_fits) :
    wpAny (model prog w) A (dictPut d (knd.hash k) key v) Q E s := by
  obtain ⟨o, es, ep, ho, hc, hd, hk, hp, hn⟩ := hm
  have hes : es.size ≤ sizeLine := by have e1 := hp.length; have e2 : es.toList.length = es.size := by simp
                                      omega
  unfold dictPut
  refine wpAny_bind (wpAny_dictFind_of hkey ho hd hk ?_)
  have hidx : (es.findIdx? fun e => knd.is k e.key) = kvs.findIdx? fun kv => decide (kv.1 = k) := by
    rw [← hp.findIdx k]; obtain ⟨l⟩ := es; simp
  cases hi : es.findIdx? fun e => knd.is k e.key with
  | some i =>
    refine (wpAny_updateDict ho hd (hQ _ ⟨_, _, ep, Heap.get?_update_self _ ho (Obj.isFreed_of_dict (Obj.data_mapDict hd _)),
      hc.mapDict _, Obj.data_mapDict hd _, hk.modify _ _, ?_, ?_⟩ (Heap.SameBut.update ..)))
    · rw [stored, if_pos (any_of_findIdx_some (hidx ▸ hi))]
      have hl : (es.toList.findIdx? fun e => knd.is k e.key) = some i := by rw [← hi]; obtain ⟨l⟩ := es; simp
      have := hp.modify hn hl v
      obtain ⟨l⟩ := es
      simpa using this
    · rw [stored, if_pos (any_of_findIdx_some (hidx ▸ hi)), keys_map_store]; exact hn
  | none =>
    have hnot : k ∉ kvs.map (·.1) := not_mem_of_findIdx_none (hidx ▸ hi)
    have hany : ¬ (kvs.any fun kv => decide (kv.1 = k)) = true := by
      rw [List.any_eq_true]; rintro ⟨kv, hkv, he⟩
      exact hnot (List.mem_map.mpr ⟨kv, hkv, of_decide_eq_true he⟩)
    refine (wpAny_updateDictKeys (hz := hes) ho hd (hQ _ ⟨_, _, ep + 1, Heap.get?_update_self _ ho (Obj.isFreed_of_dict (Obj.data_mapDictKeys hd _)),
      hc.mapDictKeys _, Obj.data_mapDictKeys hd _, hk.push hkey _, ?_, ?_⟩ (Heap.SameBut.update ..)))
    · rw [stored, if_neg hany]
      have := hp.append hkey (knd.hash k) v
      obtain ⟨l⟩ := es
      simpa using this
    · rw [stored, if_neg hany, List.map_append, List.nodup_append]
      refine ⟨hn, by simp, ?_⟩
      intro a ha b hb
      simp only [List.map_cons, List.map_nil, List.mem_singleton] at hb
      subst hb
      exact fun e => hnot (e ▸ ha)
theorem dict_iter : typeLookup (.type "dict") "__iter__" = pure (some (.builtin "dict.__iter__")) := by rw [typeLookup_type, builtinLookup_eq_fast]; kernel_rfl
theorem wpAny_mergeMapping_dict {d o : Addr} {kvs more : List (K × Value)} {Q : Unit → Shared → Prop} (hdo : d ≠ o) (hoS : (o == sysModules) = false)
    (hd : s.heap.DictOf knd d kvs) (ho : s.heap.DictOf knd o more) (hkr : ∀ k v, knd.is k v = true → ∀ a, v ≠ .ref a)
    (hQ : ∀ h', h'.DictOf knd d (merged kvs more) → h'.DictOf knd o more → Heap.SameBut d s.heap h' → Q () { s with heap := h' })
    (hsz : kvs.length + more.length ≤ sizeLine := by size_fits) :
    wpAny (model prog w) A (mergeMapping d (.ref o) false) Q E s := by
  obtain ⟨od, esd, epd, hod, hcd, hdd, hkd, hpd, hnd⟩ := id hd
  obtain ⟨oo, eso, epo, hoo, hco, hdo', hko, hpo, hno⟩ := id ho
  have hlen : more.length = eso.size := by rw [← hpo.length]; simp
  unfold mergeMapping
  refine wpAny_bind (wpAny_isInstance (T := "dict") ho.typeIs PySem.F.sub_dict_dict ?_)
  rw [if_pos rfl]
  refine wpAny_bind (wpAny_specialOf ho.typeIs dict_iter ?_)
  refine wpAny_bind (wpAny_pure ?_)
  have loop : wpAny (model prog w) A (do
      let l ← dictEntries o
      let epoch ← dictEpoch o
      forIn (List.range l.size) PUnit.unit fun i (_ : PUnit) => (do
          let l' ← dictEntries o
          match l'[i]? with
            | some e => do
              holding [e.key, e.val] (dictPut d e.hash e.key e.val)
              let ep' ← dictEpoch o
              if (ep' != epoch) = true then do
                  (unsupported "dict.changed-during-merge" : Sem PUnit)
                  pure (ForInStep.yield PUnit.unit)
                else pure (ForInStep.yield PUnit.unit)
            | _ => do
              (unsupported "dict.changed-during-merge" : Sem PUnit)
              pure (ForInStep.yield PUnit.unit) : Sem (ForInStep PUnit))
      pure ()) Q E s := by
    refine wpAny_bind (wpAny_dictEntries hoo hdo' ?_)
    refine wpAny_bind (wpAny_dictEpoch hoo hdo' ?_)
    refine wpAny_bind ?_
    rw [List.range_eq_range']
    refine wpAny_forIn_list _
      (fun rest _ s' => ∃ h' i, s' = { s with heap := h' } ∧ rest = List.range' i (eso.size - i) ∧ i ≤ eso.size ∧ h'.DictOf knd d (merged kvs (more.take i)) ∧ h'.get? o = some oo ∧ Heap.SameBut d s.heap h')
      _ ?_ ?_ _ _ ⟨s.heap, 0, rfl, by simp, Nat.zero_le _, by simpa [merged] using hd, hoo, Heap.SameBut.refl _ _⟩
    · rintro x rest b s' ⟨h', i, rfl, hr, hi, hd', hoo', hs'⟩
      have hlt : i < eso.size := by
        rcases Nat.lt_or_ge i eso.size with h | h
        · exact h
        · rw [Nat.sub_eq_zero_of_le h] at hr; simp at hr
      obtain ⟨rfl, hrest⟩ : x = i ∧ rest = List.range' (i + 1) (eso.size - (i + 1)) := by
        have e : eso.size - i = (eso.size - (i + 1)) + 1 := by omega
        rw [e, List.range'_succ] at hr
        injection hr with h1 h2
        exact ⟨h1, h2⟩
      refine wpAny_bind (wpAny_dictEntries hoo' hdo' ?_)
      rw [Array.getElem?_eq_getElem hlt]
      obtain ⟨kv, hkv⟩ : ∃ kv, more[x]? = some kv := ⟨more[x]'(by rw [hlen]; exact hlt), List.getElem?_eq_getElem _⟩
      obtain ⟨k, v⟩ := kv
      obtain ⟨hkey, hval⟩ := hpo.get? (e := eso[x]) (by simp [hlt]) hkv
      obtain ⟨k', hkey', hhash⟩ := hko eso[x] (Array.getElem_mem hlt)
      obtain rfl : k' = k := knd.inj _ _ _ hkey' hkey
      show wpAny _ _ (holding [eso[x].key, eso[x].val] (dictPut d eso[x].hash eso[x].key eso[x].val) >>= _) _ _ _
      rw [hhash, hval]
      have hmx : (merged kvs (more.take x)).length ≤ sizeLine := by
        have e1 := merged_length_le kvs (more.take x)
        have e2 : (more.take x).length ≤ more.length := by rw [List.length_take]; omega
        omega
      refine wpAny_bind (wpAny_holding (wpAny_dictPut_pairs (hsz := hmx) hkey hd' fun h'' hd'' hs'' => ?_))
      have hoo'' : h''.get? o = some oo := (hs''.2 o (Ne.symm hdo)).trans hoo'
      refine wpAny_bind (wpAny_dictEpoch hoo'' hdo' ?_)
      rw [if_neg (by simp)]
      exact wpAny_pure ⟨h'', x + 1, rfl, hrest, hlt, by rw [merged_take_succ kvs more x (k', v) hkv]; exact hd'', hoo'', hs'.trans hs''⟩
    · rintro b s' ⟨h', i, rfl, hr, hi, hd', hoo', hs'⟩
      have hin : i = eso.size := by
        rcases Nat.lt_or_ge i eso.size with h | h
        · have e : eso.size - i = (eso.size - (i + 1)) + 1 := by omega
          rw [e, List.range'_succ] at hr; exact nomatch hr
        · exact Nat.le_antisymm hi h
      refine wpAny_pure (hQ h' ?_ ⟨oo, eso, epo, hoo', hco, hdo', hko, hpo, hno⟩ hs')
      rw [hin, ← hlen, List.take_length] at hd'; exact hd'
  have et : (some (Value.builtin "dict.__iter__") == some (Value.builtin "dict.__iter__")) = true := by decide +kernel
  rw [et]
  dsimp only
  rw [if_neg (by rw [hoS]; exact Bool.false_ne_true)]
  refine wpAny_bind (wpAny_dictEntries hod hdd ?_)
  split
  · refine wpAny_bind (wpAny_dictEntries hoo hdo' ?_)
    refine wpAny_bind ?_
    rw [← Array.forIn_toList]
    refine wpAny_forIn_list _ (fun rest _ s' => s' = s ∧ ∀ e ∈ rest, e ∈ eso.toList) _ ?_ ?_ _ _ ⟨rfl, fun e he => he⟩
    · rintro e rest b s' ⟨rfl, hm⟩
      have he := hm e (.head _)
      obtain ⟨k', hkey', hhash⟩ := hko e (by simpa using he)
      have nr := hkr k' e.key hkey'
      split
      · rename_i a ea
        exact absurd ea (nr a)
      · exact wpAny_pure ⟨rfl, fun e' h' => hm e' (.tail _ h')⟩
    · rintro b s' ⟨rfl, _⟩
      exact loop
  · exact loop
theorem wpAny_Dict_star {env : Env} {k v0 v : Expr} {pos : Pos} {Q : Value → Shared → Prop} (hkr : ∀ k v, knd.is k v = true → ∀ a, v ≠ .ref a)
    (h : wpAny (model prog w) A (eval v0 env) (fun m s₁ => ∃ o more, m = .ref o ∧ s.heap.objs.size ≠ o ∧ (o == sysModules) = false ∧ s₁.heap.DictOf knd s.heap.objs.size [] ∧ s₁.heap.DictOf knd o more ∧ more.length + 1 ≤ sizeLine ∧
      ∀ h', h'.DictOf knd s.heap.objs.size (merged [] more) → h'.DictOf knd o more → Heap.SameBut s.heap.objs.size s₁.heap h' →
        wpAny (model prog w) A (evalPairs (pairTrees [some k] [v] env pos)) (fun vs s₂ => ∃ kvs cur, Carries knd vs kvs ∧ kvs.length = 1 ∧ cur.length + 1 ≤ sizeLine ∧ s₂.heap.DictOf knd h'.objs.size [] ∧ s₂.heap.DictOf knd s.heap.objs.size cur ∧ s.heap.objs.size ≠ h'.objs.size ∧ (h'.objs.size == sysModules) = false ∧
          ∀ h2 h3, h2.DictOf knd h'.objs.size (merged [] kvs) → Heap.SameBut h'.objs.size s₂.heap h2 → h3.DictOf knd s.heap.objs.size (merged cur (merged [] kvs)) → Heap.SameBut s.heap.objs.size h2 h3 → Q (.ref s.heap.objs.size) { s₂ with heap := h3, toks := s₂.toks + vs.length }) E
          { s₁ with heap := h'.push { cls := .type "dict", data := .dict #[] } }) E
      { s with heap := s.heap.push { cls := .type "dict", data := .dict #[] } }) :
    wpAny (model prog w) A (eval (.Dict [none, some k] [v0, v] pos) env) Q E s := by
  rw [arm_eval_Dict]
  have hshape : (evalEachOpt [none, some k] env).zip ((evalEach [v0, v] env).map fun v => do let x ← v; standAt pos; pure x) = (none, (do let x ← eval v0 env; standAt pos; pure x)) :: (pairTrees [some k] [v] env pos).map fun p => (some p.1, p.2) := rfl
  rw [hshape]
  unfold dictDisplay
  dsimp only [pairTrees, List.map]
  refine wpAny_bind (wpAny_standAt ?_)
  refine wpAny_bind ?_
  rw [List.forIn_cons]
  refine wpAny_bind ?_
  dsimp only
  rw [if_pos (by rfl)]
  refine wpAny_bind (wpAny_pure ?_)
  dsimp only
  refine wpAny_bind (wpAny_alloc ?_)
  refine wpAny_bind (wpAny_holding (wpAny_bind (wpAny_mono h (fun m s₁ h₁ => ?_) fun _ _ e => e)))
  obtain ⟨o, more, rfl, ne, hoS, hd, ho, hz, q⟩ := h₁
  refine wpAny_bind (wpAny_standAt (wpAny_pure ?_))
  refine wpAny_bind (wpAny_onRaise (wpAny_tryCatch (wpAny_onRaise (wpAny_holding (wpAny_mergeMapping_dict (hsz := by rw [List.length_nil]; omega) ne hoS hd ho hkr fun h' hd' ho' sb => ?_)))))
  have q := q h' hd' ho' sb
  refine wpAny_pure ?_
  dsimp only
  rw [List.forIn_cons]
  refine wpAny_bind ?_
  dsimp only
  rw [if_neg (by simp)]
  refine wpAny_pure ?_
  dsimp only
  rw [List.forIn_nil]
  refine wpAny_pure ?_
  dsimp only
  rw [if_neg (by simp)]
  refine wpAny_bind (wpAny_bind (wpAny_holding (wpAny_subDict (knd := knd) (by simp) (wpAny_mono q (fun vs s₂ h₂ => ?_) fun _ _ e => e))))
  obtain ⟨kvs, cur, c, l1, lc, d1, d2, n1, n2, q2⟩ := h₂
  refine ⟨kvs, c, d1, fun h2 e1 e2 => ?_⟩
  have ml := merged_length_le ([] : List (K × Value)) more
  have kl := merged_length_le ([] : List (K × Value)) kvs
  rw [List.length_nil] at ml kl
  refine wpAny_bind (wpAny_onRaise (wpAny_holding (wpAny_mergeMapping_dict (hsz := by omega) n1 n2 (d2.sameBut e2 n1) e1 hkr fun h3 f1 f2 f3 => ?_)))
  exact wpAny_pure (wpAny_pure (q2 h2 h3 e1 e2 f1 f3))
end
section
open L2
theorem key_noref {P : Program} {w : World} (k : Key) (v : Value) (h : (mixKind P w).is k v = true) (a : Addr) : v ≠ .ref a := by
  rcases keyIs_shape h with ⟨i, t, rfl, rfl⟩ | ⟨x, t, rfl, rfl⟩ <;> exact fun e => nomatch e
/-- {**d, k: v}: a new dict with d's entries, then k: v -/
def tStarD (t0 tk tv : TE) : TE := fun σ H Q => ∀ p, H p = none → t0 σ (upd H p (.dK [])) fun x H1 => ∃ (o : Addr) (kvs : List (Key × V)), x = .ref o ∧ H1 p = some (.dK []) ∧ H1 o = some (.dK kvs) ∧ p ≠ o ∧ kvs.length < sizeLine ∧
  ∀ e, upd H1 p (.dK (mergeK [] kvs)) e = none → tk σ (upd (upd H1 p (.dK (mergeK [] kvs))) e (.dK [])) fun y H2 => tv σ H2 fun z H3 => ∃ k : Key, y = kV k ∧ H3 p = some (.dK (mergeK [] kvs)) ∧ H3 e = some (.dK []) ∧ p ≠ e ∧
    Q (.ref p) (upd (upd H3 e (.dK (mergeK [] [(k, z)]))) p (.dK (mergeK (mergeK [] kvs) (mergeK [] [(k, z)]))))
theorem pe_starD {X : Cx} {pos : Pos} {k v v0 : Expr} {t0 tk tv : TE} (h0 : PE X v0 t0) (hp : PPs X pos [some k] [v] [(tk, tv)]) : PE X (.Dict [none, some k] [v0, v] pos) (tStarD t0 tk tv) := by
  refine ⟨fun pins s σ H Q I q => ?_⟩
  have hn := I.hok.fresh (Nat.le_refl s.heap.objs.size)
  have I1 := I.laid (a := s.heap.objs.size) (o := .dK []) (h' := s.heap.push { cls := .type "dict", data := .dict #[] }) (t' := s.toks) (fun _ _ q => Heap.get?_push_of_some _ q) (Nat.le_refl _) (dk_empty s.heap I.big)
  refine wpAny_Dict_star (knd := mixKind X.prog X.w) key_noref (thn (h0.run pins _ σ _ _ I1 (q _ hn)) fun u s1 ⟨x, H1, I2, ru, o, kvs, ex, e1, e2, ne, lk, q2⟩ => ?_)
  subst ex
  cases (show u = Value.ref o from ru)
  obtain ⟨z1, hd1, vs0, r0, dd0⟩ := dk_of I2.hok e1
  cases r0
  obtain ⟨z2, hd2, more, rm, dm⟩ := dk_of I2.hok e2
  have ml : more.length = kvs.length := rm.length.symm
  refine ⟨o, more, rfl, ne, hd2, dd0, dm, by omega, fun h' dp do' sb => ?_⟩
  have mz : (mergeK [] kvs).length ≤ sizeLine := by
    have h1 := length_mergeK kvs []
    rw [List.length_nil] at h1
    omega
  have I3 := d_write (t' := s1.toks) I2 (by rw [e1]; exact True.intro) sb (let ⟨q, _, _, hq, _⟩ := dp; ⟨q, hq⟩) (dk_new mz hd1 (rm.merge .nil) dp)
  have hn3 := I3.hok.fresh (Nat.le_refl h'.objs.size)
  have I4 := I3.laid (a := h'.objs.size) (o := .dK []) (h' := h'.push { cls := .type "dict", data := .dict #[] }) (t' := s1.toks) (fun _ _ q => Heap.get?_push_of_some _ q) (Nat.le_refl _) (dk_empty h' I3.big)
  refine thn (hp.run pins _ σ _ (fun ps H3 => match ps with
    | [(y, z)] => ∃ k : Key, y = kV k ∧ H3 s.heap.objs.size = some (.dK (mergeK [] kvs)) ∧ H3 h'.objs.size = some (.dK []) ∧ s.heap.objs.size ≠ h'.objs.size ∧
      Q (.ref s.heap.objs.size) (upd (upd H3 h'.objs.size (.dK (mergeK [] [(k, z)]))) s.heap.objs.size (.dK (mergeK (mergeK [] kvs) (mergeK [] [(k, z)]))))
    | _ => False) I4 (q2 _ hn3)) fun vs s2 ⟨ps, H3, I5, rel, q3⟩ => ?_
  match ps, rel, q3 with
  | [(y, z)], rel, ⟨k, ey, a1, a2, ne2, q4⟩ =>
    subst ey
    obtain ⟨rs, c, rk⟩ := carries_of (P := X.prog) (w := X.w) (kvs := [(k, z)]) rel
    obtain ⟨y1, hd5, mm, rmm, dmm⟩ := dk_of I5.hok a1
    obtain ⟨y2, hd6, vs6, r6, dd6⟩ := dk_of I5.hok a2
    cases r6
    have rl : rs.length = 1 := rk.length.symm
    have mlen : mm.length = (mergeK [] kvs).length := rmm.length.symm
    have mz1 : (mergeK [] kvs).length + 1 ≤ sizeLine := by
      have h1 := length_mergeK kvs []
      rw [List.length_nil] at h1
      omega
    refine ⟨rs, mm, c, rl, by omega, dd6, dmm, ne2, hd6, fun h2 h3 d1 sb1 d2 sb2 => ⟨.ref s.heap.objs.size, _, ?_, rfl, q4⟩⟩
    have z1' : (mergeK [] [(k, z)]).length ≤ sizeLine := by
      have h1 := length_mergeK [(k, z)] []
      rw [List.length_nil, show ([(k, z)] : List (Key × V)).length = 1 from rfl] at h1
      omega
    have z2' : (mergeK (mergeK [] kvs) (mergeK [] [(k, z)])).length ≤ sizeLine := by
      have h1 := length_mergeK (mergeK [] [(k, z)]) (mergeK [] kvs)
      have h2 := length_mergeK [(k, z)] []
      rw [List.length_nil, show ([(k, z)] : List (Key × V)).length = 1 from rfl] at h2
      omega
    have I6 := d_write (t' := s2.toks) I5 (by rw [a2]; exact True.intro) sb1 (let ⟨q, _, _, hq, _⟩ := d1; ⟨q, hq⟩) (dk_new z1' hd6 (rk.merge .nil) d1)
    have a6 : upd H3 h'.objs.size (.dK (mergeK [] [(k, z)])) s.heap.objs.size = some (.dK (mergeK [] kvs)) := by rw [upd_ne ne2]; exact a1
    exact d_write (s := { s2 with heap := h2, toks := s2.toks }) I6 (by rw [a6]; exact True.intro) sb2 (let ⟨q, _, _, hq, _⟩ := d2; ⟨q, hq⟩) (dk_new z2' hd1 ((rk.merge .nil).merge rmm) d2)
/-! #### two dicts compared: ints and texts in them -/
def DFlat (ks ls : List (Key × V)) : Prop := ∀ p ∈ ks, ∀ v, valV ls p.1 = some v → (∃ i j, p.2 = V.int i ∧ v = V.int j) ∨ ∃ x y, p.2 = V.str x ∧ v = V.str y
def dEq (ks ls : List (Key × V)) : Bool := ks.length == ls.length && ks.all fun p => decide (valV ls p.1 = some p.2)
theorem hits_flat {A : Around} {s : Shared} {kvs : List (Key × V)} {vb : List (Key × Value)} (rb : KV kvs vb) {ks : List (Key × V)} {va : List (Key × Value)} (ra : KV ks va) :
    DFlat ks kvs → PySem.W.KeqHits A s vb va (ks.all fun p => decide (valV kvs p.1 = some p.2)) := by
  unfold KV at ra
  induction ra with
  | nil => intro _; exact .nil
  | @cons p q ps qs h t ih =>
    intro hp
    obtain ⟨h1, h2⟩ := h
    have ih := ih fun p' hm => hp p' (List.mem_cons_of_mem _ hm)
    obtain ⟨k, v⟩ := q
    have h1' : p.1 = k := h1
    rw [List.all_cons]
    cases e : valV kvs p.1 with
    | none =>
      have rr : RelO none (valueAt vb p.1) := by rw [← e]; exact rb.val p.1
      have hn : valueAt vb p.1 = none := by
        cases hv : valueAt vb p.1 with
        | none => rfl
        | some y => rw [hv] at rr; cases rr
      have ed : decide (none = some p.2) = false := decide_eq_false fun z => nomatch z
      rw [ed, Bool.false_and]
      exact .miss (by rw [← h1']; exact hn)
    | some w =>
      have rr : RelO (some w) (valueAt vb p.1) := by rw [← e]; exact rb.val p.1
      obtain ⟨y, hy, ry⟩ := rr.some_of
      rw [h1'] at hy
      refine .hit hy ?_ ih
      rcases hp p List.mem_cons_self w e with ⟨i, j, e1, e2⟩ | ⟨i, j, e1, e2⟩
      · subst e2
        rw [e1] at h2 ⊢
        obtain ⟨t, rfl⟩ := (show ∃ t, v = Value.int i t from h2)
        obtain ⟨t', rfl⟩ := (show ∃ t, y = Value.int j t from ry)
        have q := SeqAt.EqAt.int_int (A := A) (s := s) i t j t'
        have ed : decide (some (V.int j) = some (V.int i)) = (i == j) := by
          by_cases c : i = j
          · subst c; simp
          · have c' : ¬ j = i := fun z => c z.symm
            rw [decide_eq_false (fun z => c' (by cases z; rfl)), beq_false_of_ne c]
        rw [ed]
        exact q
      · subst e2
        rw [e1] at h2 ⊢
        obtain ⟨t, rfl⟩ := (show ∃ t, v = Value.str i t from h2)
        obtain ⟨t', rfl⟩ := (show ∃ t, y = Value.str j t from ry)
        have q := SeqAt.EqAt.str_str (A := A) (s := s) i t j t'
        have ed : decide (some (V.str j) = some (V.str i)) = (i == j) := by
          by_cases c : i = j
          · subst c; simp
          · have c' : ¬ j = i := fun z => c z.symm
            rw [decide_eq_false (fun z => c' (by cases z; rfl)), beq_false_of_ne c]
        rw [ed]
        exact q
def rEqDD : R2 := fun x y H Q => ∃ a b ks ls, x = .ref a ∧ y = .ref b ∧ H a = some (.dK ks) ∧ H b = some (.dK ls) ∧ DFlat ks ls ∧ Q (.bl (dEq ks ls)) H
def rNeDD : R2 := fun x y H Q => ∃ a b ks ls, x = .ref a ∧ y = .ref b ∧ H a = some (.dK ks) ∧ H b = some (.dK ls) ∧ DFlat ks ls ∧ Q (.bl (!dEq ks ls)) H
theorem op_eqDD {X : Cx} (hu : X.A.units < cLine) : OpR X (compareOp .Eq) rEqDD := by
  intro pins s σ H x y v u Q I rx ry h
  obtain ⟨a, b, ks, ls, rfl, rfl, ea, eb, hp, q⟩ := h
  obtain rfl : v = Value.ref a := rx
  obtain rfl : u = Value.ref b := ry
  obtain ⟨_, ya, va, ra, da⟩ := (show ObjOk X.prog X.w H s.heap a (.dK ks) from I.hok a _ ea)
  obtain ⟨_, yb, vb, rb, db⟩ := (show ObjOk X.prog X.w H s.heap b (.dK ls) from I.hok b _ eb)
  exact PySem.W.keq_eq (knd := mixKind X.prog X.w) ya yb da db hu (fun _ => hits_flat rb ra hp) (fin_bl I q (by rw [← ra.length, ← rb.length]; rfl))
theorem op_neDD {X : Cx} (hu : X.A.units < cLine) : OpR X (compareOp .NotEq) rNeDD := by
  intro pins s σ H x y v u Q I rx ry h
  obtain ⟨a, b, ks, ls, rfl, rfl, ea, eb, hp, q⟩ := h
  obtain rfl : v = Value.ref a := rx
  obtain rfl : u = Value.ref b := ry
  obtain ⟨_, ya, va, ra, da⟩ := (show ObjOk X.prog X.w H s.heap a (.dK ks) from I.hok a _ ea)
  obtain ⟨_, yb, vb, rb, db⟩ := (show ObjOk X.prog X.w H s.heap b (.dK ls) from I.hok b _ eb)
  exact PySem.W.keq_ne (knd := mixKind X.prog X.w) ya yb da db hu (fun _ => hits_flat rb ra hp) (fin_bl I q (by rw [← ra.length, ← rb.length]; rfl))
end
def rTupT (K : PySem.W.Frag) : List V → Hp → VK → Prop := fun xs H Q => ∃ a ys, xs = [V.ref a] ∧ SqT K H a ys ∧ Q (V.ref a) H
theorem kx_call_list_of {X : L2.Cx} (K : PySem.W.Frag) (h : X.K = K := by rfl) : L2.CallR X (.type "list") (fun xs H Q => ∃ p ys, xs = [V.ref p] ∧ (SqL K H p ys ∨ SqT K H p ys) ∧ ∀ l, H l = none → Q (.ref l) (upd H l (.lst ys))) := by subst h; exact L2.call_list_of
theorem kx_sl_tup {X : L2.Cx} (K : PySem.W.Frag) (h : X.K = K := by rfl) : L2.SlR X (L2.rSlT K) := by subst h; exact L2.sl_tup
theorem kx_call_tupleT {X : L2.Cx} (K : PySem.W.Frag) (h : X.K = K := by rfl) : L2.CallR X (.type "tuple") (rTupT K) := h ▸ L2.call_tupleT
theorem _root_.L2.Room.un0 {k : Nat} {A : Around} (r : L2.Room k A) : A.units < cLine := by have := r.un2; omega
def rNotInLX (K : PySem.W.Frag) : L2.R2 := fun x y H Q => ∃ d ds, Dp K H x d ∧ Dp K H y (.list ds) ∧ Shp 190 d ∧ PyData.canLayAll0 ds = true ∧ Q (.bl (!(ds.any fun z => PyData.eqv z d))) H
theorem op_notInLX {X : L2.Cx} (hu : X.A.units + 200 < cLine) : L2.OpR X (compareOp .NotIn) (rNotInLX X.K) := by
  intro pins s σ H x y v u Q I rx ry ⟨d, ds, hd, he, ⟨c1, d1⟩, c2, q⟩
  obtain ⟨as, r1⟩ := Dp.reads I d x v hd rx
  obtain ⟨bs, r2⟩ := Dp.reads I (.list ds) y u he ry
  exact SeqAt.notIn_list_reads r2 r1 c2 c1 (by have := Nat.min_le_right (PyData.depthAll ds) d.depth; omega) ⟨.bl _, H, I, rfl, q⟩
end
def topS (i : Nat) : Stmt := PySem.Challenge.pw_latticewish_k47_whole_long_rows.main.body.getD i (.Pass ⟨0, 0, 0, 0⟩)
abbrev St_parts_of : Stmt := topS 12
abbrev N_parts_of : List Str := ["formula", "at"]
theorem sc_parts_of : FnScope N_parts_of ["formula"] (defScope St_parts_of) := ⟨rfl, rfl, rfl, by decide +kernel, rfl, by decide +kernel, by decide +kernel⟩
abbrev St_check_formula : Stmt := topS 13
abbrev N_check_formula : List Str := ["lattice", "formula", "bound", "part"]
theorem sc_check_formula : FnScope N_check_formula ["lattice", "formula", "bound"] (defScope St_check_formula) := ⟨rfl, rfl, rfl, by decide +kernel, rfl, by decide +kernel, by decide +kernel⟩
abbrev St_values : Stmt := topS 15
abbrev N_values : List Str := ["system", "formula", "found", "state", "place"]
theorem sc_values : FnScope N_values ["system", "formula"] (defScope St_values) := ⟨rfl, rfl, rfl, by decide +kernel, rfl, by decide +kernel, by decide +kernel⟩
abbrev St_rounds : Stmt := topS 16
abbrev N_rounds : List Str := ["system", "formula"]
theorem sc_rounds : FnScope N_rounds ["system", "formula"] (defScope St_rounds) := ⟨rfl, rfl, rfl, by decide +kernel, rfl, by decide +kernel, by decide +kernel⟩
abbrev St_first_place : Stmt := topS 20
abbrev N_first_place : List Str := ["sets", "wanted"]
theorem sc_first_place : FnScope N_first_place ["sets", "wanted"] (defScope St_first_place) := ⟨rfl, rfl, rfl, by decide +kernel, rfl, by decide +kernel, by decide +kernel⟩
abbrev St_parts_among : Stmt := topS 24
abbrev N_parts_among : List Str := ["numbers", "number", "place", "other"]
theorem sc_parts_among : FnScope N_parts_among ["numbers", "number"] (defScope St_parts_among) := ⟨rfl, rfl, rfl, by decide +kernel, rfl, by decide +kernel, by decide +kernel⟩
abbrev St_is_name : Stmt := topS 30
abbrev N_is_name : List Str := ["word", "sign"]
theorem sc_is_name : FnScope N_is_name ["word"] (defScope St_is_name) := ⟨rfl, rfl, rfl, by decide +kernel, rfl, by decide +kernel, by decide +kernel⟩
abbrev St__law_cells : Stmt := topS 34
abbrev N__law_cells : List Str := ["script", "mixed", "cell"]
theorem sc__law_cells : FnScope N__law_cells ["script"] (defScope St__law_cells) := ⟨rfl, rfl, rfl, by decide +kernel, rfl, by decide +kernel, by decide +kernel⟩
abbrev St__law_pick : Stmt := topS 35
abbrev N__law_pick : List Str := ["source", "many", "digit", "number"]
theorem sc__law_pick : FnScope N__law_pick ["source", "many"] (defScope St__law_pick) := ⟨rfl, rfl, rfl, by decide +kernel, rfl, by decide +kernel, by decide +kernel⟩
abbrev St__law_along : Stmt := topS 36
abbrev N__law_along : List Str := ["lattice", "arrows", "last", "found", "k", "row"]
theorem sc__law_along : FnScope N__law_along ["lattice", "arrows", "last"] (defScope St__law_along) := ⟨rfl, rfl, rfl, by decide +kernel, rfl, by decide +kernel, by decide +kernel⟩
abbrev St__law_formulas : Stmt := topS 37
abbrev N__law_formulas : List Str := ["deep", "x", "going", "formulas", "formula", "k"]
theorem sc__law_formulas : FnScope N__law_formulas ["deep"] (defScope St__law_formulas) := ⟨rfl, rfl, rfl, by decide +kernel, rfl, by decide +kernel, by decide +kernel⟩
abbrev St_law : Stmt := topS 38
abbrev N_law : List Str := ["script", "state", "lattice", "many", "states", "k", "arrows", "row", "mark", "told", "system", "deep", "formulas", "dues", "behind", "found", "place", "most", "piece"]
theorem sc_law : FnScope N_law ["script"] (defScope St_law) := ⟨rfl, rfl, rfl, by decide +kernel, rfl, by decide +kernel, by decide +kernel⟩
abbrev St_BadName_init : Stmt := inClass (topS 4) 0
abbrev N_BadName_init : List Str := ["self", "name"]
theorem sc_BadName_init : FnScopeK N_BadName_init ["self", "name"] (defScope St_BadName_init) := ⟨rfl, rfl, rfl, by decide +kernel, rfl, by decide +kernel, by decide +kernel, by decide +kernel⟩
abbrev St_TwiceTold_init : Stmt := inClass (topS 5) 0
abbrev N_TwiceTold_init : List Str := ["self", "name"]
theorem sc_TwiceTold_init : FnScopeK N_TwiceTold_init ["self", "name"] (defScope St_TwiceTold_init) := ⟨rfl, rfl, rfl, by decide +kernel, rfl, by decide +kernel, by decide +kernel, by decide +kernel⟩
abbrev St_UnknownValue_init : Stmt := inClass (topS 7) 0
abbrev N_UnknownValue_init : List Str := ["self", "name"]
theorem sc_UnknownValue_init : FnScopeK N_UnknownValue_init ["self", "name"] (defScope St_UnknownValue_init) := ⟨rfl, rfl, rfl, by decide +kernel, rfl, by decide +kernel, by decide +kernel, by decide +kernel⟩
abbrev St_UnknownState_init : Stmt := inClass (topS 8) 0
abbrev N_UnknownState_init : List Str := ["self", "name"]
theorem sc_UnknownState_init : FnScopeK N_UnknownState_init ["self", "name"] (defScope St_UnknownState_init) := ⟨rfl, rfl, rfl, by decide +kernel, rfl, by decide +kernel, by decide +kernel, by decide +kernel⟩
abbrev St_UnboundName_init : Stmt := inClass (topS 9) 0
abbrev N_UnboundName_init : List Str := ["self", "name"]
theorem sc_UnboundName_init : FnScopeK N_UnboundName_init ["self", "name"] (defScope St_UnboundName_init) := ⟨rfl, rfl, rfl, by decide +kernel, rfl, by decide +kernel, by decide +kernel, by decide +kernel⟩
abbrev St_Evaluation_init : Stmt := inClass (topS 14) 0
abbrev N_Evaluation_init : List Str := ["self", "system", "mark", "state", "name", "start", "end", "has", "lacks"]
theorem sc_Evaluation_init : FnScope N_Evaluation_init ["self", "system"] (defScope St_Evaluation_init) := ⟨rfl, rfl, rfl, by decide +kernel, rfl, by decide +kernel, by decide +kernel⟩
abbrev St_Evaluation_everywhere : Stmt := inClass (topS 14) 1
abbrev N_Evaluation_everywhere : List Str := ["self", "place", "state"]
theorem sc_Evaluation_everywhere : FnScope N_Evaluation_everywhere ["self", "place"] (defScope St_Evaluation_everywhere) := ⟨rfl, rfl, rfl, by decide +kernel, rfl, by decide +kernel, by decide +kernel⟩
abbrev St_Evaluation_places : Stmt := inClass (topS 14) 2
abbrev N_Evaluation_places : List Str := ["self", "formula", "names", "head", "bottom", "state", "first", "second"]
theorem sc_Evaluation_places : FnScope N_Evaluation_places ["self", "formula", "names"] (defScope St_Evaluation_places) := ⟨rfl, rfl, rfl, by decide +kernel, rfl, by decide +kernel, by decide +kernel⟩
abbrev St_Evaluation_some_at : Stmt := inClass (topS 14) 3
abbrev N_Evaluation_some_at : List Str := ["self", "state", "inner", "found", "end", "has", "lacks"]
theorem sc_Evaluation_some_at : FnScope N_Evaluation_some_at ["self", "state", "inner"] (defScope St_Evaluation_some_at) := ⟨rfl, rfl, rfl, by decide +kernel, rfl, by decide +kernel, by decide +kernel⟩
abbrev St_Evaluation_all_at : Stmt := inClass (topS 14) 4
abbrev N_Evaluation_all_at : List Str := ["self", "state", "inner", "found", "end", "has", "lacks"]
theorem sc_Evaluation_all_at : FnScope N_Evaluation_all_at ["self", "state", "inner"] (defScope St_Evaluation_all_at) := ⟨rfl, rfl, rfl, by decide +kernel, rfl, by decide +kernel, by decide +kernel⟩
abbrev St_Evaluation_by_rounds : Stmt := inClass (topS 14) 5
abbrev N_Evaluation_by_rounds : List Str := ["self", "formula", "names"]
theorem sc_Evaluation_by_rounds : FnScope N_Evaluation_by_rounds ["self", "formula", "names"] (defScope St_Evaluation_by_rounds) := ⟨rfl, rfl, rfl, by decide +kernel, rfl, by decide +kernel, by decide +kernel⟩
abbrev St_Evaluation_counted_rounds : Stmt := inClass (topS 14) 6
abbrev N_Evaluation_counted_rounds : List Str := ["self", "formula", "names", "present", "following", "count"]
theorem sc_Evaluation_counted_rounds : FnScope N_Evaluation_counted_rounds ["self", "formula", "names"] (defScope St_Evaluation_counted_rounds) := ⟨rfl, rfl, rfl, by decide +kernel, rfl, by decide +kernel, by decide +kernel⟩
abbrev St_Lattice_init : Stmt := inClass (topS 19) 0
abbrev N_Lattice_init : List Str := ["self", "label", "names", "downs", "depth", "places", "b", "a", "whole"]
theorem sc_Lattice_init : FnScope N_Lattice_init ["self", "label", "names", "downs", "depth"] (defScope St_Lattice_init) := ⟨rfl, rfl, rfl, by decide +kernel, rfl, by decide +kernel, by decide +kernel⟩
abbrev St_Lattice_within_at : Stmt := inClass (topS 19) 1
abbrev N_Lattice_within_at : List Str := ["self", "first", "second"]
theorem sc_Lattice_within_at : FnScope N_Lattice_within_at ["self", "first", "second"] (defScope St_Lattice_within_at) := ⟨rfl, rfl, rfl, by decide +kernel, rfl, by decide +kernel, by decide +kernel⟩
abbrev St_Lattice_join_at : Stmt := inClass (topS 19) 2
abbrev N_Lattice_join_at : List Str := ["self", "first", "second"]
theorem sc_Lattice_join_at : FnScope N_Lattice_join_at ["self", "first", "second"] (defScope St_Lattice_join_at) := ⟨rfl, rfl, rfl, by decide +kernel, rfl, by decide +kernel, by decide +kernel⟩
abbrev St_Lattice_meet_at : Stmt := inClass (topS 19) 3
abbrev N_Lattice_meet_at : List Str := ["self", "first", "second"]
theorem sc_Lattice_meet_at : FnScope N_Lattice_meet_at ["self", "first", "second"] (defScope St_Lattice_meet_at) := ⟨rfl, rfl, rfl, by decide +kernel, rfl, by decide +kernel, by decide +kernel⟩
abbrev St_Lattice_name_at : Stmt := inClass (topS 19) 4
abbrev N_Lattice_name_at : List Str := ["self", "place"]
theorem sc_Lattice_name_at : FnScope N_Lattice_name_at ["self", "place"] (defScope St_Lattice_name_at) := ⟨rfl, rfl, rfl, by decide +kernel, rfl, by decide +kernel, by decide +kernel⟩
abbrev St_Lattice_at_name : Stmt := inClass (topS 19) 5
abbrev N_Lattice_at_name : List Str := ["self", "name"]
theorem sc_Lattice_at_name : FnScope N_Lattice_at_name ["self", "name"] (defScope St_Lattice_at_name) := ⟨rfl, rfl, rfl, by decide +kernel, rfl, by decide +kernel, by decide +kernel⟩
abbrev St_Lattice_irreducibles : Stmt := inClass (topS 19) 6
abbrev N_Lattice_irreducibles : List Str := ["self", "place"]
theorem sc_Lattice_irreducibles : FnScope N_Lattice_irreducibles ["self"] (defScope St_Lattice_irreducibles) := ⟨rfl, rfl, rfl, by decide +kernel, rfl, by decide +kernel, by decide +kernel⟩
abbrev St_ChainLattice_init : Stmt := inClass (topS 22) 0
abbrev N_ChainLattice_init : List Str := ["self", "count", "names", "number"]
theorem sc_ChainLattice_init : FnScopeK N_ChainLattice_init ["self", "count"] (defScope St_ChainLattice_init) := ⟨rfl, rfl, rfl, by decide +kernel, rfl, by decide +kernel, by decide +kernel, by decide +kernel⟩
abbrev St_SetLattice_init : Stmt := inClass (topS 23) 0
abbrev N_SetLattice_init : List Str := ["self", "count", "numbers", "names", "shift", "number"]
theorem sc_SetLattice_init : FnScopeK N_SetLattice_init ["self", "count"] (defScope St_SetLattice_init) := ⟨rfl, rfl, rfl, by decide +kernel, rfl, by decide +kernel, by decide +kernel, by decide +kernel⟩
abbrev St_System_init : Stmt := inClass (topS 32) 0
abbrev N_System_init : List Str := ["self", "lattice", "states", "marks", "arrows", "row", "name", "mark", "state", "value", "start", "end", "has", "lacks"]
theorem sc_System_init : FnScope N_System_init ["self", "lattice", "states", "marks", "arrows"] (defScope St_System_init) := ⟨rfl, rfl, rfl, by decide +kernel, rfl, by decide +kernel, by decide +kernel⟩
abbrev St_System_tell_state : Stmt := inClass (topS 32) 1
abbrev N_System_tell_state : List Str := ["self", "name"]
theorem sc_System_tell_state : FnScope N_System_tell_state ["self", "name"] (defScope St_System_tell_state) := ⟨rfl, rfl, rfl, by decide +kernel, rfl, by decide +kernel, by decide +kernel⟩
abbrev St_System_tell_mark : Stmt := inClass (topS 32) 2
abbrev N_System_tell_mark : List Str := ["self", "mark", "state", "value", "place"]
theorem sc_System_tell_mark : FnScope N_System_tell_mark ["self", "mark", "state", "value"] (defScope St_System_tell_mark) := ⟨rfl, rfl, rfl, by decide +kernel, rfl, by decide +kernel, by decide +kernel⟩
abbrev St_System_tell_arrow : Stmt := inClass (topS 32) 3
abbrev N_System_tell_arrow : List Str := ["self", "start", "end", "has", "lacks", "places"]
theorem sc_System_tell_arrow : FnScope N_System_tell_arrow ["self", "start", "end", "has", "lacks"] (defScope St_System_tell_arrow) := ⟨rfl, rfl, rfl, by decide +kernel, rfl, by decide +kernel, by decide +kernel⟩
abbrev St_System_need_state : Stmt := inClass (topS 32) 4
abbrev N_System_need_state : List Str := ["self", "name"]
theorem sc_System_need_state : FnScope N_System_need_state ["self", "name"] (defScope St_System_need_state) := ⟨rfl, rfl, rfl, by decide +kernel, rfl, by decide +kernel, by decide +kernel⟩
abbrev St_System_states : Stmt := inClass (topS 32) 5
abbrev N_System_states : List Str := ["self"]
theorem sc_System_states : FnScope N_System_states ["self"] (defScope St_System_states) := ⟨rfl, rfl, rfl, by decide +kernel, rfl, by decide +kernel, by decide +kernel⟩
abbrev St_System_marks : Stmt := inClass (topS 32) 6
abbrev N_System_marks : List Str := ["self"]
theorem sc_System_marks : FnScope N_System_marks ["self"] (defScope St_System_marks) := ⟨rfl, rfl, rfl, by decide +kernel, rfl, by decide +kernel, by decide +kernel⟩
abbrev St_System_arrows : Stmt := inClass (topS 32) 7
abbrev N_System_arrows : List Str := ["self"]
theorem sc_System_arrows : FnScope N_System_arrows ["self"] (defScope St_System_arrows) := ⟨rfl, rfl, rfl, by decide +kernel, rfl, by decide +kernel, by decide +kernel⟩
abbrev PL : Program := PySem.Challenge.pw_latticewish_k47_whole_long_rows
structure Tx (K : PySem.W.Frag) (mg : Str → Option Value) (W_ : World) where
  n_abs : mg "abs" = none
  n_all : mg "all" = none
  n_enumerate : mg "enumerate" = none
  n_int : mg "int" = none
  n_len : mg "len" = none
  n_list : mg "list" = none
  n_max : mg "max" = none
  n_range : mg "range" = none
  n_str : mg "str" = none
  n_sum : mg "sum" = none
  n_super : mg "super" = none
  n_tuple : mg "tuple" = none
  a_parts_of : Addr
  d_parts_of : FuncData
  F_parts_of : Fun K "parts_of" "parts_of" St_parts_of a_parts_of d_parts_of
  b_parts_of : Binds K d_parts_of ["formula"] []
  g_parts_of : mg "parts_of" = some (.ref a_parts_of)
  a_check_formula : Addr
  d_check_formula : FuncData
  F_check_formula : Fun K "check_formula" "check_formula" St_check_formula a_check_formula d_check_formula
  b_check_formula : Binds K d_check_formula ["lattice", "formula", "bound"] []
  g_check_formula : mg "check_formula" = some (.ref a_check_formula)
  a_values : Addr
  d_values : FuncData
  F_values : Fun K "values" "values" St_values a_values d_values
  b_values : Binds K d_values ["system", "formula"] []
  g_values : mg "values" = some (.ref a_values)
  a_rounds : Addr
  d_rounds : FuncData
  F_rounds : Fun K "rounds" "rounds" St_rounds a_rounds d_rounds
  b_rounds : Binds K d_rounds ["system", "formula"] []
  g_rounds : mg "rounds" = some (.ref a_rounds)
  a_first_place : Addr
  d_first_place : FuncData
  F_first_place : Fun K "first_place" "first_place" St_first_place a_first_place d_first_place
  b_first_place : Binds K d_first_place ["sets", "wanted"] []
  g_first_place : mg "first_place" = some (.ref a_first_place)
  a_parts_among : Addr
  d_parts_among : FuncData
  F_parts_among : Fun K "parts_among" "parts_among" St_parts_among a_parts_among d_parts_among
  b_parts_among : Binds K d_parts_among ["numbers", "number"] []
  g_parts_among : mg "parts_among" = some (.ref a_parts_among)
  a_is_name : Addr
  d_is_name : FuncData
  F_is_name : Fun K "is_name" "is_name" St_is_name a_is_name d_is_name
  b_is_name : Binds K d_is_name ["word"] []
  g_is_name : mg "is_name" = some (.ref a_is_name)
  a__law_cells : Addr
  d__law_cells : FuncData
  F__law_cells : Fun K "_law_cells" "_law_cells" St__law_cells a__law_cells d__law_cells
  b__law_cells : Binds K d__law_cells ["script"] []
  g__law_cells : mg "_law_cells" = some (.ref a__law_cells)
  a__law_pick : Addr
  d__law_pick : FuncData
  F__law_pick : Fun K "_law_pick" "_law_pick" St__law_pick a__law_pick d__law_pick
  b__law_pick : Binds K d__law_pick ["source", "many"] []
  g__law_pick : mg "_law_pick" = some (.ref a__law_pick)
  a__law_along : Addr
  d__law_along : FuncData
  F__law_along : Fun K "_law_along" "_law_along" St__law_along a__law_along d__law_along
  b__law_along : Binds K d__law_along ["lattice", "arrows", "last"] []
  g__law_along : mg "_law_along" = some (.ref a__law_along)
  a__law_formulas : Addr
  d__law_formulas : FuncData
  F__law_formulas : Fun K "_law_formulas" "_law_formulas" St__law_formulas a__law_formulas d__law_formulas
  b__law_formulas : Binds K d__law_formulas ["deep"] []
  g__law_formulas : mg "_law_formulas" = some (.ref a__law_formulas)
  a_law : Addr
  d_law : FuncData
  F_law : Fun K "law" "law" St_law a_law d_law
  b_law : Binds K d_law ["script"] []
  g_law : mg "law" = some (.ref a_law)
  a_PARTS : Addr
  g_PARTS : mg "PARTS" = some (.ref a_PARTS)
  e_PARTS : Array DictEntry
  m_PARTS : Nat
  l_PARTS : K.lookup a_PARTS = some ⟨.type "dict", none, .dict e_PARTS m_PARTS, #[]⟩
  y_PARTS : PySem.W.KeysLit W_.params e_PARTS.toList
  lo_PARTS : (a_PARTS == sysModules) = false
  k_PARTS_true : ∃ t, PySem.W.nsIn K a_PARTS "true" = some (some (.ref t)) ∧ ∀ H, SqT K H t []
  k_PARTS_false : ∃ t, PySem.W.nsIn K a_PARTS "false" = some (some (.ref t)) ∧ ∀ H, SqT K H t []
  k_PARTS_value : ∃ t, PySem.W.nsIn K a_PARTS "value" = some (some (.ref t)) ∧ ∀ H, SqT K H t []
  k_PARTS_mark : ∃ t, PySem.W.nsIn K a_PARTS "mark" = some (some (.ref t)) ∧ ∀ H, SqT K H t []
  k_PARTS_name : ∃ t, PySem.W.nsIn K a_PARTS "name" = some (some (.ref t)) ∧ ∀ H, SqT K H t []
  k_PARTS_and : ∃ t, PySem.W.nsIn K a_PARTS "and" = some (some (.ref t)) ∧ ∀ H, SqT K H t [.int 1, .int 2]
  k_PARTS_or : ∃ t, PySem.W.nsIn K a_PARTS "or" = some (some (.ref t)) ∧ ∀ H, SqT K H t [.int 1, .int 2]
  k_PARTS_some : ∃ t, PySem.W.nsIn K a_PARTS "some" = some (some (.ref t)) ∧ ∀ H, SqT K H t [.int 1]
  k_PARTS_all : ∃ t, PySem.W.nsIn K a_PARTS "all" = some (some (.ref t)) ∧ ∀ H, SqT K H t [.int 1]
  k_PARTS_least : ∃ t, PySem.W.nsIn K a_PARTS "least" = some (some (.ref t)) ∧ ∀ H, SqT K H t [.int 2]
  k_PARTS_most : ∃ t, PySem.W.nsIn K a_PARTS "most" = some (some (.ref t)) ∧ ∀ H, SqT K H t [.int 2]
  g_MOST_VALUES : ∃ u, mg "MOST_VALUES" = some (.int 64 u)
  g_SMALL_LETTERS : ∃ u, mg "SMALL_LETTERS" = some (.str "abcdefghijklmnopqrstuvwxyz" u)
  g_TEN_FIGURES : ∃ u, mg "TEN_FIGURES" = some (.str "0123456789" u)
  a_SHAPES : Addr
  g_SHAPES : mg "SHAPES" = some (.ref a_SHAPES)
  e_SHAPES : Array DictEntry
  m_SHAPES : Nat
  l_SHAPES : K.lookup a_SHAPES = some ⟨.type "dict", none, .dict e_SHAPES m_SHAPES, #[]⟩
  y_SHAPES : PySem.W.KeysLit W_.params e_SHAPES.toList
  lo_SHAPES : (a_SHAPES == sysModules) = false
  w_SHAPES : KeysOf e_SHAPES.toList ["value", "mark", "and", "or", "some", "all", "least", "most"]
  k_SHAPES_value : ∃ t, PySem.W.nsIn K a_SHAPES "value" = some (some (.ref t)) ∧ ∀ H, SqT K H t [.str "value"]
  k_SHAPES_mark : ∃ t, PySem.W.nsIn K a_SHAPES "mark" = some (some (.ref t)) ∧ ∀ H, SqT K H t [.str "name"]
  k_SHAPES_and : ∃ t, PySem.W.nsIn K a_SHAPES "and" = some (some (.ref t)) ∧ ∀ H, SqT K H t [.str "part", .str "part"]
  k_SHAPES_or : ∃ t, PySem.W.nsIn K a_SHAPES "or" = some (some (.ref t)) ∧ ∀ H, SqT K H t [.str "part", .str "part"]
  k_SHAPES_some : ∃ t, PySem.W.nsIn K a_SHAPES "some" = some (some (.ref t)) ∧ ∀ H, SqT K H t [.str "part"]
  k_SHAPES_all : ∃ t, PySem.W.nsIn K a_SHAPES "all" = some (some (.ref t)) ∧ ∀ H, SqT K H t [.str "part"]
  k_SHAPES_least : ∃ t, PySem.W.nsIn K a_SHAPES "least" = some (some (.ref t)) ∧ ∀ H, SqT K H t [.str "name", .str "part"]
  k_SHAPES_most : ∃ t, PySem.W.nsIn K a_SHAPES "most" = some (some (.ref t)) ∧ ∀ H, SqT K H t [.str "name", .str "part"]
  a_SINGLE_WORDS : Addr
  g_SINGLE_WORDS : mg "SINGLE_WORDS" = some (.ref a_SINGLE_WORDS)
  t_SINGLE_WORDS : ∀ H, SqT K H a_SINGLE_WORDS [.str "true", .str "false"]
  a_Evaluation : Addr
  g_Evaluation : mg "Evaluation" = some (.ref a_Evaluation)
  c_Evaluation : Cls K a_Evaluation
  n_Evaluation_lattice : NoAttr K a_Evaluation "lattice"
  n_Evaluation_state_names : NoAttr K a_Evaluation "state_names"
  n_Evaluation_mark_values : NoAttr K a_Evaluation "mark_values"
  n_Evaluation_moves : NoAttr K a_Evaluation "moves"
  a_Evaluation_init : Addr
  d_Evaluation_init : FuncData
  F_Evaluation_init : Fun K "__init__" "Evaluation.__init__" St_Evaluation_init a_Evaluation_init d_Evaluation_init
  b_Evaluation_init : Binds K d_Evaluation_init ["self", "system"] []
  M_Evaluation : Mk K a_Evaluation a_Evaluation_init
  a_Evaluation_everywhere : Addr
  d_Evaluation_everywhere : FuncData
  F_Evaluation_everywhere : Fun K "everywhere" "Evaluation.everywhere" St_Evaluation_everywhere a_Evaluation_everywhere d_Evaluation_everywhere
  b_Evaluation_everywhere : Binds K d_Evaluation_everywhere ["self", "place"] []
  m_Evaluation_everywhere : Meth K a_Evaluation "everywhere" a_Evaluation_everywhere
  a_Evaluation_places : Addr
  d_Evaluation_places : FuncData
  F_Evaluation_places : Fun K "places" "Evaluation.places" St_Evaluation_places a_Evaluation_places d_Evaluation_places
  b_Evaluation_places : Binds K d_Evaluation_places ["self", "formula", "names"] []
  m_Evaluation_places : Meth K a_Evaluation "places" a_Evaluation_places
  a_Evaluation_some_at : Addr
  d_Evaluation_some_at : FuncData
  F_Evaluation_some_at : Fun K "some_at" "Evaluation.some_at" St_Evaluation_some_at a_Evaluation_some_at d_Evaluation_some_at
  b_Evaluation_some_at : Binds K d_Evaluation_some_at ["self", "state", "inner"] []
  m_Evaluation_some_at : Meth K a_Evaluation "some_at" a_Evaluation_some_at
  a_Evaluation_all_at : Addr
  d_Evaluation_all_at : FuncData
  F_Evaluation_all_at : Fun K "all_at" "Evaluation.all_at" St_Evaluation_all_at a_Evaluation_all_at d_Evaluation_all_at
  b_Evaluation_all_at : Binds K d_Evaluation_all_at ["self", "state", "inner"] []
  m_Evaluation_all_at : Meth K a_Evaluation "all_at" a_Evaluation_all_at
  a_Evaluation_by_rounds : Addr
  d_Evaluation_by_rounds : FuncData
  F_Evaluation_by_rounds : Fun K "by_rounds" "Evaluation.by_rounds" St_Evaluation_by_rounds a_Evaluation_by_rounds d_Evaluation_by_rounds
  b_Evaluation_by_rounds : Binds K d_Evaluation_by_rounds ["self", "formula", "names"] []
  m_Evaluation_by_rounds : Meth K a_Evaluation "by_rounds" a_Evaluation_by_rounds
  a_Evaluation_counted_rounds : Addr
  d_Evaluation_counted_rounds : FuncData
  F_Evaluation_counted_rounds : Fun K "counted_rounds" "Evaluation.counted_rounds" St_Evaluation_counted_rounds a_Evaluation_counted_rounds d_Evaluation_counted_rounds
  b_Evaluation_counted_rounds : Binds K d_Evaluation_counted_rounds ["self", "formula", "names"] []
  m_Evaluation_counted_rounds : Meth K a_Evaluation "counted_rounds" a_Evaluation_counted_rounds
  a_Lattice : Addr
  g_Lattice : mg "Lattice" = some (.ref a_Lattice)
  c_Lattice : Cls K a_Lattice
  n_Lattice_label : NoAttr K a_Lattice "label"
  n_Lattice_size : NoAttr K a_Lattice "size"
  n_Lattice_depth : NoAttr K a_Lattice "depth"
  n_Lattice_value_names : NoAttr K a_Lattice "value_names"
  n_Lattice_downs : NoAttr K a_Lattice "downs"
  n_Lattice_ups : NoAttr K a_Lattice "ups"
  n_Lattice_bottom_at : NoAttr K a_Lattice "bottom_at"
  n_Lattice_top_at : NoAttr K a_Lattice "top_at"
  a_Lattice_init : Addr
  d_Lattice_init : FuncData
  t_Lattice_init : Addr
  F_Lattice_init : FunD K "__init__" "Lattice.__init__" St_Lattice_init a_Lattice_init d_Lattice_init t_Lattice_init
  dd_Lattice_init : ∃ n u0, K.lookup t_Lattice_init = some (⟨.type "tuple", none, .seq #[.int 1 u0] n, #[]⟩ : Obj)
  b4_Lattice_init : ∃ u0, Binds K d_Lattice_init ["self", "label", "names", "downs", "depth"] [.int 1 u0]
  b5_Lattice_init : Binds K d_Lattice_init ["self", "label", "names", "downs", "depth"] []
  M_Lattice : Mk K a_Lattice a_Lattice_init
  a_Lattice_within_at : Addr
  d_Lattice_within_at : FuncData
  F_Lattice_within_at : Fun K "within_at" "Lattice.within_at" St_Lattice_within_at a_Lattice_within_at d_Lattice_within_at
  b_Lattice_within_at : Binds K d_Lattice_within_at ["self", "first", "second"] []
  m_Lattice_within_at : Meth K a_Lattice "within_at" a_Lattice_within_at
  a_Lattice_join_at : Addr
  d_Lattice_join_at : FuncData
  F_Lattice_join_at : Fun K "join_at" "Lattice.join_at" St_Lattice_join_at a_Lattice_join_at d_Lattice_join_at
  b_Lattice_join_at : Binds K d_Lattice_join_at ["self", "first", "second"] []
  m_Lattice_join_at : Meth K a_Lattice "join_at" a_Lattice_join_at
  a_Lattice_meet_at : Addr
  d_Lattice_meet_at : FuncData
  F_Lattice_meet_at : Fun K "meet_at" "Lattice.meet_at" St_Lattice_meet_at a_Lattice_meet_at d_Lattice_meet_at
  b_Lattice_meet_at : Binds K d_Lattice_meet_at ["self", "first", "second"] []
  m_Lattice_meet_at : Meth K a_Lattice "meet_at" a_Lattice_meet_at
  a_Lattice_name_at : Addr
  d_Lattice_name_at : FuncData
  F_Lattice_name_at : Fun K "name_at" "Lattice.name_at" St_Lattice_name_at a_Lattice_name_at d_Lattice_name_at
  b_Lattice_name_at : Binds K d_Lattice_name_at ["self", "place"] []
  m_Lattice_name_at : Meth K a_Lattice "name_at" a_Lattice_name_at
  a_Lattice_at_name : Addr
  d_Lattice_at_name : FuncData
  F_Lattice_at_name : Fun K "at_name" "Lattice.at_name" St_Lattice_at_name a_Lattice_at_name d_Lattice_at_name
  b_Lattice_at_name : Binds K d_Lattice_at_name ["self", "name"] []
  m_Lattice_at_name : Meth K a_Lattice "at_name" a_Lattice_at_name
  a_Lattice_irreducibles : Addr
  d_Lattice_irreducibles : FuncData
  F_Lattice_irreducibles : Fun K "irreducibles" "Lattice.irreducibles" St_Lattice_irreducibles a_Lattice_irreducibles d_Lattice_irreducibles
  b_Lattice_irreducibles : Binds K d_Lattice_irreducibles ["self"] []
  m_Lattice_irreducibles : Meth K a_Lattice "irreducibles" a_Lattice_irreducibles
  a_ChainLattice : Addr
  g_ChainLattice : mg "ChainLattice" = some (.ref a_ChainLattice)
  c_ChainLattice : Cls K a_ChainLattice
  n_ChainLattice_label : NoAttr K a_ChainLattice "label"
  n_ChainLattice_size : NoAttr K a_ChainLattice "size"
  n_ChainLattice_depth : NoAttr K a_ChainLattice "depth"
  n_ChainLattice_value_names : NoAttr K a_ChainLattice "value_names"
  n_ChainLattice_downs : NoAttr K a_ChainLattice "downs"
  n_ChainLattice_ups : NoAttr K a_ChainLattice "ups"
  n_ChainLattice_bottom_at : NoAttr K a_ChainLattice "bottom_at"
  n_ChainLattice_top_at : NoAttr K a_ChainLattice "top_at"
  a_ChainLattice_init : Addr
  d_ChainLattice_init : FuncData
  F_ChainLattice_init : FunK K PL "__init__" "ChainLattice.__init__" St_ChainLattice_init a_ChainLattice_init d_ChainLattice_init a_ChainLattice
  b_ChainLattice_init : Binds K d_ChainLattice_init ["self", "count"] []
  M_ChainLattice : Mk K a_ChainLattice a_ChainLattice_init
  a_SetLattice : Addr
  g_SetLattice : mg "SetLattice" = some (.ref a_SetLattice)
  c_SetLattice : Cls K a_SetLattice
  n_SetLattice_label : NoAttr K a_SetLattice "label"
  n_SetLattice_size : NoAttr K a_SetLattice "size"
  n_SetLattice_depth : NoAttr K a_SetLattice "depth"
  n_SetLattice_value_names : NoAttr K a_SetLattice "value_names"
  n_SetLattice_downs : NoAttr K a_SetLattice "downs"
  n_SetLattice_ups : NoAttr K a_SetLattice "ups"
  n_SetLattice_bottom_at : NoAttr K a_SetLattice "bottom_at"
  n_SetLattice_top_at : NoAttr K a_SetLattice "top_at"
  a_SetLattice_init : Addr
  d_SetLattice_init : FuncData
  F_SetLattice_init : FunK K PL "__init__" "SetLattice.__init__" St_SetLattice_init a_SetLattice_init d_SetLattice_init a_SetLattice
  b_SetLattice_init : Binds K d_SetLattice_init ["self", "count"] []
  M_SetLattice : Mk K a_SetLattice a_SetLattice_init
  a_System : Addr
  g_System : mg "System" = some (.ref a_System)
  c_System : Cls K a_System
  n_System_lattice : NoAttr K a_System "lattice"
  n_System_state_row : NoAttr K a_System "state_row"
  n_System_mark_rows : NoAttr K a_System "mark_rows"
  n_System_arrow_rows : NoAttr K a_System "arrow_rows"
  n_System_told_marks : NoAttr K a_System "told_marks"
  n_System_leaving : NoAttr K a_System "leaving"
  a_System_init : Addr
  d_System_init : FuncData
  F_System_init : Fun K "__init__" "System.__init__" St_System_init a_System_init d_System_init
  b_System_init : Binds K d_System_init ["self", "lattice", "states", "marks", "arrows"] []
  M_System : Mk K a_System a_System_init
  a_System_tell_state : Addr
  d_System_tell_state : FuncData
  F_System_tell_state : Fun K "tell_state" "System.tell_state" St_System_tell_state a_System_tell_state d_System_tell_state
  b_System_tell_state : Binds K d_System_tell_state ["self", "name"] []
  m_System_tell_state : Meth K a_System "tell_state" a_System_tell_state
  a_System_tell_mark : Addr
  d_System_tell_mark : FuncData
  F_System_tell_mark : Fun K "tell_mark" "System.tell_mark" St_System_tell_mark a_System_tell_mark d_System_tell_mark
  b_System_tell_mark : Binds K d_System_tell_mark ["self", "mark", "state", "value"] []
  m_System_tell_mark : Meth K a_System "tell_mark" a_System_tell_mark
  a_System_tell_arrow : Addr
  d_System_tell_arrow : FuncData
  F_System_tell_arrow : Fun K "tell_arrow" "System.tell_arrow" St_System_tell_arrow a_System_tell_arrow d_System_tell_arrow
  b_System_tell_arrow : Binds K d_System_tell_arrow ["self", "start", "end", "has", "lacks"] []
  m_System_tell_arrow : Meth K a_System "tell_arrow" a_System_tell_arrow
  a_System_need_state : Addr
  d_System_need_state : FuncData
  F_System_need_state : Fun K "need_state" "System.need_state" St_System_need_state a_System_need_state d_System_need_state
  b_System_need_state : Binds K d_System_need_state ["self", "name"] []
  m_System_need_state : Meth K a_System "need_state" a_System_need_state
  a_System_states : Addr
  d_System_states : FuncData
  F_System_states : Fun K "states" "System.states" St_System_states a_System_states d_System_states
  b_System_states : Binds K d_System_states ["self"] []
  m_System_states : Meth K a_System "states" a_System_states
  a_System_marks : Addr
  d_System_marks : FuncData
  F_System_marks : Fun K "marks" "System.marks" St_System_marks a_System_marks d_System_marks
  b_System_marks : Binds K d_System_marks ["self"] []
  m_System_marks : Meth K a_System "marks" a_System_marks
  a_System_arrows : Addr
  d_System_arrows : FuncData
  F_System_arrows : Fun K "arrows" "System.arrows" St_System_arrows a_System_arrows d_System_arrows
  b_System_arrows : Binds K d_System_arrows ["self"] []
  m_System_arrows : Meth K a_System "arrows" a_System_arrows
  mr_ChainLattice : PySem.W.mroIn K a_ChainLattice (.ref a_ChainLattice) = some true
  su_ChainLattice : PySem.W.ks_superIn K a_ChainLattice a_ChainLattice "__init__" = some (some (.ref a_Lattice_init))
  ci_ChainLattice : ∃ cd, PySem.W.clsIn K a_ChainLattice = some cd
  m_ChainLattice_within_at : Meth K a_ChainLattice "within_at" a_Lattice_within_at
  m_ChainLattice_join_at : Meth K a_ChainLattice "join_at" a_Lattice_join_at
  m_ChainLattice_meet_at : Meth K a_ChainLattice "meet_at" a_Lattice_meet_at
  m_ChainLattice_name_at : Meth K a_ChainLattice "name_at" a_Lattice_name_at
  m_ChainLattice_at_name : Meth K a_ChainLattice "at_name" a_Lattice_at_name
  m_ChainLattice_irreducibles : Meth K a_ChainLattice "irreducibles" a_Lattice_irreducibles
  mr_SetLattice : PySem.W.mroIn K a_SetLattice (.ref a_SetLattice) = some true
  su_SetLattice : PySem.W.ks_superIn K a_SetLattice a_SetLattice "__init__" = some (some (.ref a_Lattice_init))
  ci_SetLattice : ∃ cd, PySem.W.clsIn K a_SetLattice = some cd
  m_SetLattice_within_at : Meth K a_SetLattice "within_at" a_Lattice_within_at
  m_SetLattice_join_at : Meth K a_SetLattice "join_at" a_Lattice_join_at
  m_SetLattice_meet_at : Meth K a_SetLattice "meet_at" a_Lattice_meet_at
  m_SetLattice_name_at : Meth K a_SetLattice "name_at" a_Lattice_name_at
  m_SetLattice_at_name : Meth K a_SetLattice "at_name" a_Lattice_at_name
  m_SetLattice_irreducibles : Meth K a_SetLattice "irreducibles" a_Lattice_irreducibles
  ty_Lattice : PySem.W.typeIn K (.ref a_Lattice_init) = some (.type "function")
  fi_Lattice : PySem.W.fnIn K a_Lattice_init = true
  st_any : PySem.W.nsIn K PySem.cStatics "thirdparty.any" = some none
def Tx.mm {K : PySem.W.Frag} {mg : Str → Option Value} {W_ : World} (T : Tx K mg W_) : List (Str × Addr) := [("within_at", T.a_Lattice_within_at), ("join_at", T.a_Lattice_join_at), ("meet_at", T.a_Lattice_meet_at), ("name_at", T.a_Lattice_name_at), ("at_name", T.a_Lattice_at_name), ("irreducibles", T.a_Lattice_irreducibles)]
theorem Tx.in_within_at {K : PySem.W.Frag} {mg : Str → Option Value} {W_ : World} (T : Tx K mg W_) : ((("within_at" : Str), T.a_Lattice_within_at) : Str × Addr) ∈ T.mm := by simp [Tx.mm]
theorem Tx.in_join_at {K : PySem.W.Frag} {mg : Str → Option Value} {W_ : World} (T : Tx K mg W_) : ((("join_at" : Str), T.a_Lattice_join_at) : Str × Addr) ∈ T.mm := by simp [Tx.mm]
theorem Tx.in_meet_at {K : PySem.W.Frag} {mg : Str → Option Value} {W_ : World} (T : Tx K mg W_) : ((("meet_at" : Str), T.a_Lattice_meet_at) : Str × Addr) ∈ T.mm := by simp [Tx.mm]
theorem Tx.in_name_at {K : PySem.W.Frag} {mg : Str → Option Value} {W_ : World} (T : Tx K mg W_) : ((("name_at" : Str), T.a_Lattice_name_at) : Str × Addr) ∈ T.mm := by simp [Tx.mm]
theorem Tx.in_at_name {K : PySem.W.Frag} {mg : Str → Option Value} {W_ : World} (T : Tx K mg W_) : ((("at_name" : Str), T.a_Lattice_at_name) : Str × Addr) ∈ T.mm := by simp [Tx.mm]
theorem Tx.in_irreducibles {K : PySem.W.Frag} {mg : Str → Option Value} {W_ : World} (T : Tx K mg W_) : ((("irreducibles" : Str), T.a_Lattice_irreducibles) : Str × Addr) ∈ T.mm := by simp [Tx.mm]
theorem Tx.mm_out {K : PySem.W.Frag} {mg : Str → Option Value} {W_ : World} (T : Tx K mg W_) : ∀ q ∈ T.mm, q.1 ∉ latAttrs := by
  intro q hq
  simp only [Tx.mm, List.mem_cons, List.not_mem_nil, or_false] at hq
  rcases hq with rfl | rfl | rfl | rfl | rfl | rfl <;> (dsimp only; decide)
theorem Tx.mm_out' {K : PySem.W.Frag} {mg : Str → Option Value} {W_ : World} (T : Tx K mg W_) : ∀ q ∈ T.mm, q.1 ≠ "left" ∧ q.1 ≠ "right" ∧ q.1 ≠ "inner" := by
  intro q hq
  simp only [Tx.mm, List.mem_cons, List.not_mem_nil, or_false] at hq
  rcases hq with rfl | rfl | rfl | rfl | rfl | rfl <;> (dsimp only; decide)
theorem Tx.lc_ChainLattice {K : PySem.W.Frag} {mg : Str → Option Value} {W_ : World} (T : Tx K mg W_) : LatC K T.mm T.a_ChainLattice := ⟨T.c_ChainLattice, fun f hf => by
  simp only [latAttrs, List.mem_cons, List.not_mem_nil, or_false] at hf
  rcases hf with rfl | rfl | rfl | rfl | rfl | rfl | rfl | rfl <;> first | exact T.n_ChainLattice_label | exact T.n_ChainLattice_size | exact T.n_ChainLattice_depth | exact T.n_ChainLattice_value_names | exact T.n_ChainLattice_downs | exact T.n_ChainLattice_ups | exact T.n_ChainLattice_bottom_at | exact T.n_ChainLattice_top_at, fun q hq => by
  simp only [Tx.mm, List.mem_cons, List.not_mem_nil, or_false] at hq
  rcases hq with rfl | rfl | rfl | rfl | rfl | rfl <;> first | exact T.m_ChainLattice_within_at | exact T.m_ChainLattice_join_at | exact T.m_ChainLattice_meet_at | exact T.m_ChainLattice_name_at | exact T.m_ChainLattice_at_name | exact T.m_ChainLattice_irreducibles⟩
theorem Tx.lc_SetLattice {K : PySem.W.Frag} {mg : Str → Option Value} {W_ : World} (T : Tx K mg W_) : LatC K T.mm T.a_SetLattice := ⟨T.c_SetLattice, fun f hf => by
  simp only [latAttrs, List.mem_cons, List.not_mem_nil, or_false] at hf
  rcases hf with rfl | rfl | rfl | rfl | rfl | rfl | rfl | rfl <;> first | exact T.n_SetLattice_label | exact T.n_SetLattice_size | exact T.n_SetLattice_depth | exact T.n_SetLattice_value_names | exact T.n_SetLattice_downs | exact T.n_SetLattice_ups | exact T.n_SetLattice_bottom_at | exact T.n_SetLattice_top_at, fun q hq => by
  simp only [Tx.mm, List.mem_cons, List.not_mem_nil, or_false] at hq
  rcases hq with rfl | rfl | rfl | rfl | rfl | rfl <;> first | exact T.m_SetLattice_within_at | exact T.m_SetLattice_join_at | exact T.m_SetLattice_meet_at | exact T.m_SetLattice_name_at | exact T.m_SetLattice_at_name | exact T.m_SetLattice_irreducibles⟩
def spLaw (K : PySem.W.Frag) : Sp := fun vs H Q _ => ∃ (a : Addr) (ns : List Int), vs = [.ref a] ∧ SqL K H a (ns.map V.int) ∧ ns.length ≤ 63 ∧ ∀ H', Q (.bl true) H'
theorem all_mk {l : PySem.W.OpenLaw} {W_ : World} {K : PySem.W.Frag} {h : Heap} {mg : Str → Option Value} {fa : Addr} (X : K.In h) (G : h.Ns mainGlobals mg) (hfa : mg "law" = some (.ref fa)) (F : ∀ (T : Tx K mg W_) (base : Heap), FnOk PL W_ K mg base L2.CX0 140 T.a_law T.d_law ["script"] (spLaw K))
    {f_parts_of f_check_formula f_values f_rounds f_first_place f_parts_among f_is_name f__law_cells f__law_pick f__law_along f__law_formulas f_law f_PARTS t_PARTS_true t_PARTS_false t_PARTS_value t_PARTS_mark t_PARTS_name t_PARTS_and t_PARTS_or t_PARTS_some t_PARTS_all t_PARTS_least t_PARTS_most f_SHAPES t_SHAPES_value t_SHAPES_mark t_SHAPES_and t_SHAPES_or t_SHAPES_some t_SHAPES_all t_SHAPES_least t_SHAPES_most f_SINGLE_WORDS f_Evaluation f_Evaluation_init f_Evaluation_everywhere f_Evaluation_places f_Evaluation_some_at f_Evaluation_all_at f_Evaluation_by_rounds f_Evaluation_counted_rounds f_Lattice f_Lattice_init td_Lattice_init f_Lattice_within_at f_Lattice_join_at f_Lattice_meet_at f_Lattice_name_at f_Lattice_at_name f_Lattice_irreducibles f_ChainLattice f_ChainLattice_init cda_ChainLattice_init cc_ChainLattice_init f_SetLattice f_SetLattice_init cda_SetLattice_init cc_SetLattice_init f_System f_System_init f_System_tell_state f_System_tell_mark f_System_tell_arrow f_System_need_state f_System_states f_System_marks f_System_arrows : Addr}
    {od_parts_of an_parts_of : Option Addr} {sl_parts_of : Array (Option Value)} {oc_parts_of kV_parts_of dc_parts_of pm_parts_of cd_parts_of ct_parts_of : Value} {od_check_formula an_check_formula : Option Addr} {sl_check_formula : Array (Option Value)} {oc_check_formula kV_check_formula dc_check_formula pm_check_formula cd_check_formula ct_check_formula : Value} {od_values an_values : Option Addr} {sl_values : Array (Option Value)} {oc_values kV_values dc_values pm_values cd_values ct_values : Value} {od_rounds an_rounds : Option Addr} {sl_rounds : Array (Option Value)} {oc_rounds kV_rounds dc_rounds pm_rounds cd_rounds ct_rounds : Value} {od_first_place an_first_place : Option Addr} {sl_first_place : Array (Option Value)} {oc_first_place kV_first_place dc_first_place pm_first_place cd_first_place ct_first_place : Value} {od_parts_among an_parts_among : Option Addr} {sl_parts_among : Array (Option Value)} {oc_parts_among kV_parts_among dc_parts_among pm_parts_among cd_parts_among ct_parts_among : Value} {od_is_name an_is_name : Option Addr} {sl_is_name : Array (Option Value)} {oc_is_name kV_is_name dc_is_name pm_is_name cd_is_name ct_is_name : Value} {od__law_cells an__law_cells : Option Addr} {sl__law_cells : Array (Option Value)} {oc__law_cells kV__law_cells dc__law_cells pm__law_cells cd__law_cells ct__law_cells : Value} {od__law_pick an__law_pick : Option Addr} {sl__law_pick : Array (Option Value)} {oc__law_pick kV__law_pick dc__law_pick pm__law_pick cd__law_pick ct__law_pick : Value} {od__law_along an__law_along : Option Addr} {sl__law_along : Array (Option Value)} {oc__law_along kV__law_along dc__law_along pm__law_along cd__law_along ct__law_along : Value} {od__law_formulas an__law_formulas : Option Addr} {sl__law_formulas : Array (Option Value)} {oc__law_formulas kV__law_formulas dc__law_formulas pm__law_formulas cd__law_formulas ct__law_formulas : Value} {od_law an_law : Option Addr} {sl_law : Array (Option Value)} {oc_law kV_law dc_law pm_law cd_law ct_law : Value} {es_PARTS : Array DictEntry} {n_PARTS : Nat} {n_PARTS_true : Nat} {n_PARTS_false : Nat} {n_PARTS_value : Nat} {n_PARTS_mark : Nat} {n_PARTS_name : Nat} {n_PARTS_and : Nat} {u0_PARTS_and : Tok} {u1_PARTS_and : Tok} {n_PARTS_or : Nat} {u0_PARTS_or : Tok} {u1_PARTS_or : Tok} {n_PARTS_some : Nat} {u0_PARTS_some : Tok} {n_PARTS_all : Nat} {u0_PARTS_all : Tok} {n_PARTS_least : Nat} {u0_PARTS_least : Tok} {n_PARTS_most : Nat} {u0_PARTS_most : Tok} {u_MOST_VALUES : Tok} {u_SMALL_LETTERS : Tok} {u_TEN_FIGURES : Tok} {es_SHAPES : Array DictEntry} {n_SHAPES : Nat} {n_SHAPES_value : Nat} {u0_SHAPES_value : Tok} {n_SHAPES_mark : Nat} {u0_SHAPES_mark : Tok} {n_SHAPES_and : Nat} {u0_SHAPES_and : Tok} {u1_SHAPES_and : Tok} {n_SHAPES_or : Nat} {u0_SHAPES_or : Tok} {u1_SHAPES_or : Tok} {n_SHAPES_some : Nat} {u0_SHAPES_some : Tok} {n_SHAPES_all : Nat} {u0_SHAPES_all : Tok} {n_SHAPES_least : Nat} {u0_SHAPES_least : Tok} {u1_SHAPES_least : Tok} {n_SHAPES_most : Nat} {u0_SHAPES_most : Tok} {u1_SHAPES_most : Tok} {n_SINGLE_WORDS : Nat} {u0_SINGLE_WORDS : Tok} {u1_SINGLE_WORDS : Tok} {od_Evaluation_init an_Evaluation_init : Option Addr} {sl_Evaluation_init : Array (Option Value)} {oc_Evaluation_init kV_Evaluation_init dc_Evaluation_init pm_Evaluation_init cd_Evaluation_init ct_Evaluation_init : Value} {od_Evaluation_everywhere an_Evaluation_everywhere : Option Addr} {sl_Evaluation_everywhere : Array (Option Value)} {oc_Evaluation_everywhere kV_Evaluation_everywhere dc_Evaluation_everywhere pm_Evaluation_everywhere cd_Evaluation_everywhere ct_Evaluation_everywhere : Value} {od_Evaluation_places an_Evaluation_places : Option Addr} {sl_Evaluation_places : Array (Option Value)} {oc_Evaluation_places kV_Evaluation_places dc_Evaluation_places pm_Evaluation_places cd_Evaluation_places ct_Evaluation_places : Value} {od_Evaluation_some_at an_Evaluation_some_at : Option Addr} {sl_Evaluation_some_at : Array (Option Value)} {oc_Evaluation_some_at kV_Evaluation_some_at dc_Evaluation_some_at pm_Evaluation_some_at cd_Evaluation_some_at ct_Evaluation_some_at : Value} {od_Evaluation_all_at an_Evaluation_all_at : Option Addr} {sl_Evaluation_all_at : Array (Option Value)} {oc_Evaluation_all_at kV_Evaluation_all_at dc_Evaluation_all_at pm_Evaluation_all_at cd_Evaluation_all_at ct_Evaluation_all_at : Value} {od_Evaluation_by_rounds an_Evaluation_by_rounds : Option Addr} {sl_Evaluation_by_rounds : Array (Option Value)} {oc_Evaluation_by_rounds kV_Evaluation_by_rounds dc_Evaluation_by_rounds pm_Evaluation_by_rounds cd_Evaluation_by_rounds ct_Evaluation_by_rounds : Value} {od_Evaluation_counted_rounds an_Evaluation_counted_rounds : Option Addr} {sl_Evaluation_counted_rounds : Array (Option Value)} {oc_Evaluation_counted_rounds kV_Evaluation_counted_rounds dc_Evaluation_counted_rounds pm_Evaluation_counted_rounds cd_Evaluation_counted_rounds ct_Evaluation_counted_rounds : Value} {od_Lattice_init an_Lattice_init : Option Addr} {sl_Lattice_init : Array (Option Value)} {oc_Lattice_init kV_Lattice_init dc_Lattice_init pm_Lattice_init cd_Lattice_init ct_Lattice_init : Value} {du0_Lattice_init : Tok} {dn_Lattice_init : Nat} {od_Lattice_within_at an_Lattice_within_at : Option Addr} {sl_Lattice_within_at : Array (Option Value)} {oc_Lattice_within_at kV_Lattice_within_at dc_Lattice_within_at pm_Lattice_within_at cd_Lattice_within_at ct_Lattice_within_at : Value} {od_Lattice_join_at an_Lattice_join_at : Option Addr} {sl_Lattice_join_at : Array (Option Value)} {oc_Lattice_join_at kV_Lattice_join_at dc_Lattice_join_at pm_Lattice_join_at cd_Lattice_join_at ct_Lattice_join_at : Value} {od_Lattice_meet_at an_Lattice_meet_at : Option Addr} {sl_Lattice_meet_at : Array (Option Value)} {oc_Lattice_meet_at kV_Lattice_meet_at dc_Lattice_meet_at pm_Lattice_meet_at cd_Lattice_meet_at ct_Lattice_meet_at : Value} {od_Lattice_name_at an_Lattice_name_at : Option Addr} {sl_Lattice_name_at : Array (Option Value)} {oc_Lattice_name_at kV_Lattice_name_at dc_Lattice_name_at pm_Lattice_name_at cd_Lattice_name_at ct_Lattice_name_at : Value} {od_Lattice_at_name an_Lattice_at_name : Option Addr} {sl_Lattice_at_name : Array (Option Value)} {oc_Lattice_at_name kV_Lattice_at_name dc_Lattice_at_name pm_Lattice_at_name cd_Lattice_at_name ct_Lattice_at_name : Value} {od_Lattice_irreducibles an_Lattice_irreducibles : Option Addr} {sl_Lattice_irreducibles : Array (Option Value)} {oc_Lattice_irreducibles kV_Lattice_irreducibles dc_Lattice_irreducibles pm_Lattice_irreducibles cd_Lattice_irreducibles ct_Lattice_irreducibles : Value} {od_ChainLattice_init an_ChainLattice_init vb_ChainLattice_init cb_ChainLattice_init : Option Addr} {sl_ChainLattice_init ve_ChainLattice_init ce_ChainLattice_init : Array (Option Value)} {vs_ChainLattice_init : Array Value} {fl_ChainLattice_init : Str} {tf_ChainLattice_init : Tok} {oc_ChainLattice_init kV_ChainLattice_init dc_ChainLattice_init pm_ChainLattice_init ct_ChainLattice_init va_ChainLattice_init ca_ChainLattice_init : Value} {od_SetLattice_init an_SetLattice_init vb_SetLattice_init cb_SetLattice_init : Option Addr} {sl_SetLattice_init ve_SetLattice_init ce_SetLattice_init : Array (Option Value)} {vs_SetLattice_init : Array Value} {fl_SetLattice_init : Str} {tf_SetLattice_init : Tok} {oc_SetLattice_init kV_SetLattice_init dc_SetLattice_init pm_SetLattice_init ct_SetLattice_init va_SetLattice_init ca_SetLattice_init : Value} {od_System_init an_System_init : Option Addr} {sl_System_init : Array (Option Value)} {oc_System_init kV_System_init dc_System_init pm_System_init cd_System_init ct_System_init : Value} {od_System_tell_state an_System_tell_state : Option Addr} {sl_System_tell_state : Array (Option Value)} {oc_System_tell_state kV_System_tell_state dc_System_tell_state pm_System_tell_state cd_System_tell_state ct_System_tell_state : Value} {od_System_tell_mark an_System_tell_mark : Option Addr} {sl_System_tell_mark : Array (Option Value)} {oc_System_tell_mark kV_System_tell_mark dc_System_tell_mark pm_System_tell_mark cd_System_tell_mark ct_System_tell_mark : Value} {od_System_tell_arrow an_System_tell_arrow : Option Addr} {sl_System_tell_arrow : Array (Option Value)} {oc_System_tell_arrow kV_System_tell_arrow dc_System_tell_arrow pm_System_tell_arrow cd_System_tell_arrow ct_System_tell_arrow : Value} {od_System_need_state an_System_need_state : Option Addr} {sl_System_need_state : Array (Option Value)} {oc_System_need_state kV_System_need_state dc_System_need_state pm_System_need_state cd_System_need_state ct_System_need_state : Value} {od_System_states an_System_states : Option Addr} {sl_System_states : Array (Option Value)} {oc_System_states kV_System_states dc_System_states pm_System_states cd_System_states ct_System_states : Value} {od_System_marks an_System_marks : Option Addr} {sl_System_marks : Array (Option Value)} {oc_System_marks kV_System_marks dc_System_marks pm_System_marks cd_System_marks ct_System_marks : Value} {od_System_arrows an_System_arrows : Option Addr} {sl_System_arrows : Array (Option Value)} {oc_System_arrows kV_System_arrows dc_System_arrows pm_System_arrows cd_System_arrows ct_System_arrows : Value} {cd_ChainLattice : ClassData} {cd_SetLattice : ClassData}
    (z_abs : PySem.W.nsIn K mainGlobals "abs" = some none)
    (z_all : PySem.W.nsIn K mainGlobals "all" = some none)
    (z_enumerate : PySem.W.nsIn K mainGlobals "enumerate" = some none)
    (z_int : PySem.W.nsIn K mainGlobals "int" = some none)
    (z_len : PySem.W.nsIn K mainGlobals "len" = some none)
    (z_list : PySem.W.nsIn K mainGlobals "list" = some none)
    (z_max : PySem.W.nsIn K mainGlobals "max" = some none)
    (z_range : PySem.W.nsIn K mainGlobals "range" = some none)
    (z_str : PySem.W.nsIn K mainGlobals "str" = some none)
    (z_sum : PySem.W.nsIn K mainGlobals "sum" = some none)
    (z_super : PySem.W.nsIn K mainGlobals "super" = some none)
    (z_tuple : PySem.W.nsIn K mainGlobals "tuple" = some none)
    (g_parts_of : PySem.W.nsIn K mainGlobals "parts_of" = some (some (.ref f_parts_of)))
    (l_parts_of : K.lookup f_parts_of = some ⟨oc_parts_of, od_parts_of, .func (PySem.W.fnOf "parts_of" "parts_of" (defArgs St_parts_of) (defBody St_parts_of) (defScope St_parts_of) .none kV_parts_of dc_parts_of pm_parts_of an_parts_of cd_parts_of ct_parts_of), sl_parts_of⟩)
    (c_parts_of : PySem.W.codeIn K cd_parts_of "parts_of" = true)
    (k_parts_of : PySem.W.keepIn K (.ref f_parts_of) = true)
    (g_check_formula : PySem.W.nsIn K mainGlobals "check_formula" = some (some (.ref f_check_formula)))
    (l_check_formula : K.lookup f_check_formula = some ⟨oc_check_formula, od_check_formula, .func (PySem.W.fnOf "check_formula" "check_formula" (defArgs St_check_formula) (defBody St_check_formula) (defScope St_check_formula) .none kV_check_formula dc_check_formula pm_check_formula an_check_formula cd_check_formula ct_check_formula), sl_check_formula⟩)
    (c_check_formula : PySem.W.codeIn K cd_check_formula "check_formula" = true)
    (k_check_formula : PySem.W.keepIn K (.ref f_check_formula) = true)
    (g_values : PySem.W.nsIn K mainGlobals "values" = some (some (.ref f_values)))
    (l_values : K.lookup f_values = some ⟨oc_values, od_values, .func (PySem.W.fnOf "values" "values" (defArgs St_values) (defBody St_values) (defScope St_values) .none kV_values dc_values pm_values an_values cd_values ct_values), sl_values⟩)
    (c_values : PySem.W.codeIn K cd_values "values" = true)
    (k_values : PySem.W.keepIn K (.ref f_values) = true)
    (g_rounds : PySem.W.nsIn K mainGlobals "rounds" = some (some (.ref f_rounds)))
    (l_rounds : K.lookup f_rounds = some ⟨oc_rounds, od_rounds, .func (PySem.W.fnOf "rounds" "rounds" (defArgs St_rounds) (defBody St_rounds) (defScope St_rounds) .none kV_rounds dc_rounds pm_rounds an_rounds cd_rounds ct_rounds), sl_rounds⟩)
    (c_rounds : PySem.W.codeIn K cd_rounds "rounds" = true)
    (k_rounds : PySem.W.keepIn K (.ref f_rounds) = true)
    (g_first_place : PySem.W.nsIn K mainGlobals "first_place" = some (some (.ref f_first_place)))
    (l_first_place : K.lookup f_first_place = some ⟨oc_first_place, od_first_place, .func (PySem.W.fnOf "first_place" "first_place" (defArgs St_first_place) (defBody St_first_place) (defScope St_first_place) .none kV_first_place dc_first_place pm_first_place an_first_place cd_first_place ct_first_place), sl_first_place⟩)
    (c_first_place : PySem.W.codeIn K cd_first_place "first_place" = true)
    (k_first_place : PySem.W.keepIn K (.ref f_first_place) = true)
    (g_parts_among : PySem.W.nsIn K mainGlobals "parts_among" = some (some (.ref f_parts_among)))
    (l_parts_among : K.lookup f_parts_among = some ⟨oc_parts_among, od_parts_among, .func (PySem.W.fnOf "parts_among" "parts_among" (defArgs St_parts_among) (defBody St_parts_among) (defScope St_parts_among) .none kV_parts_among dc_parts_among pm_parts_among an_parts_among cd_parts_among ct_parts_among), sl_parts_among⟩)
    (c_parts_among : PySem.W.codeIn K cd_parts_among "parts_among" = true)
    (k_parts_among : PySem.W.keepIn K (.ref f_parts_among) = true)
    (g_is_name : PySem.W.nsIn K mainGlobals "is_name" = some (some (.ref f_is_name)))
    (l_is_name : K.lookup f_is_name = some ⟨oc_is_name, od_is_name, .func (PySem.W.fnOf "is_name" "is_name" (defArgs St_is_name) (defBody St_is_name) (defScope St_is_name) .none kV_is_name dc_is_name pm_is_name an_is_name cd_is_name ct_is_name), sl_is_name⟩)
    (c_is_name : PySem.W.codeIn K cd_is_name "is_name" = true)
    (k_is_name : PySem.W.keepIn K (.ref f_is_name) = true)
    (g__law_cells : PySem.W.nsIn K mainGlobals "_law_cells" = some (some (.ref f__law_cells)))
    (l__law_cells : K.lookup f__law_cells = some ⟨oc__law_cells, od__law_cells, .func (PySem.W.fnOf "_law_cells" "_law_cells" (defArgs St__law_cells) (defBody St__law_cells) (defScope St__law_cells) .none kV__law_cells dc__law_cells pm__law_cells an__law_cells cd__law_cells ct__law_cells), sl__law_cells⟩)
    (c__law_cells : PySem.W.codeIn K cd__law_cells "_law_cells" = true)
    (k__law_cells : PySem.W.keepIn K (.ref f__law_cells) = true)
    (g__law_pick : PySem.W.nsIn K mainGlobals "_law_pick" = some (some (.ref f__law_pick)))
    (l__law_pick : K.lookup f__law_pick = some ⟨oc__law_pick, od__law_pick, .func (PySem.W.fnOf "_law_pick" "_law_pick" (defArgs St__law_pick) (defBody St__law_pick) (defScope St__law_pick) .none kV__law_pick dc__law_pick pm__law_pick an__law_pick cd__law_pick ct__law_pick), sl__law_pick⟩)
    (c__law_pick : PySem.W.codeIn K cd__law_pick "_law_pick" = true)
    (k__law_pick : PySem.W.keepIn K (.ref f__law_pick) = true)
    (g__law_along : PySem.W.nsIn K mainGlobals "_law_along" = some (some (.ref f__law_along)))
    (l__law_along : K.lookup f__law_along = some ⟨oc__law_along, od__law_along, .func (PySem.W.fnOf "_law_along" "_law_along" (defArgs St__law_along) (defBody St__law_along) (defScope St__law_along) .none kV__law_along dc__law_along pm__law_along an__law_along cd__law_along ct__law_along), sl__law_along⟩)
    (c__law_along : PySem.W.codeIn K cd__law_along "_law_along" = true)
    (k__law_along : PySem.W.keepIn K (.ref f__law_along) = true)
    (g__law_formulas : PySem.W.nsIn K mainGlobals "_law_formulas" = some (some (.ref f__law_formulas)))
    (l__law_formulas : K.lookup f__law_formulas = some ⟨oc__law_formulas, od__law_formulas, .func (PySem.W.fnOf "_law_formulas" "_law_formulas" (defArgs St__law_formulas) (defBody St__law_formulas) (defScope St__law_formulas) .none kV__law_formulas dc__law_formulas pm__law_formulas an__law_formulas cd__law_formulas ct__law_formulas), sl__law_formulas⟩)
    (c__law_formulas : PySem.W.codeIn K cd__law_formulas "_law_formulas" = true)
    (k__law_formulas : PySem.W.keepIn K (.ref f__law_formulas) = true)
    (g_law : PySem.W.nsIn K mainGlobals "law" = some (some (.ref f_law)))
    (l_law : K.lookup f_law = some ⟨oc_law, od_law, .func (PySem.W.fnOf "law" "law" (defArgs St_law) (defBody St_law) (defScope St_law) .none kV_law dc_law pm_law an_law cd_law ct_law), sl_law⟩)
    (c_law : PySem.W.codeIn K cd_law "law" = true)
    (k_law : PySem.W.keepIn K (.ref f_law) = true)
    (g_PARTS : PySem.W.nsIn K mainGlobals "PARTS" = some (some (.ref f_PARTS)))
    (l_PARTS : K.lookup f_PARTS = some ⟨.type "dict", none, .dict es_PARTS n_PARTS, #[]⟩)
    (y_PARTS : PySem.W.KeysLit W_.params es_PARTS.toList)
    (lo_PARTS : (f_PARTS == sysModules) = false)
    (k_PARTS_true : PySem.W.nsIn K f_PARTS "true" = some (some (.ref t_PARTS_true)))
    (j_PARTS_true : K.lookup t_PARTS_true = some (⟨.type "tuple", none, .seq #[] n_PARTS_true, #[]⟩ : Obj))
    (k_PARTS_false : PySem.W.nsIn K f_PARTS "false" = some (some (.ref t_PARTS_false)))
    (j_PARTS_false : K.lookup t_PARTS_false = some (⟨.type "tuple", none, .seq #[] n_PARTS_false, #[]⟩ : Obj))
    (k_PARTS_value : PySem.W.nsIn K f_PARTS "value" = some (some (.ref t_PARTS_value)))
    (j_PARTS_value : K.lookup t_PARTS_value = some (⟨.type "tuple", none, .seq #[] n_PARTS_value, #[]⟩ : Obj))
    (k_PARTS_mark : PySem.W.nsIn K f_PARTS "mark" = some (some (.ref t_PARTS_mark)))
    (j_PARTS_mark : K.lookup t_PARTS_mark = some (⟨.type "tuple", none, .seq #[] n_PARTS_mark, #[]⟩ : Obj))
    (k_PARTS_name : PySem.W.nsIn K f_PARTS "name" = some (some (.ref t_PARTS_name)))
    (j_PARTS_name : K.lookup t_PARTS_name = some (⟨.type "tuple", none, .seq #[] n_PARTS_name, #[]⟩ : Obj))
    (k_PARTS_and : PySem.W.nsIn K f_PARTS "and" = some (some (.ref t_PARTS_and)))
    (j_PARTS_and : K.lookup t_PARTS_and = some (⟨.type "tuple", none, .seq #[.int 1 u0_PARTS_and, .int 2 u1_PARTS_and] n_PARTS_and, #[]⟩ : Obj))
    (k_PARTS_or : PySem.W.nsIn K f_PARTS "or" = some (some (.ref t_PARTS_or)))
    (j_PARTS_or : K.lookup t_PARTS_or = some (⟨.type "tuple", none, .seq #[.int 1 u0_PARTS_or, .int 2 u1_PARTS_or] n_PARTS_or, #[]⟩ : Obj))
    (k_PARTS_some : PySem.W.nsIn K f_PARTS "some" = some (some (.ref t_PARTS_some)))
    (j_PARTS_some : K.lookup t_PARTS_some = some (⟨.type "tuple", none, .seq #[.int 1 u0_PARTS_some] n_PARTS_some, #[]⟩ : Obj))
    (k_PARTS_all : PySem.W.nsIn K f_PARTS "all" = some (some (.ref t_PARTS_all)))
    (j_PARTS_all : K.lookup t_PARTS_all = some (⟨.type "tuple", none, .seq #[.int 1 u0_PARTS_all] n_PARTS_all, #[]⟩ : Obj))
    (k_PARTS_least : PySem.W.nsIn K f_PARTS "least" = some (some (.ref t_PARTS_least)))
    (j_PARTS_least : K.lookup t_PARTS_least = some (⟨.type "tuple", none, .seq #[.int 2 u0_PARTS_least] n_PARTS_least, #[]⟩ : Obj))
    (k_PARTS_most : PySem.W.nsIn K f_PARTS "most" = some (some (.ref t_PARTS_most)))
    (j_PARTS_most : K.lookup t_PARTS_most = some (⟨.type "tuple", none, .seq #[.int 2 u0_PARTS_most] n_PARTS_most, #[]⟩ : Obj))
    (g_MOST_VALUES : PySem.W.nsIn K mainGlobals "MOST_VALUES" = some (some (.int 64 u_MOST_VALUES)))
    (g_SMALL_LETTERS : PySem.W.nsIn K mainGlobals "SMALL_LETTERS" = some (some (.str "abcdefghijklmnopqrstuvwxyz" u_SMALL_LETTERS)))
    (g_TEN_FIGURES : PySem.W.nsIn K mainGlobals "TEN_FIGURES" = some (some (.str "0123456789" u_TEN_FIGURES)))
    (g_SHAPES : PySem.W.nsIn K mainGlobals "SHAPES" = some (some (.ref f_SHAPES)))
    (l_SHAPES : K.lookup f_SHAPES = some ⟨.type "dict", none, .dict es_SHAPES n_SHAPES, #[]⟩)
    (y_SHAPES : PySem.W.KeysLit W_.params es_SHAPES.toList)
    (lo_SHAPES : (f_SHAPES == sysModules) = false)
    (w_SHAPES : KeysOf es_SHAPES.toList ["value", "mark", "and", "or", "some", "all", "least", "most"])
    (k_SHAPES_value : PySem.W.nsIn K f_SHAPES "value" = some (some (.ref t_SHAPES_value)))
    (j_SHAPES_value : K.lookup t_SHAPES_value = some (⟨.type "tuple", none, .seq #[.str "value" u0_SHAPES_value] n_SHAPES_value, #[]⟩ : Obj))
    (k_SHAPES_mark : PySem.W.nsIn K f_SHAPES "mark" = some (some (.ref t_SHAPES_mark)))
    (j_SHAPES_mark : K.lookup t_SHAPES_mark = some (⟨.type "tuple", none, .seq #[.str "name" u0_SHAPES_mark] n_SHAPES_mark, #[]⟩ : Obj))
    (k_SHAPES_and : PySem.W.nsIn K f_SHAPES "and" = some (some (.ref t_SHAPES_and)))
    (j_SHAPES_and : K.lookup t_SHAPES_and = some (⟨.type "tuple", none, .seq #[.str "part" u0_SHAPES_and, .str "part" u1_SHAPES_and] n_SHAPES_and, #[]⟩ : Obj))
    (k_SHAPES_or : PySem.W.nsIn K f_SHAPES "or" = some (some (.ref t_SHAPES_or)))
    (j_SHAPES_or : K.lookup t_SHAPES_or = some (⟨.type "tuple", none, .seq #[.str "part" u0_SHAPES_or, .str "part" u1_SHAPES_or] n_SHAPES_or, #[]⟩ : Obj))
    (k_SHAPES_some : PySem.W.nsIn K f_SHAPES "some" = some (some (.ref t_SHAPES_some)))
    (j_SHAPES_some : K.lookup t_SHAPES_some = some (⟨.type "tuple", none, .seq #[.str "part" u0_SHAPES_some] n_SHAPES_some, #[]⟩ : Obj))
    (k_SHAPES_all : PySem.W.nsIn K f_SHAPES "all" = some (some (.ref t_SHAPES_all)))
    (j_SHAPES_all : K.lookup t_SHAPES_all = some (⟨.type "tuple", none, .seq #[.str "part" u0_SHAPES_all] n_SHAPES_all, #[]⟩ : Obj))
    (k_SHAPES_least : PySem.W.nsIn K f_SHAPES "least" = some (some (.ref t_SHAPES_least)))
    (j_SHAPES_least : K.lookup t_SHAPES_least = some (⟨.type "tuple", none, .seq #[.str "name" u0_SHAPES_least, .str "part" u1_SHAPES_least] n_SHAPES_least, #[]⟩ : Obj))
    (k_SHAPES_most : PySem.W.nsIn K f_SHAPES "most" = some (some (.ref t_SHAPES_most)))
    (j_SHAPES_most : K.lookup t_SHAPES_most = some (⟨.type "tuple", none, .seq #[.str "name" u0_SHAPES_most, .str "part" u1_SHAPES_most] n_SHAPES_most, #[]⟩ : Obj))
    (g_SINGLE_WORDS : PySem.W.nsIn K mainGlobals "SINGLE_WORDS" = some (some (.ref f_SINGLE_WORDS)))
    (l_SINGLE_WORDS : K.lookup f_SINGLE_WORDS = some (⟨.type "tuple", none, .seq #[.str "true" u0_SINGLE_WORDS, .str "false" u1_SINGLE_WORDS] n_SINGLE_WORDS, #[]⟩ : Obj))
    (g_Evaluation : PySem.W.nsIn K mainGlobals "Evaluation" = some (some (.ref f_Evaluation)))
    (pg_Evaluation : PySem.W.plainGet K f_Evaluation Str.empty = true)
    (hd_Evaluation : PySem.W.hasDictIn K f_Evaluation = true)
    (po_Evaluation : PySem.W.plainOver K f_Evaluation = true)
    (sa_Evaluation : PySem.W.findIn K (.ref f_Evaluation) "__setattr__" = some (some (.builtin "object.__setattr__")))
    (mk_Evaluation : PySem.W.makesIn K f_Evaluation = true)
    (kc_Evaluation : PySem.W.keepIn K (.ref f_Evaluation) = true)
    (na_Evaluation_lattice : PySem.W.findIn K (.ref f_Evaluation) "lattice" = some none)
    (na_Evaluation_state_names : PySem.W.findIn K (.ref f_Evaluation) "state_names" = some none)
    (na_Evaluation_mark_values : PySem.W.findIn K (.ref f_Evaluation) "mark_values" = some none)
    (na_Evaluation_moves : PySem.W.findIn K (.ref f_Evaluation) "moves" = some none)
    (h_Evaluation_init : PySem.W.findIn K (.ref f_Evaluation) "__init__" = some (some (.ref f_Evaluation_init)))
    (i_Evaluation_init : PySem.W.isFn K (.ref f_Evaluation_init) = true)
    (l_Evaluation_init : K.lookup f_Evaluation_init = some ⟨oc_Evaluation_init, od_Evaluation_init, .func (PySem.W.fnOf "__init__" "Evaluation.__init__" (defArgs St_Evaluation_init) (defBody St_Evaluation_init) (defScope St_Evaluation_init) .none kV_Evaluation_init dc_Evaluation_init pm_Evaluation_init an_Evaluation_init cd_Evaluation_init ct_Evaluation_init), sl_Evaluation_init⟩)
    (c_Evaluation_init : PySem.W.codeIn K cd_Evaluation_init "Evaluation.__init__" = true)
    (k_Evaluation_init : PySem.W.keepIn K (.ref f_Evaluation_init) = true)
    (h_Evaluation_everywhere : PySem.W.findIn K (.ref f_Evaluation) "everywhere" = some (some (.ref f_Evaluation_everywhere)))
    (i_Evaluation_everywhere : PySem.W.isFn K (.ref f_Evaluation_everywhere) = true)
    (l_Evaluation_everywhere : K.lookup f_Evaluation_everywhere = some ⟨oc_Evaluation_everywhere, od_Evaluation_everywhere, .func (PySem.W.fnOf "everywhere" "Evaluation.everywhere" (defArgs St_Evaluation_everywhere) (defBody St_Evaluation_everywhere) (defScope St_Evaluation_everywhere) .none kV_Evaluation_everywhere dc_Evaluation_everywhere pm_Evaluation_everywhere an_Evaluation_everywhere cd_Evaluation_everywhere ct_Evaluation_everywhere), sl_Evaluation_everywhere⟩)
    (c_Evaluation_everywhere : PySem.W.codeIn K cd_Evaluation_everywhere "Evaluation.everywhere" = true)
    (k_Evaluation_everywhere : PySem.W.keepIn K (.ref f_Evaluation_everywhere) = true)
    (h_Evaluation_places : PySem.W.findIn K (.ref f_Evaluation) "places" = some (some (.ref f_Evaluation_places)))
    (i_Evaluation_places : PySem.W.isFn K (.ref f_Evaluation_places) = true)
    (l_Evaluation_places : K.lookup f_Evaluation_places = some ⟨oc_Evaluation_places, od_Evaluation_places, .func (PySem.W.fnOf "places" "Evaluation.places" (defArgs St_Evaluation_places) (defBody St_Evaluation_places) (defScope St_Evaluation_places) .none kV_Evaluation_places dc_Evaluation_places pm_Evaluation_places an_Evaluation_places cd_Evaluation_places ct_Evaluation_places), sl_Evaluation_places⟩)
    (c_Evaluation_places : PySem.W.codeIn K cd_Evaluation_places "Evaluation.places" = true)
    (k_Evaluation_places : PySem.W.keepIn K (.ref f_Evaluation_places) = true)
    (h_Evaluation_some_at : PySem.W.findIn K (.ref f_Evaluation) "some_at" = some (some (.ref f_Evaluation_some_at)))
    (i_Evaluation_some_at : PySem.W.isFn K (.ref f_Evaluation_some_at) = true)
    (l_Evaluation_some_at : K.lookup f_Evaluation_some_at = some ⟨oc_Evaluation_some_at, od_Evaluation_some_at, .func (PySem.W.fnOf "some_at" "Evaluation.some_at" (defArgs St_Evaluation_some_at) (defBody St_Evaluation_some_at) (defScope St_Evaluation_some_at) .none kV_Evaluation_some_at dc_Evaluation_some_at pm_Evaluation_some_at an_Evaluation_some_at cd_Evaluation_some_at ct_Evaluation_some_at), sl_Evaluation_some_at⟩)
    (c_Evaluation_some_at : PySem.W.codeIn K cd_Evaluation_some_at "Evaluation.some_at" = true)
    (k_Evaluation_some_at : PySem.W.keepIn K (.ref f_Evaluation_some_at) = true)
    (h_Evaluation_all_at : PySem.W.findIn K (.ref f_Evaluation) "all_at" = some (some (.ref f_Evaluation_all_at)))
    (i_Evaluation_all_at : PySem.W.isFn K (.ref f_Evaluation_all_at) = true)
    (l_Evaluation_all_at : K.lookup f_Evaluation_all_at = some ⟨oc_Evaluation_all_at, od_Evaluation_all_at, .func (PySem.W.fnOf "all_at" "Evaluation.all_at" (defArgs St_Evaluation_all_at) (defBody St_Evaluation_all_at) (defScope St_Evaluation_all_at) .none kV_Evaluation_all_at dc_Evaluation_all_at pm_Evaluation_all_at an_Evaluation_all_at cd_Evaluation_all_at ct_Evaluation_all_at), sl_Evaluation_all_at⟩)
    (c_Evaluation_all_at : PySem.W.codeIn K cd_Evaluation_all_at "Evaluation.all_at" = true)
    (k_Evaluation_all_at : PySem.W.keepIn K (.ref f_Evaluation_all_at) = true)
    (h_Evaluation_by_rounds : PySem.W.findIn K (.ref f_Evaluation) "by_rounds" = some (some (.ref f_Evaluation_by_rounds)))
    (i_Evaluation_by_rounds : PySem.W.isFn K (.ref f_Evaluation_by_rounds) = true)
    (l_Evaluation_by_rounds : K.lookup f_Evaluation_by_rounds = some ⟨oc_Evaluation_by_rounds, od_Evaluation_by_rounds, .func (PySem.W.fnOf "by_rounds" "Evaluation.by_rounds" (defArgs St_Evaluation_by_rounds) (defBody St_Evaluation_by_rounds) (defScope St_Evaluation_by_rounds) .none kV_Evaluation_by_rounds dc_Evaluation_by_rounds pm_Evaluation_by_rounds an_Evaluation_by_rounds cd_Evaluation_by_rounds ct_Evaluation_by_rounds), sl_Evaluation_by_rounds⟩)
    (c_Evaluation_by_rounds : PySem.W.codeIn K cd_Evaluation_by_rounds "Evaluation.by_rounds" = true)
    (k_Evaluation_by_rounds : PySem.W.keepIn K (.ref f_Evaluation_by_rounds) = true)
    (h_Evaluation_counted_rounds : PySem.W.findIn K (.ref f_Evaluation) "counted_rounds" = some (some (.ref f_Evaluation_counted_rounds)))
    (i_Evaluation_counted_rounds : PySem.W.isFn K (.ref f_Evaluation_counted_rounds) = true)
    (l_Evaluation_counted_rounds : K.lookup f_Evaluation_counted_rounds = some ⟨oc_Evaluation_counted_rounds, od_Evaluation_counted_rounds, .func (PySem.W.fnOf "counted_rounds" "Evaluation.counted_rounds" (defArgs St_Evaluation_counted_rounds) (defBody St_Evaluation_counted_rounds) (defScope St_Evaluation_counted_rounds) .none kV_Evaluation_counted_rounds dc_Evaluation_counted_rounds pm_Evaluation_counted_rounds an_Evaluation_counted_rounds cd_Evaluation_counted_rounds ct_Evaluation_counted_rounds), sl_Evaluation_counted_rounds⟩)
    (c_Evaluation_counted_rounds : PySem.W.codeIn K cd_Evaluation_counted_rounds "Evaluation.counted_rounds" = true)
    (k_Evaluation_counted_rounds : PySem.W.keepIn K (.ref f_Evaluation_counted_rounds) = true)
    (g_Lattice : PySem.W.nsIn K mainGlobals "Lattice" = some (some (.ref f_Lattice)))
    (pg_Lattice : PySem.W.plainGet K f_Lattice Str.empty = true)
    (hd_Lattice : PySem.W.hasDictIn K f_Lattice = true)
    (po_Lattice : PySem.W.plainOver K f_Lattice = true)
    (sa_Lattice : PySem.W.findIn K (.ref f_Lattice) "__setattr__" = some (some (.builtin "object.__setattr__")))
    (mk_Lattice : PySem.W.makesIn K f_Lattice = true)
    (kc_Lattice : PySem.W.keepIn K (.ref f_Lattice) = true)
    (na_Lattice_label : PySem.W.findIn K (.ref f_Lattice) "label" = some none)
    (na_Lattice_size : PySem.W.findIn K (.ref f_Lattice) "size" = some none)
    (na_Lattice_depth : PySem.W.findIn K (.ref f_Lattice) "depth" = some none)
    (na_Lattice_value_names : PySem.W.findIn K (.ref f_Lattice) "value_names" = some none)
    (na_Lattice_downs : PySem.W.findIn K (.ref f_Lattice) "downs" = some none)
    (na_Lattice_ups : PySem.W.findIn K (.ref f_Lattice) "ups" = some none)
    (na_Lattice_bottom_at : PySem.W.findIn K (.ref f_Lattice) "bottom_at" = some none)
    (na_Lattice_top_at : PySem.W.findIn K (.ref f_Lattice) "top_at" = some none)
    (h_Lattice_init : PySem.W.findIn K (.ref f_Lattice) "__init__" = some (some (.ref f_Lattice_init)))
    (i_Lattice_init : PySem.W.isFn K (.ref f_Lattice_init) = true)
    (l_Lattice_init : K.lookup f_Lattice_init = some ⟨oc_Lattice_init, od_Lattice_init, .func (PySem.W.fnOf "__init__" "Lattice.__init__" (defArgs St_Lattice_init) (defBody St_Lattice_init) (defScope St_Lattice_init) (.ref td_Lattice_init) kV_Lattice_init dc_Lattice_init pm_Lattice_init an_Lattice_init cd_Lattice_init ct_Lattice_init), sl_Lattice_init⟩)
    (c_Lattice_init : PySem.W.codeIn K cd_Lattice_init "Lattice.__init__" = true)
    (k_Lattice_init : PySem.W.keepIn K (.ref f_Lattice_init) = true)
    (dd_Lattice_init : K.lookup td_Lattice_init = some (⟨.type "tuple", none, .seq #[.int 1 du0_Lattice_init] dn_Lattice_init, #[]⟩ : Obj))
    (h_Lattice_within_at : PySem.W.findIn K (.ref f_Lattice) "within_at" = some (some (.ref f_Lattice_within_at)))
    (i_Lattice_within_at : PySem.W.isFn K (.ref f_Lattice_within_at) = true)
    (l_Lattice_within_at : K.lookup f_Lattice_within_at = some ⟨oc_Lattice_within_at, od_Lattice_within_at, .func (PySem.W.fnOf "within_at" "Lattice.within_at" (defArgs St_Lattice_within_at) (defBody St_Lattice_within_at) (defScope St_Lattice_within_at) .none kV_Lattice_within_at dc_Lattice_within_at pm_Lattice_within_at an_Lattice_within_at cd_Lattice_within_at ct_Lattice_within_at), sl_Lattice_within_at⟩)
    (c_Lattice_within_at : PySem.W.codeIn K cd_Lattice_within_at "Lattice.within_at" = true)
    (k_Lattice_within_at : PySem.W.keepIn K (.ref f_Lattice_within_at) = true)
    (h_Lattice_join_at : PySem.W.findIn K (.ref f_Lattice) "join_at" = some (some (.ref f_Lattice_join_at)))
    (i_Lattice_join_at : PySem.W.isFn K (.ref f_Lattice_join_at) = true)
    (l_Lattice_join_at : K.lookup f_Lattice_join_at = some ⟨oc_Lattice_join_at, od_Lattice_join_at, .func (PySem.W.fnOf "join_at" "Lattice.join_at" (defArgs St_Lattice_join_at) (defBody St_Lattice_join_at) (defScope St_Lattice_join_at) .none kV_Lattice_join_at dc_Lattice_join_at pm_Lattice_join_at an_Lattice_join_at cd_Lattice_join_at ct_Lattice_join_at), sl_Lattice_join_at⟩)
    (c_Lattice_join_at : PySem.W.codeIn K cd_Lattice_join_at "Lattice.join_at" = true)
    (k_Lattice_join_at : PySem.W.keepIn K (.ref f_Lattice_join_at) = true)
    (h_Lattice_meet_at : PySem.W.findIn K (.ref f_Lattice) "meet_at" = some (some (.ref f_Lattice_meet_at)))
    (i_Lattice_meet_at : PySem.W.isFn K (.ref f_Lattice_meet_at) = true)
    (l_Lattice_meet_at : K.lookup f_Lattice_meet_at = some ⟨oc_Lattice_meet_at, od_Lattice_meet_at, .func (PySem.W.fnOf "meet_at" "Lattice.meet_at" (defArgs St_Lattice_meet_at) (defBody St_Lattice_meet_at) (defScope St_Lattice_meet_at) .none kV_Lattice_meet_at dc_Lattice_meet_at pm_Lattice_meet_at an_Lattice_meet_at cd_Lattice_meet_at ct_Lattice_meet_at), sl_Lattice_meet_at⟩)
    (c_Lattice_meet_at : PySem.W.codeIn K cd_Lattice_meet_at "Lattice.meet_at" = true)
    (k_Lattice_meet_at : PySem.W.keepIn K (.ref f_Lattice_meet_at) = true)
    (h_Lattice_name_at : PySem.W.findIn K (.ref f_Lattice) "name_at" = some (some (.ref f_Lattice_name_at)))
    (i_Lattice_name_at : PySem.W.isFn K (.ref f_Lattice_name_at) = true)
    (l_Lattice_name_at : K.lookup f_Lattice_name_at = some ⟨oc_Lattice_name_at, od_Lattice_name_at, .func (PySem.W.fnOf "name_at" "Lattice.name_at" (defArgs St_Lattice_name_at) (defBody St_Lattice_name_at) (defScope St_Lattice_name_at) .none kV_Lattice_name_at dc_Lattice_name_at pm_Lattice_name_at an_Lattice_name_at cd_Lattice_name_at ct_Lattice_name_at), sl_Lattice_name_at⟩)
    (c_Lattice_name_at : PySem.W.codeIn K cd_Lattice_name_at "Lattice.name_at" = true)
    (k_Lattice_name_at : PySem.W.keepIn K (.ref f_Lattice_name_at) = true)
    (h_Lattice_at_name : PySem.W.findIn K (.ref f_Lattice) "at_name" = some (some (.ref f_Lattice_at_name)))
    (i_Lattice_at_name : PySem.W.isFn K (.ref f_Lattice_at_name) = true)
    (l_Lattice_at_name : K.lookup f_Lattice_at_name = some ⟨oc_Lattice_at_name, od_Lattice_at_name, .func (PySem.W.fnOf "at_name" "Lattice.at_name" (defArgs St_Lattice_at_name) (defBody St_Lattice_at_name) (defScope St_Lattice_at_name) .none kV_Lattice_at_name dc_Lattice_at_name pm_Lattice_at_name an_Lattice_at_name cd_Lattice_at_name ct_Lattice_at_name), sl_Lattice_at_name⟩)
    (c_Lattice_at_name : PySem.W.codeIn K cd_Lattice_at_name "Lattice.at_name" = true)
    (k_Lattice_at_name : PySem.W.keepIn K (.ref f_Lattice_at_name) = true)
    (h_Lattice_irreducibles : PySem.W.findIn K (.ref f_Lattice) "irreducibles" = some (some (.ref f_Lattice_irreducibles)))
    (i_Lattice_irreducibles : PySem.W.isFn K (.ref f_Lattice_irreducibles) = true)
    (l_Lattice_irreducibles : K.lookup f_Lattice_irreducibles = some ⟨oc_Lattice_irreducibles, od_Lattice_irreducibles, .func (PySem.W.fnOf "irreducibles" "Lattice.irreducibles" (defArgs St_Lattice_irreducibles) (defBody St_Lattice_irreducibles) (defScope St_Lattice_irreducibles) .none kV_Lattice_irreducibles dc_Lattice_irreducibles pm_Lattice_irreducibles an_Lattice_irreducibles cd_Lattice_irreducibles ct_Lattice_irreducibles), sl_Lattice_irreducibles⟩)
    (c_Lattice_irreducibles : PySem.W.codeIn K cd_Lattice_irreducibles "Lattice.irreducibles" = true)
    (k_Lattice_irreducibles : PySem.W.keepIn K (.ref f_Lattice_irreducibles) = true)
    (g_ChainLattice : PySem.W.nsIn K mainGlobals "ChainLattice" = some (some (.ref f_ChainLattice)))
    (pg_ChainLattice : PySem.W.plainGet K f_ChainLattice Str.empty = true)
    (hd_ChainLattice : PySem.W.hasDictIn K f_ChainLattice = true)
    (po_ChainLattice : PySem.W.plainOver K f_ChainLattice = true)
    (sa_ChainLattice : PySem.W.findIn K (.ref f_ChainLattice) "__setattr__" = some (some (.builtin "object.__setattr__")))
    (mk_ChainLattice : PySem.W.makesIn K f_ChainLattice = true)
    (kc_ChainLattice : PySem.W.keepIn K (.ref f_ChainLattice) = true)
    (na_ChainLattice_label : PySem.W.findIn K (.ref f_ChainLattice) "label" = some none)
    (na_ChainLattice_size : PySem.W.findIn K (.ref f_ChainLattice) "size" = some none)
    (na_ChainLattice_depth : PySem.W.findIn K (.ref f_ChainLattice) "depth" = some none)
    (na_ChainLattice_value_names : PySem.W.findIn K (.ref f_ChainLattice) "value_names" = some none)
    (na_ChainLattice_downs : PySem.W.findIn K (.ref f_ChainLattice) "downs" = some none)
    (na_ChainLattice_ups : PySem.W.findIn K (.ref f_ChainLattice) "ups" = some none)
    (na_ChainLattice_bottom_at : PySem.W.findIn K (.ref f_ChainLattice) "bottom_at" = some none)
    (na_ChainLattice_top_at : PySem.W.findIn K (.ref f_ChainLattice) "top_at" = some none)
    (h_ChainLattice_init : PySem.W.findIn K (.ref f_ChainLattice) "__init__" = some (some (.ref f_ChainLattice_init)))
    (i_ChainLattice_init : PySem.W.isFn K (.ref f_ChainLattice_init) = true)
    (l_ChainLattice_init : K.lookup f_ChainLattice_init = some ⟨oc_ChainLattice_init, od_ChainLattice_init, .func (PySem.W.ksFn "__init__" "ChainLattice.__init__" (defArgs St_ChainLattice_init) (defBody St_ChainLattice_init) (defScope St_ChainLattice_init) .none kV_ChainLattice_init dc_ChainLattice_init pm_ChainLattice_init an_ChainLattice_init (.ref cda_ChainLattice_init) ct_ChainLattice_init cc_ChainLattice_init), sl_ChainLattice_init⟩)
    (c_ChainLattice_init : PySem.W.codeIn K (.ref cda_ChainLattice_init) "ChainLattice.__init__" = true)
    (k_ChainLattice_init : PySem.W.keepIn K (.ref f_ChainLattice_init) = true)
    (q_ChainLattice_init : K.lookup cc_ChainLattice_init = some ⟨ca_ChainLattice_init, cb_ChainLattice_init, .cell (some (.ref f_ChainLattice)), ce_ChainLattice_init⟩)
    (v_ChainLattice_init : K.lookup cda_ChainLattice_init = some ⟨va_ChainLattice_init, vb_ChainLattice_init, .fields vs_ChainLattice_init, ve_ChainLattice_init⟩)
    (vf_ChainLattice_init : vs_ChainLattice_init[2]? = some (.str fl_ChainLattice_init tf_ChainLattice_init))
    (vg_ChainLattice_init : ((PL.main.file : Str) == fl_ChainLattice_init) = true)
    (g_SetLattice : PySem.W.nsIn K mainGlobals "SetLattice" = some (some (.ref f_SetLattice)))
    (pg_SetLattice : PySem.W.plainGet K f_SetLattice Str.empty = true)
    (hd_SetLattice : PySem.W.hasDictIn K f_SetLattice = true)
    (po_SetLattice : PySem.W.plainOver K f_SetLattice = true)
    (sa_SetLattice : PySem.W.findIn K (.ref f_SetLattice) "__setattr__" = some (some (.builtin "object.__setattr__")))
    (mk_SetLattice : PySem.W.makesIn K f_SetLattice = true)
    (kc_SetLattice : PySem.W.keepIn K (.ref f_SetLattice) = true)
    (na_SetLattice_label : PySem.W.findIn K (.ref f_SetLattice) "label" = some none)
    (na_SetLattice_size : PySem.W.findIn K (.ref f_SetLattice) "size" = some none)
    (na_SetLattice_depth : PySem.W.findIn K (.ref f_SetLattice) "depth" = some none)
    (na_SetLattice_value_names : PySem.W.findIn K (.ref f_SetLattice) "value_names" = some none)
    (na_SetLattice_downs : PySem.W.findIn K (.ref f_SetLattice) "downs" = some none)
    (na_SetLattice_ups : PySem.W.findIn K (.ref f_SetLattice) "ups" = some none)
    (na_SetLattice_bottom_at : PySem.W.findIn K (.ref f_SetLattice) "bottom_at" = some none)
    (na_SetLattice_top_at : PySem.W.findIn K (.ref f_SetLattice) "top_at" = some none)
    (h_SetLattice_init : PySem.W.findIn K (.ref f_SetLattice) "__init__" = some (some (.ref f_SetLattice_init)))
    (i_SetLattice_init : PySem.W.isFn K (.ref f_SetLattice_init) = true)
    (l_SetLattice_init : K.lookup f_SetLattice_init = some ⟨oc_SetLattice_init, od_SetLattice_init, .func (PySem.W.ksFn "__init__" "SetLattice.__init__" (defArgs St_SetLattice_init) (defBody St_SetLattice_init) (defScope St_SetLattice_init) .none kV_SetLattice_init dc_SetLattice_init pm_SetLattice_init an_SetLattice_init (.ref cda_SetLattice_init) ct_SetLattice_init cc_SetLattice_init), sl_SetLattice_init⟩)
    (c_SetLattice_init : PySem.W.codeIn K (.ref cda_SetLattice_init) "SetLattice.__init__" = true)
    (k_SetLattice_init : PySem.W.keepIn K (.ref f_SetLattice_init) = true)
    (q_SetLattice_init : K.lookup cc_SetLattice_init = some ⟨ca_SetLattice_init, cb_SetLattice_init, .cell (some (.ref f_SetLattice)), ce_SetLattice_init⟩)
    (v_SetLattice_init : K.lookup cda_SetLattice_init = some ⟨va_SetLattice_init, vb_SetLattice_init, .fields vs_SetLattice_init, ve_SetLattice_init⟩)
    (vf_SetLattice_init : vs_SetLattice_init[2]? = some (.str fl_SetLattice_init tf_SetLattice_init))
    (vg_SetLattice_init : ((PL.main.file : Str) == fl_SetLattice_init) = true)
    (g_System : PySem.W.nsIn K mainGlobals "System" = some (some (.ref f_System)))
    (pg_System : PySem.W.plainGet K f_System Str.empty = true)
    (hd_System : PySem.W.hasDictIn K f_System = true)
    (po_System : PySem.W.plainOver K f_System = true)
    (sa_System : PySem.W.findIn K (.ref f_System) "__setattr__" = some (some (.builtin "object.__setattr__")))
    (mk_System : PySem.W.makesIn K f_System = true)
    (kc_System : PySem.W.keepIn K (.ref f_System) = true)
    (na_System_lattice : PySem.W.findIn K (.ref f_System) "lattice" = some none)
    (na_System_state_row : PySem.W.findIn K (.ref f_System) "state_row" = some none)
    (na_System_mark_rows : PySem.W.findIn K (.ref f_System) "mark_rows" = some none)
    (na_System_arrow_rows : PySem.W.findIn K (.ref f_System) "arrow_rows" = some none)
    (na_System_told_marks : PySem.W.findIn K (.ref f_System) "told_marks" = some none)
    (na_System_leaving : PySem.W.findIn K (.ref f_System) "leaving" = some none)
    (h_System_init : PySem.W.findIn K (.ref f_System) "__init__" = some (some (.ref f_System_init)))
    (i_System_init : PySem.W.isFn K (.ref f_System_init) = true)
    (l_System_init : K.lookup f_System_init = some ⟨oc_System_init, od_System_init, .func (PySem.W.fnOf "__init__" "System.__init__" (defArgs St_System_init) (defBody St_System_init) (defScope St_System_init) .none kV_System_init dc_System_init pm_System_init an_System_init cd_System_init ct_System_init), sl_System_init⟩)
    (c_System_init : PySem.W.codeIn K cd_System_init "System.__init__" = true)
    (k_System_init : PySem.W.keepIn K (.ref f_System_init) = true)
    (h_System_tell_state : PySem.W.findIn K (.ref f_System) "tell_state" = some (some (.ref f_System_tell_state)))
    (i_System_tell_state : PySem.W.isFn K (.ref f_System_tell_state) = true)
    (l_System_tell_state : K.lookup f_System_tell_state = some ⟨oc_System_tell_state, od_System_tell_state, .func (PySem.W.fnOf "tell_state" "System.tell_state" (defArgs St_System_tell_state) (defBody St_System_tell_state) (defScope St_System_tell_state) .none kV_System_tell_state dc_System_tell_state pm_System_tell_state an_System_tell_state cd_System_tell_state ct_System_tell_state), sl_System_tell_state⟩)
    (c_System_tell_state : PySem.W.codeIn K cd_System_tell_state "System.tell_state" = true)
    (k_System_tell_state : PySem.W.keepIn K (.ref f_System_tell_state) = true)
    (h_System_tell_mark : PySem.W.findIn K (.ref f_System) "tell_mark" = some (some (.ref f_System_tell_mark)))
    (i_System_tell_mark : PySem.W.isFn K (.ref f_System_tell_mark) = true)
    (l_System_tell_mark : K.lookup f_System_tell_mark = some ⟨oc_System_tell_mark, od_System_tell_mark, .func (PySem.W.fnOf "tell_mark" "System.tell_mark" (defArgs St_System_tell_mark) (defBody St_System_tell_mark) (defScope St_System_tell_mark) .none kV_System_tell_mark dc_System_tell_mark pm_System_tell_mark an_System_tell_mark cd_System_tell_mark ct_System_tell_mark), sl_System_tell_mark⟩)
    (c_System_tell_mark : PySem.W.codeIn K cd_System_tell_mark "System.tell_mark" = true)
    (k_System_tell_mark : PySem.W.keepIn K (.ref f_System_tell_mark) = true)
    (h_System_tell_arrow : PySem.W.findIn K (.ref f_System) "tell_arrow" = some (some (.ref f_System_tell_arrow)))
    (i_System_tell_arrow : PySem.W.isFn K (.ref f_System_tell_arrow) = true)
    (l_System_tell_arrow : K.lookup f_System_tell_arrow = some ⟨oc_System_tell_arrow, od_System_tell_arrow, .func (PySem.W.fnOf "tell_arrow" "System.tell_arrow" (defArgs St_System_tell_arrow) (defBody St_System_tell_arrow) (defScope St_System_tell_arrow) .none kV_System_tell_arrow dc_System_tell_arrow pm_System_tell_arrow an_System_tell_arrow cd_System_tell_arrow ct_System_tell_arrow), sl_System_tell_arrow⟩)
    (c_System_tell_arrow : PySem.W.codeIn K cd_System_tell_arrow "System.tell_arrow" = true)
    (k_System_tell_arrow : PySem.W.keepIn K (.ref f_System_tell_arrow) = true)
    (h_System_need_state : PySem.W.findIn K (.ref f_System) "need_state" = some (some (.ref f_System_need_state)))
    (i_System_need_state : PySem.W.isFn K (.ref f_System_need_state) = true)
    (l_System_need_state : K.lookup f_System_need_state = some ⟨oc_System_need_state, od_System_need_state, .func (PySem.W.fnOf "need_state" "System.need_state" (defArgs St_System_need_state) (defBody St_System_need_state) (defScope St_System_need_state) .none kV_System_need_state dc_System_need_state pm_System_need_state an_System_need_state cd_System_need_state ct_System_need_state), sl_System_need_state⟩)
    (c_System_need_state : PySem.W.codeIn K cd_System_need_state "System.need_state" = true)
    (k_System_need_state : PySem.W.keepIn K (.ref f_System_need_state) = true)
    (h_System_states : PySem.W.findIn K (.ref f_System) "states" = some (some (.ref f_System_states)))
    (i_System_states : PySem.W.isFn K (.ref f_System_states) = true)
    (l_System_states : K.lookup f_System_states = some ⟨oc_System_states, od_System_states, .func (PySem.W.fnOf "states" "System.states" (defArgs St_System_states) (defBody St_System_states) (defScope St_System_states) .none kV_System_states dc_System_states pm_System_states an_System_states cd_System_states ct_System_states), sl_System_states⟩)
    (c_System_states : PySem.W.codeIn K cd_System_states "System.states" = true)
    (k_System_states : PySem.W.keepIn K (.ref f_System_states) = true)
    (h_System_marks : PySem.W.findIn K (.ref f_System) "marks" = some (some (.ref f_System_marks)))
    (i_System_marks : PySem.W.isFn K (.ref f_System_marks) = true)
    (l_System_marks : K.lookup f_System_marks = some ⟨oc_System_marks, od_System_marks, .func (PySem.W.fnOf "marks" "System.marks" (defArgs St_System_marks) (defBody St_System_marks) (defScope St_System_marks) .none kV_System_marks dc_System_marks pm_System_marks an_System_marks cd_System_marks ct_System_marks), sl_System_marks⟩)
    (c_System_marks : PySem.W.codeIn K cd_System_marks "System.marks" = true)
    (k_System_marks : PySem.W.keepIn K (.ref f_System_marks) = true)
    (h_System_arrows : PySem.W.findIn K (.ref f_System) "arrows" = some (some (.ref f_System_arrows)))
    (i_System_arrows : PySem.W.isFn K (.ref f_System_arrows) = true)
    (l_System_arrows : K.lookup f_System_arrows = some ⟨oc_System_arrows, od_System_arrows, .func (PySem.W.fnOf "arrows" "System.arrows" (defArgs St_System_arrows) (defBody St_System_arrows) (defScope St_System_arrows) .none kV_System_arrows dc_System_arrows pm_System_arrows an_System_arrows cd_System_arrows ct_System_arrows), sl_System_arrows⟩)
    (c_System_arrows : PySem.W.codeIn K cd_System_arrows "System.arrows" = true)
    (k_System_arrows : PySem.W.keepIn K (.ref f_System_arrows) = true)
    (mr_ChainLattice : PySem.W.mroIn K f_ChainLattice (.ref f_ChainLattice) = some true)
    (su_ChainLattice : PySem.W.ks_superIn K f_ChainLattice f_ChainLattice "__init__" = some (some (.ref f_Lattice_init)))
    (ci_ChainLattice : PySem.W.clsIn K f_ChainLattice = some cd_ChainLattice)
    (hh_ChainLattice_within_at : PySem.W.findIn K (.ref f_ChainLattice) "within_at" = some (some (.ref f_Lattice_within_at)))
    (hh_ChainLattice_join_at : PySem.W.findIn K (.ref f_ChainLattice) "join_at" = some (some (.ref f_Lattice_join_at)))
    (hh_ChainLattice_meet_at : PySem.W.findIn K (.ref f_ChainLattice) "meet_at" = some (some (.ref f_Lattice_meet_at)))
    (hh_ChainLattice_name_at : PySem.W.findIn K (.ref f_ChainLattice) "name_at" = some (some (.ref f_Lattice_name_at)))
    (hh_ChainLattice_at_name : PySem.W.findIn K (.ref f_ChainLattice) "at_name" = some (some (.ref f_Lattice_at_name)))
    (hh_ChainLattice_irreducibles : PySem.W.findIn K (.ref f_ChainLattice) "irreducibles" = some (some (.ref f_Lattice_irreducibles)))
    (mr_SetLattice : PySem.W.mroIn K f_SetLattice (.ref f_SetLattice) = some true)
    (su_SetLattice : PySem.W.ks_superIn K f_SetLattice f_SetLattice "__init__" = some (some (.ref f_Lattice_init)))
    (ci_SetLattice : PySem.W.clsIn K f_SetLattice = some cd_SetLattice)
    (hh_SetLattice_within_at : PySem.W.findIn K (.ref f_SetLattice) "within_at" = some (some (.ref f_Lattice_within_at)))
    (hh_SetLattice_join_at : PySem.W.findIn K (.ref f_SetLattice) "join_at" = some (some (.ref f_Lattice_join_at)))
    (hh_SetLattice_meet_at : PySem.W.findIn K (.ref f_SetLattice) "meet_at" = some (some (.ref f_Lattice_meet_at)))
    (hh_SetLattice_name_at : PySem.W.findIn K (.ref f_SetLattice) "name_at" = some (some (.ref f_Lattice_name_at)))
    (hh_SetLattice_at_name : PySem.W.findIn K (.ref f_SetLattice) "at_name" = some (some (.ref f_Lattice_at_name)))
    (hh_SetLattice_irreducibles : PySem.W.findIn K (.ref f_SetLattice) "irreducibles" = some (some (.ref f_Lattice_irreducibles)))
    (ty_Lattice : PySem.W.typeIn K (.ref f_Lattice_init) = some (.type "function"))
    (fi_Lattice : PySem.W.fnIn K f_Lattice_init = true)
    (st_any : PySem.W.nsIn K PySem.cStatics "thirdparty.any" = some none)
    : ∃ fd : FuncData, (∀ (s : Shared) (v : Value), BindsTo s fd ⟨[v], []⟩ [("script", v)]) ∧ ∀ base : Heap, K.In base → base.Ns mainGlobals mg → FnOk PL W_ K mg base L2.CX0 140 fa fd ["script"] (spLaw K) := by
  have e := hfa.symm.trans (PySem.W.mg_of X G g_law)
  cases e
  have F_parts_of := fun_mk (st := St_parts_of) l_parts_of c_parts_of k_parts_of
  have b_parts_of := F_parts_of.binds (ps := ["formula"]) fun _ _ _ _ _ _ us hl => match us, hl with | [_], _ => rfl
  have F_check_formula := fun_mk (st := St_check_formula) l_check_formula c_check_formula k_check_formula
  have b_check_formula := F_check_formula.binds (ps := ["lattice", "formula", "bound"]) fun _ _ _ _ _ _ us hl => match us, hl with | [_, _, _], _ => rfl
  have F_values := fun_mk (st := St_values) l_values c_values k_values
  have b_values := F_values.binds (ps := ["system", "formula"]) fun _ _ _ _ _ _ us hl => match us, hl with | [_, _], _ => rfl
  have F_rounds := fun_mk (st := St_rounds) l_rounds c_rounds k_rounds
  have b_rounds := F_rounds.binds (ps := ["system", "formula"]) fun _ _ _ _ _ _ us hl => match us, hl with | [_, _], _ => rfl
  have F_first_place := fun_mk (st := St_first_place) l_first_place c_first_place k_first_place
  have b_first_place := F_first_place.binds (ps := ["sets", "wanted"]) fun _ _ _ _ _ _ us hl => match us, hl with | [_, _], _ => rfl
  have F_parts_among := fun_mk (st := St_parts_among) l_parts_among c_parts_among k_parts_among
  have b_parts_among := F_parts_among.binds (ps := ["numbers", "number"]) fun _ _ _ _ _ _ us hl => match us, hl with | [_, _], _ => rfl
  have F_is_name := fun_mk (st := St_is_name) l_is_name c_is_name k_is_name
  have b_is_name := F_is_name.binds (ps := ["word"]) fun _ _ _ _ _ _ us hl => match us, hl with | [_], _ => rfl
  have F__law_cells := fun_mk (st := St__law_cells) l__law_cells c__law_cells k__law_cells
  have b__law_cells := F__law_cells.binds (ps := ["script"]) fun _ _ _ _ _ _ us hl => match us, hl with | [_], _ => rfl
  have F__law_pick := fun_mk (st := St__law_pick) l__law_pick c__law_pick k__law_pick
  have b__law_pick := F__law_pick.binds (ps := ["source", "many"]) fun _ _ _ _ _ _ us hl => match us, hl with | [_, _], _ => rfl
  have F__law_along := fun_mk (st := St__law_along) l__law_along c__law_along k__law_along
  have b__law_along := F__law_along.binds (ps := ["lattice", "arrows", "last"]) fun _ _ _ _ _ _ us hl => match us, hl with | [_, _, _], _ => rfl
  have F__law_formulas := fun_mk (st := St__law_formulas) l__law_formulas c__law_formulas k__law_formulas
  have b__law_formulas := F__law_formulas.binds (ps := ["deep"]) fun _ _ _ _ _ _ us hl => match us, hl with | [_], _ => rfl
  have F_law := fun_mk (st := St_law) l_law c_law k_law
  have b_law := F_law.binds (ps := ["script"]) fun _ _ _ _ _ _ us hl => match us, hl with | [_], _ => rfl
  have F_Evaluation_init := fun_mk (st := St_Evaluation_init) l_Evaluation_init c_Evaluation_init k_Evaluation_init
  have b_Evaluation_init := F_Evaluation_init.binds (ps := ["self", "system"]) fun _ _ _ _ _ _ us hl => match us, hl with | [_, _], _ => rfl
  have F_Evaluation_everywhere := fun_mk (st := St_Evaluation_everywhere) l_Evaluation_everywhere c_Evaluation_everywhere k_Evaluation_everywhere
  have b_Evaluation_everywhere := F_Evaluation_everywhere.binds (ps := ["self", "place"]) fun _ _ _ _ _ _ us hl => match us, hl with | [_, _], _ => rfl
  have F_Evaluation_places := fun_mk (st := St_Evaluation_places) l_Evaluation_places c_Evaluation_places k_Evaluation_places
  have b_Evaluation_places := F_Evaluation_places.binds (ps := ["self", "formula", "names"]) fun _ _ _ _ _ _ us hl => match us, hl with | [_, _, _], _ => rfl
  have F_Evaluation_some_at := fun_mk (st := St_Evaluation_some_at) l_Evaluation_some_at c_Evaluation_some_at k_Evaluation_some_at
  have b_Evaluation_some_at := F_Evaluation_some_at.binds (ps := ["self", "state", "inner"]) fun _ _ _ _ _ _ us hl => match us, hl with | [_, _, _], _ => rfl
  have F_Evaluation_all_at := fun_mk (st := St_Evaluation_all_at) l_Evaluation_all_at c_Evaluation_all_at k_Evaluation_all_at
  have b_Evaluation_all_at := F_Evaluation_all_at.binds (ps := ["self", "state", "inner"]) fun _ _ _ _ _ _ us hl => match us, hl with | [_, _, _], _ => rfl
  have F_Evaluation_by_rounds := fun_mk (st := St_Evaluation_by_rounds) l_Evaluation_by_rounds c_Evaluation_by_rounds k_Evaluation_by_rounds
  have b_Evaluation_by_rounds := F_Evaluation_by_rounds.binds (ps := ["self", "formula", "names"]) fun _ _ _ _ _ _ us hl => match us, hl with | [_, _, _], _ => rfl
  have F_Evaluation_counted_rounds := fun_mk (st := St_Evaluation_counted_rounds) l_Evaluation_counted_rounds c_Evaluation_counted_rounds k_Evaluation_counted_rounds
  have b_Evaluation_counted_rounds := F_Evaluation_counted_rounds.binds (ps := ["self", "formula", "names"]) fun _ _ _ _ _ _ us hl => match us, hl with | [_, _, _], _ => rfl
  have F_Lattice_init : FunD K "__init__" "Lattice.__init__" St_Lattice_init f_Lattice_init _ td_Lattice_init := ⟨⟨_, _, _, _, _, _, _, _, _, rfl, l_Lattice_init, c_Lattice_init⟩, k_Lattice_init⟩
  have b4_Lattice_init := F_Lattice_init.bindsD (ps := ["self", "label", "names", "downs", "depth"]) (its := [.int 1 du0_Lattice_init]) dd_Lattice_init 4 0 rfl fun _ _ _ _ _ _ us hl => match us, hl with | [_, _, _, _], _ => ⟨_, rfl, rfl⟩
  have b5_Lattice_init := F_Lattice_init.bindsD (ps := ["self", "label", "names", "downs", "depth"]) (its := [.int 1 du0_Lattice_init]) dd_Lattice_init 5 1 rfl fun _ _ _ _ _ _ us hl => match us, hl with | [_, _, _, _, _], _ => ⟨_, rfl, rfl⟩
  have F_Lattice_within_at := fun_mk (st := St_Lattice_within_at) l_Lattice_within_at c_Lattice_within_at k_Lattice_within_at
  have b_Lattice_within_at := F_Lattice_within_at.binds (ps := ["self", "first", "second"]) fun _ _ _ _ _ _ us hl => match us, hl with | [_, _, _], _ => rfl
  have F_Lattice_join_at := fun_mk (st := St_Lattice_join_at) l_Lattice_join_at c_Lattice_join_at k_Lattice_join_at
  have b_Lattice_join_at := F_Lattice_join_at.binds (ps := ["self", "first", "second"]) fun _ _ _ _ _ _ us hl => match us, hl with | [_, _, _], _ => rfl
  have F_Lattice_meet_at := fun_mk (st := St_Lattice_meet_at) l_Lattice_meet_at c_Lattice_meet_at k_Lattice_meet_at
  have b_Lattice_meet_at := F_Lattice_meet_at.binds (ps := ["self", "first", "second"]) fun _ _ _ _ _ _ us hl => match us, hl with | [_, _, _], _ => rfl
  have F_Lattice_name_at := fun_mk (st := St_Lattice_name_at) l_Lattice_name_at c_Lattice_name_at k_Lattice_name_at
  have b_Lattice_name_at := F_Lattice_name_at.binds (ps := ["self", "place"]) fun _ _ _ _ _ _ us hl => match us, hl with | [_, _], _ => rfl
  have F_Lattice_at_name := fun_mk (st := St_Lattice_at_name) l_Lattice_at_name c_Lattice_at_name k_Lattice_at_name
  have b_Lattice_at_name := F_Lattice_at_name.binds (ps := ["self", "name"]) fun _ _ _ _ _ _ us hl => match us, hl with | [_, _], _ => rfl
  have F_Lattice_irreducibles := fun_mk (st := St_Lattice_irreducibles) l_Lattice_irreducibles c_Lattice_irreducibles k_Lattice_irreducibles
  have b_Lattice_irreducibles := F_Lattice_irreducibles.binds (ps := ["self"]) fun _ _ _ _ _ _ us hl => match us, hl with | [_], _ => rfl
  have F_ChainLattice_init := funK_mk (st := St_ChainLattice_init) (PL := PL) l_ChainLattice_init c_ChainLattice_init k_ChainLattice_init q_ChainLattice_init v_ChainLattice_init vf_ChainLattice_init vg_ChainLattice_init
  have b_ChainLattice_init := F_ChainLattice_init.binds (ps := ["self", "count"]) fun _ _ _ _ _ _ _ us hl => match us, hl with | [_, _], _ => rfl
  have F_SetLattice_init := funK_mk (st := St_SetLattice_init) (PL := PL) l_SetLattice_init c_SetLattice_init k_SetLattice_init q_SetLattice_init v_SetLattice_init vf_SetLattice_init vg_SetLattice_init
  have b_SetLattice_init := F_SetLattice_init.binds (ps := ["self", "count"]) fun _ _ _ _ _ _ _ us hl => match us, hl with | [_, _], _ => rfl
  have F_System_init := fun_mk (st := St_System_init) l_System_init c_System_init k_System_init
  have b_System_init := F_System_init.binds (ps := ["self", "lattice", "states", "marks", "arrows"]) fun _ _ _ _ _ _ us hl => match us, hl with | [_, _, _, _, _], _ => rfl
  have F_System_tell_state := fun_mk (st := St_System_tell_state) l_System_tell_state c_System_tell_state k_System_tell_state
  have b_System_tell_state := F_System_tell_state.binds (ps := ["self", "name"]) fun _ _ _ _ _ _ us hl => match us, hl with | [_, _], _ => rfl
  have F_System_tell_mark := fun_mk (st := St_System_tell_mark) l_System_tell_mark c_System_tell_mark k_System_tell_mark
  have b_System_tell_mark := F_System_tell_mark.binds (ps := ["self", "mark", "state", "value"]) fun _ _ _ _ _ _ us hl => match us, hl with | [_, _, _, _], _ => rfl
  have F_System_tell_arrow := fun_mk (st := St_System_tell_arrow) l_System_tell_arrow c_System_tell_arrow k_System_tell_arrow
  have b_System_tell_arrow := F_System_tell_arrow.binds (ps := ["self", "start", "end", "has", "lacks"]) fun _ _ _ _ _ _ us hl => match us, hl with | [_, _, _, _, _], _ => rfl
  have F_System_need_state := fun_mk (st := St_System_need_state) l_System_need_state c_System_need_state k_System_need_state
  have b_System_need_state := F_System_need_state.binds (ps := ["self", "name"]) fun _ _ _ _ _ _ us hl => match us, hl with | [_, _], _ => rfl
  have F_System_states := fun_mk (st := St_System_states) l_System_states c_System_states k_System_states
  have b_System_states := F_System_states.binds (ps := ["self"]) fun _ _ _ _ _ _ us hl => match us, hl with | [_], _ => rfl
  have F_System_marks := fun_mk (st := St_System_marks) l_System_marks c_System_marks k_System_marks
  have b_System_marks := F_System_marks.binds (ps := ["self"]) fun _ _ _ _ _ _ us hl => match us, hl with | [_], _ => rfl
  have F_System_arrows := fun_mk (st := St_System_arrows) l_System_arrows c_System_arrows k_System_arrows
  have b_System_arrows := F_System_arrows.binds (ps := ["self"]) fun _ _ _ _ _ _ us hl => match us, hl with | [_], _ => rfl
  let T : Tx K mg W_ := { n_abs := PySem.W.mg_none_of X G z_abs, n_all := PySem.W.mg_none_of X G z_all, n_enumerate := PySem.W.mg_none_of X G z_enumerate, n_int := PySem.W.mg_none_of X G z_int, n_len := PySem.W.mg_none_of X G z_len, n_list := PySem.W.mg_none_of X G z_list, n_max := PySem.W.mg_none_of X G z_max, n_range := PySem.W.mg_none_of X G z_range, n_str := PySem.W.mg_none_of X G z_str, n_sum := PySem.W.mg_none_of X G z_sum, n_super := PySem.W.mg_none_of X G z_super, n_tuple := PySem.W.mg_none_of X G z_tuple, a_parts_of := f_parts_of, d_parts_of := _, F_parts_of := F_parts_of, b_parts_of := b_parts_of, g_parts_of := PySem.W.mg_of X G g_parts_of, a_check_formula := f_check_formula, d_check_formula := _, F_check_formula := F_check_formula, b_check_formula := b_check_formula, g_check_formula := PySem.W.mg_of X G g_check_formula, a_values := f_values, d_values := _, F_values := F_values, b_values := b_values, g_values := PySem.W.mg_of X G g_values, a_rounds := f_rounds, d_rounds := _, F_rounds := F_rounds, b_rounds := b_rounds, g_rounds := PySem.W.mg_of X G g_rounds, a_first_place := f_first_place, d_first_place := _, F_first_place := F_first_place, b_first_place := b_first_place, g_first_place := PySem.W.mg_of X G g_first_place, a_parts_among := f_parts_among, d_parts_among := _, F_parts_among := F_parts_among, b_parts_among := b_parts_among, g_parts_among := PySem.W.mg_of X G g_parts_among, a_is_name := f_is_name, d_is_name := _, F_is_name := F_is_name, b_is_name := b_is_name, g_is_name := PySem.W.mg_of X G g_is_name, a__law_cells := f__law_cells, d__law_cells := _, F__law_cells := F__law_cells, b__law_cells := b__law_cells, g__law_cells := PySem.W.mg_of X G g__law_cells, a__law_pick := f__law_pick, d__law_pick := _, F__law_pick := F__law_pick, b__law_pick := b__law_pick, g__law_pick := PySem.W.mg_of X G g__law_pick, a__law_along := f__law_along, d__law_along := _, F__law_along := F__law_along, b__law_along := b__law_along, g__law_along := PySem.W.mg_of X G g__law_along, a__law_formulas := f__law_formulas, d__law_formulas := _, F__law_formulas := F__law_formulas, b__law_formulas := b__law_formulas, g__law_formulas := PySem.W.mg_of X G g__law_formulas, a_law := fa, d_law := _, F_law := F_law, b_law := b_law, g_law := PySem.W.mg_of X G g_law, a_PARTS := f_PARTS, g_PARTS := PySem.W.mg_of X G g_PARTS, e_PARTS := es_PARTS, m_PARTS := n_PARTS, l_PARTS := l_PARTS, y_PARTS := y_PARTS, lo_PARTS := lo_PARTS, k_PARTS_true := ⟨_, k_PARTS_true, fun H => .inr ⟨_, _, _, j_PARTS_true, rfl, rfl, (by show 0 ≤ sizeLine; decide), .nil⟩⟩, k_PARTS_false := ⟨_, k_PARTS_false, fun H => .inr ⟨_, _, _, j_PARTS_false, rfl, rfl, (by show 0 ≤ sizeLine; decide), .nil⟩⟩, k_PARTS_value := ⟨_, k_PARTS_value, fun H => .inr ⟨_, _, _, j_PARTS_value, rfl, rfl, (by show 0 ≤ sizeLine; decide), .nil⟩⟩, k_PARTS_mark := ⟨_, k_PARTS_mark, fun H => .inr ⟨_, _, _, j_PARTS_mark, rfl, rfl, (by show 0 ≤ sizeLine; decide), .nil⟩⟩, k_PARTS_name := ⟨_, k_PARTS_name, fun H => .inr ⟨_, _, _, j_PARTS_name, rfl, rfl, (by show 0 ≤ sizeLine; decide), .nil⟩⟩, k_PARTS_and := ⟨_, k_PARTS_and, fun H => .inr ⟨_, _, _, j_PARTS_and, rfl, rfl, (by show 2 ≤ sizeLine; decide), .cons ⟨_, rfl⟩ (.cons ⟨_, rfl⟩ .nil)⟩⟩, k_PARTS_or := ⟨_, k_PARTS_or, fun H => .inr ⟨_, _, _, j_PARTS_or, rfl, rfl, (by show 2 ≤ sizeLine; decide), .cons ⟨_, rfl⟩ (.cons ⟨_, rfl⟩ .nil)⟩⟩, k_PARTS_some := ⟨_, k_PARTS_some, fun H => .inr ⟨_, _, _, j_PARTS_some, rfl, rfl, (by show 1 ≤ sizeLine; decide), .cons ⟨_, rfl⟩ .nil⟩⟩, k_PARTS_all := ⟨_, k_PARTS_all, fun H => .inr ⟨_, _, _, j_PARTS_all, rfl, rfl, (by show 1 ≤ sizeLine; decide), .cons ⟨_, rfl⟩ .nil⟩⟩, k_PARTS_least := ⟨_, k_PARTS_least, fun H => .inr ⟨_, _, _, j_PARTS_least, rfl, rfl, (by show 1 ≤ sizeLine; decide), .cons ⟨_, rfl⟩ .nil⟩⟩, k_PARTS_most := ⟨_, k_PARTS_most, fun H => .inr ⟨_, _, _, j_PARTS_most, rfl, rfl, (by show 1 ≤ sizeLine; decide), .cons ⟨_, rfl⟩ .nil⟩⟩, g_MOST_VALUES := ⟨_, PySem.W.mg_of X G g_MOST_VALUES⟩, g_SMALL_LETTERS := ⟨_, PySem.W.mg_of X G g_SMALL_LETTERS⟩, g_TEN_FIGURES := ⟨_, PySem.W.mg_of X G g_TEN_FIGURES⟩, a_SHAPES := f_SHAPES, g_SHAPES := PySem.W.mg_of X G g_SHAPES, e_SHAPES := es_SHAPES, m_SHAPES := n_SHAPES, l_SHAPES := l_SHAPES, y_SHAPES := y_SHAPES, lo_SHAPES := lo_SHAPES, w_SHAPES := w_SHAPES, k_SHAPES_value := ⟨_, k_SHAPES_value, fun H => .inr ⟨_, _, _, j_SHAPES_value, rfl, rfl, (by show 1 ≤ sizeLine; decide), .cons ⟨_, rfl⟩ .nil⟩⟩, k_SHAPES_mark := ⟨_, k_SHAPES_mark, fun H => .inr ⟨_, _, _, j_SHAPES_mark, rfl, rfl, (by show 1 ≤ sizeLine; decide), .cons ⟨_, rfl⟩ .nil⟩⟩, k_SHAPES_and := ⟨_, k_SHAPES_and, fun H => .inr ⟨_, _, _, j_SHAPES_and, rfl, rfl, (by show 2 ≤ sizeLine; decide), .cons ⟨_, rfl⟩ (.cons ⟨_, rfl⟩ .nil)⟩⟩, k_SHAPES_or := ⟨_, k_SHAPES_or, fun H => .inr ⟨_, _, _, j_SHAPES_or, rfl, rfl, (by show 2 ≤ sizeLine; decide), .cons ⟨_, rfl⟩ (.cons ⟨_, rfl⟩ .nil)⟩⟩, k_SHAPES_some := ⟨_, k_SHAPES_some, fun H => .inr ⟨_, _, _, j_SHAPES_some, rfl, rfl, (by show 1 ≤ sizeLine; decide), .cons ⟨_, rfl⟩ .nil⟩⟩, k_SHAPES_all := ⟨_, k_SHAPES_all, fun H => .inr ⟨_, _, _, j_SHAPES_all, rfl, rfl, (by show 1 ≤ sizeLine; decide), .cons ⟨_, rfl⟩ .nil⟩⟩, k_SHAPES_least := ⟨_, k_SHAPES_least, fun H => .inr ⟨_, _, _, j_SHAPES_least, rfl, rfl, (by show 2 ≤ sizeLine; decide), .cons ⟨_, rfl⟩ (.cons ⟨_, rfl⟩ .nil)⟩⟩, k_SHAPES_most := ⟨_, k_SHAPES_most, fun H => .inr ⟨_, _, _, j_SHAPES_most, rfl, rfl, (by show 2 ≤ sizeLine; decide), .cons ⟨_, rfl⟩ (.cons ⟨_, rfl⟩ .nil)⟩⟩, a_SINGLE_WORDS := f_SINGLE_WORDS, g_SINGLE_WORDS := PySem.W.mg_of X G g_SINGLE_WORDS, t_SINGLE_WORDS := fun H => .inr ⟨_, _, _, l_SINGLE_WORDS, rfl, rfl, (by show 2 ≤ sizeLine; decide), .cons ⟨_, rfl⟩ (.cons ⟨_, rfl⟩ .nil)⟩, a_Evaluation := f_Evaluation, g_Evaluation := PySem.W.mg_of X G g_Evaluation, c_Evaluation := ⟨pg_Evaluation, hd_Evaluation, po_Evaluation, sa_Evaluation⟩, n_Evaluation_lattice := na_Evaluation_lattice, n_Evaluation_state_names := na_Evaluation_state_names, n_Evaluation_mark_values := na_Evaluation_mark_values, n_Evaluation_moves := na_Evaluation_moves, a_Evaluation_init := f_Evaluation_init, d_Evaluation_init := _, F_Evaluation_init := F_Evaluation_init, b_Evaluation_init := b_Evaluation_init, M_Evaluation := ⟨mk_Evaluation, h_Evaluation_init, i_Evaluation_init, kc_Evaluation⟩, a_Evaluation_everywhere := f_Evaluation_everywhere, d_Evaluation_everywhere := _, F_Evaluation_everywhere := F_Evaluation_everywhere, b_Evaluation_everywhere := b_Evaluation_everywhere, m_Evaluation_everywhere := ⟨h_Evaluation_everywhere, i_Evaluation_everywhere, k_Evaluation_everywhere⟩, a_Evaluation_places := f_Evaluation_places, d_Evaluation_places := _, F_Evaluation_places := F_Evaluation_places, b_Evaluation_places := b_Evaluation_places, m_Evaluation_places := ⟨h_Evaluation_places, i_Evaluation_places, k_Evaluation_places⟩, a_Evaluation_some_at := f_Evaluation_some_at, d_Evaluation_some_at := _, F_Evaluation_some_at := F_Evaluation_some_at, b_Evaluation_some_at := b_Evaluation_some_at, m_Evaluation_some_at := ⟨h_Evaluation_some_at, i_Evaluation_some_at, k_Evaluation_some_at⟩, a_Evaluation_all_at := f_Evaluation_all_at, d_Evaluation_all_at := _, F_Evaluation_all_at := F_Evaluation_all_at, b_Evaluation_all_at := b_Evaluation_all_at, m_Evaluation_all_at := ⟨h_Evaluation_all_at, i_Evaluation_all_at, k_Evaluation_all_at⟩, a_Evaluation_by_rounds := f_Evaluation_by_rounds, d_Evaluation_by_rounds := _, F_Evaluation_by_rounds := F_Evaluation_by_rounds, b_Evaluation_by_rounds := b_Evaluation_by_rounds, m_Evaluation_by_rounds := ⟨h_Evaluation_by_rounds, i_Evaluation_by_rounds, k_Evaluation_by_rounds⟩, a_Evaluation_counted_rounds := f_Evaluation_counted_rounds, d_Evaluation_counted_rounds := _, F_Evaluation_counted_rounds := F_Evaluation_counted_rounds, b_Evaluation_counted_rounds := b_Evaluation_counted_rounds, m_Evaluation_counted_rounds := ⟨h_Evaluation_counted_rounds, i_Evaluation_counted_rounds, k_Evaluation_counted_rounds⟩, a_Lattice := f_Lattice, g_Lattice := PySem.W.mg_of X G g_Lattice, c_Lattice := ⟨pg_Lattice, hd_Lattice, po_Lattice, sa_Lattice⟩, n_Lattice_label := na_Lattice_label, n_Lattice_size := na_Lattice_size, n_Lattice_depth := na_Lattice_depth, n_Lattice_value_names := na_Lattice_value_names, n_Lattice_downs := na_Lattice_downs, n_Lattice_ups := na_Lattice_ups, n_Lattice_bottom_at := na_Lattice_bottom_at, n_Lattice_top_at := na_Lattice_top_at, b4_Lattice_init := ⟨_, b4_Lattice_init⟩, b5_Lattice_init := b5_Lattice_init, a_Lattice_init := f_Lattice_init, d_Lattice_init := _, t_Lattice_init := td_Lattice_init, F_Lattice_init := F_Lattice_init, dd_Lattice_init := ⟨_, _, dd_Lattice_init⟩, M_Lattice := ⟨mk_Lattice, h_Lattice_init, i_Lattice_init, kc_Lattice⟩, a_Lattice_within_at := f_Lattice_within_at, d_Lattice_within_at := _, F_Lattice_within_at := F_Lattice_within_at, b_Lattice_within_at := b_Lattice_within_at, m_Lattice_within_at := ⟨h_Lattice_within_at, i_Lattice_within_at, k_Lattice_within_at⟩, a_Lattice_join_at := f_Lattice_join_at, d_Lattice_join_at := _, F_Lattice_join_at := F_Lattice_join_at, b_Lattice_join_at := b_Lattice_join_at, m_Lattice_join_at := ⟨h_Lattice_join_at, i_Lattice_join_at, k_Lattice_join_at⟩, a_Lattice_meet_at := f_Lattice_meet_at, d_Lattice_meet_at := _, F_Lattice_meet_at := F_Lattice_meet_at, b_Lattice_meet_at := b_Lattice_meet_at, m_Lattice_meet_at := ⟨h_Lattice_meet_at, i_Lattice_meet_at, k_Lattice_meet_at⟩, a_Lattice_name_at := f_Lattice_name_at, d_Lattice_name_at := _, F_Lattice_name_at := F_Lattice_name_at, b_Lattice_name_at := b_Lattice_name_at, m_Lattice_name_at := ⟨h_Lattice_name_at, i_Lattice_name_at, k_Lattice_name_at⟩, a_Lattice_at_name := f_Lattice_at_name, d_Lattice_at_name := _, F_Lattice_at_name := F_Lattice_at_name, b_Lattice_at_name := b_Lattice_at_name, m_Lattice_at_name := ⟨h_Lattice_at_name, i_Lattice_at_name, k_Lattice_at_name⟩, a_Lattice_irreducibles := f_Lattice_irreducibles, d_Lattice_irreducibles := _, F_Lattice_irreducibles := F_Lattice_irreducibles, b_Lattice_irreducibles := b_Lattice_irreducibles, m_Lattice_irreducibles := ⟨h_Lattice_irreducibles, i_Lattice_irreducibles, k_Lattice_irreducibles⟩, a_ChainLattice := f_ChainLattice, g_ChainLattice := PySem.W.mg_of X G g_ChainLattice, c_ChainLattice := ⟨pg_ChainLattice, hd_ChainLattice, po_ChainLattice, sa_ChainLattice⟩, n_ChainLattice_label := na_ChainLattice_label, n_ChainLattice_size := na_ChainLattice_size, n_ChainLattice_depth := na_ChainLattice_depth, n_ChainLattice_value_names := na_ChainLattice_value_names, n_ChainLattice_downs := na_ChainLattice_downs, n_ChainLattice_ups := na_ChainLattice_ups, n_ChainLattice_bottom_at := na_ChainLattice_bottom_at, n_ChainLattice_top_at := na_ChainLattice_top_at, a_ChainLattice_init := f_ChainLattice_init, d_ChainLattice_init := _, F_ChainLattice_init := F_ChainLattice_init, b_ChainLattice_init := b_ChainLattice_init, M_ChainLattice := ⟨mk_ChainLattice, h_ChainLattice_init, i_ChainLattice_init, kc_ChainLattice⟩, a_SetLattice := f_SetLattice, g_SetLattice := PySem.W.mg_of X G g_SetLattice, c_SetLattice := ⟨pg_SetLattice, hd_SetLattice, po_SetLattice, sa_SetLattice⟩, n_SetLattice_label := na_SetLattice_label, n_SetLattice_size := na_SetLattice_size, n_SetLattice_depth := na_SetLattice_depth, n_SetLattice_value_names := na_SetLattice_value_names, n_SetLattice_downs := na_SetLattice_downs, n_SetLattice_ups := na_SetLattice_ups, n_SetLattice_bottom_at := na_SetLattice_bottom_at, n_SetLattice_top_at := na_SetLattice_top_at, a_SetLattice_init := f_SetLattice_init, d_SetLattice_init := _, F_SetLattice_init := F_SetLattice_init, b_SetLattice_init := b_SetLattice_init, M_SetLattice := ⟨mk_SetLattice, h_SetLattice_init, i_SetLattice_init, kc_SetLattice⟩, a_System := f_System, g_System := PySem.W.mg_of X G g_System, c_System := ⟨pg_System, hd_System, po_System, sa_System⟩, n_System_lattice := na_System_lattice, n_System_state_row := na_System_state_row, n_System_mark_rows := na_System_mark_rows, n_System_arrow_rows := na_System_arrow_rows, n_System_told_marks := na_System_told_marks, n_System_leaving := na_System_leaving, a_System_init := f_System_init, d_System_init := _, F_System_init := F_System_init, b_System_init := b_System_init, M_System := ⟨mk_System, h_System_init, i_System_init, kc_System⟩, a_System_tell_state := f_System_tell_state, d_System_tell_state := _, F_System_tell_state := F_System_tell_state, b_System_tell_state := b_System_tell_state, m_System_tell_state := ⟨h_System_tell_state, i_System_tell_state, k_System_tell_state⟩, a_System_tell_mark := f_System_tell_mark, d_System_tell_mark := _, F_System_tell_mark := F_System_tell_mark, b_System_tell_mark := b_System_tell_mark, m_System_tell_mark := ⟨h_System_tell_mark, i_System_tell_mark, k_System_tell_mark⟩, a_System_tell_arrow := f_System_tell_arrow, d_System_tell_arrow := _, F_System_tell_arrow := F_System_tell_arrow, b_System_tell_arrow := b_System_tell_arrow, m_System_tell_arrow := ⟨h_System_tell_arrow, i_System_tell_arrow, k_System_tell_arrow⟩, a_System_need_state := f_System_need_state, d_System_need_state := _, F_System_need_state := F_System_need_state, b_System_need_state := b_System_need_state, m_System_need_state := ⟨h_System_need_state, i_System_need_state, k_System_need_state⟩, a_System_states := f_System_states, d_System_states := _, F_System_states := F_System_states, b_System_states := b_System_states, m_System_states := ⟨h_System_states, i_System_states, k_System_states⟩, a_System_marks := f_System_marks, d_System_marks := _, F_System_marks := F_System_marks, b_System_marks := b_System_marks, m_System_marks := ⟨h_System_marks, i_System_marks, k_System_marks⟩, a_System_arrows := f_System_arrows, d_System_arrows := _, F_System_arrows := F_System_arrows, b_System_arrows := b_System_arrows, m_System_arrows := ⟨h_System_arrows, i_System_arrows, k_System_arrows⟩, mr_ChainLattice := mr_ChainLattice, su_ChainLattice := su_ChainLattice, ci_ChainLattice := ⟨_, ci_ChainLattice⟩, m_ChainLattice_within_at := ⟨hh_ChainLattice_within_at, i_Lattice_within_at, k_Lattice_within_at⟩, m_ChainLattice_join_at := ⟨hh_ChainLattice_join_at, i_Lattice_join_at, k_Lattice_join_at⟩, m_ChainLattice_meet_at := ⟨hh_ChainLattice_meet_at, i_Lattice_meet_at, k_Lattice_meet_at⟩, m_ChainLattice_name_at := ⟨hh_ChainLattice_name_at, i_Lattice_name_at, k_Lattice_name_at⟩, m_ChainLattice_at_name := ⟨hh_ChainLattice_at_name, i_Lattice_at_name, k_Lattice_at_name⟩, m_ChainLattice_irreducibles := ⟨hh_ChainLattice_irreducibles, i_Lattice_irreducibles, k_Lattice_irreducibles⟩, mr_SetLattice := mr_SetLattice, su_SetLattice := su_SetLattice, ci_SetLattice := ⟨_, ci_SetLattice⟩, m_SetLattice_within_at := ⟨hh_SetLattice_within_at, i_Lattice_within_at, k_Lattice_within_at⟩, m_SetLattice_join_at := ⟨hh_SetLattice_join_at, i_Lattice_join_at, k_Lattice_join_at⟩, m_SetLattice_meet_at := ⟨hh_SetLattice_meet_at, i_Lattice_meet_at, k_Lattice_meet_at⟩, m_SetLattice_name_at := ⟨hh_SetLattice_name_at, i_Lattice_name_at, k_Lattice_name_at⟩, m_SetLattice_at_name := ⟨hh_SetLattice_at_name, i_Lattice_at_name, k_Lattice_at_name⟩, m_SetLattice_irreducibles := ⟨hh_SetLattice_irreducibles, i_Lattice_irreducibles, k_Lattice_irreducibles⟩, ty_Lattice := ty_Lattice, fi_Lattice := fi_Lattice, st_any := st_any }
  exact ⟨T.d_law, fun s v => .of_eq rfl, fun base _ _ => F T base⟩
def lo0 : List PySem.Str := ["_wall", "LatticeError", "BadLattice", "BadName", "TwiceTold", "NameMissing", "UnknownValue", "UnknownState", "UnboundName", "PARTS", "parts_of", "check_formula", "Evaluation", "values", "rounds", "MOST_VALUES", "Lattice", "first_place", "ChainLattice", "SetLattice", "parts_among", "SMALL_LETTERS", "TEN_FIGURES", "SHAPES", "SINGLE_WORDS", "is_name", "System", "_law_cells", "_law_pick", "_law_along"]
def lo1 : List PySem.Str := ["_law_formulas"]
def lo : List PySem.Str := lo0 ++ lo1
abbrev qv : Program := PySem.W.view PySem.Challenge.pw_latticewish_k47_whole_long_rows [38]
end Lw
section
open PySem PySem.W PyProof.Rows
set_option hygiene false in
local macro_rules | `(tactic| o_headL $H:term) => `(tactic| exact h.elim)
set_option maxRecDepth 100000 in
set_option maxHeartbeats 0 in
theorem Lw.t0 (h : False) : PySem.Challenge.rw_latticewish_k47_whole_long_rows.Holds := by
  w_on; o_law; k_headL
def Lw.asL : List Addr := [2, 3, 15, 17, 18, 20, 21, 22, 29, 30, 31, 32, 35, 42, 43, 44, 47, 50, 55, 56, 58, 59, 61, 62, 63, 64, 65, 68, 71, 76, 77, 79, 80, 82, 83, 84, 85, 86, 89, 96, 97, 98, 99, 102, 105, 110, 111, 113, 114, 116, 117, 118, 119, 120, 123, 126, 131, 132, 134, 135, 137, 138, 139, 140, 141, 144, 147, 152, 153, 155, 156, 158, 159, 160, 161, 162, 165, 166, 167, 168, 169, 170, 171, 172, 173, 174, 175, 176, 177, 180, 181, 182, 184, 185, 187, 188, 196, 199, 200, 201, 204, 205, 206, 209, 210, 211, 213, 214, 216, 217, 218, 220, 221, 223, 224, 225, 227, 228, 230, 231, 232, 234, 235, 237, 238, 239, 240, 241, 242, 243, 246, 249, 250, 251, 253, 254, 256, 257, 265, 266, 269, 270, 271, 273, 274, 276, 277, 278, 280, 281, 283, 284, 285, 287, 288, 290, 291, 292, 294, 295, 297, 298, 299, 301, 302, 304, 305, 306, 309, 310, 311, 312, 313, 314, 315, 318, 320, 321, 323, 324, 325, 328, 333, 334, 337, 338, 339, 340, 341, 344, 347, 352, 353, 356, 357, 358, 359, 360, 363, 366, 367, 368, 369, 370, 371, 372, 373, 374, 375, 376, 377, 378, 381, 382, 390, 393, 394, 395, 397, 398, 400, 401, 402, 404, 405, 407, 408, 409, 411, 412, 414, 415, 416, 418, 419, 421, 422, 423, 425, 426, 428, 429, 430, 432, 433, 435, 436, 437, 439, 440, 442, 443, 444, 446, 447, 449, 450, 451, 453, 454, 456, 457, 458, 459, 460, 461, 462, 465, 468, 469, 470, 472, 473, 475, 476, 477, 480, 481, 482, 484, 485, 487, 488, 489, 492, 493]
def Lw.RunE (w : World) : Prop := ∀ os : OsState, (HeadRun.endF (HeadRun.stepQ (HeadRun.denQ HeadRun.tabQ) (PySem.W.OpenLaw.row PySem.Challenge.rw_latticewish_k47_whole_long_rows).prog w) 20000 (PySem.W.OpenLaw.row PySem.Challenge.rw_latticewish_k47_whole_long_rows).prog w os).map (fun s => (HeadRun.looksF (PySem.W.OpenLaw.row PySem.Challenge.rw_latticewish_k47_whole_long_rows).prog (boot_heap w.params) s.abs, HeadRun.seenQ Lw.qv Lw.lo (importedModules (PySem.W.OpenLaw.row PySem.Challenge.rw_latticewish_k47_whole_long_rows).prog.main.body) (fun s => PySem.W.xlAt Lw.qv [] s && PySem.W.recOk (PySem.W.RowW.records (PySem.W.OpenRow.toRowW (PySem.W.OpenLaw.row PySem.Challenge.rw_latticewish_k47_whole_long_rows))) s) s.abs, Lw.asL.map (HeadRun.getT s))) = some (true, openGood Lw.qv Lw.lo, (Lw.t0.heap_39 w.params).map fun x => some x.2)
set_option maxRecDepth 100000 in
theorem Lw.runF (w : World) : Lw.RunE (w.withFollow "special-get-raises" false) := by
  intro os
  kernel_rfl
set_option maxRecDepth 100000 in
theorem Lw.runT (w : World) : Lw.RunE (w.withFollow "special-get-raises" true) := by
  intro os
  kernel_rfl
theorem Lw.run (w : World) : Lw.RunE w := PySem.W.byRow2 "special-get-raises" Lw.runF Lw.runT w
set_option maxRecDepth 100000 in
set_option maxHeartbeats 0 in
theorem Lw.pre (F : ∀ (K : PySem.W.Frag) (mg : Str → Option Value) (w : World) (T : Lw.Tx K mg w) (base : Heap), L2.FnOk Lw.PL w K mg base L2.CX0 140 T.a_law T.d_law ["script"] (Lw.spLaw K)) : PySem.Challenge.rw_latticewish_k47_whole_long_rows.Holds := by
  w_on; o_law
  refine PySem.W.holds_open (r := PySem.W.OpenLaw.row PySem.Challenge.rw_latticewish_k47_whole_long_rows) (q := Lw.qv) (loose := Lw.lo) (Xt := (fun s => PySem.W.xlAt Lw.qv [] s && PySem.W.recOk (PySem.W.RowW.records (PySem.W.OpenRow.toRowW (PySem.W.OpenLaw.row PySem.Challenge.rw_latticewish_k47_whole_long_rows))) s)) (XP := PySem.W.XL Lw.qv []) (Yf := PySem.W.Hook.obs (kHook Lw.t0.heap_39 Lw.asL (fun _ => by kernel_rfl))) (Ya := PySem.W.Hook.val (kHook Lw.t0.heap_39 Lw.asL (fun _ => by kernel_rfl))) (YP := PySem.W.Hook.says (kHook Lw.t0.heap_39 Lw.asL (fun _ => by kernel_rfl))) (N := 21000) ?hl (PySem.W.Hook.of (kHook Lw.t0.heap_39 Lw.asL (fun _ => by kernel_rfl))) (PySem.W.Hook.keeps (kHook Lw.t0.heap_39 Lw.asL (fun _ => by kernel_rfl))) (fun s e => PySem.W.xl_of s (Bool.and_eq_true_iff.mp e).1) PySem.W.XL.keeps (by rfl) (by rfl) (by rfl) (fun s e => PySem.W.recFacts_of (Bool.and_eq_true_iff.mp e).2) (by rfl) (by first | assumption | decide +kernel) (by decide +kernel) ⟨rfl, rfl, rfl, rfl, rfl, by decide +kernel⟩ ?hw ?hc
  case hl => exact HeadRun.left_oneK (M := 20000) (by kernel_rfl) (by rfl) (fun s => by kernel_rfl) (by rfl) (fun w os => Lw.run w os)
  case hw => ((try (rename_i sd; clear sd)); w_witness2)
  try (rename_i sd; clear sd)
  k_fill
  refine L2.walk_of (n := 63) (k := 140) (x := "script") (CX := fun w => L2.CX0) (sp := fun w => Lw.spLaw _) rfl (by decide) rfl ⟨rfl, by decide, by decide⟩ (fun w h Y => PySem.W.kIn_of Y) ?F (fun _ _ a ns hl _ hS => ⟨a, ns, rfl, hS, hl, fun _ => rfl⟩) fun _ _ _ _ _ z => z
  case F =>
    intro w mg fa h KX G hmg
    refine' Lw.all_mk (l := PySem.Challenge.rw_latticewish_k47_whole_long_rows) KX G hmg (fun T base => F _ _ _ T base) ?z_abs ?z_all ?z_enumerate ?z_int ?z_len ?z_list ?z_max ?z_range ?z_str ?z_sum ?z_super ?z_tuple ?g_parts_of ?l_parts_of ?c_parts_of ?k_parts_of ?g_check_formula ?l_check_formula ?c_check_formula ?k_check_formula ?g_values ?l_values ?c_values ?k_values ?g_rounds ?l_rounds ?c_rounds ?k_rounds ?g_first_place ?l_first_place ?c_first_place ?k_first_place ?g_parts_among ?l_parts_among ?c_parts_among ?k_parts_among ?g_is_name ?l_is_name ?c_is_name ?k_is_name ?g__law_cells ?l__law_cells ?c__law_cells ?k__law_cells ?g__law_pick ?l__law_pick ?c__law_pick ?k__law_pick ?g__law_along ?l__law_along ?c__law_along ?k__law_along ?g__law_formulas ?l__law_formulas ?c__law_formulas ?k__law_formulas ?g_law ?l_law ?c_law ?k_law ?g_PARTS ?l_PARTS ?y_PARTS ?lo_PARTS ?k_PARTS_true ?j_PARTS_true ?k_PARTS_false ?j_PARTS_false ?k_PARTS_value ?j_PARTS_value ?k_PARTS_mark ?j_PARTS_mark ?k_PARTS_name ?j_PARTS_name ?k_PARTS_and ?j_PARTS_and ?k_PARTS_or ?j_PARTS_or ?k_PARTS_some ?j_PARTS_some ?k_PARTS_all ?j_PARTS_all ?k_PARTS_least ?j_PARTS_least ?k_PARTS_most ?j_PARTS_most ?g_MOST_VALUES ?g_SMALL_LETTERS ?g_TEN_FIGURES ?g_SHAPES ?l_SHAPES ?y_SHAPES ?lo_SHAPES ?w_SHAPES ?k_SHAPES_value ?j_SHAPES_value ?k_SHAPES_mark ?j_SHAPES_mark ?k_SHAPES_and ?j_SHAPES_and ?k_SHAPES_or ?j_SHAPES_or ?k_SHAPES_some ?j_SHAPES_some ?k_SHAPES_all ?j_SHAPES_all ?k_SHAPES_least ?j_SHAPES_least ?k_SHAPES_most ?j_SHAPES_most ?g_SINGLE_WORDS ?l_SINGLE_WORDS ?g_Evaluation ?pg_Evaluation ?hd_Evaluation ?po_Evaluation ?sa_Evaluation ?mk_Evaluation ?kc_Evaluation ?na_Evaluation_lattice ?na_Evaluation_state_names ?na_Evaluation_mark_values ?na_Evaluation_moves ?h_Evaluation_init ?i_Evaluation_init ?l_Evaluation_init ?c_Evaluation_init ?k_Evaluation_init ?h_Evaluation_everywhere ?i_Evaluation_everywhere ?l_Evaluation_everywhere ?c_Evaluation_everywhere ?k_Evaluation_everywhere ?h_Evaluation_places ?i_Evaluation_places ?l_Evaluation_places ?c_Evaluation_places ?k_Evaluation_places ?h_Evaluation_some_at ?i_Evaluation_some_at ?l_Evaluation_some_at ?c_Evaluation_some_at ?k_Evaluation_some_at ?h_Evaluation_all_at ?i_Evaluation_all_at ?l_Evaluation_all_at ?c_Evaluation_all_at ?k_Evaluation_all_at ?h_Evaluation_by_rounds ?i_Evaluation_by_rounds ?l_Evaluation_by_rounds ?c_Evaluation_by_rounds ?k_Evaluation_by_rounds ?h_Evaluation_counted_rounds ?i_Evaluation_counted_rounds ?l_Evaluation_counted_rounds ?c_Evaluation_counted_rounds ?k_Evaluation_counted_rounds ?g_Lattice ?pg_Lattice ?hd_Lattice ?po_Lattice ?sa_Lattice ?mk_Lattice ?kc_Lattice ?na_Lattice_label ?na_Lattice_size ?na_Lattice_depth ?na_Lattice_value_names ?na_Lattice_downs ?na_Lattice_ups ?na_Lattice_bottom_at ?na_Lattice_top_at ?h_Lattice_init ?i_Lattice_init ?l_Lattice_init ?c_Lattice_init ?k_Lattice_init ?dd_Lattice_init ?h_Lattice_within_at ?i_Lattice_within_at ?l_Lattice_within_at ?c_Lattice_within_at ?k_Lattice_within_at ?h_Lattice_join_at ?i_Lattice_join_at ?l_Lattice_join_at ?c_Lattice_join_at ?k_Lattice_join_at ?h_Lattice_meet_at ?i_Lattice_meet_at ?l_Lattice_meet_at ?c_Lattice_meet_at ?k_Lattice_meet_at ?h_Lattice_name_at ?i_Lattice_name_at ?l_Lattice_name_at ?c_Lattice_name_at ?k_Lattice_name_at ?h_Lattice_at_name ?i_Lattice_at_name ?l_Lattice_at_name ?c_Lattice_at_name ?k_Lattice_at_name ?h_Lattice_irreducibles ?i_Lattice_irreducibles ?l_Lattice_irreducibles ?c_Lattice_irreducibles ?k_Lattice_irreducibles ?g_ChainLattice ?pg_ChainLattice ?hd_ChainLattice ?po_ChainLattice ?sa_ChainLattice ?mk_ChainLattice ?kc_ChainLattice ?na_ChainLattice_label ?na_ChainLattice_size ?na_ChainLattice_depth ?na_ChainLattice_value_names ?na_ChainLattice_downs ?na_ChainLattice_ups ?na_ChainLattice_bottom_at ?na_ChainLattice_top_at ?h_ChainLattice_init ?i_ChainLattice_init ?l_ChainLattice_init ?c_ChainLattice_init ?k_ChainLattice_init ?q_ChainLattice_init ?v_ChainLattice_init ?vf_ChainLattice_init ?vg_ChainLattice_init ?g_SetLattice ?pg_SetLattice ?hd_SetLattice ?po_SetLattice ?sa_SetLattice ?mk_SetLattice ?kc_SetLattice ?na_SetLattice_label ?na_SetLattice_size ?na_SetLattice_depth ?na_SetLattice_value_names ?na_SetLattice_downs ?na_SetLattice_ups ?na_SetLattice_bottom_at ?na_SetLattice_top_at ?h_SetLattice_init ?i_SetLattice_init ?l_SetLattice_init ?c_SetLattice_init ?k_SetLattice_init ?q_SetLattice_init ?v_SetLattice_init ?vf_SetLattice_init ?vg_SetLattice_init ?g_System ?pg_System ?hd_System ?po_System ?sa_System ?mk_System ?kc_System ?na_System_lattice ?na_System_state_row ?na_System_mark_rows ?na_System_arrow_rows ?na_System_told_marks ?na_System_leaving ?h_System_init ?i_System_init ?l_System_init ?c_System_init ?k_System_init ?h_System_tell_state ?i_System_tell_state ?l_System_tell_state ?c_System_tell_state ?k_System_tell_state ?h_System_tell_mark ?i_System_tell_mark ?l_System_tell_mark ?c_System_tell_mark ?k_System_tell_mark ?h_System_tell_arrow ?i_System_tell_arrow ?l_System_tell_arrow ?c_System_tell_arrow ?k_System_tell_arrow ?h_System_need_state ?i_System_need_state ?l_System_need_state ?c_System_need_state ?k_System_need_state ?h_System_states ?i_System_states ?l_System_states ?c_System_states ?k_System_states ?h_System_marks ?i_System_marks ?l_System_marks ?c_System_marks ?k_System_marks ?h_System_arrows ?i_System_arrows ?l_System_arrows ?c_System_arrows ?k_System_arrows ?mr_ChainLattice ?su_ChainLattice ?ci_ChainLattice ?hh_ChainLattice_within_at ?hh_ChainLattice_join_at ?hh_ChainLattice_meet_at ?hh_ChainLattice_name_at ?hh_ChainLattice_at_name ?hh_ChainLattice_irreducibles ?mr_SetLattice ?su_SetLattice ?ci_SetLattice ?hh_SetLattice_within_at ?hh_SetLattice_join_at ?hh_SetLattice_meet_at ?hh_SetLattice_name_at ?hh_SetLattice_at_name ?hh_SetLattice_irreducibles ?ty_Lattice ?fi_Lattice ?st_any
    (case z_abs => k_is)
    (case z_all => k_is)
    (case z_enumerate => k_is)
    (case z_int => k_is)
    (case z_len => k_is)
    (case z_list => k_is)
    (case z_max => k_is)
    (case z_range => k_is)
    (case z_str => k_is)
    (case z_sum => k_is)
    (case z_super => k_is)
    (case z_tuple => k_is)
    (case g_parts_of => k_is)
    (case l_parts_of => k_is)
    (case c_parts_of => k_is)
    (case k_parts_of => k_is)
    (case g_check_formula => k_is)
    (case l_check_formula => k_is)
    (case c_check_formula => k_is)
    (case k_check_formula => k_is)
    (case g_values => k_is)
    (case l_values => k_is)
    (case c_values => k_is)
    (case k_values => k_is)
    (case g_rounds => k_is)
    (case l_rounds => k_is)
    (case c_rounds => k_is)
    (case k_rounds => k_is)
    (case g_first_place => k_is)
    (case l_first_place => k_is)
    (case c_first_place => k_is)
    (case k_first_place => k_is)
    (case g_parts_among => k_is)
    (case l_parts_among => k_is)
    (case c_parts_among => k_is)
    (case k_parts_among => k_is)
    (case g_is_name => k_is)
    (case l_is_name => k_is)
    (case c_is_name => k_is)
    (case k_is_name => k_is)
    (case g__law_cells => k_is)
    (case l__law_cells => k_is)
    (case c__law_cells => k_is)
    (case k__law_cells => k_is)
    (case g__law_pick => k_is)
    (case l__law_pick => k_is)
    (case c__law_pick => k_is)
    (case k__law_pick => k_is)
    (case g__law_along => k_is)
    (case l__law_along => k_is)
    (case c__law_along => k_is)
    (case k__law_along => k_is)
    (case g__law_formulas => k_is)
    (case l__law_formulas => k_is)
    (case c__law_formulas => k_is)
    (case k__law_formulas => k_is)
    (case g_law => k_is)
    (case l_law => k_is)
    (case c_law => k_is)
    (case k_law => k_is)
    (case g_PARTS => k_is)
    (case l_PARTS => k_is)
    (case y_PARTS => repeat (first | exact trivial | (refine ⟨⟨_, _, rfl, rfl⟩, ?_⟩)))
    (case lo_PARTS => decide +kernel)
    (case k_PARTS_true => k_is)
    (case j_PARTS_true => k_is)
    (case k_PARTS_false => k_is)
    (case j_PARTS_false => k_is)
    (case k_PARTS_value => k_is)
    (case j_PARTS_value => k_is)
    (case k_PARTS_mark => k_is)
    (case j_PARTS_mark => k_is)
    (case k_PARTS_name => k_is)
    (case j_PARTS_name => k_is)
    (case k_PARTS_and => k_is)
    (case j_PARTS_and => k_is)
    (case k_PARTS_or => k_is)
    (case j_PARTS_or => k_is)
    (case k_PARTS_some => k_is)
    (case j_PARTS_some => k_is)
    (case k_PARTS_all => k_is)
    (case j_PARTS_all => k_is)
    (case k_PARTS_least => k_is)
    (case j_PARTS_least => k_is)
    (case k_PARTS_most => k_is)
    (case j_PARTS_most => k_is)
    (case g_MOST_VALUES => k_is)
    (case g_SMALL_LETTERS => k_is)
    (case g_TEN_FIGURES => k_is)
    (case g_SHAPES => k_is)
    (case l_SHAPES => k_is)
    (case y_SHAPES => repeat (first | exact trivial | (refine ⟨⟨_, _, rfl, rfl⟩, ?_⟩)))
    (case lo_SHAPES => decide +kernel)
    (case w_SHAPES => repeat (first | exact trivial | (refine ⟨⟨_, rfl⟩, ?_⟩)))
    (case k_SHAPES_value => k_is)
    (case j_SHAPES_value => k_is)
    (case k_SHAPES_mark => k_is)
    (case j_SHAPES_mark => k_is)
    (case k_SHAPES_and => k_is)
    (case j_SHAPES_and => k_is)
    (case k_SHAPES_or => k_is)
    (case j_SHAPES_or => k_is)
    (case k_SHAPES_some => k_is)
    (case j_SHAPES_some => k_is)
    (case k_SHAPES_all => k_is)
    (case j_SHAPES_all => k_is)
    (case k_SHAPES_least => k_is)
    (case j_SHAPES_least => k_is)
    (case k_SHAPES_most => k_is)
    (case j_SHAPES_most => k_is)
    (case g_SINGLE_WORDS => k_is)
    (case l_SINGLE_WORDS => k_is)
    (case g_Evaluation => k_is)
    (case pg_Evaluation => k_is)
    (case hd_Evaluation => k_is)
    (case po_Evaluation => k_is)
    (case sa_Evaluation => k_is)
    (case mk_Evaluation => k_is)
    (case kc_Evaluation => k_is)
    (case na_Evaluation_lattice => k_is)
    (case na_Evaluation_state_names => k_is)
    (case na_Evaluation_mark_values => k_is)
    (case na_Evaluation_moves => k_is)
    (case h_Evaluation_init => k_is)
    (case i_Evaluation_init => k_is)
    (case l_Evaluation_init => k_is)
    (case c_Evaluation_init => k_is)
    (case k_Evaluation_init => k_is)
    (case h_Evaluation_everywhere => k_is)
    (case i_Evaluation_everywhere => k_is)
    (case l_Evaluation_everywhere => k_is)
    (case c_Evaluation_everywhere => k_is)
    (case k_Evaluation_everywhere => k_is)
    (case h_Evaluation_places => k_is)
    (case i_Evaluation_places => k_is)
    (case l_Evaluation_places => k_is)
    (case c_Evaluation_places => k_is)
    (case k_Evaluation_places => k_is)
    (case h_Evaluation_some_at => k_is)
    (case i_Evaluation_some_at => k_is)
    (case l_Evaluation_some_at => k_is)
    (case c_Evaluation_some_at => k_is)
    (case k_Evaluation_some_at => k_is)
    (case h_Evaluation_all_at => k_is)
    (case i_Evaluation_all_at => k_is)
    (case l_Evaluation_all_at => k_is)
    (case c_Evaluation_all_at => k_is)
    (case k_Evaluation_all_at => k_is)
    (case h_Evaluation_by_rounds => k_is)
    (case i_Evaluation_by_rounds => k_is)
    (case l_Evaluation_by_rounds => k_is)
    (case c_Evaluation_by_rounds => k_is)
    (case k_Evaluation_by_rounds => k_is)
    (case h_Evaluation_counted_rounds => k_is)
    (case i_Evaluation_counted_rounds => k_is)
    (case l_Evaluation_counted_rounds => k_is)
    (case c_Evaluation_counted_rounds => k_is)
    (case k_Evaluation_counted_rounds => k_is)
    (case g_Lattice => k_is)
    (case pg_Lattice => k_is)
    (case hd_Lattice => k_is)
    (case po_Lattice => k_is)
    (case sa_Lattice => k_is)
    (case mk_Lattice => k_is)
    (case kc_Lattice => k_is)
    (case na_Lattice_label => k_is)
    (case na_Lattice_size => k_is)
    (case na_Lattice_depth => k_is)
    (case na_Lattice_value_names => k_is)
    (case na_Lattice_downs => k_is)
    (case na_Lattice_ups => k_is)
    (case na_Lattice_bottom_at => k_is)
    (case na_Lattice_top_at => k_is)
    (case h_Lattice_init => k_is)
    (case i_Lattice_init => k_is)
    (case l_Lattice_init => k_is)
    (case c_Lattice_init => k_is)
    (case k_Lattice_init => k_is)
    (case dd_Lattice_init => k_is)
    (case h_Lattice_within_at => k_is)
    (case i_Lattice_within_at => k_is)
    (case l_Lattice_within_at => k_is)
    (case c_Lattice_within_at => k_is)
    (case k_Lattice_within_at => k_is)
    (case h_Lattice_join_at => k_is)
    (case i_Lattice_join_at => k_is)
    (case l_Lattice_join_at => k_is)
    (case c_Lattice_join_at => k_is)
    (case k_Lattice_join_at => k_is)
    (case h_Lattice_meet_at => k_is)
    (case i_Lattice_meet_at => k_is)
    (case l_Lattice_meet_at => k_is)
    (case c_Lattice_meet_at => k_is)
    (case k_Lattice_meet_at => k_is)
    (case h_Lattice_name_at => k_is)
    (case i_Lattice_name_at => k_is)
    (case l_Lattice_name_at => k_is)
    (case c_Lattice_name_at => k_is)
    (case k_Lattice_name_at => k_is)
    (case h_Lattice_at_name => k_is)
    (case i_Lattice_at_name => k_is)
    (case l_Lattice_at_name => k_is)
    (case c_Lattice_at_name => k_is)
    (case k_Lattice_at_name => k_is)
    (case h_Lattice_irreducibles => k_is)
    (case i_Lattice_irreducibles => k_is)
    (case l_Lattice_irreducibles => k_is)
    (case c_Lattice_irreducibles => k_is)
    (case k_Lattice_irreducibles => k_is)
    (case g_ChainLattice => k_is)
    (case pg_ChainLattice => k_is)
    (case hd_ChainLattice => k_is)
    (case po_ChainLattice => k_is)
    (case sa_ChainLattice => k_is)
    (case mk_ChainLattice => k_is)
    (case kc_ChainLattice => k_is)
    (case na_ChainLattice_label => k_is)
    (case na_ChainLattice_size => k_is)
    (case na_ChainLattice_depth => k_is)
    (case na_ChainLattice_value_names => k_is)
    (case na_ChainLattice_downs => k_is)
    (case na_ChainLattice_ups => k_is)
    (case na_ChainLattice_bottom_at => k_is)
    (case na_ChainLattice_top_at => k_is)
    (case h_ChainLattice_init => k_is)
    (case i_ChainLattice_init => k_is)
    (case l_ChainLattice_init => k_is)
    (case c_ChainLattice_init => k_is)
    (case k_ChainLattice_init => k_is)
    (case q_ChainLattice_init => k_is)
    (case v_ChainLattice_init => k_is)
    (case vf_ChainLattice_init => rfl)
    (case vg_ChainLattice_init => decide +kernel)
    (case g_SetLattice => k_is)
    (case pg_SetLattice => k_is)
    (case hd_SetLattice => k_is)
    (case po_SetLattice => k_is)
    (case sa_SetLattice => k_is)
    (case mk_SetLattice => k_is)
    (case kc_SetLattice => k_is)
    (case na_SetLattice_label => k_is)
    (case na_SetLattice_size => k_is)
    (case na_SetLattice_depth => k_is)
    (case na_SetLattice_value_names => k_is)
    (case na_SetLattice_downs => k_is)
    (case na_SetLattice_ups => k_is)
    (case na_SetLattice_bottom_at => k_is)
    (case na_SetLattice_top_at => k_is)
    (case h_SetLattice_init => k_is)
    (case i_SetLattice_init => k_is)
    (case l_SetLattice_init => k_is)
    (case c_SetLattice_init => k_is)
    (case k_SetLattice_init => k_is)
    (case q_SetLattice_init => k_is)
    (case v_SetLattice_init => k_is)
    (case vf_SetLattice_init => rfl)
    (case vg_SetLattice_init => decide +kernel)
    (case g_System => k_is)
    (case pg_System => k_is)
    (case hd_System => k_is)
    (case po_System => k_is)
    (case sa_System => k_is)
    (case mk_System => k_is)
    (case kc_System => k_is)
    (case na_System_lattice => k_is)
    (case na_System_state_row => k_is)
    (case na_System_mark_rows => k_is)
    (case na_System_arrow_rows => k_is)
    (case na_System_told_marks => k_is)
    (case na_System_leaving => k_is)
    (case h_System_init => k_is)
    (case i_System_init => k_is)
    (case l_System_init => k_is)
    (case c_System_init => k_is)
    (case k_System_init => k_is)
    (case h_System_tell_state => k_is)
    (case i_System_tell_state => k_is)
    (case l_System_tell_state => k_is)
    (case c_System_tell_state => k_is)
    (case k_System_tell_state => k_is)
    (case h_System_tell_mark => k_is)
    (case i_System_tell_mark => k_is)
    (case l_System_tell_mark => k_is)
    (case c_System_tell_mark => k_is)
    (case k_System_tell_mark => k_is)
    (case h_System_tell_arrow => k_is)
    (case i_System_tell_arrow => k_is)
    (case l_System_tell_arrow => k_is)
    (case c_System_tell_arrow => k_is)
    (case k_System_tell_arrow => k_is)
    (case h_System_need_state => k_is)
    (case i_System_need_state => k_is)
    (case l_System_need_state => k_is)
    (case c_System_need_state => k_is)
    (case k_System_need_state => k_is)
    (case h_System_states => k_is)
    (case i_System_states => k_is)
    (case l_System_states => k_is)
    (case c_System_states => k_is)
    (case k_System_states => k_is)
    (case h_System_marks => k_is)
    (case i_System_marks => k_is)
    (case l_System_marks => k_is)
    (case c_System_marks => k_is)
    (case k_System_marks => k_is)
    (case h_System_arrows => k_is)
    (case i_System_arrows => k_is)
    (case l_System_arrows => k_is)
    (case c_System_arrows => k_is)
    (case k_System_arrows => k_is)
    (case mr_ChainLattice => k_is)
    (case su_ChainLattice => ks_is)
    (case ci_ChainLattice => k_is)
    (case hh_ChainLattice_within_at => k_is)
    (case hh_ChainLattice_join_at => k_is)
    (case hh_ChainLattice_meet_at => k_is)
    (case hh_ChainLattice_name_at => k_is)
    (case hh_ChainLattice_at_name => k_is)
    (case hh_ChainLattice_irreducibles => k_is)
    (case mr_SetLattice => k_is)
    (case su_SetLattice => ks_is)
    (case ci_SetLattice => k_is)
    (case hh_SetLattice_within_at => k_is)
    (case hh_SetLattice_join_at => k_is)
    (case hh_SetLattice_meet_at => k_is)
    (case hh_SetLattice_name_at => k_is)
    (case hh_SetLattice_at_name => k_is)
    (case hh_SetLattice_irreducibles => k_is)
    (case ty_Lattice => k_is)
    (case fi_Lattice => k_is)
    (case st_any => k_is)
end
namespace Lw
open PySem L2
local macro_rules | `(tactic| walk_at "up") => `(tactic| first | assumption | (refine Same.at (by assumption) ?_; walk_at "up") | (refine Same.seq (by assumption) ?_; walk_at "up"))
local macro_rules | `(tactic| walk_at "rd") => `(tactic| repeat (first | (refine ⟨_, rfl, ?_⟩) | (refine ⟨_, _, rfl, rfl, ?_⟩) | (refine ⟨(by decide), ?_⟩)))
section
variable {P : Program} {w W_ : World} {K : PySem.W.Frag} {mg : Str → Option Value} {base : Heap}
/-! the law's draws -/
def sp_cells (K : PySem.W.Frag) : Sp := fun vs H Q _ => ∃ (a : Addr) (ns : List Int), vs = [.ref a] ∧ SqL K H a (ns.map V.int) ∧ ns.length ≤ 63 ∧
  ∀ (p c : Addr) (m : Int) (cs : List Int) (H' : Hp), Same H H' → c ≠ p → H' c = some (.lst (cs.map V.int)) → (∀ z ∈ cs, 0 ≤ z) → H' p = some (.lst [.ref c, .int 0, .int 1, .int m]) → 0 ≤ m → m < 2147483563 → Q (.ref p) H'
theorem ok__law_cells (T : Tx K mg W_) : FnOk P w K mg base CX0 1 T.a__law_cells T.d__law_cells ["script"] (sp_cells K) := by
  refine T.F__law_cells.ok sc__law_cells (fun vs H Q E h => ?_) (fun cdv A outer s H vs Q E hr h => ?_)
  · obtain ⟨a, ns, rfl, _⟩ := h
    rfl
  obtain ⟨a, ns, rfl, hS, h63, q⟩ := h
  refine ⟨_, pss_cons (ps_set (i := 1) sc__law_cells.nd rfl (Or.inl rfl) pe_int)
    (pss_cons (ps_for PassesOwn.never rfl (pi_list (pv 0)) (pg_name (i := 2) sc__law_cells.nd rfl (Or.inl rfl))
      (pss_one (ps_set (i := 1) sc__law_cells.nd rfl (Or.inl rfl) (pe_op op_mod (pe_callTy call_int1 (by rfl) T.n_int (by decide +kernel) (pa_cons (pe_op op_add (pe_op op_add (pe_op op_mul (pv 1) pe_int) (pe_op op_mul (pv 2) pe_int)) pe_int) pa_nil)) pe_int))))
    (pss_one (ps_ret (pe_lst (pa_cons (pe_lc (own := [("cell", 2)]) (g := gName 2) (tt := tYes) rfl sc__law_cells.nd (pi_list (pv 0)) (blkOk_by (N := ["script", "mixed", "cell"]) (sc := defScope St__law_cells) (by decide +kernel)) (fun _ _ _ _ _ => pg_name (i := 2) sc__law_cells.nd rfl (Or.inl rfl)) (fun _ _ _ _ _ => pts_nil)
        (fun _ _ _ _ _ => pe_callB call_abs (by rfl) T.n_abs (by decide +kernel) (pa_cons (pv 2) pa_nil)))
      (pa_cons pe_int (pa_cons pe_int (pa_cons (pv 1) pa_nil)))))))), ?_⟩
  refine ⟨_, rfl, a, rfl, ⟨_, hS⟩, for_list (K := K) (a := a) (xs := ns.map V.int) (fun i σ H2 => ∃ (m : Int) (v : Option V), σ = [some (.ref a), some (.int m), v] ∧ H2 = H ∧ 0 ≤ m ∧ m < 2147483563)
    ⟨3, none, rfl, rfl, by decide, by decide⟩ (fun i σ H2 _ ⟨_, _, _, e, _⟩ => by rw [e]; exact hS) ?_ ?_⟩
  · rintro i x σ H2 hi ⟨m, v, rfl, rfl, m0, m1⟩
    obtain ⟨z, _, rfl⟩ := map_at hi
    refine ⟨_, rfl, _, _, rfl, rfl, .inr (by decide), _, rfl, _, _, rfl, rfl, .inr (by decide), _, _, rfl, rfl, _, _, rfl, rfl, .inl ⟨_, rfl, _, _, rfl, rfl, (by show (0 : Int) < 2147483563; decide), ?_⟩⟩
    exact ⟨_, _, rfl, rfl, Int.emod_nonneg _ (by decide), Int.emod_lt_of_pos _ (by decide)⟩
  · rintro σ H2 ⟨m, v, rfl, rfl, m0, m1⟩
    refine ⟨_, rfl, a, rfl, ⟨_, hS⟩, fun D hD => lc_list (K := K) (a := a) (xs := ns.map V.int) (fun i H3 => Same H2 H3 ∧ H3 D = some (.lst (((ns.take i).map fun i : Int => if i < 0 then -i else i).map V.int)))
      ⟨Same.new hD _, upd_same⟩ (fun i H3 _ h => h.1.seq hS) ?_ ?_⟩
    · rintro i x H3 hi ⟨s3, h3⟩
      obtain ⟨z, hz, rfl⟩ := map_at hi
      have hl : i < ns.length := (List.getElem?_eq_some_iff.mp hz).1
      refine ⟨rfl, ?_⟩
      refine lcY ?_
      refine ⟨_, rfl, _, rfl, _, h3, ?_, s3.mut hD _, ?_⟩
      · rw [List.length_map, List.length_map, List.length_take]; exact small1000 (by omega)
      · rw [upd_same, take_snoc hz, List.map_append, List.map_append]; rfl
    · rintro H3 ⟨s3, h3⟩
      refine ⟨_, rfl, (by show 4 ≤ sizeLine; decide), newO fun p H4 hp s4 h4 => ?_⟩
      rw [List.length_map, List.take_length] at h3
      exact q p D m _ H4 (s3.trans s4) (ne_of_none h3 hp) (s4.at h3) (abs_map ns) h4 m0 m1
def sp_pick (K : PySem.W.Frag) : Sp := fun vs H Q _ => ∃ (p ce : Addr) (n : Int), vs = [.ref p, .int n] ∧ Src K ce H p ∧ n ≤ 10000000 ∧
  ∀ (d : Int) (H' : Hp), But p H H' → Src K ce H' p → 0 ≤ d → (d < n ∨ d = 0) → Q (.int d) H'
theorem ok__law_pick (T : Tx K mg W_) : FnOk P w K mg base CX0 1 T.a__law_pick T.d__law_pick ["source", "many"] (sp_pick K) := by
  refine T.F__law_pick.ok sc__law_pick (fun vs H Q E h => ?_) (fun cdv A outer s H vs Q E hr h => ?_)
  · obtain ⟨a, ce, n, rfl, _⟩ := h
    rfl
  obtain ⟨p, c, n, rfl, ⟨cs, i, l, m, S⟩, hn, q⟩ := h
  refine ⟨_, pss_cons (ps_if (pt_cmpR op_lt (pv 1) pe_int (nomark _)) (pss_one (ps_ret pe_int)) pss_nil)
    (pss_cons (ps_while PassesOwn.never (PW.pt (pw_and (pt_cmpR op_lt (pe_ix ix_list (pv 0) pe_int (fun _ _ => rfl)) pe_int (nomark _)) (pw_and1 (pt_cmpR op_lt (pe_ix ix_list (pv 0) pe_int (fun _ _ => rfl)) (pe_callB call_len_seq (by rfl) T.n_len PySem.boot_len (pa_cons (pe_ix ix_list (pv 0) pe_int (fun _ _ => rfl)) pa_nil)) (nomark _)))))
      (pss_cons (ps_asg (pe_ix ix_list (pe_ix ix_list (pv 0) pe_int (fun _ _ => rfl)) (pe_ix ix_list (pv 0) pe_int (fun _ _ => rfl)) (fun _ _ => rfl)) (pg_sub (pv 0) pe_int set_list))
      (pss_one (ps_asg (pe_op op_add (pe_ix ix_list (pv 0) pe_int (fun _ _ => rfl)) pe_int) (pg_sub (pv 0) pe_int set_list)))))
    (pss_cons (ps_if (pt_cmpR op_gt (pe_ix ix_list (pv 0) pe_int (fun _ _ => rfl)) pe_int (nomark _))
      (pss_cons (ps_set (i := 2) sc__law_pick.nd rfl (Or.inl rfl) (pe_op op_mod (pe_callTy call_int1 (by rfl) T.n_int (by decide +kernel) (pa_cons (pe_ix ix_list (pv 0) pe_int (fun _ _ => rfl)) pa_nil)) (pv 1)))
      (pss_cons (ps_asg (pe_op op_fdiv (pe_ix ix_list (pv 0) pe_int (fun _ _ => rfl)) (pv 1)) (pg_sub (pv 0) pe_int set_list))
      (pss_one (ps_ret (pv 2))))) pss_nil)
    (pss_cons (ps_asg (pe_op op_mod (pe_callTy call_int1 (by rfl) T.n_int (by decide +kernel) (pa_cons (pe_op op_add (pe_op op_mul (pe_ix ix_list (pv 0) pe_int (fun _ _ => rfl)) pe_int) pe_int) pa_nil)) pe_int) (pg_sub (pv 0) pe_int set_list))
    (pss_cons (ps_set (i := 3) sc__law_pick.nd rfl (Or.inl rfl) (pe_op op_fdiv (pe_ix ix_list (pv 0) pe_int (fun _ _ => rfl)) pe_int))
    (pss_cons (ps_if (pt_cmpR op_gt (pv 1) (pe_op op_pow pe_int pe_int) (nomark _)) (pss_one (ps_set (i := 3) sc__law_pick.nd rfl (Or.inl rfl) (pe_op op_pow (pv 3) pe_int))) pss_nil)
    (pss_one (ps_ret (pe_op op_mod (pe_callTy call_int1 (by rfl) T.n_int (by decide +kernel) (pa_cons (pv 3) pa_nil)) (pv 1))))))))), ?_⟩
  refine ⟨_, rfl, _, _, rfl, rfl, _, rfl, ?_⟩
  refine ite2 (fun c1 => ?_) (fun c1 => ?_)
  · exact q 0 H (But.refl p H) ⟨cs, i, l, m, S⟩ (by decide) (.inr rfl)
  have hn2 : 2 ≤ n := by have := of_decide_eq_false (Bool.eq_false_iff.mpr c1); omega
  refine ⟨fun k σ H2 => ∃ (i : Nat) (l : Int), k = cs.length - i ∧ σ = [some (.ref p), some (.int n), none, none] ∧ But p H H2 ∧ SrcIs K H2 p c cs i l m, ⟨_, i, l, rfl, rfl, But.refl p H, S⟩, ?_⟩
  rintro k σ H2 ⟨i, l, rfl, rfl, b, S⟩
  have sq := SqL.of (K := K) S.at_
  refine ans_run (b := decide (l < 2) && decide ((i : Int) < cs.length)) (fun Q' q' => ?_) ?_
  · refine ⟨_, rfl, _, _, _, _, rfl, rfl, sq, atI_nat (j := 2) rfl, _, _, rfl, rfl, _, rfl, ?_⟩
    refine ite2 (fun c2 => ?_) (fun c2 => ?_)
    · refine ⟨_, rfl, _, _, _, _, rfl, rfl, sq, atI_nat (j := 1) rfl, _, rfl, _, _, _, _, rfl, rfl, sq, atI_nat (j := 0) rfl, c, _, rfl, .inl S.cel, _, _, rfl, rfl, _, rfl, ?_⟩
      have e : (decide (l < 2) && decide ((i : Int) < cs.length)) = decide ((i : Int) < (cs.map V.int).length) := by rw [c2, Bool.true_and, List.length_map]
      rw [e] at q'
      exact q'
    · rw [Bool.eq_false_iff.mpr c2, Bool.false_and] at q'
      exact q'
  refine ite2 (fun c2 => ?_) (fun c2 => ?_)
  · obtain ⟨e1, e2⟩ := Bool.and_eq_true_iff.mp c2
    have e1 := of_decide_eq_true e1
    have e2 := of_decide_eq_true e2
    have hic : i < cs.length := by omega
    refine ⟨fun σ' H' => ∃ m' < cs.length - i, _, fun _ _ h => h, ?_⟩
    refine ⟨_, rfl, _, _, _, _, rfl, rfl, sq, atI_nat (j := 0) rfl, _, rfl, _, _, _, _, rfl, rfl, sq, atI_nat (j := 1) rfl, c, _, (i : Int), .int cs[i], rfl, rfl, S.cel, atI_nat (by rw [List.getElem?_map, List.getElem?_eq_getElem hic]; rfl), ?_⟩
    refine ⟨_, rfl, p, _, _, 2, rfl, rfl, S.at_, rfl, ?_⟩
    have S1 := S.put (i' := i) (l' := cs[i]) (m' := m) S.hi (S.hc _ (List.getElem_mem hic)) S.m0 S.m1
    refine ⟨_, rfl, _, _, _, _, rfl, rfl, SqL.of (K := K) S1.at_, atI_nat (j := 1) rfl, _, _, rfl, rfl, ?_⟩
    refine ⟨_, rfl, p, _, _, 1, rfl, rfl, S1.at_, rfl, ?_⟩
    exact ⟨_, by omega, i + 1, cs[i], rfl, rfl, (b.upd _).upd _, S1.put (i' := i + 1) (l' := cs[i]) (m' := m) hic S1.hl S1.m0 S1.m1⟩
  refine ⟨_, rfl, _, _, _, _, rfl, rfl, sq, atI_nat (j := 2) rfl, _, _, rfl, rfl, _, rfl, ?_⟩
  refine ite2 (fun c3 => ?_) (fun c3 => ?_)
  · have c3 := of_decide_eq_true c3
    refine ⟨_, rfl, _, _, _, _, rfl, rfl, sq, atI_nat (j := 2) rfl, .inl ⟨_, rfl, _, rfl, _, _, rfl, rfl, (by show 0 < n; omega), ?_⟩⟩
    refine ⟨_, rfl, _, _, _, _, rfl, rfl, sq, atI_nat (j := 2) rfl, _, rfl, _, _, rfl, rfl, ⟨by omega, by omega⟩, ?_⟩
    refine ⟨_, rfl, p, _, _, 2, rfl, rfl, S.at_, rfl, _, rfl, ?_⟩
    exact q _ _ (b.upd _) ⟨cs, i, l / n, m, S.put S.hi (Int.ediv_nonneg S.hl (by omega)) S.m0 S.m1⟩ (Int.emod_nonneg _ (by omega)) (.inl (Int.emod_lt_of_pos _ (by omega)))
  refine ⟨_, rfl, _, _, _, _, rfl, rfl, sq, atI_nat (j := 3) rfl, _, _, rfl, rfl, .inr (by decide), _, _, rfl, rfl, .inl ⟨_, rfl, _, _, rfl, rfl, (by show (0 : Int) < 2147483563; decide), ?_⟩⟩
  refine ⟨_, rfl, p, _, _, 3, rfl, rfl, S.at_, rfl, ?_⟩
  have S1 := S.put (i' := i) (l' := l) (m' := (m * 40014 + 12345) % 2147483563) S.hi S.hl (Int.emod_nonneg _ (by decide)) (Int.emod_lt_of_pos _ (by decide))
  refine ⟨_, rfl, _, _, _, _, rfl, rfl, SqL.of (K := K) S1.at_, atI_nat (j := 3) rfl, _, _, rfl, rfl, ⟨by decide, by decide⟩, ?_⟩
  refine ⟨_, rfl, _, _, rfl, rfl, (by show CPow 10 7; exact ⟨by decide, by decide, by decide⟩), _, _, rfl, rfl, _, rfl, ?_⟩
  refine iteN (by show ¬ (10 : Int) ^ (7 : Int).toNat < n; have : (10 : Int) ^ (7 : Int).toNat = 10000000 := by decide
                  omega) ?_
  refine ⟨_, rfl, .inl ⟨_, rfl, _, rfl, _, _, rfl, rfl, (by show 0 < n; omega), ?_⟩⟩
  exact q _ _ (b.upd _) ⟨cs, i, l, _, S1⟩ (Int.emod_nonneg _ (by omega)) (.inl (Int.emod_lt_of_pos _ (by omega)))
end
section
variable {P : Program} {w W_ : World} {K : PySem.W.Frag} {mg : Str → Option Value} {base : Heap}
def sp_first (K : PySem.W.Frag) : Sp := fun vs H Q _ => ∃ (p : Addr) (n m : Nat) (f : Nat → Nat), vs = [.ref p, .int (m : Nat)] ∧ NdT K H p ∧ SqT K H p ((List.range n).map fun i => V.int (f i : Nat)) ∧ n ≤ 1000 ∧ ∀ H', Same H H' → Q (optV (first n fun k => f k == m)) H'
theorem ok_first (T : Tx K mg W_) : FnOk P w K mg base CX0 1 T.a_first_place T.d_first_place ["sets", "wanted"] (sp_first K) := by
  refine T.F_first_place.ok sc_first_place (fun vs H Q E h => ?_) (fun cdv A outer s H vs Q E hr h => ?_)
  · obtain ⟨p, n, m, f, rfl, _⟩ := h
    rfl
  obtain ⟨p, n, m, f, rfl, hn, hs, hz, q⟩ := h
  refine ⟨_, pss_one (ps_ret (pe_ifExp (pt_cmpR op_in_seq (pv 1) (pv 0) (by rfl)) (pe_tbm PySem.F.plainAttrs_tuple PySem.F.slot_tuple_index PySem.F.type_tuple_index mt_tindexF (pv 0) (pa_cons (pv 1) pa_nil)) pe_non)), ?_⟩
  refine ⟨_, rfl, _, rfl, p, _, rfl, .inr hs, rfl, flat_ints _ _, _, rfl, ?_⟩
  have e : (if false = true then !inV (.int (m : Nat)) ((List.range n).map fun i => V.int (f i : Nat)) else inV (.int (m : Nat)) ((List.range n).map fun i => V.int (f i : Nat))) = (first n fun k => f k == m).isSome := inV_map m n f
  rw [e]
  cases e2 : first n fun k => f k == m with
  | none => exact iteF (by have := q H (Same.refl _); rw [e2] at this; exact this)
  | some k =>
    obtain ⟨h1, h2, h3⟩ := first_some e2
    refine iteT ⟨_, rfl, p, _, rfl, hn, hs, _, rfl, p, _, _, k, _, rfl, rfl, hs, rfl, flat_ints _ _, at_map h1, (by rw [eqV_nat]; exact h2), fun j z hj hz => ?_, ?_⟩
    · obtain ⟨_, rfl⟩ := at_map' hz
      rw [eqV_nat]; exact h3 j hj
    · have := q H (Same.refl _)
      rw [e2] at this; exact this
end
section
variable {P : Program} {w W_ : World} {K : PySem.W.Frag} {mg : Str → Option Value} {base : Heap}
def sp_within (K : PySem.W.Frag) (mm : List (Str × Addr)) : Sp := fun vs H Q _ => ∃ (p : Addr) (L : Lt) (a b : Nat), vs = [.ref p, .int (a : Nat), .int (b : Nat)] ∧ IsLat K mm H p L ∧ a < L.n ∧ b < L.n ∧ ∀ H', Same H H' → Q (.bl (L.le a b)) H'
theorem ok_within (T : Tx K mg W_) : FnOk P w K mg base CX0 1 T.a_Lattice_within_at T.d_Lattice_within_at ["self", "first", "second"] (sp_within K T.mm) := by
  refine T.F_Lattice_within_at.ok sc_Lattice_within_at (fun vs H Q E h => ?_) (fun cdv A outer s H vs Q E hr h => ?_)
  · obtain ⟨p, L, a, b, rfl, _⟩ := h
    rfl
  obtain ⟨p, L, a, b, rfl, ⟨C, dx, fs, tn, td, tu, A⟩, ha, hb, q⟩ := h
  refine ⟨_, pss_one (ps_ret (pe_cmpR op_eq (pe_op op_and (pe_op op_shr (pe_ix ix_tup (pe_fld (pv 0) rfl) (pv 2) (fun _ _ => rfl)) (pv 1)) pe_int) pe_int (nomark _))), ?_⟩
  refine ⟨_, rfl, p, C, dx, fs, _, rfl, A.at_, A.c.cl, A.c.na _ (by decide), A.downs, _, rfl, td, _, _, _, rfl, rfl, A.td.2, atI_nat (at_map hb), _, rfl, _, _, rfl, rfl, Int.natCast_nonneg _, _, _, rfl, rfl, rfl, ?_⟩
  have e : decide (V.int (Builtin.bitAnd ((L.down b : Int) / 2 ^ ((a : Int)).toNat) 1) = V.int 1) = L.le a b := by
    rw [dec_int, Int.toNat_natCast, bit_is]
    show (mask L.n fun i => L.le i b).testBit a = _
    rw [mask_bit, decide_eq_true ha, Bool.true_and]
  have := q H (Same.refl _)
  rw [← e] at this
  exact this
end
section
variable {P : Program} {w W_ : World} {K : PySem.W.Frag} {mg : Str → Option Value} {base : Heap}
def sp_join (K : PySem.W.Frag) (mm : List (Str × Addr)) : Sp := fun vs H Q _ => ∃ (p : Addr) (L : Lt) (a b : Nat), vs = [.ref p, .int (a : Nat), .int (b : Nat)] ∧ IsLat K mm H p L ∧ L.n ≤ 1000 ∧ a < L.n ∧ b < L.n ∧ ∀ H', Same H H' → Q (optV (L.join a b)) H'
theorem ok_join (T : Tx K mg W_) : FnOk P w K mg base CX0 2 T.a_Lattice_join_at T.d_Lattice_join_at ["self", "first", "second"] (sp_join K T.mm) := by
  have G_first_place := ok_first (P := P) (w := w) (base := base) T
  refine T.F_Lattice_join_at.ok sc_Lattice_join_at (fun vs H Q E h => ?_) (fun cdv A outer s H vs Q E hr h => ?_)
  · obtain ⟨p, L, a, b, rfl, _⟩ := h
    rfl
  obtain ⟨p, L, a, b, rfl, ⟨C, dx, fs, tn, td, tu, A⟩, hn, ha, hb, q⟩ := h
  refine ⟨_, pss_one (ps_ret (pe_call G_first_place (hr.mono (by omega)) (by rfl) T.g_first_place T.F_first_place.kp T.b_first_place .nil pass0 (pa_cons (pe_fld (pv 0) rfl) (pa_cons (pe_op op_and (pe_ix ix_tup (pe_fld (pv 0) rfl) (pv 1) (fun _ _ => rfl)) (pe_ix ix_tup (pe_fld (pv 0) rfl) (pv 2) (fun _ _ => rfl))) pa_nil)))), ?_⟩
  refine ⟨_, rfl, p, C, dx, fs, _, rfl, A.at_, A.c.cl, A.c.na _ (by decide), A.ups, ?_⟩
  refine ⟨_, rfl, p, C, dx, fs, _, rfl, A.at_, A.c.cl, A.c.na _ (by decide), A.ups, _, rfl, tu, _, _, _, rfl, rfl, A.tu.2, atI_nat (at_map ha), ?_⟩
  refine ⟨_, rfl, p, C, dx, fs, _, rfl, A.at_, A.c.cl, A.c.na _ (by decide), A.ups, _, rfl, tu, _, _, _, rfl, rfl, A.tu.2, atI_nat (at_map hb), _, _, rfl, rfl, ?_⟩
  exact ⟨tu, L.n, L.up a &&& L.up b, L.up, (by rw [← and_int_nat]; rfl), A.tu.1, A.tu.2, hn, q⟩
end
section
variable {P : Program} {w W_ : World} {K : PySem.W.Frag} {mg : Str → Option Value} {base : Heap}
def sp_meet (K : PySem.W.Frag) (mm : List (Str × Addr)) : Sp := fun vs H Q _ => ∃ (p : Addr) (L : Lt) (a b : Nat), vs = [.ref p, .int (a : Nat), .int (b : Nat)] ∧ IsLat K mm H p L ∧ L.n ≤ 1000 ∧ a < L.n ∧ b < L.n ∧ ∀ H', Same H H' → Q (optV (L.meet a b)) H'
theorem ok_meet (T : Tx K mg W_) : FnOk P w K mg base CX0 2 T.a_Lattice_meet_at T.d_Lattice_meet_at ["self", "first", "second"] (sp_meet K T.mm) := by
  have G_first_place := ok_first (P := P) (w := w) (base := base) T
  refine T.F_Lattice_meet_at.ok sc_Lattice_meet_at (fun vs H Q E h => ?_) (fun cdv A outer s H vs Q E hr h => ?_)
  · obtain ⟨p, L, a, b, rfl, _⟩ := h
    rfl
  obtain ⟨p, L, a, b, rfl, ⟨C, dx, fs, tn, td, tu, A⟩, hn, ha, hb, q⟩ := h
  refine ⟨_, pss_one (ps_ret (pe_call G_first_place (hr.mono (by omega)) (by rfl) T.g_first_place T.F_first_place.kp T.b_first_place .nil pass0 (pa_cons (pe_fld (pv 0) rfl) (pa_cons (pe_op op_and (pe_ix ix_tup (pe_fld (pv 0) rfl) (pv 1) (fun _ _ => rfl)) (pe_ix ix_tup (pe_fld (pv 0) rfl) (pv 2) (fun _ _ => rfl))) pa_nil)))), ?_⟩
  refine ⟨_, rfl, p, C, dx, fs, _, rfl, A.at_, A.c.cl, A.c.na _ (by decide), A.downs, ?_⟩
  refine ⟨_, rfl, p, C, dx, fs, _, rfl, A.at_, A.c.cl, A.c.na _ (by decide), A.downs, _, rfl, td, _, _, _, rfl, rfl, A.td.2, atI_nat (at_map ha), ?_⟩
  refine ⟨_, rfl, p, C, dx, fs, _, rfl, A.at_, A.c.cl, A.c.na _ (by decide), A.downs, _, rfl, td, _, _, _, rfl, rfl, A.td.2, atI_nat (at_map hb), _, _, rfl, rfl, ?_⟩
  exact ⟨td, L.n, L.down a &&& L.down b, L.down, (by rw [← and_int_nat]; rfl), A.td.1, A.td.2, hn, q⟩
end
section
variable {P : Program} {w W_ : World} {K : PySem.W.Frag} {mg : Str → Option Value} {base : Heap}
def sp_name_at (K : PySem.W.Frag) (mm : List (Str × Addr)) : Sp := fun vs H Q _ => ∃ (p : Addr) (L : Lt) (a : Nat) (x : Str), vs = [.ref p, .int (a : Nat)] ∧ IsLat K mm H p L ∧ L.names[a]? = some x ∧ ∀ H', Same H H' → Q (.str x) H'
theorem ok_name_at (T : Tx K mg W_) : FnOk P w K mg base CX0 1 T.a_Lattice_name_at T.d_Lattice_name_at ["self", "place"] (sp_name_at K T.mm) := by
  refine T.F_Lattice_name_at.ok sc_Lattice_name_at (fun vs H Q E h => ?_) (fun cdv A outer s H vs Q E hr h => ?_)
  · obtain ⟨p, L, a, x, rfl, _⟩ := h
    rfl
  obtain ⟨p, L, a, x, rfl, ⟨C, dx, fs, tn, td, tu, A⟩, hx, q⟩ := h
  refine ⟨_, pss_one (ps_ret (pe_ix ix_tup (pe_fld (pv 0) rfl) (pv 1) (fun _ _ => rfl))), ?_⟩
  exact ⟨_, rfl, p, C, dx, fs, _, rfl, A.at_, A.c.cl, A.c.na _ (by decide), A.names, _, rfl, tn, _, _, _, rfl, rfl, A.tn.2, atI_nat (by rw [List.getElem?_map, hx]; rfl), q H (Same.refl _)⟩
end
section
variable {P : Program} {w W_ : World} {K : PySem.W.Frag} {mg : Str → Option Value} {base : Heap}
theorem eqV_str (a b : Str) : eqV (.str a) (.str b) = (a == b) := rfl
/-- at_name of a name that is there -/
def sp_at_name (K : PySem.W.Frag) (mm : List (Str × Addr)) : Sp := fun vs H Q _ => ∃ (p : Addr) (L : Lt) (a : Nat) (x : Str), vs = [.ref p, .str x] ∧ IsLat K mm H p L ∧ L.names.Nodup ∧ L.names[a]? = some x ∧ ∀ H', Same H H' → Q (.int (a : Nat)) H'
theorem nodup_at {α : Type} {l : List α} (nd : l.Nodup) {i j : Nat} {x : α} (h1 : l[i]? = some x) (h2 : l[j]? = some x) : i = j := by
  obtain ⟨l1, e1⟩ := List.getElem?_eq_some_iff.mp h1
  obtain ⟨l2, e2⟩ := List.getElem?_eq_some_iff.mp h2
  rcases Nat.lt_trichotomy i j with c | c | c
  · exact absurd (e1.trans e2.symm) (List.pairwise_iff_getElem.mp nd i j l1 l2 c)
  · exact c
  · exact absurd (e2.trans e1.symm) (List.pairwise_iff_getElem.mp nd j i l2 l1 c)
theorem ok_at_name (T : Tx K mg W_) : FnOk P w K mg base CX0 1 T.a_Lattice_at_name T.d_Lattice_at_name ["self", "name"] (sp_at_name K T.mm) := by
  refine T.F_Lattice_at_name.ok sc_Lattice_at_name (fun vs H Q E h => ?_) (fun cdv A outer s H vs Q E hr h => ?_)
  · obtain ⟨p, L, a, x, rfl, _⟩ := h
    rfl
  obtain ⟨p, L, a, x, rfl, ⟨C, dx, fs, tn, td, tu, A⟩, nd, hx, q⟩ := h
  refine ⟨_, pss_cons (ps_if (pt_cmpR op_notIn_seq (pv 1) (pe_fld (pv 0) rfl) (by rfl)) (pss_one ps_dead) pss_nil)
    (pss_one (ps_ret (pe_tbm PySem.F.plainAttrs_tuple PySem.F.slot_tuple_index PySem.F.type_tuple_index mt_tindexF (pe_fld (pv 0) rfl) (pa_cons (pv 1) pa_nil)))), ?_⟩
  refine ⟨_, rfl, _, rfl, p, C, dx, fs, _, rfl, A.at_, A.c.cl, A.c.na _ (by decide), A.names, tn, _, rfl, .inr A.tn.2, rfl, flat_strs _, _, rfl, ?_⟩
  have e : (if true = true then !inV (.str x) (L.names.map V.str) else inV (.str x) (L.names.map V.str)) = false := by
    show (!inV (.str x) (L.names.map V.str)) = false
    rw [inV_strs, decide_eq_true (List.mem_of_getElem? hx)]; rfl
  rw [e]
  refine iteF ?_
  refine ⟨_, rfl, p, C, dx, fs, _, rfl, A.at_, A.c.cl, A.c.na _ (by decide), A.names, tn, _, rfl, A.tn.1, A.tn.2, _, rfl, tn, _, _, a, _, rfl, rfl, A.tn.2, rfl, flat_strs _, (by rw [List.getElem?_map, hx]; rfl), (by rw [eqV_str]; exact beq_self_eq_true x), fun j z hj hz => ?_, q H (Same.refl _)⟩
  rw [List.getElem?_map] at hz
  obtain ⟨y, hy, rfl⟩ := Option.map_eq_some_iff.mp hz
  rw [eqV_str]
  exact beq_eq_false_iff_ne.mpr fun z => by
    subst z
    have := nodup_at nd hy hx
    omega
end
section
variable {P : Program} {w W_ : World} {K : PySem.W.Frag} {mg : Str → Option Value} {base : Heap}
/-- parts_among(numbers, number): which of the numbers lie within one -/
def sp_parts (K : PySem.W.Frag) : Sp := fun vs H Q _ => ∃ (a : Addr) (n g : Nat) (f : Nat → Nat), vs = [.ref a, .int (g : Nat)] ∧ SqL K H a ((List.range n).map fun i => V.int (f i : Nat)) ∧ n ≤ 1000 ∧
  ∀ H', Same H H' → Q (.int (mask n fun i => part (f i) g : Nat)) H'
theorem ok_parts (T : Tx K mg W_) : FnOk P w K mg base CX0 1 T.a_parts_among T.d_parts_among ["numbers", "number"] (sp_parts K) := by
  refine T.F_parts_among.ok sc_parts_among (fun vs H Q E h => ?_) (fun cdv A outer s H vs Q E hr h => ?_)
  · obtain ⟨a, n, g, f, rfl, _⟩ := h
    rfl
  obtain ⟨a, n, g, f, rfl, hs, hn, q⟩ := h
  refine ⟨_, pss_one (ps_ret (pe_callB (cr_sum rfl) (by rfl) T.n_sum (by decide +kernel) (pa_cons (pe_lc (own := [("place", 2), ("other", 3)]) (g := gTup K 2 (gCons (gName 2) (gCons (gName 3) gNil))) rfl sc_parts_among.nd (pi_enum (by rfl) T.n_enumerate (pa_cons (pv 0) pa_nil)) (blkOk_by (N := N_parts_among) (sc := defScope St_parts_among) (by decide +kernel)) (fun _ _ _ _ _ => (pg_tup rfl (pgs_cons (pg_name (i := 2) sc_parts_among.nd rfl (Or.inl rfl)) (pgs_cons (pg_name (i := 3) sc_parts_among.nd rfl (Or.inl rfl)) pgs_nil)))) (fun _ _ _ _ _ => (pts_one (pt_cmpR op_eq (pe_op op_and (pv 3) (pe_un un_inv (pv 1))) pe_int (nomark _)))) (fun _ _ _ _ _ => (pe_op op_shl pe_int (pv 2)))) pa_nil))), ?_⟩
  refine ⟨_, rfl, a, _, rfl, hs, fun D hD => ?_⟩
  refine lc_fold walk_enum hD (fun i _ ys => i ≤ n ∧ ys = (((List.range i).filter fun i => part (f i) g).map fun i => ((2 ^ i : Nat) : Int)).map V.int) (fun _ => ⟨Nat.zero_le _, rfl⟩) (fun i _ _ xs _ h => h) ?_ (fun H2 s2 => (s2.seq hs)) ?_ ?_
  · rintro i _ ys ⟨hi, rfl⟩
    rw [List.length_map, List.length_map]
    have := filter_le (fun i => part (f i) g) i
    omega
  · rintro i x H2 H3 ys Nx Ex hi s2 ⟨_, rfl⟩ ⟨t, x1, x2, rfl, ht, rfl, e1, e2⟩ k1 k2
    cases e1
    obtain ⟨hi, rfl⟩ := at_map' e2
    have s3 : Same H2 (upd H2 t (.tup [.int (i : Nat), .int (f i : Nat)])) := Same.new ht _
    have h3 : upd H2 t (.tup [.int (i : Nat), .int (f i : Nat)]) t = some (.tup [.int (i : Nat), .int (f i : Nat)]) := upd_same
    generalize upd H2 t (.tup [.int (i : Nat), .int (f i : Nat)]) = H3 at s3 h3 ⊢
    refine ⟨t, _, rfl, SqT.of (K := K) h3, rfl, _, _, rfl, _, _, rfl, ⟨rfl, rfl, ?_⟩⟩
    refine ⟨_, rfl, _, rfl, _, rfl, _, _, rfl, rfl, rfl, _, rfl, ?_⟩
    rw [part_is]
    refine ite2 (fun c => ?_) (fun c => ?_)
    · refine ⟨_, rfl, _, _, rfl, rfl, ⟨Int.natCast_nonneg _, by omega, by decide⟩, k1 _ _ s3 ⟨hi, ?_⟩⟩
      rw [filter_snoc, if_pos c, List.map_append, List.map_append]
      show _ ++ [V.int (1 * 2 ^ ((i : Int)).toNat)] = _
      rw [one_shl]
      rfl
    · refine k2 _ s3 ⟨hi, ?_⟩
      rw [filter_snoc, if_neg c, List.append_nil]
  · rintro H2 ys s2 h2 ⟨_, rfl⟩
    rw [List.length_map, List.length_range] at h2
    refine ⟨D, _, rfl, SqL.of (K := K) h2, ?_⟩
    rw [sum_mask]
    exact q H2 s2
end
section
variable {P : Program} {w W_ : World} {K : PySem.W.Frag} {mg : Str → Option Value} {base : Heap}
local macro_rules | `(tactic| walk_at "lk") => `(tactic| (simp only [lookup_putF]; repeat (first | rw [if_pos rfl] | rw [if_neg (by decide)])))
/-- what stands at b but for p and its changes -/
theorem upd_at {H : Hp} {p b : Addr} {o u : HO} (n : b ≠ p) (h : H b = some u) : upd H p o b = some u := by rw [upd_ne n]; exact h
theorem put_len (f : Str) (v : V) (fs : List (Str × V)) : (putF f v fs).length ≤ fs.length + 1 := by have := length_putF f v fs; omega
def sp_lat_init (K : PySem.W.Frag) (mm : List (Str × Addr)) : Sp := fun vs H Q _ => ∃ (p na da C dx : Addr) (fs0 : List (Str × V)) (L : Lt), vs = [.ref p, .str L.label, .ref na, .ref da, .int (L.depth : Nat)] ∧ H p = some (.ins C dx fs0) ∧ LatC K mm C ∧ fs0.length ≤ 10 ∧
  (∀ q ∈ mm, fs0.lookup q.1 = none) ∧ na ≠ p ∧ SqL K H na (L.names.map V.str) ∧ ((da ≠ p ∧ SqL K H da (downsV L)) ∨ (NdT K H da ∧ SqT K H da (downsV L))) ∧ L.n ≤ 64 ∧
  ∀ H' fs tn td tu, But p H H' → LatAt K mm H' p L C dx fs tn td tu → (∀ f, f ∉ latAttrs → fs.lookup f = fs0.lookup f) → Q .non H'
theorem ok_lat_init (T : Tx K mg W_) : FnOk P w K mg base CX0 2 T.a_Lattice_init T.d_Lattice_init ["self", "label", "names", "downs", "depth"] (sp_lat_init K T.mm) := by
  have G_first_place := ok_first (P := P) (w := w) (base := base) T
  refine T.F_Lattice_init.ok sc_Lattice_init (fun vs H Q E h => ?_) (fun cdv A outer s H vs Q E hr h => ?_)
  · obtain ⟨p, na, da, C, dx, fs0, L, rfl, _⟩ := h
    rfl
  obtain ⟨p, na, da, C, dx, fs0, L, rfl, hp, lc, z0, no, nna, hna, hda, hn, q⟩ := h
  refine ⟨_, pss_cons (ps_set (i := 5) sc_Lattice_init.nd rfl (Or.inr rfl) (pe_listRg rfl (by rfl) T.n_list (prg_1 (by rfl) T.n_range (pe_callB call_len_seq (by rfl) T.n_len (by decide +kernel) (pa_cons (pv 2) pa_nil)))))
    (pss_cons (ps_fld (pv 0) (pv 1) rfl)
    (pss_cons (ps_fld (pv 0) (pe_callB call_len_seq (by rfl) T.n_len (by decide +kernel) (pa_cons (pv 2) pa_nil)) rfl)
    (pss_cons (ps_fld (pv 0) (pv 4) rfl)
    (pss_cons (ps_fld (pv 0) (pe_callTy call_tupleN (by rfl) T.n_tuple (by decide +kernel) (pa_cons (pv 2) pa_nil)) rfl)
    (pss_cons (ps_fld (pv 0) (pe_callTy call_tupleN (by rfl) T.n_tuple (by decide +kernel) (pa_cons (pv 3) pa_nil)) rfl)
    (pss_cons (ps_fld (pv 0) (pe_callTy call_tupleN (by rfl) T.n_tuple (by decide +kernel) (pa_cons (pe_lc (own := [("a", 7)]) (g := gName 7) (tt := tYes) rfl sc_Lattice_init.nd (pi_list (pv 5)) (blkOk_by (N := N_Lattice_init) (sc := defScope St_Lattice_init) (by decide +kernel)) (fun _ _ _ _ _ => (pg_name (i := 7) sc_Lattice_init.nd rfl (Or.inr rfl))) (fun _ _ _ _ _ => pts_nil) (fun _ _ _ _ _ => (pe_callB (kx_cr_sum K) (by rfl) T.n_sum (by decide +kernel) (pa_cons (pe_lc (own := [("b", 6)]) (g := gName 6) rfl sc_Lattice_init.nd (kx_pi_list K (pi_list (pv 5))) (blkOk_by (N := N_Lattice_init) (by first | rfl | kernel_rfl)) (fun _ _ _ _ _ => (pg_name (i := 6) sc_Lattice_init.nd rfl (Or.inl rfl))) (fun _ _ _ _ _ => (pts_one (pt_cmpR op_eq (pe_op op_and (pe_op op_shr (pe_ix (kx_ix_seq K) (pv 3) (pv 6) (fun _ _ => rfl)) (pv 7)) pe_int) pe_int (nomark _)))) (fun _ _ _ _ _ => (pe_op op_shl pe_int (pv 6)))) pa_nil)))) pa_nil)) rfl)
    (pss_cons (ps_set (i := 8) sc_Lattice_init.nd rfl (Or.inl rfl) (pe_op op_sub (pe_op op_shl pe_int (pe_callB call_len_seq (by rfl) T.n_len (by decide +kernel) (pa_cons (pv 2) pa_nil))) pe_int))
    (pss_cons (ps_fld (pv 0) (pe_call G_first_place (hr.mono (by omega)) (by rfl) T.g_first_place T.F_first_place.kp T.b_first_place .nil pass0 (pa_cons (pe_fld (pv 0) rfl) (pa_cons (pv 8) pa_nil))) rfl)
    (pss_one (ps_fld (pv 0) (pe_call G_first_place (hr.mono (by omega)) (by rfl) T.g_first_place T.F_first_place.kp T.b_first_place .nil pass0 (pa_cons (pe_fld (pv 0) rfl) (pa_cons (pv 8) pa_nil))) rfl)))))))))), ?_⟩
  have en : ((L.names.map V.str).length : Nat) = L.n := List.length_map _
  refine ⟨_, rfl, na, _, rfl, .inl hna, _, rfl, ?_⟩
  rw [en]
  refine ⟨RgOk.of_le (by decide) (by omega) (by decide) (by omega), newQ (.lst (rgV 0 (L.n : Nat))) fun pl hpl s1 h1 => ?_⟩
  rw [rg_nat] at s1 h1
  rw [rg_nat]
  generalize upd H pl (.lst (natV (List.range L.n))) = H1 at s1 h1 ⊢
  -- label
  have p1 := s1 _ _ hp
  have na1 : SqL K H1 na _ := s1.seq hna
  have da1 : (da ≠ p ∧ SqL K H1 da (downsV L)) ∨ (NdT K H1 da ∧ SqT K H1 da (downsV L)) := hda.imp (fun x => ⟨x.1, s1.seq x.2⟩) (fun x => ⟨x.1.keep s1.keeps, s1.keeps.sqT x.2⟩)
  have b1 : But p H H1 := s1.but p
  have npl : pl ≠ p := ne_of h1 p1 (by intro z; cases z)
  refine ⟨_, rfl, _, rfl, p, C, dx, _, rfl, p1, lc.cl, lc.na _ (by decide), by omega, ?_⟩
  have b2 := b1.upd (.ins C dx (putF "label" (.str L.label) fs0))
  have p2 : upd H1 p (.ins C dx (putF "label" (.str L.label) fs0)) p = _ := upd_same
  have c2 : But p H1 (upd H1 p (.ins C dx (putF "label" (.str L.label) fs0))) := (But.refl p H1).upd _
  generalize upd H1 p (.ins C dx (putF "label" (.str L.label) fs0)) = H2 at b2 p2 c2 ⊢
  have na2 : SqL K H2 na _ := c2.seq nna na1
  have k2 := c2.keeps p1 trivial
  have da2 : (da ≠ p ∧ SqL K H2 da (downsV L)) ∨ (NdT K H2 da ∧ SqT K H2 da (downsV L)) := da1.imp (fun x => ⟨x.1, c2.seq x.1 x.2⟩) (fun x => ⟨x.1.keep k2, k2.sqT x.2⟩)
  have h2 := c2 _ _ npl h1
  -- size
  have z1 := put_len "label" (.str L.label) fs0
  generalize hf1 : putF "label" (.str L.label) fs0 = fs1 at p2 z1
  refine ⟨_, rfl, na, _, rfl, .inl na2, _, rfl, p, C, dx, _, rfl, p2, lc.cl, lc.na _ (by decide), by omega, ?_⟩
  rw [en]
  have b3 := b2.upd (.ins C dx (putF "size" (.int (L.n : Nat)) fs1))
  have p3 : upd H2 p (.ins C dx (putF "size" (.int (L.n : Nat)) fs1)) p = _ := upd_same
  have c3 : But p H2 (upd H2 p (.ins C dx (putF "size" (.int (L.n : Nat)) fs1))) := (But.refl p H2).upd _
  generalize upd H2 p (.ins C dx (putF "size" (.int (L.n : Nat)) fs1)) = H3 at b3 p3 c3 ⊢
  have z2 := put_len "size" (.int (L.n : Nat)) fs1
  generalize hf2 : putF "size" (.int (L.n : Nat)) fs1 = fs2 at p3 z2
  -- depth
  refine ⟨_, rfl, _, rfl, p, C, dx, _, rfl, p3, lc.cl, lc.na _ (by decide), by omega, ?_⟩
  have b4 := b3.upd (.ins C dx (putF "depth" (.int (L.depth : Nat)) fs2))
  have p4 : upd H3 p (.ins C dx (putF "depth" (.int (L.depth : Nat)) fs2)) p = _ := upd_same
  have c4 : But p H2 (upd H3 p (.ins C dx (putF "depth" (.int (L.depth : Nat)) fs2))) := c3.upd _
  generalize upd H3 p (.ins C dx (putF "depth" (.int (L.depth : Nat)) fs2)) = H4 at b4 p4 c4 ⊢
  have z3 := put_len "depth" (.int (L.depth : Nat)) fs2
  generalize hf3 : putF "depth" (.int (L.depth : Nat)) fs2 = fs3 at p4 z3
  have k4 := c4.keeps p2 trivial
  have na4 : SqL K H4 na _ := c4.seq nna na2
  have da4 : (da ≠ p ∧ SqL K H4 da (downsV L)) ∨ (NdT K H4 da ∧ SqT K H4 da (downsV L)) := da2.imp (fun x => ⟨x.1, c4.seq x.1 x.2⟩) (fun x => ⟨x.1.keep k4, k4.sqT x.2⟩)
  have h4 := c4 _ _ npl h2
  -- value_names
  refine ⟨_, rfl, na, _, rfl, .inl ⟨na4, fun tn on htn dtn => ?_⟩⟩
  have s5 : Same H4 (upd H4 tn (.frz on (.tup (L.names.map V.str)))) := Same.new htn _
  have t5 : upd H4 tn (.frz on (.tup (L.names.map V.str))) tn = _ := upd_same
  generalize upd H4 tn (.frz on (.tup (L.names.map V.str))) = H5 at s5 t5 ⊢
  have p5 := s5 _ _ p4
  refine ⟨_, rfl, p, C, dx, _, rfl, p5, lc.cl, lc.na _ (by decide), by omega, ?_⟩
  have c6 : But p H5 (upd H5 p (.ins C dx (putF "value_names" (.ref tn) fs3))) := (But.refl p H5).upd _
  have b6 := (b4.trans (s5.but p)).trans c6
  have p6 : upd H5 p (.ins C dx (putF "value_names" (.ref tn) fs3)) p = _ := upd_same
  generalize upd H5 p (.ins C dx (putF "value_names" (.ref tn) fs3)) = H6 at b6 p6 c6 ⊢
  have k6 := c6.keeps p5 trivial
  have z4 := put_len "value_names" (.ref tn) fs3
  generalize hf4 : putF "value_names" (.ref tn) fs3 = fs4 at p6 z4
  have tn6 : NdT K H6 tn ∧ SqT K H6 tn (L.names.map V.str) := ⟨.inl ⟨on, _, k6.frz _ _ _ t5, dtn⟩, .inl (.inr ⟨on, k6.frz _ _ _ t5⟩)⟩
  have da6 : (da ≠ p ∧ SqL K H6 da (downsV L)) ∨ (NdT K H6 da ∧ SqT K H6 da (downsV L)) := da4.imp (fun x => ⟨x.1, c6.seq x.1 (s5.seq x.2)⟩) (fun x => ⟨(x.1.keep s5.keeps).keep k6, k6.sqT (s5.keeps.sqT x.2)⟩)
  have h6 := c6 _ _ npl (s5 _ _ h4)
  have na6 : SqL K H6 na _ := c6.seq nna (s5.seq na4)
  -- downs
  dsimp only
  refine fld_run (fun v H' => ∃ td, v = .ref td ∧ Same H6 H' ∧ NdT K H' td ∧ SqT K H' td (downsV L)) (fun Q' q' => ?_) ?_
  · refine ⟨_, rfl, da, downsV L, rfl, da6.imp (fun x => ⟨x.2, fun td o ht dt => q' _ _ ⟨td, rfl, Same.new ht _, .inl ⟨o, _, upd_same, dt⟩, .inl (.inr ⟨o, upd_same⟩)⟩⟩) (fun x => ⟨x.2, q' _ _ ⟨da, rfl, Same.refl _, x⟩⟩)⟩
  rintro _ H7 ⟨td, rfl, s7, td7⟩
  have p7 := s7 _ _ p6
  refine ⟨_, rfl, p, C, dx, _, rfl, p7, lc.cl, lc.na _ (by decide), by omega, ?_⟩
  have c8 : But p H7 (upd H7 p (.ins C dx (putF "downs" (.ref td) fs4))) := (But.refl p H7).upd _
  have b8 := (b6.trans (s7.but p)).trans c8
  have p8 : upd H7 p (.ins C dx (putF "downs" (.ref td) fs4)) p = _ := upd_same
  generalize upd H7 p (.ins C dx (putF "downs" (.ref td) fs4)) = H8 at b8 p8 c8 ⊢
  have k8 := c8.keeps p7 trivial
  have k68 : Keeps H6 H8 := s7.keeps.trans k8
  have z5 := put_len "downs" (.ref td) fs4
  generalize hf5 : putF "downs" (.ref td) fs4 = fs5 at p8 z5
  have tn8 : NdT K H8 tn ∧ SqT K H8 tn (L.names.map V.str) := ⟨tn6.1.keep k68, k68.sqT tn6.2⟩
  have td8 : NdT K H8 td ∧ SqT K H8 td (downsV L) := ⟨td7.1.keep k8, k8.sqT td7.2⟩
  have da8 : SqL K H8 da (downsV L) ∨ SqT K H8 da (downsV L) := da6.imp (fun x => c8.seq x.1 (s7.seq x.2)) (fun x => k68.sqT x.2)
  have h8 := c8 _ _ npl (s7 _ _ h6)
  have na8 : SqL K H8 na _ := c8.seq nna (s7.seq na6)
  -- ups
  refine ⟨_, rfl, pl, rfl, ⟨_, SqL.of (K := K) h8⟩, fun D hD => ?_⟩
  refine lc_fold (walk_list (K := K) (a := pl) (xs := natV (List.range L.n))) hD (fun i _ ys => i ≤ L.n ∧ ys = (List.range i).map fun a => V.int (L.up a : Nat)) (fun _ => ⟨Nat.zero_le _, rfl⟩) (fun i _ _ xs _ h => h) ?_ (fun H9 s9 => s9.seq (SqL.of (K := K) h8)) ?_ ?_
  · rintro i _ ys ⟨hi, rfl⟩
    rw [List.length_map, List.length_range]; omega
  · rintro i x H9 _ ys Nx Ex hi s9 ⟨_, rfl⟩ ⟨rfl, ex⟩ k1 k2'
    obtain ⟨hi, rfl⟩ := at_map' ex
    refine ⟨rfl, ?_⟩
    refine lcY ?_
    refine ⟨_, rfl, pl, rfl, ⟨_, SqL.of (K := K) (s9 _ _ h8)⟩, fun D2 hD2 => ?_⟩
    refine lc_fold (walk_list (K := K) (a := pl) (xs := natV (List.range L.n))) hD2 (fun j _ ys => j ≤ L.n ∧ ys = (((List.range j).filter fun b => L.le i b).map fun b => ((2 ^ b : Nat) : Int)).map V.int) (fun _ => ⟨Nat.zero_le _, rfl⟩) (fun i _ _ xs _ h => h) ?_ (fun H10 s10 => s10.seq (SqL.of (K := K) (s9 _ _ h8))) ?_ ?_
    · rintro j _ ys ⟨hj, rfl⟩
      rw [List.length_map, List.length_map]
      have := filter_le (fun b => L.le i b) j
      omega
    · rintro j x H10 _ ys Nx2 Ex2 hj s10 ⟨_, rfl⟩ ⟨rfl, ex⟩ k3 k4'
      obtain ⟨hj, rfl⟩ := at_map' ex
      refine ⟨rfl, ?_⟩
      refine ans_run (b := L.le i j) (fun Q' q' => ?_) ?_
      · have e : decide (V.int (Builtin.bitAnd ((L.down j : Int) / 2 ^ ((i : Int)).toNat) 1) = V.int 1) = L.le i j := by
          rw [dec_int, Int.toNat_natCast, bit_is]
          show (mask L.n fun i => L.le i j).testBit i = _
          rw [mask_bit, decide_eq_true hi, Bool.true_and]
        rw [← e] at q'
        refine ⟨_, rfl, _, rfl, ?_⟩
        rcases da8 with d | d
        · exact .inl ⟨da, _, _, _, rfl, rfl, (s9.trans s10).seq d, atI_nat (at_map hj), _, rfl, _, _, rfl, rfl, Int.natCast_nonneg _, _, _, rfl, rfl, rfl, _, rfl, q'⟩
        · exact .inr (.inl ⟨da, _, _, _, rfl, rfl, (s9.trans s10).keeps.sqT d, atI_nat (at_map hj), _, rfl, _, _, rfl, rfl, Int.natCast_nonneg _, _, _, rfl, rfl, rfl, _, rfl, q'⟩)
      · refine ite2 (fun c => ?_) (fun c => ?_)
        · refine ⟨_, rfl, _, _, rfl, rfl, ⟨Int.natCast_nonneg _, by omega, by decide⟩, k3 _ _ (Same.refl _) ⟨hj, ?_⟩⟩
          rw [filter_snoc, if_pos c, List.map_append, List.map_append]
          show _ ++ [V.int (1 * 2 ^ ((j : Int)).toNat)] = _
          rw [one_shl]
          rfl
        · refine k4' _ (Same.refl _) ⟨hj, ?_⟩
          rw [filter_snoc, if_neg c, List.append_nil]
    · rintro H10 ys s10 h10 ⟨_, rfl⟩
      rw [natV_length, List.length_range] at h10
      refine ⟨D2, _, rfl, SqL.of (K := K) h10, ?_⟩
      rw [sum_mask]
      refine k1 _ _ s10 ⟨hi, ?_⟩
      rw [List.range_succ, List.map_append]
      rfl
  rintro H9 ys s9 h9 ⟨_, rfl⟩
  rw [natV_length, List.length_range] at h9
  refine ⟨D, _, rfl, .inl ⟨SqL.of (K := K) h9, fun tu ou htu dtu => ?_⟩⟩
  have s10 : Same H9 (upd H9 tu (.frz ou (.tup (upsV L)))) := Same.new htu _
  have t10 : upd H9 tu (.frz ou (.tup (upsV L))) tu = _ := upd_same
  show (_ : Hp → Prop) (upd H9 tu (.frz ou (.tup (upsV L))))
  generalize upd H9 tu (.frz ou (.tup (upsV L))) = H10 at s10 t10 ⊢
  have p10 := s10 _ _ (s9 _ _ p8)
  refine ⟨_, rfl, p, C, dx, _, rfl, p10, lc.cl, lc.na _ (by decide), by omega, ?_⟩
  have c11 : But p H10 (upd H10 p (.ins C dx (putF "ups" (.ref tu) fs5))) := (But.refl p H10).upd _
  have b11 := (b8.trans ((s9.trans s10).but p)).trans c11
  have p11 : upd H10 p (.ins C dx (putF "ups" (.ref tu) fs5)) p = _ := upd_same
  generalize upd H10 p (.ins C dx (putF "ups" (.ref tu) fs5)) = H11 at b11 p11 c11 ⊢
  have k11 := c11.keeps p10 trivial
  have k811 : Keeps H8 H11 := (s9.trans s10).keeps.trans k11
  have z6 := put_len "ups" (.ref tu) fs5
  generalize hf6 : putF "ups" (.ref tu) fs5 = fs6 at p11 z6
  have tn11 : NdT K H11 tn ∧ SqT K H11 tn (L.names.map V.str) := ⟨tn8.1.keep k811, k811.sqT tn8.2⟩
  have td11 : NdT K H11 td ∧ SqT K H11 td (downsV L) := ⟨td8.1.keep k811, k811.sqT td8.2⟩
  have tu11 : NdT K H11 tu ∧ SqT K H11 tu (upsV L) := ⟨.inl ⟨ou, _, k11.frz _ _ _ t10, dtu⟩, .inl (.inr ⟨ou, k11.frz _ _ _ t10⟩)⟩
  have na11 : SqL K H11 na _ := c11.seq nna (s10.seq (s9.seq na8))
  -- whole
  refine ⟨_, rfl, na, _, rfl, .inl na11, ?_⟩
  rw [en]
  refine ⟨_, _, rfl, rfl, ⟨Int.natCast_nonneg _, by omega, by decide⟩, _, _, rfl, rfl, ?_⟩
  have ew : (1 : Int) * 2 ^ ((L.n : Int)).toNat - 1 = ((2 ^ L.n - 1 : Nat) : Int) := by
    rw [one_shl]
    have : 1 ≤ 2 ^ L.n := Nat.one_le_two_pow
    omega
  -- bottom_at
  refine ⟨_, rfl, p, C, dx, fs6, _, rfl, p11, lc.cl, lc.na _ (by decide), (by rw [← hf6, lookup_putF, if_pos rfl]), _, rfl, tu, L.n, 2 ^ L.n - 1, L.up, (by rw [← ew]; rfl), tu11.1, tu11.2, by omega, fun H12 s12 => ?_⟩
  have p12 := s12 _ _ p11
  refine ⟨_, rfl, p, C, dx, _, rfl, p12, lc.cl, lc.na _ (by decide), by omega, ?_⟩
  have c13 : But p H12 (upd H12 p (.ins C dx (putF "bottom_at" (optV L.bot) fs6))) := (But.refl p H12).upd _
  have b13 := (b11.trans (s12.but p)).trans c13
  have p13 : upd H12 p (.ins C dx (putF "bottom_at" (optV L.bot) fs6)) p = _ := upd_same
  show (_ : Hp → Prop) (upd H12 p (.ins C dx (putF "bottom_at" (optV L.bot) fs6)))
  generalize upd H12 p (.ins C dx (putF "bottom_at" (optV L.bot) fs6)) = H13 at b13 p13 c13 ⊢
  have k13 := c13.keeps p12 trivial
  have k1113 : Keeps H11 H13 := s12.keeps.trans k13
  have z7 := put_len "bottom_at" (optV L.bot) fs6
  generalize hf7 : putF "bottom_at" (optV L.bot) fs6 = fs7 at p13 z7
  -- top_at
  refine ⟨_, rfl, p, C, dx, fs7, _, rfl, p13, lc.cl, lc.na _ (by decide), (by rw [← hf7, lookup_putF, if_neg (by decide), ← hf6, lookup_putF, if_neg (by decide), ← hf5, lookup_putF, if_pos rfl]), _, rfl, td, L.n, 2 ^ L.n - 1, L.down, (by rw [← ew]; rfl), td11.1.keep k1113, k1113.sqT td11.2, by omega, fun H14 s14 => ?_⟩
  have p14 := s14 _ _ p13
  refine ⟨_, rfl, p, C, dx, _, rfl, p14, lc.cl, lc.na _ (by decide), by omega, ?_⟩
  have c15 : But p H14 (upd H14 p (.ins C dx (putF "top_at" (optV L.top) fs7))) := (But.refl p H14).upd _
  have b15 := (b13.trans (s14.but p)).trans c15
  have p15 : upd H14 p (.ins C dx (putF "top_at" (optV L.top) fs7)) p = _ := upd_same
  show (_ : Hp → Prop) (upd H14 p (.ins C dx (putF "top_at" (optV L.top) fs7)))
  generalize upd H14 p (.ins C dx (putF "top_at" (optV L.top) fs7)) = H15 at b15 p15 c15 ⊢
  have k15 : Keeps H11 H15 := (k1113.trans s14.keeps).trans (c15.keeps p14 trivial)
  have look : ∀ f, (putF "top_at" (optV L.top) fs7).lookup f = if f = "top_at" then some (optV L.top) else if f = "bottom_at" then some (optV L.bot) else if f = "ups" then some (.ref tu) else if f = "downs" then some (.ref td) else
      if f = "value_names" then some (.ref tn) else if f = "depth" then some (.int (L.depth : Nat)) else if f = "size" then some (.int (L.n : Nat)) else if f = "label" then some (.str L.label) else fs0.lookup f := fun f => by
    rw [lookup_putF, ← hf7, lookup_putF, ← hf6, lookup_putF, ← hf5, lookup_putF, ← hf4, lookup_putF, ← hf3, lookup_putF, ← hf2, lookup_putF, ← hf1, lookup_putF]
  have other : ∀ f, f ∉ latAttrs → (putF "top_at" (optV L.top) fs7).lookup f = fs0.lookup f := fun f hf => by
    simp only [latAttrs, List.mem_cons, List.not_mem_nil, or_false, not_or] at hf
    obtain ⟨e1, e2, e3, e4, e5, e6, e7, e8⟩ := hf
    rw [look, if_neg e8, if_neg e7, if_neg e6, if_neg e5, if_neg e4, if_neg e3, if_neg e2, if_neg e1]
  refine q H15 _ tn td tu b15 ⟨p15, lc, fun x hx => ?_, ?_, ?_, ?_, ?_, ?_, ?_, ?_, ?_, ⟨tn11.1.keep k15, k15.sqT tn11.2⟩, ⟨td11.1.keep k15, k15.sqT td11.2⟩, ⟨tu11.1.keep k15, k15.sqT tu11.2⟩⟩ other
  · rw [other _ (T.mm_out x hx)]
    exact no x hx
  all_goals (rw [look]; repeat (first | rw [if_pos rfl] | rw [if_neg (by decide)]))
end
section
variable {w W_ : World} {K : PySem.W.Frag} {mg : Str → Option Value} {base : Heap}
def sp_chain (K : PySem.W.Frag) (mm : List (Str × Addr)) (C : Addr) : Sp := fun vs H Q _ => ∃ (p dx : Addr) (n : Nat), vs = [.ref p, .int (n : Nat)] ∧ H p = some (.ins C dx []) ∧ 1 ≤ n ∧ n ≤ 64 ∧
  ∀ H', But p H H' → IsLat K mm H' p (chainL n) → Q .non H'
theorem ok_chain (T : Tx K mg W_) : FnOk PL w K mg base CX0 3 T.a_ChainLattice_init T.d_ChainLattice_init ["self", "count"] (sp_chain K T.mm T.a_ChainLattice) := by
  have G_Lattice_init := ok_lat_init (P := PL) (w := w) (base := base) T
  obtain ⟨u4, B4⟩ := T.b4_Lattice_init
  refine T.F_ChainLattice_init.ok sc_ChainLattice_init (by rfl) (by rfl) (by rfl) ⟨_, rfl, rfl⟩ (by decide +kernel) T.ci_ChainLattice T.n_super T.st_any (fun vs H Q E h => ?_) (fun cda cc A outer s H vs Q E hr S h => ?_)
  · obtain ⟨p, dx, n, rfl, _⟩ := h
    rfl
  obtain ⟨p, dx, n, rfl, hp, n1, n64, q⟩ := h
  refine ⟨_, psa_cons (ps_if (pt_not (pt_chain op_le op_le pe_int (pv 1) (pe_glob (v := .int 64) (by rfl) T.g_MOST_VALUES.choose_spec ⟨_, rfl⟩))) (pss_one ps_dead) pss_nil)
    (psa_cons (ps_setLc (i := 2) (own := [("number", 3)]) (g := gName 3) (tt := tYes) rfl sc_ChainLattice_init.nd rfl rfl (sw_true rfl rfl rfl (by decide +kernel)) (pi_range1 (by rfl) T.n_range (pa_cons (pv 1) pa_nil)) (blkOk_by (N := N_ChainLattice_init) (sc := defScope St_ChainLattice_init) (by decide +kernel)) (fun _ _ _ _ _ => (pg_name (i := 3) sc_ChainLattice_init.nd rfl (Or.inl rfl))) (fun _ _ _ _ _ => pts_nil) (fun _ _ _ _ _ => (pe_callTy call_str_int (by rfl) T.n_str (by decide +kernel) (pa_cons (pv 3) pa_nil))))
    (psa_super (dvs := [.int 1]) S rfl (pa_cons (pe_joinedT (.cons pe_str (.cons (pe_fmt (pv 1)) (.cons pe_str PJ.nil)))) (pa_cons (pv 2) (pa_cons (pe_lc (own := [("number", 3)]) (g := gName 3) (tt := tYes) rfl sc_ChainLattice_init.nd (pi_range1 (by rfl) T.n_range (pa_cons (pv 1) pa_nil)) (blkOk_by (N := N_ChainLattice_init) (sc := defScope St_ChainLattice_init) (by decide +kernel)) (fun _ _ _ _ _ => (pg_name (i := 3) sc_ChainLattice_init.nd rfl (Or.inl rfl))) (fun _ _ _ _ _ => pts_nil) (fun _ _ _ _ _ => (pe_op op_sub (pe_op op_shl pe_int (pv 3)) pe_int))) pa_nil))) G_Lattice_init (hr.mono (by omega)) B4 (.cons ⟨_, rfl⟩ .nil) pass0 T.ty_Lattice T.fi_Lattice (by decide) rfl rfl rfl rfl rfl (psa_any pss_nil))), ?_⟩
  refine ⟨_, rfl, _, _, rfl, rfl, _, rfl, ?_⟩
  refine iteY (by omega) ?_
  refine ⟨_, _, rfl, rfl, _, rfl, ?_⟩
  rw [decide_eq_true (by omega : (n : Int) ≤ 64)]
  refine iteF ?_
  refine ⟨_, rfl, _, rfl, by omega, by omega, fun D hD => ?_⟩
  refine lc_fold walk_range hD (fun i _ ys => i ≤ n ∧ ys = ((List.range i).map natS).map V.str) (fun _ => ⟨Nat.zero_le _, rfl⟩) (fun i _ _ xs _ h => h) ?_ (fun _ _ => trivial) ?_ ?_
  · rintro i _ ys ⟨hi, rfl⟩
    rw [List.length_map, List.length_map, List.length_range]; omega
  · rintro i x H2 H3 ys Nx Ex hi s2 ⟨_, rfl⟩ ⟨rfl, ex⟩ k1 k2
    have hi : i < n := hi
    obtain rfl := yfn0 ex
    refine ⟨rfl, ?_⟩
    refine lcY ?_
    refine ⟨_, rfl, _, rfl, log_small (by omega), k1 _ _ (Same.refl _) ⟨hi, ?_⟩⟩
    rw [List.range_succ, List.map_append, List.map_append]
    rfl
  rintro H2 ys s2 h2 ⟨_, rfl⟩
  have p2 := s2 _ _ hp
  refine ⟨p, _, dx, _, rfl, p2, T.mr_ChainLattice, T.su_ChainLattice, ?_⟩
  have lbl : (chainL n).label = Str.empty ++ ("(chain " : Str) ++ natS n ++ (")" : Str) := by rw [empty_app]; rfl
  have nl := natS_len (i := n) (by omega)
  refine ⟨"(chain ", rfl, by decide, _, rfl, .inr ⟨_, rfl, log_small (by omega), natS n, rfl, small_line (by rw [Str.length_append, Str.length_append]; have : (Str.empty).length = 0 := rfl; have : ("(chain " : Str).length = 7 := rfl; omega),
    ")", rfl, small_line (by rw [Str.length_append, Str.length_append, Str.length_append]; have : (Str.empty).length = 0 := rfl; have : ("(chain " : Str).length = 7 := rfl; have : (")" : Str).length = 1 := rfl; omega), _, rfl, _, rfl, _, rfl, by omega, by omega, fun D2 hD2 => ?_⟩⟩
  refine lc_fold walk_range hD2 (fun i _ ys => i ≤ n ∧ ys = (List.range i).map fun b => V.int ((chainL n).down b : Nat)) (fun _ => ⟨Nat.zero_le _, rfl⟩) (fun i _ _ xs _ h => h) ?_ (fun _ _ => trivial) ?_ ?_
  · rintro i _ ys ⟨hi, rfl⟩
    rw [List.length_map, List.length_range]; omega
  · rintro i x H3 H4 ys Nx Ex hi s3 ⟨_, rfl⟩ ⟨rfl, ex⟩ k1 k2
    have hi : i < n := hi
    obtain rfl := yfn0 ex
    refine ⟨rfl, ?_⟩
    refine lcY ?_
    have e : (2 : Int) * 2 ^ ((i : Int)).toNat - 1 = (((chainL n).down i : Nat) : Int) := by
      show _ = ((mask (chainL n).n (fun a => decide (a ≤ i)) : Nat) : Int)
      rw [chainL_n, mask_upto hi, Int.toNat_natCast]
      have : 1 ≤ 2 ^ i := Nat.one_le_two_pow
      have e3 : ((2 ^ (i + 1) - 1 : Nat) : Int) = ((2 ^ (i + 1) : Nat) : Int) - 1 := by rw [Nat.pow_succ]; omega
      rw [e3, Nat.pow_succ, Int.natCast_mul, Int.natCast_pow, Int.mul_comm]
      rfl
    refine ⟨_, rfl, _, _, rfl, rfl, ⟨Int.natCast_nonneg _, by omega, by decide⟩, _, _, rfl, rfl, k1 _ _ (Same.refl _) ⟨hi, ?_⟩⟩
    rw [List.range_succ, List.map_append]
    show _ ++ [V.int (2 * 2 ^ ((i : Int)).toNat - 1)] = _
    rw [e]
    rfl
  rintro H3 ys s3 h3 ⟨_, rfl⟩
  have p3 := s3 _ _ p2
  have h23 := s3 _ _ h2
  refine ⟨p, D, D2, _, dx, [], chainL n, by rw [lbl]; rfl, p3, T.lc_ChainLattice, by decide, fun _ _ => rfl, ne_of h23 p3 (by intro z; cases z), SqL.of (K := K) h23, .inl ⟨ne_of h3 p3 (by intro z; cases z), SqL.of (K := K) (by rw [h3]; unfold downsV; rw [chainL_n]; rfl)⟩, by rw [chainL_n]; exact n64, fun H4 fs tn td tu b4 A _ => ?_⟩
  exact q H4 (((s2.trans s3).but p).trans b4) ⟨_, _, _, _, _, _, A⟩
end
section
variable {w W_ : World} {K : PySem.W.Frag} {mg : Str → Option Value} {base : Heap}
def sp_sets (K : PySem.W.Frag) (mm : List (Str × Addr)) (C : Addr) : Sp := fun vs H Q _ => ∃ (p dx : Addr) (c : Nat), vs = [.ref p, .int (c : Nat)] ∧ H p = some (.ins C dx []) ∧ 1 ≤ c ∧ c ≤ 6 ∧
  ∀ H', But p H H' → IsLat K mm H' p (setsL c) → Q .non H'
theorem ok_sets (T : Tx K mg W_) : FnOk PL w K mg base CX0 3 T.a_SetLattice_init T.d_SetLattice_init ["self", "count"] (sp_sets K T.mm T.a_SetLattice) := by
  have G_Lattice_init := ok_lat_init (P := PL) (w := w) (base := base) T
  have G_parts_among := ok_parts (P := PL) (w := w) (base := base) T
  obtain ⟨u4, B4⟩ := T.b4_Lattice_init
  refine T.F_SetLattice_init.ok sc_SetLattice_init (by rfl) (by rfl) (by rfl) ⟨_, rfl, rfl⟩ (by decide +kernel) T.ci_SetLattice T.n_super T.st_any (fun vs H Q E h => ?_) (fun cda cc A outer s H vs Q E hr S h => ?_)
  · obtain ⟨p, dx, c, rfl, _⟩ := h
    rfl
  obtain ⟨p, dx, c, rfl, hp, c1, c6, q⟩ := h
  have two : 2 ^ c ≤ 64 := Nat.le_trans (Nat.pow_le_pow_right (by decide) c6) (by decide)
  refine ⟨_, psa_cons (ps_if (pt_not (pt_chain op_le op_le pe_int (pv 1) pe_int)) (pss_one ps_dead) pss_nil)
    (psa_cons (ps_set (i := 2) sc_SetLattice_init.nd rfl (Or.inr rfl) (pe_listRg rfl (by rfl) T.n_list (prg_1 (by rfl) T.n_range (pe_op op_shl pe_int (pv 1)))))
    (psa_cons (ps_setLc (i := 3) (own := [("number", 5)]) (g := gName 5) (tt := tYes) rfl sc_SetLattice_init.nd rfl rfl (sw_true rfl rfl rfl (by decide +kernel)) (pi_list (pv 2)) (blkOk_by (N := N_SetLattice_init) (sc := defScope St_SetLattice_init) (by decide +kernel)) (fun _ _ _ _ _ => (pg_name (i := 5) sc_SetLattice_init.nd rfl (Or.inr rfl))) (fun _ _ _ _ _ => pts_nil) (fun _ _ _ _ _ => (kx_pe_join K (pe_join pe_str (pe_lc (own := [("shift", 4)]) (g := gName 4) (tt := tYes) rfl sc_SetLattice_init.nd (pi_range3 (by rfl) T.n_range (pa_cons (pe_op op_sub (pv 1) pe_int) (pa_cons (pe_un un_neg pe_int) (pa_cons (pe_un un_neg pe_int) pa_nil)))) (blkOk_by (N := N_SetLattice_init) (by first | rfl | kernel_rfl)) (fun _ _ _ _ _ => (pg_name (i := 4) sc_SetLattice_init.nd rfl (Or.inl rfl))) (fun _ _ _ _ _ => pts_nil) (fun _ _ _ _ _ => (pe_callTy call_str_int (by rfl) T.n_str (by decide +kernel) (pa_cons (pe_op op_and (pe_op op_shr (pv 5) (pv 4)) pe_int) pa_nil))))))))
    (psa_super (dvs := [.int 1]) S rfl (pa_cons (pe_joinedT (.cons pe_str (.cons (pe_fmt (pv 1)) (.cons pe_str PJ.nil)))) (pa_cons (pv 3) (pa_cons (pe_lc (own := [("number", 5)]) (g := gName 5) (tt := tYes) rfl sc_SetLattice_init.nd (pi_list (pv 2)) (blkOk_by (N := N_SetLattice_init) (sc := defScope St_SetLattice_init) (by decide +kernel)) (fun _ _ _ _ _ => (pg_name (i := 5) sc_SetLattice_init.nd rfl (Or.inl rfl))) (fun _ _ _ _ _ => pts_nil) (fun _ _ _ _ _ => (pe_call G_parts_among (hr.mono (by omega)) (by rfl) T.g_parts_among T.F_parts_among.kp T.b_parts_among .nil pass0 (pa_cons (pv 2) (pa_cons (pv 5) pa_nil))))) pa_nil))) G_Lattice_init (hr.mono (by omega)) B4 (.cons ⟨_, rfl⟩ .nil) pass0 T.ty_Lattice T.fi_Lattice (by decide) rfl rfl rfl rfl rfl (psa_any pss_nil)))), ?_⟩
  refine ⟨_, rfl, _, _, rfl, rfl, _, rfl, ?_⟩
  refine iteY (by omega) ?_
  refine ⟨_, _, rfl, rfl, _, rfl, ?_⟩
  rw [decide_eq_true (by omega : (c : Int) ≤ 6)]
  refine iteF ?_
  have e2 : (1 : Int) * 2 ^ ((c : Int)).toNat = ((2 ^ c : Nat) : Int) := one_shl c
  refine ⟨_, rfl, _, _, rfl, rfl, ⟨Int.natCast_nonneg _, by omega, by decide⟩, _, rfl, ?_⟩
  rw [e2]
  have two' : ((2 ^ c : Nat) : Int) ≤ 64 := Int.ofNat_le.mpr two
  refine ⟨RgOk.of_le (by decide) (Int.le_trans two' (by decide)) (by decide) (Int.natCast_nonneg _), newQ (.lst (rgV 0 ((2 ^ c : Nat) : Int))) fun pl hpl s1 h1 => ?_⟩
  rw [rg_nat] at s1 h1
  rw [rg_nat]
  generalize upd H pl (.lst (natV (List.range (2 ^ c)))) = H1 at s1 h1 ⊢
  have p1 := s1 _ _ hp
  -- names
  refine ⟨_, rfl, pl, rfl, ⟨_, SqL.of (K := K) h1⟩, fun D hD => ?_⟩
  refine lc_fold (walk_list (K := K) (a := pl) (xs := natV (List.range (2 ^ c)))) hD (fun i _ ys => i ≤ 2 ^ c ∧ ys = ((List.range i).map (setName c)).map V.str) (fun _ => ⟨Nat.zero_le _, rfl⟩) (fun i _ _ xs _ h => h) ?_ (fun H9 s9 => s9.seq (SqL.of (K := K) h1)) ?_ ?_
  · rintro i _ ys ⟨hi, rfl⟩
    rw [List.length_map, List.length_map, List.length_range]; omega
  · rintro i x H2 H3 ys Nx Ex hi s2 ⟨_, rfl⟩ ⟨rfl, ex⟩ k1 k2
    obtain ⟨hi, rfl⟩ := at_map' ex
    refine ⟨rfl, ?_⟩
    refine lcY ?_
    refine ⟨⟨_, rfl⟩, ?_⟩
    refine ⟨_, rfl, _, _, rfl, rfl, _, rfl, _, rfl, (c : Int) - 1, -1, -1, _, rfl, RgC.neg (by omega) (by omega) (by omega) (by omega), fun D2 hD2 => ?_⟩
    have ec : ((c : Int) - 1 - -1).toNat = c := by omega
    refine lc_fold walk_rangeC hD2 (fun j _ ys => j ≤ c ∧ ys = ((List.range j).map fun j => digS i (c - 1 - j)).map V.str) (fun _ => ⟨Nat.zero_le _, rfl⟩) (fun i _ _ xs _ h => h) ?_ (fun _ _ => trivial) ?_ ?_
    · rintro j _ ys ⟨hj, rfl⟩
      rw [List.length_map, List.length_map, List.length_range]; omega
    · rintro j x H4 H5 ys Nx2 Ex2 hj s4 ⟨_, rfl⟩ ⟨rfl, rfl⟩ k3 k4
      rw [ec] at hj
      have es : ((c : Int) - 1 + (j : Nat) * -1).toNat = c - 1 - j := by omega
      refine ⟨rfl, ?_⟩
      refine lcY ?_
      refine ⟨_, rfl, _, rfl, _, _, rfl, rfl, (by show (0 : Int) ≤ (c : Int) - 1 + (j : Nat) * -1; omega), _, _, rfl, rfl, _, rfl, ?_, ?_⟩
      · show (Builtin.bitAnd ((i : Int) / 2 ^ ((c : Int) - 1 + (j : Nat) * -1).toNat) 1).natAbs.log2 < 1920
        exact digS_log _ _
      · have ed : (Str.ofString (toString (Builtin.bitAnd ((i : Int) / 2 ^ ((c : Int) - 1 + (j : Nat) * -1).toNat) 1)) : Str) = digS i (c - 1 - j) := by rw [es]; exact digS_is _ _
        have := k3 (.str (digS i (c - 1 - j))) _ (Same.refl _) ⟨hj, by rw [List.range_succ, List.map_append, List.map_append]; rfl⟩
        rw [← ed] at this
        exact this
    · rintro H4 ys s4 h4 ⟨_, rfl⟩
      rw [ec] at h4
      refine ⟨"", D2, setDigs c i, rfl, rfl, .inl (SqL.of (K := K) h4), ?_, k1 _ _ s4 ⟨hi, ?_⟩⟩
      · rw [setDigs_sum]
        show c + (setDigs c i).length * 0 ≤ _
        omega
      · rw [List.range_succ, List.map_append, List.map_append]
        rfl
  rintro H2 ys s2 h2 ⟨_, rfl⟩
  rw [natV_length, List.length_range] at h2
  have p2 := s2 _ _ p1
  have l2 := s2 _ _ h1
  refine ⟨p, _, dx, _, rfl, p2, T.mr_SetLattice, T.su_SetLattice, ?_⟩
  have lbl : (setsL c).label = Str.empty ++ ("(sets " : Str) ++ natS c ++ (")" : Str) := by rw [empty_app]; rfl
  have nl := natS_len (i := c) (by omega)
  refine ⟨"(sets ", rfl, by decide, _, rfl, .inr ⟨_, rfl, log_small (by omega), natS c, rfl, small_line (by rw [Str.length_append, Str.length_append]; have : (Str.empty).length = 0 := rfl; have : ("(sets " : Str).length = 6 := rfl; omega),
    ")", rfl, small_line (by rw [Str.length_append, Str.length_append, Str.length_append]; have : (Str.empty).length = 0 := rfl; have : ("(sets " : Str).length = 6 := rfl; have : (")" : Str).length = 1 := rfl; omega), _, rfl, ?_⟩⟩
  refine ⟨_, rfl, pl, rfl, ⟨_, SqL.of (K := K) l2⟩, fun D2 hD2 => ?_⟩
  refine lc_fold (walk_list (K := K) (a := pl) (xs := natV (List.range (2 ^ c)))) hD2 (fun i _ ys => i ≤ 2 ^ c ∧ ys = (List.range i).map fun b => V.int ((setsL c).down b : Nat)) (fun _ => ⟨Nat.zero_le _, rfl⟩) (fun i _ _ xs _ h => h) ?_ (fun H9 s9 => s9.seq (SqL.of (K := K) l2)) ?_ ?_
  · rintro i _ ys ⟨hi, rfl⟩
    rw [List.length_map, List.length_range]; omega
  · rintro i x H3 H4 ys Nx Ex hi s3 ⟨_, rfl⟩ ⟨rfl, ex⟩ k1 k2
    obtain ⟨hi, rfl⟩ := at_map' ex
    refine ⟨rfl, ?_⟩
    refine lcY ?_
    refine ⟨_, rfl, _, rfl, pl, 2 ^ c, i, fun i => i, rfl, s3.seq (SqL.of (K := K) l2), by omega, fun H5 s5 => k1 _ _ s5 ⟨hi, ?_⟩⟩
    rw [List.range_succ, List.map_append]
    show _ = _ ++ [V.int ((mask (setsL c).n fun a => part a i : Nat) : Int)]
    rw [setsL_n]
  rintro H3 ys s3 h3 ⟨_, rfl⟩
  rw [natV_length, List.length_range] at h3
  have p3 := s3 _ _ p2
  have h23 := s3 _ _ h2
  refine ⟨p, D, D2, _, dx, [], setsL c, by rw [lbl]; rfl, p3, T.lc_SetLattice, by decide, fun _ _ => rfl, ne_of h23 p3 (by intro z; cases z), SqL.of (K := K) h23, .inl ⟨ne_of h3 p3 (by intro z; cases z), SqL.of (K := K) (by rw [h3]; unfold downsV; rw [setsL_n])⟩, by rw [setsL_n]; exact two, fun H4 fs tn td tu b4 A _ => ?_⟩
  exact q H4 ((((s1.trans s2).trans s3).but p).trans b4) ⟨_, _, _, _, _, _, A⟩
end
/-! ### orders: names, pairs, closed_downs -/
section
variable {P : Program} {w W_ : World} {K : PySem.W.Frag} {mg : Str → Option Value} {base : Heap}
def lettersS : Str := "abcdefghijklmnopqrstuvwxyz0123456789"
structure NameW (x : Str) : Prop where
  pos : 1 ≤ x.length
  le : x.length ≤ 12
  all : ∀ c ∈ x.cps.toList, c ∈ lettersS.cps.toList
theorem count_strs (x : Str) (xs : List Str) : (xs.map V.str).countP (fun z => eqV z (.str x)) = xs.count x := by
  rw [List.countP_map]
  rfl
theorem any_falses : ∀ n : Nat, (List.replicate n false).any id = false
  | 0 => rfl
  | n + 1 => by rw [List.replicate_succ, List.any_cons, any_falses n]; rfl
def sp_check (K : PySem.W.Frag) : Sp := fun vs H Q _ => ∃ (a : Addr) (xs : List Str) (m : Nat), vs = [.ref a, .int (m : Nat)] ∧ SqL K H a (xs.map V.str) ∧ 1 ≤ xs.length ∧ xs.length ≤ m ∧ xs.Nodup ∧ (∀ x ∈ xs, NameW x) ∧ ∀ H', Same H H' → Q .non H'
/-- the pairs of a list, by the places of their names -/
def PairsAt (K : PySem.W.Frag) (H : Hp) (b : Addr) (xs : List Str) (ps : List (Nat × Nat)) : Prop := ∃ vs : List V, SqL K H b vs ∧ vs.length = ps.length ∧ ∀ (i : Nat) (q : Nat × Nat), ps[i]? = some q → ∃ (t : Addr) (x y : Str), vs[i]? = some (.ref t) ∧ SqT K H t [.str x, .str y] ∧ xs[q.1]? = some x ∧ xs[q.2]? = some y
theorem PairsAt.to {H H' : Hp} {b : Addr} {xs : List Str} {ps : List (Nat × Nat)} (h : PairsAt K H b xs ps) (k : Keeps H H') (e : ∀ vs, SqL K H b vs → SqL K H' b vs) : PairsAt K H' b xs ps := by
  obtain ⟨vs, h1, h2, h3⟩ := h
  refine ⟨vs, e _ h1, h2, fun i q hq => ?_⟩
  obtain ⟨t, x, y, a1, a2, a3⟩ := h3 i q hq
  exact ⟨t, x, y, a1, k.sqT a2, a3⟩
theorem PairsAt.same {H H' : Hp} {b : Addr} {xs : List Str} {ps : List (Nat × Nat)} (h : PairsAt K H b xs ps) (s : Same H H') : PairsAt K H' b xs ps := h.to s.keeps fun _ q => s.seq q
/-- how labels tell the pairs -/
def pairW (xs : List Str) (ps : List (Nat × Nat)) : List Str := ps.map fun q => xs.getD q.1 Str.empty ++ (" " : Str) ++ xs.getD q.2 Str.empty
def sp_pwords (K : PySem.W.Frag) : Sp := fun vs H Q _ => ∃ (b : Addr) (xs : List Str) (ps : List (Nat × Nat)), vs = [.ref b] ∧ PairsAt K H b xs ps ∧ ps.length ≤ 1000 ∧ (∀ x ∈ xs, x.length ≤ 12) ∧ ∀ H', Same H H' → Q (.str (PySem.Txt.join " " (pairW xs ps))) H'
theorem pairW_len {xs : List Str} (hx : ∀ x ∈ xs, x.length ≤ 12) (ps : List (Nat × Nat)) : ∀ z ∈ pairW xs ps, z.length ≤ 25 := by
  intro z hz
  obtain ⟨q, _, rfl⟩ := List.mem_map.mp hz
  have l : ∀ i, (xs.getD i Str.empty).length ≤ 12 := fun i => by
    rw [List.getD_eq_getElem?_getD]
    cases e : xs[i]? with
    | none => exact Nat.zero_le _
    | some x => exact hx x (List.mem_of_getElem? e)
  have l1 := l q.1
  have l2 := l q.2
  have o : (" " : Str).length = 1 := rfl
  rw [Str.length_append, Str.length_append]
  omega
theorem sum_bound {xs : List Str} {m : Nat} (h : ∀ z ∈ xs, z.length ≤ m) : (xs.map (·.length)).sum ≤ xs.length * m := by
  induction xs with
  | nil => simp
  | cons x xs ih =>
    have h1 := h x (.head _)
    have h2 := ih fun z hz => h z (.tail _ hz)
    rw [List.map_cons, List.sum_cons, List.length_cons, Nat.succ_mul]
    omega
end
section
variable {P : Program} {w W_ : World} {K : PySem.W.Frag} {mg : Str → Option Value} {base : Heap}
theorem map_set {n u : Nat} {f g : Nat → V} {v : V} (hu : u < n) (h1 : g u = v) (h2 : ∀ i, i ≠ u → g i = f i) : ((List.range n).map f).set u v = (List.range n).map g := by
  refine List.ext_getElem? fun i => ?_
  rw [List.getElem?_set]
  by_cases e : u = i
  · subst e
    rw [if_pos rfl, List.length_map, List.length_range, if_pos hu, at_map hu, h1]
  · rw [if_neg e, List.getElem?_map, List.getElem?_map]
    by_cases hi : i < n
    · rw [List.getElem?_range hi, Option.map_some, Option.map_some, h2 i (Ne.symm e)]
    · rw [List.getElem?_eq_none (by rw [List.length_range]; omega)]; rfl
/-- what the rows of sets know while they grow -/
structure Grow (n : Nat) (ps : List (Nat × Nat)) (p : Nat → Nat → Bool) : Prop where
  refl : ∀ b, b < n → p b b = true
  sound : ∀ b a, b < n → a < n → p b a = true → Reach ps a b
theorem grow0 (n : Nat) (ps : List (Nat × Nat)) : Grow n ps (fun b a => a == b) := by
  refine ⟨fun b _ => beq_self_eq_true b, fun b a _ _ h => ?_⟩
  have e : a = b := by simpa using h
  subst e
  exact .here
def maskV (n : Nat) (p : Nat → Nat → Bool) : List V := (List.range n).map fun b => V.int ((mask n (p b) : Nat) : Int)
def growOne (p : Nat → Nat → Bool) (l u : Nat) : Nat → Nat → Bool := fun b a => if b = u then p u a || p l a else p b a
theorem Grow.one {n : Nat} {ps : List (Nat × Nat)} {p : Nat → Nat → Bool} (g : Grow n ps p) {l u : Nat} (hm : (l, u) ∈ ps) (hl : l < n) (hu : u < n) : Grow n ps (growOne p l u) := by
  refine ⟨fun b hb => ?_, fun b a hb ha h => ?_⟩
  · unfold growOne
    split
    · rename_i e; subst e; rw [g.refl b hb]; rfl
    · exact g.refl b hb
  · unfold growOne at h
    split at h
    · rename_i e
      subst e
      rw [Bool.or_eq_true] at h
      rcases h with h | h
      · exact g.sound b a hb ha h
      · exact .step (g.sound l a hl ha h) hm
    · exact g.sound b a hb ha h
theorem Grow.done {n : Nat} {ps : List (Nat × Nat)} {p : Nat → Nat → Bool} (g : Grow n ps p) (hn : ∀ q ∈ ps, q.1 < n ∧ q.2 < n) (hc : ∀ l u, (l, u) ∈ ps → ∀ a, a < n → p l a = true → p u a = true) {b : Nat} (hb : b < n) :
    mask n (p b) = mask n fun a => reachB ps a b := by
  refine mask_ext fun a ha => ?_
  rw [Bool.eq_iff_iff, reachB_iff]
  refine ⟨g.sound b a hb ha, fun h => ?_⟩
  exact Reach.of_closed (fun b => p b a = true) (g.refl a ha) (fun l u m h => hc l u m a ha h) h
theorem inV_strs' {xs : List Str} {x : Str} {i : Nat} (h : xs[i]? = some x) : (if true = true then !inV (.str x) (xs.map V.str) else inV (.str x) (xs.map V.str)) = false := by
  show (!inV (.str x) (xs.map V.str)) = false
  rw [inV_strs, decide_eq_true (List.mem_of_getElem? h)]; rfl
/-- names.index(x): the first place of x -/
theorem index_at {xs : List Str} {x : Str} {i : Nat} (nd : xs.Nodup) (hx : xs[i]? = some x) : (xs.map V.str)[i]? = some (.str x) ∧ eqV (.str x) (.str x) = true ∧ ∀ (m : Nat) (z' : V), m < i → (xs.map V.str)[m]? = some z' → eqV z' (.str x) = false := by
  refine ⟨by rw [List.getElem?_map, hx]; rfl, by rw [eqV_str']; exact beq_self_eq_true x, fun j z hj hz => ?_⟩
  rw [List.getElem?_map] at hz
  obtain ⟨y, hy, rfl⟩ := Option.map_eq_some_iff.mp hz
  exact beq_eq_false_iff_ne.mpr fun z => by
    subst z
    have := nodup_at' nd hy hx
    omega
def sp_closed (K : PySem.W.Frag) : Sp := fun vs H Q _ => ∃ (a b : Addr) (xs : List Str) (ps : List (Nat × Nat)), vs = [.ref a, .ref b] ∧ SqL K H a (xs.map V.str) ∧ PairsAt K H b xs ps ∧ xs.Nodup ∧ xs.length ≤ 60 ∧ ps.length ≤ 1000 ∧
  ∀ l H', Same H H' → H l = none → H' l = some (.lst (maskV xs.length fun b a => reachB ps a b)) → Q (.ref l) H'
end
section
theorem join_len (sep : Str) (xs : List Str) : (PySem.Txt.join sep xs).length ≤ (xs.map (·.length)).sum + xs.length * sep.length := by
  rw [show PySem.Txt.join sep xs = Str.join sep xs from StrLaws.glued_eq_join _ _]
  exact StrLaws.join_length_le sep xs
theorem join_le {sep : Str} {xs : List Str} {m n : Nat} (hs : sep.length ≤ 1) (h : ∀ z ∈ xs, z.length ≤ m) (hn : xs.length ≤ n) : (PySem.Txt.join sep xs).length ≤ n * (m + 1) ∧ (xs.map (·.length)).sum + xs.length * sep.length ≤ n * (m + 1) := by
  have h1 := join_len sep xs
  have h2 := sum_bound h
  have h3 : xs.length * sep.length ≤ xs.length * 1 := Nat.mul_le_mul_left _ hs
  have h4 : xs.length * (m + 1) ≤ n * (m + 1) := Nat.mul_le_mul_right _ hn
  have h5 : xs.length * (m + 1) = xs.length * m + xs.length * 1 := Nat.mul_add _ _ _
  omega
noncomputable def orderL (xs : List Str) (ps : List (Nat × Nat)) : Lt :=
  { label := ("(order (" : Str) ++ PySem.Txt.join " " xs ++ (") (" : Str) ++ PySem.Txt.join " " (pairW xs ps) ++ ("))" : Str), names := xs, le := fun a b => reachB ps a b, depth := 1 }
variable {w W_ : World} {K : PySem.W.Frag} {mg : Str → Option Value} {base : Heap}
def sp_order (K : PySem.W.Frag) (mm : List (Str × Addr)) (C : Addr) : Sp := fun vs H Q _ => ∃ (p dx a b : Addr) (xs : List Str) (ps : List (Nat × Nat)), vs = [.ref p, .ref a, .ref b] ∧ H p = some (.ins C dx []) ∧ SqL K H a (xs.map V.str) ∧ PairsAt K H b xs ps ∧ a ≠ p ∧ b ≠ p ∧ 1 ≤ xs.length ∧ xs.length ≤ 16 ∧ xs.Nodup ∧ (∀ x ∈ xs, NameW x) ∧ ps.length ≤ 1000 ∧
  ∀ H', But p H H' → IsLat K mm H' p (orderL xs ps) → Q .non H'
end
section
def turnL (L : Lt) : Lt := { label := ("(turned " : Str) ++ L.label ++ (")" : Str), names := L.names, le := fun a b => L.le b a, depth := L.depth + 1 }
/-- a label is not too long, nor are the names -/
structure Lt.Fit (L : Lt) : Prop where
  lab : L.label.length ≤ 20000
  nam : ∀ x ∈ L.names, x.length ≤ 1000
/-- a field of an instance -/
def FldAt (H : Hp) (p : Addr) (f : Str) (v : V) : Prop := ∃ C dx fs, H p = some (.ins C dx fs) ∧ fs.lookup f = some v
def foldD : Nat → List Lt → Nat := List.foldl fun d L => if L.depth ≥ d then L.depth + 1 else d
variable {w W_ : World} {K : PySem.W.Frag} {mg : Str → Option Value} {base : Heap}
def sp_cdepth (K : PySem.W.Frag) (mm : List (Str × Addr)) : Sp := fun vs H Q _ => ∃ (z : Nat) (a : Addr) (ls : List (Addr × Lt)), vs = [.int (z : Nat), .ref a] ∧ SqL K H a (ls.map fun q => V.ref q.1) ∧ (∀ q ∈ ls, IsLat K mm H q.1 q.2) ∧ z ≤ 64 ∧ foldD 1 (ls.map (·.2)) ≤ 10 ∧
  ∀ H', Same H H' → Q (.int (foldD 1 (ls.map (·.2)) : Nat)) H'
def sp_turn (K : PySem.W.Frag) (mm : List (Str × Addr)) (C : Addr) : Sp := fun vs H Q _ => ∃ (p dx z : Addr) (L : Lt), vs = [.ref p, .ref z] ∧ H p = some (.ins C dx []) ∧ IsLat K mm H z L ∧ z ≠ p ∧ L.n ≤ 64 ∧ L.depth ≤ 9 ∧ 1 ≤ L.depth ∧ L.Fit ∧
  ∀ H', But p H H' → IsLat K mm H' p (turnL L) → FldAt H' p "inner" (.ref z) → Q .non H'
end
section
/-- pairs: the place is a * (size of the right one) + b -/
def pairNm (L R : Lt) (k : Nat) : Str := ("<" : Str) ++ L.names.getD (k / R.n) Str.empty ++ ("/" : Str) ++ R.names.getD (k % R.n) Str.empty ++ (">" : Str)
def pairL (L R : Lt) : Lt where
  label := ("(pair " : Str) ++ L.label ++ (" " : Str) ++ R.label ++ (")" : Str)
  names := (List.range (L.n * R.n)).map (pairNm L R)
  le := fun a b => L.le (a / R.n) (b / R.n) && R.le (a % R.n) (b % R.n)
  depth := foldD 1 [L, R]
theorem pairL_n (L R : Lt) : (pairL L R).n = L.n * R.n := by simp [pairL, Lt.n]
variable {w W_ : World} {K : PySem.W.Frag} {mg : Str → Option Value} {base : Heap}
/-- the k-th pair of places -/
def pr (m k : Nat) : List V := [.int ((k / m : Nat) : Int), .int ((k % m : Nat) : Int)]
/-- pairs of places in the heap: n of them -/
def PrsAt (K : PySem.W.Frag) (H : Hp) (b : Addr) (m n : Nat) : Prop := ∃ vs : List V, SqL K H b vs ∧ vs.length = n ∧ ∀ k, k < n → ∃ t, vs[k]? = some (.ref t) ∧ SqT K H t (pr m k)
theorem PrsAt.same {H H' : Hp} {b : Addr} {m n : Nat} (h : PrsAt K H b m n) (s : Same H H') : PrsAt K H' b m n := by
  obtain ⟨vs, h1, h2, h3⟩ := h
  refine ⟨vs, s.seq h1, h2, fun k hk => ?_⟩
  obtain ⟨t, e1, e2⟩ := h3 k hk
  exact ⟨t, e1, s.keeps.sqT e2⟩
theorem mask_succ (i : Nat) (p : Nat → Bool) : mask (i + 1) p = if p i then mask i p ||| 2 ^ i else mask i p := by
  show mask i p + (if p i = true then 2 ^ i else 0) = _
  by_cases c : p i = true
  · rw [if_pos c, if_pos c, Nat.or_comm, Nat.add_comm]
    have h := mask_lt p i
    have := Nat.two_pow_add_eq_or_of_lt h 1
    rw [Nat.mul_one] at this
    exact this
  · rw [if_neg c, if_neg c, Nat.add_zero]
def sp_prw (K : PySem.W.Frag) (mm : List (Str × Addr)) (C : Addr) : Sp := fun vs H Q _ => ∃ (p dx b t x y : Addr) (fs : List (Str × V)) (L R : Lt) (k : Nat), vs = [.ref p, .ref b, .ref t] ∧ H p = some (.ins C dx fs) ∧ fs.lookup ("left" : Str) = some (.ref x) ∧ fs.lookup ("right" : Str) = some (.ref y) ∧ IsLat K mm H x L ∧ IsLat K mm H y R ∧
  1 ≤ R.n ∧ L.n * R.n ≤ 64 ∧ k < L.n * R.n ∧ PrsAt K H b R.n (L.n * R.n) ∧ SqT K H t (pr R.n k) ∧ ∀ H', Same H H' → Q (.int ((pairL L R).down k : Nat)) H'
theorem div_lt' {k m n : Nat} (hm : 1 ≤ m) (h : k < n * m) : k / m < n := by rw [Nat.div_lt_iff_lt_mul hm]; exact h
end
section
variable {w W_ : World} {K : PySem.W.Frag} {mg : Str → Option Value} {base : Heap}
/-- the list of pairs while it is made -/
def PrsL (K : PySem.W.Frag) (H : Hp) (D : Addr) (m n : Nat) : Prop := ∃ vs : List V, H D = some (.lst vs) ∧ vs.length = n ∧ ∀ k, k < n → ∃ t, vs[k]? = some (.ref t) ∧ SqT K H t (pr m k)
theorem PrsL.at {H : Hp} {D : Addr} {m n : Nat} (h : PrsL K H D m n) : PrsAt K H D m n := by
  obtain ⟨vs, h1, h2, h3⟩ := h
  exact ⟨vs, SqL.of (K := K) h1, h2, h3⟩
theorem PrsL.same {H H' : Hp} {D : Addr} {m n : Nat} (h : PrsL K H D m n) (s : Same H H') : PrsL K H' D m n := by
  obtain ⟨vs, h1, h2, h3⟩ := h
  refine ⟨vs, s _ _ h1, h2, fun k hk => ?_⟩
  obtain ⟨t, e1, e2⟩ := h3 k hk
  exact ⟨t, e1, s.keeps.sqT e2⟩
theorem PrsL.snoc {H : Hp} {D u : Addr} {m n : Nat} {vs : List V} (h : PrsL K H D m n) (e : H D = some (.lst vs)) (hu : SqT K H u (pr m n)) : vs.length = n ∧ PrsL K (upd H D (.lst (vs ++ [.ref u]))) D m (n + 1) := by
  obtain ⟨vs', h1, h2, h3⟩ := h
  rw [e] at h1
  cases h1
  have kp : Keeps H (upd H D (.lst (vs ++ [.ref u]))) := ((But.refl D H).upd _).keeps e trivial
  refine ⟨h2, _, upd_same, by rw [List.length_append, h2]; rfl, fun k hk => ?_⟩
  rcases Nat.lt_or_ge k n with l | l
  · obtain ⟨t, e1, e2⟩ := h3 k l
    exact ⟨t, by rw [List.getElem?_append_left (by omega)]; exact e1, kp.sqT e2⟩
  · have : k = n := by omega
    subst this
    exact ⟨u, by rw [← h2, List.getElem?_append_right (Nat.le_refl _), Nat.sub_self]; rfl, kp.sqT hu⟩
def sp_pairl (K : PySem.W.Frag) (mm : List (Str × Addr)) (C : Addr) : Sp := fun vs H Q _ => ∃ (p dx x y : Addr) (L R : Lt), vs = [.ref p, .ref x, .ref y] ∧ H p = some (.ins C dx []) ∧ IsLat K mm H x L ∧ IsLat K mm H y R ∧ x ≠ p ∧ y ≠ p ∧ 1 ≤ L.n ∧ 1 ≤ R.n ∧ L.n * R.n ≤ 64 ∧ foldD 1 [L, R] ≤ 10 ∧ L.Fit ∧ R.Fit ∧
  ∀ H', But p H H' → IsLat K mm H' p (pairL L R) → FldAt H' p "left" (.ref x) → FldAt H' p "right" (.ref y) → Q .non H'
end
section
/-- the names within the name b, as places -/
noncomputable def dn (n : Nat) (ps : List (Nat × Nat)) (b : Nat) : Nat := mask n fun a => reachB ps a b
/-- the set h holds with each name all names within it -/
noncomputable def heapB (n : Nat) (ps : List (Nat × Nat)) (h : Nat) : Bool := ((List.range n).filter h.testBit).all fun a => part (dn n ps a) h
noncomputable def heaps (n : Nat) (ps : List (Nat × Nat)) : List Nat := (List.range (2 ^ n)).filter (heapB n ps)
def heapIn (xs : List Str) (h : Nat) : List Str := ((List.range xs.length).filter h.testBit).map fun a => xs.getD a Str.empty
def heapNm (xs : List Str) (h : Nat) : Str := ("{" : Str) ++ PySem.Txt.join "," (heapIn xs h) ++ ("}" : Str)
noncomputable def downL (xs : List Str) (ps : List (Nat × Nat)) : Lt where
  label := ("(downs (" : Str) ++ PySem.Txt.join " " xs ++ (") (" : Str) ++ PySem.Txt.join " " (pairW xs ps) ++ ("))" : Str)
  names := (heaps xs.length ps).map (heapNm xs)
  le := fun i j => part ((heaps xs.length ps).getD i 0) ((heaps xs.length ps).getD j 0)
  depth := 1
theorem downL_n (xs : List Str) (ps : List (Nat × Nat)) : (downL xs ps).n = (heaps xs.length ps).length := by
  show ((heaps xs.length ps).map (heapNm xs)).length = _
  rw [List.length_map]
theorem heaps_le (n : Nat) (ps : List (Nat × Nat)) : (heaps n ps).length ≤ 2 ^ n := filter_le _ _
/-- no two names lie within each other -/
def Anti (n : Nat) (ps : List (Nat × Nat)) : Prop := ∀ a b, a < n → b < n → Reach ps a b → Reach ps b a → a = b
theorem dn_inj {n : Nat} {ps : List (Nat × Nat)} (h : Anti n ps) {a b : Nat} (ha : a < n) (hb : b < n) (e : dn n ps a = dn n ps b) : a = b := by
  have e := mask_eq.mp e
  refine h a b ha hb (reachB_iff.mp ?_) (reachB_iff.mp ?_)
  · rw [← e a ha]; exact reachB_iff.mpr .here
  · rw [e b hb]; exact reachB_iff.mpr .here
theorem count_dn {n : Nat} {f : Nat → Nat} (h : ∀ a b, a < n → b < n → f a = f b → a = b) {i : Nat} (hi : i < n) : ((List.range n).map fun b => V.int (f b : Nat)).countP (fun z => eqV z (.int (f i : Nat))) ≤ 1 := by
  rw [List.countP_map]
  have e : (List.range n).countP ((fun z => eqV z (.int (f i : Nat))) ∘ fun b => V.int (f b : Nat)) = (List.range n).count i := by
    refine List.countP_congr fun b hb => ?_
    show eqV (.int (f b : Nat)) (.int (f i : Nat)) = true ↔ (b == i) = true
    rw [eqV_nat, beq_iff_eq, beq_iff_eq]
    exact ⟨fun z => h b i (List.mem_range.mp hb) hi z, fun z => by rw [z]⟩
  rw [e]
  exact List.nodup_iff_count.mp List.nodup_range i
variable {w W_ : World} {K : PySem.W.Frag} {mg : Str → Option Value} {base : Heap}
theorem seq_new {H0 H H' : Hp} {p a : Addr} {xs : List V} (n : H0 p = none) (s : Same H0 H) (e : But p H H') (h : SqL K H0 a xs) : SqL K H' a xs := by
  rcases h with h | h
  · have ne : a ≠ p := fun z => by
      rcases h with h | ⟨o, h⟩ <;> (rw [z, n] at h; cases h)
    exact e.seq ne (s.seq (.inl h))
  · exact .inr h
def sp_downl (K : PySem.W.Frag) (mm : List (Str × Addr)) (C : Addr) : Sp := fun vs H Q _ => ∃ (p dx a b : Addr) (xs : List Str) (ps : List (Nat × Nat)), vs = [.ref p, .ref a, .ref b] ∧ H p = some (.ins C dx []) ∧ SqL K H a (xs.map V.str) ∧ PairsAt K H b xs ps ∧ a ≠ p ∧ b ≠ p ∧ 1 ≤ xs.length ∧ xs.length ≤ 6 ∧ xs.Nodup ∧ (∀ x ∈ xs, NameW x) ∧ ps.length ≤ 1000 ∧ Anti xs.length ps ∧
  ∀ H', But p H H' → IsLat K mm H' p (downL xs ps) → Q .non H'
end
/-! ### the plain law: regular lattices -/
namespace Lt
def IsJ (L : Lt) (a b k : Nat) : Prop := k < L.n ∧ ∀ i, i < L.n → L.le k i = (L.le a i && L.le b i)
def IsM (L : Lt) (a b k : Nat) : Prop := k < L.n ∧ ∀ i, i < L.n → L.le i k = (L.le i a && L.le i b)
structure Reg (L : Lt) : Prop where
  ord : L.Ord
  trans : ∀ a b c, a < L.n → b < L.n → c < L.n → L.le a b = true → L.le b c = true → L.le a c = true
  bot : ∃ k, k < L.n ∧ ∀ i, i < L.n → L.le k i = true
  top : ∃ k, k < L.n ∧ ∀ i, i < L.n → L.le i k = true
  J : ∀ a b, a < L.n → b < L.n → ∃ k, L.IsJ a b k
  M : ∀ a b, a < L.n → b < L.n → ∃ k, L.IsM a b k
  dist : ∀ a b c j m1 m2 r x, a < L.n → b < L.n → c < L.n → x < L.n → L.IsJ b c j → L.IsM a b m1 → L.IsM a c m2 → L.IsJ m1 m2 r → L.le x a = true → L.le x j = true → L.le x r = true
  codist : ∀ a b c j m1 m2 r x, a < L.n → b < L.n → c < L.n → x < L.n → L.IsM b c j → L.IsJ a b m1 → L.IsJ a c m2 → L.IsM m1 m2 r → L.le a x = true → L.le j x = true → L.le r x = true
def jn (L : Lt) (a b : Nat) : Nat := (L.join a b).getD 0
def mt (L : Lt) (a b : Nat) : Nat := (L.meet a b).getD 0
def low (L : Lt) : Nat := L.bot.getD 0
def high (L : Lt) : Nat := L.top.getD 0
namespace Reg
variable {L : Lt} (R : L.Reg)
include R
theorem refl {a : Nat} (h : a < L.n) : L.le a a = true := R.ord.refl a h
theorem pos : 1 ≤ L.n := by
  obtain ⟨k, h, _⟩ := R.bot
  omega
theorem isJ {a b : Nat} (ha : a < L.n) (hb : b < L.n) : L.join a b = some (L.jn a b) ∧ L.IsJ a b (L.jn a b) := by
  obtain ⟨k, hk, h⟩ := R.J a b ha hb
  have e := R.ord.join hk h
  unfold Lt.jn
  rw [e]
  exact ⟨rfl, hk, h⟩
theorem isM {a b : Nat} (ha : a < L.n) (hb : b < L.n) : L.meet a b = some (L.mt a b) ∧ L.IsM a b (L.mt a b) := by
  obtain ⟨k, hk, h⟩ := R.M a b ha hb
  have e := R.ord.meet hk h
  unfold Lt.mt
  rw [e]
  exact ⟨rfl, hk, h⟩
theorem isLow : L.bot = some L.low ∧ L.low < L.n ∧ ∀ i, i < L.n → L.le L.low i = true := by
  obtain ⟨k, hk, h⟩ := R.bot
  have e := R.ord.bot hk h
  unfold Lt.low
  rw [e]
  exact ⟨rfl, hk, h⟩
theorem isHigh : L.top = some L.high ∧ L.high < L.n ∧ ∀ i, i < L.n → L.le i L.high = true := by
  obtain ⟨k, hk, h⟩ := R.top
  have e := R.ord.top hk h
  unfold Lt.high
  rw [e]
  exact ⟨rfl, hk, h⟩
theorem jlt {a b : Nat} (ha : a < L.n) (hb : b < L.n) : L.jn a b < L.n := (R.isJ ha hb).2.1
theorem mlt {a b : Nat} (ha : a < L.n) (hb : b < L.n) : L.mt a b < L.n := (R.isM ha hb).2.1
theorem jle {a b i : Nat} (ha : a < L.n) (hb : b < L.n) (hi : i < L.n) : L.le (L.jn a b) i = (L.le a i && L.le b i) := (R.isJ ha hb).2.2 i hi
theorem mle {a b i : Nat} (ha : a < L.n) (hb : b < L.n) (hi : i < L.n) : L.le i (L.mt a b) = (L.le i a && L.le i b) := (R.isM ha hb).2.2 i hi
theorem eqUp {a b : Nat} (ha : a < L.n) (hb : b < L.n) (h : ∀ i, i < L.n → L.le a i = L.le b i) : a = b :=
  R.ord.anti a b ha hb (by rw [h b hb]; exact R.refl hb) (by rw [← h a ha]; exact R.refl ha)
theorem eqDn {a b : Nat} (ha : a < L.n) (hb : b < L.n) (h : ∀ i, i < L.n → L.le i a = L.le i b) : a = b :=
  R.ord.anti a b ha hb (by rw [← h a ha]; exact R.refl ha) (by rw [h b hb]; exact R.refl hb)
theorem jl {a b : Nat} (ha : a < L.n) (hb : b < L.n) : L.le a (L.jn a b) = true ∧ L.le b (L.jn a b) = true := by
  have := R.jle ha hb (R.jlt ha hb)
  rw [R.refl (R.jlt ha hb)] at this
  simpa using this.symm
theorem ml {a b : Nat} (ha : a < L.n) (hb : b < L.n) : L.le (L.mt a b) a = true ∧ L.le (L.mt a b) b = true := by
  have := R.mle ha hb (R.mlt ha hb)
  rw [R.refl (R.mlt ha hb)] at this
  simpa using this.symm
theorem jj {a : Nat} (ha : a < L.n) : L.jn a a = a := R.eqUp (R.jlt ha ha) ha fun i hi => by rw [R.jle ha ha hi, Bool.and_self]
theorem mm {a : Nat} (ha : a < L.n) : L.mt a a = a := R.eqDn (R.mlt ha ha) ha fun i hi => by rw [R.mle ha ha hi, Bool.and_self]
theorem jc {a b : Nat} (ha : a < L.n) (hb : b < L.n) : L.jn a b = L.jn b a := R.eqUp (R.jlt ha hb) (R.jlt hb ha) fun i hi => by rw [R.jle ha hb hi, R.jle hb ha hi, Bool.and_comm]
theorem mc {a b : Nat} (ha : a < L.n) (hb : b < L.n) : L.mt a b = L.mt b a := R.eqDn (R.mlt ha hb) (R.mlt hb ha) fun i hi => by rw [R.mle ha hb hi, R.mle hb ha hi, Bool.and_comm]
theorem ja {a b c : Nat} (ha : a < L.n) (hb : b < L.n) (hc : c < L.n) : L.jn (L.jn a b) c = L.jn a (L.jn b c) :=
  R.eqUp (R.jlt (R.jlt ha hb) hc) (R.jlt ha (R.jlt hb hc)) fun i hi => by rw [R.jle (R.jlt ha hb) hc hi, R.jle ha hb hi, R.jle ha (R.jlt hb hc) hi, R.jle hb hc hi, Bool.and_assoc]
theorem ma {a b c : Nat} (ha : a < L.n) (hb : b < L.n) (hc : c < L.n) : L.mt (L.mt a b) c = L.mt a (L.mt b c) :=
  R.eqDn (R.mlt (R.mlt ha hb) hc) (R.mlt ha (R.mlt hb hc)) fun i hi => by rw [R.mle (R.mlt ha hb) hc hi, R.mle ha hb hi, R.mle ha (R.mlt hb hc) hi, R.mle hb hc hi, Bool.and_assoc]
/-- a ≤ b just if their join is b -/
theorem le_j {a b : Nat} (ha : a < L.n) (hb : b < L.n) : L.le a b = true ↔ L.jn a b = b := by
  constructor
  · intro h
    exact R.eqUp (R.jlt ha hb) hb fun i hi => by
      rw [R.jle ha hb hi, Bool.eq_iff_iff, Bool.and_eq_true]
      exact ⟨fun z => z.2, fun z => ⟨R.trans a b i ha hb hi h z, z⟩⟩
  · intro h
    have := (R.jl ha hb).1
    rw [h] at this
    exact this
theorem le_m {a b : Nat} (ha : a < L.n) (hb : b < L.n) : L.le a b = true ↔ L.mt a b = a := by
  constructor
  · intro h
    exact R.eqDn (R.mlt ha hb) ha fun i hi => by
      rw [R.mle ha hb hi, Bool.eq_iff_iff, Bool.and_eq_true]
      exact ⟨fun z => z.1, fun z => ⟨z, R.trans i a b hi ha hb z h⟩⟩
  · intro h
    have := (R.ml ha hb).2
    rw [h] at this
    exact this
theorem jm {a b : Nat} (ha : a < L.n) (hb : b < L.n) : L.jn a (L.mt a b) = a := by
  rw [R.jc ha (R.mlt ha hb)]
  exact (R.le_j (R.mlt ha hb) ha).mp (R.ml ha hb).1
theorem mj {a b : Nat} (ha : a < L.n) (hb : b < L.n) : L.mt a (L.jn a b) = a := (R.le_m ha (R.jlt ha hb)).mp (R.jl ha hb).1
theorem mdist {a b c : Nat} (ha : a < L.n) (hb : b < L.n) (hc : c < L.n) : L.mt a (L.jn b c) = L.jn (L.mt a b) (L.mt a c) := by
  have hj := R.jlt hb hc
  have h1 := R.mlt ha hb
  have h2 := R.mlt ha hc
  have hr := R.jlt h1 h2
  refine R.ord.anti _ _ (R.mlt ha hj) hr ?_ ?_
  · exact R.dist a b c _ _ _ _ _ ha hb hc (R.mlt ha hj) (R.isJ hb hc).2 (R.isM ha hb).2 (R.isM ha hc).2 (R.isJ h1 h2).2 (R.ml ha hj).1 (R.ml ha hj).2
  · rw [R.jle h1 h2 (R.mlt ha hj), R.mle ha hj h1, R.mle ha hj h2, (R.ml ha hb).1, (R.ml ha hc).1,
      R.trans _ b _ h1 hb hj (R.ml ha hb).2 (R.jl hb hc).1, R.trans _ c _ h2 hc hj (R.ml ha hc).2 (R.jl hb hc).2]
    rfl
theorem jdist {a b c : Nat} (ha : a < L.n) (hb : b < L.n) (hc : c < L.n) : L.jn a (L.mt b c) = L.mt (L.jn a b) (L.jn a c) := by
  have hj := R.mlt hb hc
  have h1 := R.jlt ha hb
  have h2 := R.jlt ha hc
  have hr := R.mlt h1 h2
  refine R.ord.anti _ _ (R.jlt ha hj) hr ?_ ?_
  · rw [R.mle h1 h2 (R.jlt ha hj), R.jle ha hj h1, R.jle ha hj h2, (R.jl ha hb).1, (R.jl ha hc).1,
      R.trans _ b _ hj hb h1 (R.ml hb hc).1 (R.jl ha hb).2, R.trans _ c _ hj hc h2 (R.ml hb hc).2 (R.jl ha hc).2]
    rfl
  · exact R.codist a b c _ _ _ _ _ ha hb hc (R.jlt ha hj) (R.isM hb hc).2 (R.isJ ha hb).2 (R.isJ ha hc).2 (R.isM h1 h2).2 (R.jl ha hj).1 (R.jl ha hj).2
theorem jlow {a : Nat} (ha : a < L.n) : L.jn a L.low = a := by
  rw [R.jc ha R.isLow.2.1]
  exact (R.le_j R.isLow.2.1 ha).mp (R.isLow.2.2 a ha)
theorem mlow {a : Nat} (ha : a < L.n) : L.mt a L.low = L.low := by
  rw [R.mc ha R.isLow.2.1]
  exact (R.le_m R.isLow.2.1 ha).mp (R.isLow.2.2 a ha)
theorem jhigh {a : Nat} (ha : a < L.n) : L.jn a L.high = L.high := (R.le_j ha R.isHigh.2.1).mp (R.isHigh.2.2 a ha)
theorem mhigh {a : Nat} (ha : a < L.n) : L.mt a L.high = a := (R.le_m ha R.isHigh.2.1).mp (R.isHigh.2.2 a ha)
end Reg
end Lt
/-! #### turned ones -/
theorem turn_n (L : Lt) : (turnL L).n = L.n := rfl
theorem turn_j (L : Lt) (a b k : Nat) : (turnL L).IsJ a b k ↔ L.IsM a b k := Iff.rfl
theorem turn_m (L : Lt) (a b k : Nat) : (turnL L).IsM a b k ↔ L.IsJ a b k := Iff.rfl
theorem Lt.Reg.turn {L : Lt} (R : L.Reg) : (turnL L).Reg where
  ord := ⟨fun a h => R.ord.refl a h, fun a b ha hb h1 h2 => R.ord.anti a b ha hb h2 h1⟩
  trans a b c ha hb hc h1 h2 := R.trans c b a hc hb ha h2 h1
  bot := R.top
  top := R.bot
  J := R.M
  M := R.J
  dist := R.codist
  codist := R.dist
/-! #### chains -/
theorem chain_isJ {n a b k : Nat} (ha : a < (chainL n).n) (hb : b < (chainL n).n) (h : (chainL n).IsJ a b k) : k = max a b := by
  have e := (chain_ord n).join h.1 h.2
  rw [chainL_n] at ha hb
  rw [chain_join ha hb] at e
  exact (Option.some.inj e).symm
theorem chain_isM {n a b k : Nat} (ha : a < (chainL n).n) (hb : b < (chainL n).n) (h : (chainL n).IsM a b k) : k = min a b := by
  have e := (chain_ord n).meet h.1 h.2
  rw [chainL_n] at ha hb
  rw [chain_meet ha hb] at e
  exact (Option.some.inj e).symm
theorem chain_reg {n : Nat} (h : 1 ≤ n) : (chainL n).Reg where
  ord := chain_ord n
  trans a b c _ _ _ h1 h2 := by
    simp only [chainL, decide_eq_true_eq] at h1 h2 ⊢
    omega
  bot := ⟨0, by rw [chainL_n]; omega, fun i _ => by simp [chainL]⟩
  top := ⟨n - 1, by rw [chainL_n]; omega, fun i hi => by rw [chainL_n] at hi; simp [chainL]; omega⟩
  J a b ha hb := ⟨max a b, by rw [chainL_n] at *; omega, fun i hi => by
    rw [Bool.eq_iff_iff]; simp only [chainL, Bool.and_eq_true, decide_eq_true_eq]; omega⟩
  M a b ha hb := ⟨min a b, by rw [chainL_n] at *; omega, fun i hi => by
    rw [Bool.eq_iff_iff]; simp only [chainL, Bool.and_eq_true, decide_eq_true_eq]; omega⟩
  dist a b c j m1 m2 r x ha hb hc hx hj h1 h2 hr xa xj := by
    have e := chain_isJ hb hc hj
    have e1 := chain_isM ha hb h1
    have e2 := chain_isM ha hc h2
    have e3 := chain_isJ h1.1 h2.1 hr
    have xa : x ≤ a := of_decide_eq_true xa
    have xj : x ≤ j := of_decide_eq_true xj
    exact decide_eq_true (show x ≤ r by omega)
  codist a b c j m1 m2 r x ha hb hc hx hj h1 h2 hr xa xj := by
    have e := chain_isM hb hc hj
    have e1 := chain_isJ ha hb h1
    have e2 := chain_isJ ha hc h2
    have e3 := chain_isM h1.1 h2.1 hr
    have xa : a ≤ x := of_decide_eq_true xa
    have xj : j ≤ x := of_decide_eq_true xj
    exact decide_eq_true (show r ≤ x by omega)
/-! #### rings of sets: hs are the sets, as numbers -/
structure Ring (hs : List Nat) (w : Nat) : Prop where
  nd : hs.Nodup
  lt : ∀ h ∈ hs, h < 2 ^ w
  zero : 0 ∈ hs
  all : 2 ^ w - 1 ∈ hs
  or : ∀ g ∈ hs, ∀ h ∈ hs, g ||| h ∈ hs
  and : ∀ g ∈ hs, ∀ h ∈ hs, g &&& h ∈ hs
theorem getD_mem {hs : List Nat} {i : Nat} (h : i < hs.length) : hs.getD i 0 ∈ hs := by
  rw [List.getD_eq_getElem?_getD, List.getElem?_eq_getElem h]
  exact List.getElem_mem h
theorem mem_getD {hs : List Nat} {g : Nat} (h : g ∈ hs) : ∃ i, i < hs.length ∧ hs.getD i 0 = g := by
  obtain ⟨i, hi, e⟩ := List.mem_iff_getElem.mp h
  exact ⟨i, hi, by rw [List.getD_eq_getElem?_getD, List.getElem?_eq_getElem hi]; exact e⟩
theorem getD_inj {hs : List Nat} (nd : hs.Nodup) {i j : Nat} (hi : i < hs.length) (hj : j < hs.length) (e : hs.getD i 0 = hs.getD j 0) : i = j := by
  rw [List.getD_eq_getElem?_getD, List.getElem?_eq_getElem hi, List.getD_eq_getElem?_getD, List.getElem?_eq_getElem hj] at e
  have e : hs[i] = hs[j] := e
  exact nodup_at' nd (List.getElem?_eq_getElem hi) (by rw [List.getElem?_eq_getElem hj, e])
theorem ring_reg {L : Lt} {hs : List Nat} {w : Nat} (R : Ring hs w) (hn : L.n = hs.length) (hl : ∀ i j, i < L.n → j < L.n → L.le i j = part (hs.getD i 0) (hs.getD j 0)) : L.Reg := by
  have mem : ∀ {i}, i < L.n → hs.getD i 0 ∈ hs := fun h => getD_mem (hn ▸ h)
  have get : ∀ {g}, g ∈ hs → ∃ i, i < L.n ∧ hs.getD i 0 = g := fun h => by rw [hn]; exact mem_getD h
  have toJ : ∀ {a b k}, a < L.n → b < L.n → L.IsJ a b k → hs.getD k 0 = hs.getD a 0 ||| hs.getD b 0 := fun {a b k} ha hb h => by
    obtain ⟨i, hi, e⟩ := get (R.or _ (mem ha) _ (mem hb))
    refine part_anti ?_ ?_
    · have := h.2 i hi
      rw [hl _ _ h.1 hi, hl _ _ ha hi, hl _ _ hb hi, e, ← part_or, part_refl] at this
      exact this
    · have := h.2 k h.1
      rw [hl _ _ h.1 h.1, hl _ _ ha h.1, hl _ _ hb h.1, part_refl, ← part_or] at this
      exact this.symm
  have toM : ∀ {a b k}, a < L.n → b < L.n → L.IsM a b k → hs.getD k 0 = hs.getD a 0 &&& hs.getD b 0 := fun {a b k} ha hb h => by
    obtain ⟨i, hi, e⟩ := get (R.and _ (mem ha) _ (mem hb))
    refine part_anti ?_ ?_
    · have := h.2 k h.1
      rw [hl _ _ h.1 h.1, hl _ _ h.1 ha, hl _ _ h.1 hb, part_refl, ← part_and] at this
      exact this.symm
    · have := h.2 i hi
      rw [hl _ _ hi h.1, hl _ _ hi ha, hl _ _ hi hb, e, ← part_and, part_refl] at this
      exact this
  refine ⟨⟨fun a ha => by rw [hl _ _ ha ha]; exact part_refl _, fun a b ha hb h1 h2 => ?_⟩, fun a b c ha hb hc h1 h2 => ?_, ?_, ?_, fun a b ha hb => ?_, fun a b ha hb => ?_, fun a b c j m1 m2 r x ha hb hc hx hj h1 h2 hr xa xj => ?_, fun a b c j m1 m2 r x ha hb hc hx hj h1 h2 hr xa xj => ?_⟩
  · rw [hl _ _ ha hb] at h1
    rw [hl _ _ hb ha] at h2
    exact getD_inj R.nd (hn ▸ ha) (hn ▸ hb) (part_anti h1 h2)
  · rw [hl _ _ ha hb] at h1
    rw [hl _ _ hb hc] at h2
    rw [hl _ _ ha hc]
    exact part_bits.mpr fun k hk => part_bits.mp h2 k (part_bits.mp h1 k hk)
  · obtain ⟨k, hk, e⟩ := get R.zero
    exact ⟨k, hk, fun i hi => by rw [hl _ _ hk hi, e]; exact part_bits.mpr fun j h => by simp at h⟩
  · obtain ⟨k, hk, e⟩ := get R.all
    refine ⟨k, hk, fun i hi => ?_⟩
    rw [hl _ _ hi hk, e]
    refine part_bits.mpr fun j h => ?_
    rw [Nat.testBit_two_pow_sub_one]
    refine decide_eq_true (Nat.lt_of_not_le fun z => ?_)
    rw [Nat.testBit_lt_two_pow (Nat.lt_of_lt_of_le (R.lt _ (mem hi)) (Nat.pow_le_pow_right (by decide) z))] at h
    cases h
  · obtain ⟨k, hk, e⟩ := get (R.or _ (mem ha) _ (mem hb))
    exact ⟨k, hk, fun i hi => by rw [hl _ _ hk hi, hl _ _ ha hi, hl _ _ hb hi, e, part_or]⟩
  · obtain ⟨k, hk, e⟩ := get (R.and _ (mem ha) _ (mem hb))
    exact ⟨k, hk, fun i hi => by rw [hl _ _ hi hk, hl _ _ hi ha, hl _ _ hi hb, e, part_and]⟩
  · rw [hl _ _ hx ha] at xa
    rw [hl _ _ hx hj.1, toJ hb hc hj] at xj
    rw [hl _ _ hx hr.1, toJ h1.1 h2.1 hr, toM ha hb h1, toM ha hc h2]
    refine part_bits.mpr fun k hk => ?_
    have p1 := part_bits.mp xa k hk
    have p2 := part_bits.mp xj k hk
    rw [Nat.testBit_or] at p2
    rw [Nat.testBit_or, Nat.testBit_and, Nat.testBit_and, p1]
    simpa using p2
  · rw [hl _ _ ha hx] at xa
    rw [hl _ _ hj.1 hx, toM hb hc hj] at xj
    rw [hl _ _ hr.1 hx, toM h1.1 h2.1 hr, toJ ha hb h1, toJ ha hc h2]
    refine part_bits.mpr fun k hk => ?_
    rw [Nat.testBit_and, Nat.testBit_or, Nat.testBit_or] at hk
    cases e : (hs.getD a 0).testBit k with
    | true => exact part_bits.mp xa k e
    | false =>
      rw [e] at hk
      refine part_bits.mp xj k ?_
      rw [Nat.testBit_and]
      simpa using hk
theorem sets_reg (c : Nat) : (setsL c).Reg := by
  refine ring_reg (hs := List.range (2 ^ c)) (w := c) ⟨List.nodup_range, fun h hh => List.mem_range.mp hh, ?_, ?_, fun g hg h hh => ?_, fun g hg h hh => ?_⟩ (by rw [setsL_n, List.length_range]) fun i j hi hj => ?_
  · exact List.mem_range.mpr (Nat.pow_pos (by decide))
  · have := Nat.pow_pos (n := c) (show 0 < 2 by decide)
    exact List.mem_range.mpr (by omega)
  · exact List.mem_range.mpr (Nat.or_lt_two_pow (List.mem_range.mp hg) (List.mem_range.mp hh))
  · exact List.mem_range.mpr (Nat.lt_of_le_of_lt Nat.and_le_left (List.mem_range.mp hg))
  · rw [setsL_n] at hi hj
    have g : ∀ {i}, i < 2 ^ c → (List.range (2 ^ c)).getD i 0 = i := fun h => by rw [List.getD_eq_getElem?_getD, List.getElem?_range h]; rfl
    rw [g hi, g hj]
    rfl
theorem heap_mem {n h : Nat} {ps : List (Nat × Nat)} : h ∈ heaps n ps ↔ h < 2 ^ n ∧ ∀ a, a < n → h.testBit a = true → ∀ b, b < n → Reach ps b a → h.testBit b = true := by
  unfold heaps heapB
  rw [List.mem_filter, List.mem_range, List.all_eq_true]
  refine and_congr_right fun _ => ⟨fun h a ha hb b hbn r => ?_, fun h a ha => ?_⟩
  · have := part_bits.mp (h a (List.mem_filter.mpr ⟨List.mem_range.mpr ha, hb⟩)) b
    refine this ?_
    unfold dn
    rw [mask_bit, decide_eq_true hbn, Bool.true_and]
    exact reachB_iff.mpr r
  · obtain ⟨ha, hb⟩ := List.mem_filter.mp ha
    refine part_bits.mpr fun b z => ?_
    unfold dn at z
    rw [mask_bit, Bool.and_eq_true, decide_eq_true_eq] at z
    exact h a (List.mem_range.mp ha) hb b z.1 (reachB_iff.mp z.2)
theorem down_ring (n : Nat) (ps : List (Nat × Nat)) : Ring (heaps n ps) n where
  nd := List.nodup_range.filter _
  lt h hh := (heap_mem.mp hh).1
  zero := heap_mem.mpr ⟨Nat.pow_pos (by decide), fun a _ z => by simp at z⟩
  all := heap_mem.mpr ⟨by have := Nat.pow_pos (n := n) (show 0 < 2 by decide); omega, fun a _ _ b hb _ => by rw [Nat.testBit_two_pow_sub_one]; exact decide_eq_true hb⟩
  or g hg h hh := by
    have hg := heap_mem.mp hg
    have hh := heap_mem.mp hh
    refine heap_mem.mpr ⟨Nat.or_lt_two_pow hg.1 hh.1, fun a ha z b hb r => ?_⟩
    rw [Nat.testBit_or, Bool.or_eq_true] at z ⊢
    exact z.imp (fun y => hg.2 a ha y b hb r) fun y => hh.2 a ha y b hb r
  and g hg h hh := by
    have hg := heap_mem.mp hg
    have hh := heap_mem.mp hh
    refine heap_mem.mpr ⟨Nat.lt_of_le_of_lt Nat.and_le_left hg.1, fun a ha z b hb r => ?_⟩
    rw [Nat.testBit_and, Bool.and_eq_true] at z ⊢
    exact ⟨hg.2 a ha z.1 b hb r, hh.2 a ha z.2 b hb r⟩
theorem down_reg (xs : List Str) (ps : List (Nat × Nat)) : (downL xs ps).Reg :=
  ring_reg (down_ring xs.length ps) (downL_n xs ps) fun _ _ _ _ => rfl
/-! #### pairs -/
theorem pair_reg {L R : Lt} (A : L.Reg) (B : R.Reg) : (pairL L R).Reg := by
  have r1 := B.pos
  have dl : ∀ {k}, k < (pairL L R).n → k / R.n < L.n := fun h => div_lt' r1 (by rw [pairL_n] at h; exact h)
  have dm : ∀ k, k % R.n < R.n := fun k => Nat.mod_lt _ r1
  have mk : ∀ {i j}, i < L.n → j < R.n → i * R.n + j < (pairL L R).n ∧ (i * R.n + j) / R.n = i ∧ (i * R.n + j) % R.n = j := fun {i j} hi hj => by
    refine ⟨?_, ?_, ?_⟩
    · rw [pairL_n]
      have := Nat.mul_le_mul_right R.n (show i + 1 ≤ L.n from hi)
      rw [Nat.succ_mul] at this
      omega
    · rw [Nat.mul_comm, Nat.mul_add_div (by omega), Nat.div_eq_of_lt hj, Nat.add_zero]
    · rw [Nat.mul_comm, Nat.mul_add_mod, Nat.mod_eq_of_lt hj]
  have ext : ∀ {a b : Nat}, a / R.n = b / R.n → a % R.n = b % R.n → a = b := fun {a b} h1 h2 => by
    rw [← Nat.div_add_mod a R.n, ← Nat.div_add_mod b R.n, h1, h2]
  have le : ∀ a b, (pairL L R).le a b = (L.le (a / R.n) (b / R.n) && R.le (a % R.n) (b % R.n)) := fun _ _ => rfl
  have toJ : ∀ {a b k}, a < (pairL L R).n → b < (pairL L R).n → (pairL L R).IsJ a b k → L.IsJ (a / R.n) (b / R.n) (k / R.n) ∧ R.IsJ (a % R.n) (b % R.n) (k % R.n) := fun {a b k} ha hb h => by
    obtain ⟨i, hi1, hi2⟩ := A.J _ _ (dl ha) (dl hb)
    obtain ⟨j, hj1, hj2⟩ := B.J _ _ (dm a) (dm b)
    obtain ⟨m1, m2, m3⟩ := mk hi1 hj1
    have e1 := h.2 _ m1
    rw [le, le, le, m2, m3] at e1
    have a1 := hi2 i hi1
    have b1 := hj2 j hj1
    rw [A.refl hi1] at a1
    rw [B.refl hj1] at b1
    have a1 := a1.symm
    have b1 := b1.symm
    rw [Bool.and_eq_true] at a1 b1
    rw [a1.1, a1.2, b1.1, b1.2] at e1
    simp only [Bool.and_self] at e1
    rw [Bool.and_eq_true] at e1
    have e2 := h.2 k h.1
    rw [le, le, le, A.refl (dl h.1), B.refl (dm k)] at e2
    have e2 := e2.symm
    simp only [Bool.and_self, Bool.and_eq_true] at e2
    have ek : k / R.n = i := A.ord.anti _ _ (dl h.1) hi1 e1.1 (by rw [hi2 _ (dl h.1), e2.1.1, e2.2.1]; rfl)
    have ek2 : k % R.n = j := B.ord.anti _ _ (dm k) hj1 e1.2 (by rw [hj2 _ (dm k), e2.1.2, e2.2.2]; rfl)
    rw [ek, ek2]
    exact ⟨⟨hi1, hi2⟩, hj1, hj2⟩
  have toM : ∀ {a b k}, a < (pairL L R).n → b < (pairL L R).n → (pairL L R).IsM a b k → L.IsM (a / R.n) (b / R.n) (k / R.n) ∧ R.IsM (a % R.n) (b % R.n) (k % R.n) := fun {a b k} ha hb h => by
    obtain ⟨i, hi1, hi2⟩ := A.M _ _ (dl ha) (dl hb)
    obtain ⟨j, hj1, hj2⟩ := B.M _ _ (dm a) (dm b)
    obtain ⟨m1, m2, m3⟩ := mk hi1 hj1
    have e1 := h.2 _ m1
    rw [le, le, le, m2, m3] at e1
    have a1 := hi2 i hi1
    have b1 := hj2 j hj1
    rw [A.refl hi1] at a1
    rw [B.refl hj1] at b1
    have a1 := a1.symm
    have b1 := b1.symm
    rw [Bool.and_eq_true] at a1 b1
    rw [a1.1, a1.2, b1.1, b1.2] at e1
    simp only [Bool.and_self] at e1
    rw [Bool.and_eq_true] at e1
    have e2 := h.2 k h.1
    rw [le, le, le, A.refl (dl h.1), B.refl (dm k)] at e2
    have e2 := e2.symm
    simp only [Bool.and_self, Bool.and_eq_true] at e2
    have ek : k / R.n = i := A.ord.anti _ _ (dl h.1) hi1 (by rw [hi2 _ (dl h.1), e2.1.1, e2.2.1]; rfl) e1.1
    have ek2 : k % R.n = j := B.ord.anti _ _ (dm k) hj1 (by rw [hj2 _ (dm k), e2.1.2, e2.2.2]; rfl) e1.2
    rw [ek, ek2]
    exact ⟨⟨hi1, hi2⟩, hj1, hj2⟩
  refine ⟨⟨fun a ha => ?_, fun a b ha hb h1 h2 => ?_⟩, fun a b c ha hb hc h1 h2 => ?_, ?_, ?_, fun a b ha hb => ?_, fun a b ha hb => ?_, fun a b c j m1 m2 r x ha hb hc hx hj h1 h2 hr xa xj => ?_, fun a b c j m1 m2 r x ha hb hc hx hj h1 h2 hr xa xj => ?_⟩
  · rw [le, A.refl (dl ha), B.refl (dm a)]; rfl
  · rw [le, Bool.and_eq_true] at h1 h2
    exact ext (A.ord.anti _ _ (dl ha) (dl hb) h1.1 h2.1) (B.ord.anti _ _ (dm a) (dm b) h1.2 h2.2)
  · rw [le, Bool.and_eq_true] at h1 h2 ⊢
    exact ⟨A.trans _ _ _ (dl ha) (dl hb) (dl hc) h1.1 h2.1, B.trans _ _ _ (dm a) (dm b) (dm c) h1.2 h2.2⟩
  · obtain ⟨i, hi1, hi2⟩ := A.bot
    obtain ⟨j, hj1, hj2⟩ := B.bot
    obtain ⟨m1, m2, m3⟩ := mk hi1 hj1
    exact ⟨_, m1, fun x hx => by rw [le, m2, m3, hi2 _ (dl hx), hj2 _ (dm x)]; rfl⟩
  · obtain ⟨i, hi1, hi2⟩ := A.top
    obtain ⟨j, hj1, hj2⟩ := B.top
    obtain ⟨m1, m2, m3⟩ := mk hi1 hj1
    exact ⟨_, m1, fun x hx => by rw [le, m2, m3, hi2 _ (dl hx), hj2 _ (dm x)]; rfl⟩
  · obtain ⟨i, hi1, hi2⟩ := A.J _ _ (dl ha) (dl hb)
    obtain ⟨j, hj1, hj2⟩ := B.J _ _ (dm a) (dm b)
    obtain ⟨m1, m2, m3⟩ := mk hi1 hj1
    exact ⟨_, m1, fun x hx => by
      rw [le, le, le, m2, m3, hi2 _ (dl hx), hj2 _ (dm x)]
      simp only [Bool.and_assoc, Bool.and_left_comm]⟩
  · obtain ⟨i, hi1, hi2⟩ := A.M _ _ (dl ha) (dl hb)
    obtain ⟨j, hj1, hj2⟩ := B.M _ _ (dm a) (dm b)
    obtain ⟨m1, m2, m3⟩ := mk hi1 hj1
    exact ⟨_, m1, fun x hx => by
      rw [le, le, le, m2, m3, hi2 _ (dl hx), hj2 _ (dm x)]
      simp only [Bool.and_assoc, Bool.and_left_comm]⟩
  · rw [le, Bool.and_eq_true] at xa xj ⊢
    obtain ⟨j1, j2⟩ := toJ hb hc hj
    obtain ⟨p1, p2⟩ := toM ha hb h1
    obtain ⟨q1, q2⟩ := toM ha hc h2
    obtain ⟨r1', r2⟩ := toJ h1.1 h2.1 hr
    exact ⟨A.dist _ _ _ _ _ _ _ _ (dl ha) (dl hb) (dl hc) (dl hx) j1 p1 q1 r1' xa.1 xj.1, B.dist _ _ _ _ _ _ _ _ (dm a) (dm b) (dm c) (dm x) j2 p2 q2 r2 xa.2 xj.2⟩
  · rw [le, Bool.and_eq_true] at xa xj ⊢
    obtain ⟨j1, j2⟩ := toM hb hc hj
    obtain ⟨p1, p2⟩ := toJ ha hb h1
    obtain ⟨q1, q2⟩ := toJ ha hc h2
    obtain ⟨r1', r2⟩ := toM h1.1 h2.1 hr
    exact ⟨A.codist _ _ _ _ _ _ _ _ (dl ha) (dl hb) (dl hc) (dl hx) j1 p1 q1 r1' xa.1 xj.1, B.codist _ _ _ _ _ _ _ _ (dm a) (dm b) (dm c) (dm x) j2 p2 q2 r2 xa.2 xj.2⟩
/-! ### the plain law: the lattices that the laws draw -/
theorem reachB_eq {ps : List (Nat × Nat)} {n k : Nat} (hp : ∀ q ∈ ps, q.1 < n ∧ q.2 < n) (hc : ∀ a b, a < n → b < n → reachK ps (k + 1) a b = true → reachK ps k a b = true) {a b : Nat} (ha : a < n) : reachB ps a b = reachK ps k a b := by
  rw [Bool.eq_iff_iff, reachB_iff]
  exact reach_iff hp hc ha
def abcS : List Str := ["a", "b", "c"]
def psOf : Nat → List (Nat × Nat)
  | 0 => [(1, 0)]
  | 1 => [(0, 2), (1, 2)]
  | _ => [(2, 0)]
def boxS : List Str := ["hi", "x", "y", "lo"]
def boxP : List (Nat × Nat) := [(3, 1), (3, 2), (1, 0), (2, 0), (3, 0)]
def thrS : List Str := ["two", "one", "nil"]
def thrP : List (Nat × Nat) := [(1, 0), (2, 1)]
noncomputable def boxL : Lt := orderL boxS boxP
noncomputable def thrL : Lt := orderL thrS thrP
noncomputable def abcL (c : Nat) : Lt := downL abcS (psOf c)
theorem box_le {a b : Nat} (ha : a < 4) : boxL.le a b = reachK boxP 2 a b := by
  have q : ∀ a b : Fin 4, reachK boxP 3 a.val b.val = true → reachK boxP 2 a.val b.val = true := by decide +kernel
  exact reachB_eq (n := 4) (by decide) (fun a b ha hb => q ⟨a, ha⟩ ⟨b, hb⟩) ha
theorem thr_le {a b : Nat} (ha : a < 3) : thrL.le a b = reachK thrP 2 a b := by
  have q : ∀ a b : Fin 3, reachK thrP 3 a.val b.val = true → reachK thrP 2 a.val b.val = true := by decide +kernel
  exact reachB_eq (n := 3) (by decide) (fun a b ha hb => q ⟨a, ha⟩ ⟨b, hb⟩) ha
theorem abc_le {c a b : Nat} (hc : c < 3) (ha : a < 3) : reachB (psOf c) a b = reachK (psOf c) 2 a b := by
  have q : ∀ c : Fin 3, (∀ q ∈ psOf c.val, q.1 < 3 ∧ q.2 < 3) ∧ ∀ a b : Fin 3, reachK (psOf c.val) 3 a.val b.val = true → reachK (psOf c.val) 2 a.val b.val = true := by decide +kernel
  obtain ⟨q1, q2⟩ := q ⟨c, hc⟩
  exact reachB_eq q1 (fun a b ha hb => q2 ⟨a, ha⟩ ⟨b, hb⟩) ha
theorem box_n : boxL.n = 4 := rfl
theorem thr_n : thrL.n = 3 := rfl
theorem box_reg : boxL.Reg := by
  refine ring_reg (hs := [3, 1, 2, 0]) (w := 2) ⟨by decide, by decide, by decide, by decide, by decide, by decide⟩ rfl fun i j hi hj => ?_
  rw [box_n] at hi hj
  rw [box_le hi]
  have q : ∀ i j : Fin 4, reachK boxP 2 i.val j.val = part (([3, 1, 2, 0] : List Nat).getD i.val 0) (([3, 1, 2, 0] : List Nat).getD j.val 0) := by decide +kernel
  exact q ⟨i, hi⟩ ⟨j, hj⟩
theorem thr_reg : thrL.Reg := by
  refine ring_reg (hs := [3, 1, 0]) (w := 2) ⟨by decide, by decide, by decide, by decide, by decide, by decide⟩ rfl fun i j hi hj => ?_
  rw [thr_n] at hi hj
  rw [thr_le hi]
  have q : ∀ i j : Fin 3, reachK thrP 2 i.val j.val = part (([3, 1, 0] : List Nat).getD i.val 0) (([3, 1, 0] : List Nat).getD j.val 0) := by decide +kernel
  exact q ⟨i, hi⟩ ⟨j, hj⟩
/-- the sets of the small orders -/
def abcH : Nat → List Nat
  | 0 => [0, 2, 3, 4, 6, 7]
  | 1 => [0, 1, 2, 3, 7]
  | _ => [0, 2, 4, 5, 6, 7]
theorem abc_heaps {c : Nat} (hc : c < 3) : heaps 3 (psOf c) = abcH c := by
  have q : ∀ c : Fin 3, ((List.range 8).filter fun h => ((List.range 3).filter h.testBit).all fun a => part (mask 3 fun b => reachK (psOf c.val) 2 b a) h) = abcH c.val := by decide +kernel
  rw [← q ⟨c, hc⟩]
  refine List.filter_congr fun h _ => ?_
  unfold heapB
  have e : ∀ a, dn 3 (psOf c) a = mask 3 fun b => reachK (psOf c) 2 b a := fun a => mask_ext fun i hi => abc_le hc hi
  simp only [e]
theorem abc_anti {c : Nat} (hc : c < 3) : Anti 3 (psOf c) := fun a b ha hb h1 h2 => by
  have h1 := reachB_iff.mpr h1
  have h2 := reachB_iff.mpr h2
  rw [abc_le hc ha] at h1
  rw [abc_le hc hb] at h2
  have q : ∀ (c a b : Fin 3), reachK (psOf c.val) 2 a.val b.val = true → reachK (psOf c.val) 2 b.val a.val = true → a.val = b.val := by decide +kernel
  exact q ⟨c, hc⟩ ⟨a, ha⟩ ⟨b, hb⟩ h1 h2
theorem abc_names {c : Nat} (hc : c < 3) : (abcL c).names = (abcH c).map (heapNm abcS) := by
  show (heaps abcS.length (psOf c)).map _ = _
  rw [show abcS.length = 3 from rfl, abc_heaps hc]
/-- what is known of a drawn lattice -/
structure Lt.Small (L : Lt) : Prop where
  reg : L.Reg
  n9 : L.n ≤ 9
  nd : L.names.Nodup
  lab : L.label.length ≤ 200
  nam : ∀ x ∈ L.names, x.length ≤ 40
  d1 : 1 ≤ L.depth
  d4 : L.depth ≤ 4
theorem Lt.Small.fit {L : Lt} (h : L.Small) : L.Fit := ⟨Nat.le_trans h.lab (by decide), fun x hx => Nat.le_trans (h.nam x hx) (by decide)⟩
theorem Lt.Small.turn {L : Lt} (h : L.Small) (d : L.depth ≤ 3) (l : L.label.length ≤ 100) : (turnL L).Small where
  reg := h.reg.turn
  n9 := h.n9
  nd := h.nd
  lab := by
    show (("(turned " : Str) ++ L.label ++ (")" : Str)).length ≤ 200
    have o1 : ("(turned " : Str).length = 8 := rfl
    have o2 : (")" : Str).length = 1 := rfl
    rw [Str.length_append, Str.length_append]
    omega
  nam := h.nam
  d1 := by show 1 ≤ L.depth + 1; omega
  d4 := by show L.depth + 1 ≤ 4; omega
theorem pair_lab {L R : Lt} {m : Nat} (h1 : L.label.length ≤ m) (h2 : R.label.length ≤ m) : (pairL L R).label.length ≤ 2 * m + 10 := by
  show (("(pair " : Str) ++ L.label ++ (" " : Str) ++ R.label ++ (")" : Str)).length ≤ _
  have o1 : ("(pair " : Str).length = 6 := rfl
  have o2 : (")" : Str).length = 1 := rfl
  have o3 : (" " : Str).length = 1 := rfl
  rw [Str.length_append, Str.length_append, Str.length_append, Str.length_append]
  omega
theorem chain_small {c : Nat} (h1 : 1 ≤ c) (h : c ≤ 4) : (chainL c).Small ∧ (chainL c).label.length ≤ 20 := by
  have q : ∀ c : Fin 5, (chainL c.val).names.Nodup ∧ (chainL c.val).label.length ≤ 20 ∧ ∀ x ∈ (chainL c.val).names, x.length ≤ 40 := by decide +kernel
  obtain ⟨q1, q2, q3⟩ := q ⟨c, by omega⟩
  exact ⟨⟨chain_reg h1, by rw [chainL_n]; omega, q1, Nat.le_trans q2 (by decide), q3, Nat.le_refl 1, (by decide : 1 ≤ 4)⟩, q2⟩
theorem sets_small {c : Nat} (h : c ≤ 3) : (setsL c).Small ∧ (setsL c).label.length ≤ 20 := by
  have q : ∀ c : Fin 4, (setsL c.val).names.Nodup ∧ (setsL c.val).label.length ≤ 20 ∧ (setsL c.val).n ≤ 9 ∧ ∀ x ∈ (setsL c.val).names, x.length ≤ 40 := by decide +kernel
  obtain ⟨q1, q2, q4, q3⟩ := q ⟨c, by omega⟩
  exact ⟨⟨sets_reg c, q4, q1, Nat.le_trans q2 (by decide), q3, Nat.le_refl 1, (by decide : 1 ≤ 4)⟩, q2⟩
theorem box_small : boxL.Small ∧ boxL.label.length ≤ 60 := by
  have q : (("(order (" : Str) ++ PySem.Txt.join " " boxS ++ (") (" : Str) ++ PySem.Txt.join " " (pairW boxS boxP) ++ ("))" : Str)).length ≤ 60 ∧ boxS.Nodup ∧ ∀ x ∈ boxS, x.length ≤ 40 := by decide +kernel
  exact ⟨⟨box_reg, by rw [box_n]; decide, q.2.1, Nat.le_trans q.1 (by decide), q.2.2, Nat.le_refl 1, (by decide : 1 ≤ 4)⟩, q.1⟩
theorem thr_small : thrL.Small ∧ thrL.label.length ≤ 60 := by
  have q : (("(order (" : Str) ++ PySem.Txt.join " " thrS ++ (") (" : Str) ++ PySem.Txt.join " " (pairW thrS thrP) ++ ("))" : Str)).length ≤ 60 ∧ thrS.Nodup ∧ ∀ x ∈ thrS, x.length ≤ 40 := by decide +kernel
  exact ⟨⟨thr_reg, by rw [thr_n]; decide, q.2.1, Nat.le_trans q.1 (by decide), q.2.2, Nat.le_refl 1, (by decide : 1 ≤ 4)⟩, q.1⟩
theorem abc_small {c : Nat} (hc : c < 3) : (abcL c).Small ∧ (abcL c).label.length ≤ 60 := by
  have q : ∀ c : Fin 3, (("(downs (" : Str) ++ PySem.Txt.join " " abcS ++ (") (" : Str) ++ PySem.Txt.join " " (pairW abcS (psOf c.val)) ++ ("))" : Str)).length ≤ 60 ∧ ((abcH c.val).map (heapNm abcS)).Nodup ∧ (∀ x ∈ (abcH c.val).map (heapNm abcS), x.length ≤ 40) ∧ (abcH c.val).length ≤ 9 := by decide +kernel
  obtain ⟨q1, q2, q3, q4⟩ := q ⟨c, hc⟩
  have en := abc_names hc
  refine ⟨⟨down_reg _ _, ?_, by rw [en]; exact q2, Nat.le_trans q1 (by decide), by rw [en]; exact q3, Nat.le_refl 1, (by decide : 1 ≤ 4)⟩, q1⟩
  show (abcL c).names.length ≤ 9
  rw [en, List.length_map]
  exact q4
theorem pair_small {L R : Lt} {m : Nat} (A : L.Small) (B : R.Small) (n9 : L.n * R.n ≤ 9) (nd : ((List.range (L.n * R.n)).map (pairNm L R)).Nodup) (nam : ∀ x ∈ (List.range (L.n * R.n)).map (pairNm L R), x.length ≤ 40) (d : foldD 1 [L, R] ≤ 4) (h1 : L.label.length ≤ m) (h2 : R.label.length ≤ m) (hm : m ≤ 90) : (pairL L R).Small ∧ (pairL L R).label.length ≤ 2 * m + 10 := by
  have hl := pair_lab h1 h2
  refine ⟨⟨pair_reg A.reg B.reg, by rw [pairL_n]; exact n9, nd, by omega, nam, ?_, d⟩, hl⟩
  have a1 := A.d1
  have b1 := B.d1
  show 1 ≤ foldD 1 [L, R]
  unfold foldD
  simp only [List.foldl]
  split <;> split <;> omega
noncomputable def menu (c : Nat) : List Lt := [chainL (1 + c), chainL 4, setsL (1 + c % 2), setsL 3, abcL c, boxL, thrL, turnL (abcL c), pairL (chainL 2) (chainL (1 + c)), pairL (setsL 1) (turnL boxL), pairL (pairL (chainL 2) (setsL 1)) (chainL 2)]
theorem p1_small {c : Nat} (hc : c < 3) : (pairL (chainL 2) (chainL (1 + c))).Small := by
  have q : ∀ c : Fin 3, (chainL 2).n * (chainL (1 + c.val)).n ≤ 9 ∧ ((List.range ((chainL 2).n * (chainL (1 + c.val)).n)).map (pairNm (chainL 2) (chainL (1 + c.val)))).Nodup ∧ (∀ x ∈ (List.range ((chainL 2).n * (chainL (1 + c.val)).n)).map (pairNm (chainL 2) (chainL (1 + c.val))), x.length ≤ 40) ∧ foldD 1 [chainL 2, chainL (1 + c.val)] ≤ 4 := by decide +kernel
  obtain ⟨q1, q2, q3, q4⟩ := q ⟨c, hc⟩
  exact (pair_small (chain_small (by omega) (by omega)).1 (chain_small (by omega) (by omega)).1 q1 q2 q3 q4 (chain_small (by omega) (by omega)).2 (chain_small (by omega) (by omega)).2 (by decide)).1
theorem turnbox_small : (turnL boxL).Small ∧ (turnL boxL).label.length ≤ 70 := by
  refine ⟨box_small.1.turn (by show 1 ≤ 3; decide) (Nat.le_trans box_small.2 (by decide)), ?_⟩
  have h := box_small.2
  show (("(turned " : Str) ++ boxL.label ++ (")" : Str)).length ≤ 70
  have o1 : ("(turned " : Str).length = 8 := rfl
  have o2 : (")" : Str).length = 1 := rfl
  rw [Str.length_append, Str.length_append]
  omega
theorem p2_small : (pairL (setsL 1) (turnL boxL)).Small := by
  have q : ∀ f : Nat → Nat → Bool, ∀ l : Str, ((List.range ((setsL 1).n * 4)).map (pairNm (setsL 1) { label := l, names := boxS, le := f, depth := 2 })).Nodup ∧ (∀ x ∈ (List.range ((setsL 1).n * 4)).map (pairNm (setsL 1) { label := l, names := boxS, le := f, depth := 2 }), x.length ≤ 40) := fun f l => by
    have e : ∀ k, pairNm (setsL 1) { label := l, names := boxS, le := f, depth := 2 } k = ("<" : Str) ++ (setsL 1).names.getD (k / 4) Str.empty ++ ("/" : Str) ++ boxS.getD (k % 4) Str.empty ++ (">" : Str) := fun k => rfl
    simp only [List.map_congr_left fun k _ => e k]
    decide +kernel
  obtain ⟨q1, q2⟩ := q (turnL boxL).le (turnL boxL).label
  exact (pair_small (m := 70) (sets_small (by decide)).1 turnbox_small.1 (by show 2 * 4 ≤ 9; decide) q1 q2 (by show foldD 1 [setsL 1, turnL boxL] ≤ 4; unfold foldD; decide) (Nat.le_trans (sets_small (by decide)).2 (by decide)) turnbox_small.2 (by decide)).1
theorem p3i_small : (pairL (chainL 2) (setsL 1)).Small ∧ (pairL (chainL 2) (setsL 1)).label.length ≤ 50 :=
  pair_small (m := 20) (chain_small (by decide) (by decide)).1 (sets_small (by decide)).1 (by decide +kernel) (by decide +kernel) (by decide +kernel) (by decide +kernel) (chain_small (by decide) (by decide)).2 (sets_small (by decide)).2 (by decide)
theorem p3_small : (pairL (pairL (chainL 2) (setsL 1)) (chainL 2)).Small :=
  (pair_small (m := 50) p3i_small.1 (chain_small (by decide) (by decide)).1 (by decide +kernel) (by decide +kernel) (by decide +kernel) (by decide +kernel) p3i_small.2 (Nat.le_trans (chain_small (by decide) (by decide)).2 (by decide)) (by decide)).1
/-- a lattice of the laws' own draw -/
def Menu (L : Lt) : Prop := ∃ c, c < 3 ∧ L ∈ menu c
theorem Menu.small {L : Lt} (h : Menu L) : L.Small := by
  obtain ⟨c, hc, h⟩ := h
  unfold menu at h
  simp only [List.mem_cons, List.not_mem_nil, or_false] at h
  rcases h with rfl | rfl | rfl | rfl | rfl | rfl | rfl | rfl | rfl | rfl | rfl
  · exact (chain_small (by omega) (by omega)).1
  · exact (chain_small (by omega) (by omega)).1
  · exact (sets_small (by omega)).1
  · exact (sets_small (by omega)).1
  · exact (abc_small hc).1
  · exact box_small.1
  · exact thr_small.1
  · exact (abc_small hc).1.turn (by show 1 ≤ 3; decide) (Nat.le_trans (abc_small hc).2 (by decide))
  · exact p1_small hc
  · exact p2_small
  · exact p3_small
/-! ### lattices made by C(..) -/
section
variable {K : PySem.W.Frag} {mm : List (Str × Addr)} {C : Addr} {H : Hp} {Q : VK} {E : XK}
theorem made_same2 {x dx : Addr} {H2 : Hp} {C : Addr} (hx : H x = none) (hd : H dx = none) (ne : dx ≠ x) (b : But x (upd (upd H dx (.own x)) x (.ins C dx [])) H2) : Same H H2 := fun z o e => by
  have n1 : z ≠ x := fun y => by rw [y, hx] at e; cases e
  have n2 : z ≠ dx := fun y => by rw [y, hd] at e; cases e
  exact b _ _ n1 (by rw [upd_ne n1, upd_ne n2]; exact e)
theorem in_same2 {x dx : Addr} {C : Addr} (hx : H x = none) (hd : H dx = none) : Same H (upd (upd H dx (.own x)) x (.ins C dx [])) := fun z o e => by
  have n1 : z ≠ x := fun y => by rw [y, hx] at e; cases e
  have n2 : z ≠ dx := fun y => by rw [y, hd] at e; cases e
  rw [upd_ne n1, upd_ne n2]; exact e
theorem IsLat.ne {z x : Addr} {L : Lt} (h : IsLat K mm H z L) (hx : H x = none) : z ≠ x := fun e => by
  obtain ⟨C, dx, fs, tn, td, tu, A⟩ := h
  have := A.at_
  rw [e, hx] at this
  cases this
theorem same_skip {H A B : Hp} {l : Addr} (s : Same H A) (hl : H l = none) (b : But l A B) : Same H B := fun z o e => b _ _ (fun y => by rw [y, hl] at e; cases e) (s _ _ e)
theorem IsLat.app {H' : Hp} {z l : Addr} {L : Lt} {xs : List V} (h : IsLat K mm H z L) (hl : H l = some (.lst xs)) (b : But l H H') : IsLat K mm H' z L := h.but b hl trivial fun e => by
  obtain ⟨C, dx, fs, tn, td, tu, A⟩ := h
  have := A.at_
  rw [e, hl] at this
  cases this
theorem mk_chain {i : Int} {n : Nat} (e : i = (n : Nat)) (h1 : 1 ≤ n) (h64 : n ≤ 64) {x dx : Addr} (hx : H x = none) (hd : H dx = none) (ne : dx ≠ x) (q : ∀ H2, Same H H2 → IsLat K mm H2 x (chainL n) → Q .non H2) :
    sp_chain K mm C [.ref x, .int i] (upd (upd H dx (.own x)) x (.ins C dx [])) Q E := by
  subst e
  exact ⟨x, dx, n, rfl, upd_same, h1, h64, fun H2 b hL => q H2 (made_same2 hx hd ne b) hL⟩
theorem mk_sets {i : Int} {n : Nat} (e : i = (n : Nat)) (h1 : 1 ≤ n) (h6 : n ≤ 6) {x dx : Addr} (hx : H x = none) (hd : H dx = none) (ne : dx ≠ x) (q : ∀ H2, Same H H2 → IsLat K mm H2 x (setsL n) → Q .non H2) :
    sp_sets K mm C [.ref x, .int i] (upd (upd H dx (.own x)) x (.ins C dx [])) Q E := by
  subst e
  exact ⟨x, dx, n, rfl, upd_same, h1, h6, fun H2 b hL => q H2 (made_same2 hx hd ne b) hL⟩
theorem mk_turn {z : Addr} {L : Lt} (hz : IsLat K mm H z L) (n64 : L.n ≤ 64) (d9 : L.depth ≤ 9) (d1 : 1 ≤ L.depth) (fit : L.Fit) {x dx : Addr} (hx : H x = none) (hd : H dx = none) (ne : dx ≠ x) (q : ∀ H2, Same H H2 → IsLat K mm H2 x (turnL L) → FldAt H2 x "inner" (.ref z) → Q .non H2) :
    sp_turn K mm C [.ref x, .ref z] (upd (upd H dx (.own x)) x (.ins C dx [])) Q E :=
  ⟨x, dx, z, L, rfl, upd_same, hz.same (in_same2 hx hd), hz.ne hx, n64, d9, d1, fit, fun H2 b hL f => q H2 (made_same2 hx hd ne b) hL f⟩
theorem mk_pairl {y z : Addr} {L R : Lt} (hy : IsLat K mm H y L) (hz : IsLat K mm H z R) (l1 : 1 ≤ L.n) (r1 : 1 ≤ R.n) (n64 : L.n * R.n ≤ 64) (dd : foldD 1 [L, R] ≤ 10) (fl : L.Fit) (fr : R.Fit)
    {x dx : Addr} (hx : H x = none) (hd : H dx = none) (ne : dx ≠ x) (q : ∀ H2, Same H H2 → IsLat K mm H2 x (pairL L R) → FldAt H2 x "left" (.ref y) → FldAt H2 x "right" (.ref z) → Q .non H2) :
    sp_pairl K mm C [.ref x, .ref y, .ref z] (upd (upd H dx (.own x)) x (.ins C dx [])) Q E :=
  ⟨x, dx, y, z, L, R, rfl, upd_same, hy.same (in_same2 hx hd), hz.same (in_same2 hx hd), hy.ne hx, hz.ne hx, l1, r1, n64, dd, fl, fr, fun H2 b hL f1 f2 => q H2 (made_same2 hx hd ne b) hL f1 f2⟩
theorem mk_order {a b : Addr} {xs : List Str} {ps : List (Nat × Nat)} {ob : HO} (ha : H a = some (.lst (xs.map V.str))) (hb : PairsAt K H b xs ps) (hob : H b = some ob) (n1 : 1 ≤ xs.length) (n16 : xs.length ≤ 16) (nd : xs.Nodup) (nw : ∀ x ∈ xs, NameW x) (pz : ps.length ≤ 1000)
    {x dx : Addr} (hx : H x = none) (hd : H dx = none) (ne : dx ≠ x) (q : ∀ H2, Same H H2 → IsLat K mm H2 x (orderL xs ps) → Q .non H2) :
    sp_order K mm C [.ref x, .ref a, .ref b] (upd (upd H dx (.own x)) x (.ins C dx [])) Q E :=
  ⟨x, dx, a, b, xs, ps, rfl, upd_same, SqL.of (K := K) (in_same2 hx hd _ _ ha), hb.same (in_same2 hx hd), fun z => (by rw [z, hx] at ha; cases ha), fun z => (by rw [z, hx] at hob; cases hob), n1, n16, nd, nw, pz, fun H2 b hL => q H2 (made_same2 hx hd ne b) hL⟩
theorem mk_downl {a b : Addr} {xs : List Str} {ps : List (Nat × Nat)} {ob : HO} (ha : H a = some (.lst (xs.map V.str))) (hb : PairsAt K H b xs ps) (hob : H b = some ob) (n1 : 1 ≤ xs.length) (n6 : xs.length ≤ 6) (nd : xs.Nodup) (nw : ∀ x ∈ xs, NameW x) (pz : ps.length ≤ 1000) (anti : Anti xs.length ps)
    {x dx : Addr} (hx : H x = none) (hd : H dx = none) (ne : dx ≠ x) (q : ∀ H2, Same H H2 → IsLat K mm H2 x (downL xs ps) → Q .non H2) :
    sp_downl K mm C [.ref x, .ref a, .ref b] (upd (upd H dx (.own x)) x (.ins C dx [])) Q E :=
  ⟨x, dx, a, b, xs, ps, rfl, upd_same, SqL.of (K := K) (in_same2 hx hd _ _ ha), hb.same (in_same2 hx hd), fun z => (by rw [z, hx] at ha; cases ha), fun z => (by rw [z, hx] at hob; cases hob), n1, n6, nd, nw, pz, anti, fun H2 b hL => q H2 (made_same2 hx hd ne b) hL⟩
end
/-! ### lists of places, compared -/
section
variable {K : PySem.W.Frag}
def natD (xs : List Nat) : List PyData := xs.map fun i => PyData.int (i : Nat)
theorem dpAll_nats {H : Hp} : ∀ xs : List Nat, DpAll K H (natV xs) (natD xs)
  | [] => .nil
  | x :: xs => .cons (.int _) (dpAll_nats xs)
theorem dp_nats {H : Hp} {a : Addr} {xs : List Nat} (h : SqL K H a (natV xs)) : Dp K H (.ref a) (.list (natD xs)) := .lst h (dpAll_nats xs)
theorem eqvAll_nats : ∀ xs ys : List Nat, PyData.eqvAll (natD xs) (natD ys) = decide (xs = ys)
  | [], [] => by simp [natD, PyData.eqvAll]
  | [], y :: ys => by simp [natD, PyData.eqvAll]
  | x :: xs, [] => by simp [natD, PyData.eqvAll]
  | x :: xs, y :: ys => by
    have h := eqvAll_nats xs ys
    unfold natD at h ⊢
    simp only [List.map_cons, PyData.eqvAll, PyData.eqv, h]
    by_cases c : x = y
    · subst c; simp
    · have : ((x : Nat) : Int) ≠ (y : Nat) := fun z => c (by omega)
      simp [c, this]
theorem eqv_nats (xs ys : List Nat) : PyData.eqv (.list (natD xs)) (.list (natD ys)) = decide (xs = ys) := by
  rw [← eqvAll_nats]
  simp [PyData.eqv]
theorem depth_nats : ∀ xs : List Nat, PyData.depthAll (natD xs) ≤ 1
  | [] => by simp [natD, PyData.depthAll]
  | x :: xs => by have := depth_nats xs; simp [natD, PyData.depthAll, PyData.depth] at this ⊢; omega
theorem lay_nats : ∀ xs : List Nat, PyData.canLayAll0 (natD xs) = true
  | [] => by simp [natD, PyData.canLayAll0]
  | x :: xs => by have := lay_nats xs; simp [natD, PyData.canLayAll0, PyData.canLay0] at this ⊢; exact this
theorem shp_nats {xs : List Nat} : Shp 190 (.list (natD xs)) :=
  ⟨by simp [PyData.canLay0, lay_nats xs], by have := depth_nats xs; simp [PyData.depth]; omega⟩
theorem if_end {c : TT} {t u : TS} {D : Ends} {σ : L2.St} {H : Hp} (Pv : Bool → Hp → Prop) (h : ∀ Q' : Bool → Hp → Prop, (∀ b H', Pv b H' → Q' b H') → c σ H Q')
    (q : ∀ b H', Pv b H' → if b = true then t D σ H' else u D σ H') : tIfS c t u D σ H := h _ fun b H' p => q b H' p
theorem nat_at {xs : List Nat} {j : Nat} {x : V} (hx : (natV xs)[j]? = some x) : ∃ b, xs[j]? = some b ∧ x = .int (b : Nat) := by
  unfold natV at hx
  rw [List.getElem?_map] at hx
  cases e : xs[j]? with
  | none => rw [e] at hx; cases hx
  | some b => rw [e] at hx; cases hx; exact ⟨b, rfl, rfl⟩
theorem ft_no {p : Nat → Bool} {xs : List Nat} {i c : Nat} (hc : xs[i]? = some c) (h : p c = false) : natV ((xs.take i).filter p) = natV ((xs.take (i + 1)).filter p) := by
  rw [List.take_add_one, hc, List.filter_append, show (some c).toList = [c] from rfl, List.filter_cons_of_neg (by rw [h]; decide), List.filter_nil, List.append_nil]
theorem ft_yes {p : Nat → Bool} {xs : List Nat} {i c : Nat} (hc : xs[i]? = some c) (h : p c = true) : natV ((xs.take i).filter p) ++ [V.int (c : Nat)] = natV ((xs.take (i + 1)).filter p) := by
  rw [List.take_add_one, hc, List.filter_append, show (some c).toList = [c] from rfl, List.filter_cons_of_pos h, List.filter_nil]
  unfold natV
  rw [List.map_append]
  rfl
theorem fr_no {p : Nat → Bool} {i : Nat} (h : p i = false) : natV ((List.range i).filter p) = natV ((List.range (i + 1)).filter p) := by
  rw [List.range_succ, List.filter_append, List.filter_cons_of_neg (by rw [h]; decide), List.filter_nil, List.append_nil]
theorem fr_yes {p : Nat → Bool} {i : Nat} (h : p i = true) : natV ((List.range i).filter p) ++ [V.int (i : Nat)] = natV ((List.range (i + 1)).filter p) := by
  rw [List.range_succ, List.filter_append, List.filter_cons_of_pos h, List.filter_nil]
  unfold natV
  rw [List.map_append]
  rfl
theorem inV_nats (x : Nat) : ∀ xs : List Nat, inV (.int (x : Nat)) (natV xs) = decide (x ∈ xs)
  | [] => rfl
  | y :: ys => by
    show (eqV (.int (y : Nat)) (.int (x : Nat)) || inV (.int (x : Nat)) (natV ys)) = _
    rw [inV_nats x ys, eqV_nat]
    by_cases h : y = x
    · subst h; simp
    · have h' : ¬ x = y := fun e => h e.symm
      simp [h, h']
theorem flat_nats : ∀ xs : List Nat, (natV xs).all flatV = true
  | [] => rfl
  | _ :: ys => flat_nats ys
theorem shp_int {i : Int} : Shp 190 (.int i) := ⟨by simp [PyData.canLay0], by simp [PyData.depth]⟩
theorem kit_ll : PySem.W.kitOne K (.type "list") (.type "list") = some true := kit_ty (by decide +kernel)
theorem Src.but {H H' : Hp} {p ce D : Addr} (s : Src K ce H p) (h1 : D ≠ p) (h2 : D ≠ ce) (b : But D H H') : Src K ce H' p := by
  obtain ⟨cs, i, l, m, S⟩ := s
  exact ⟨cs, i, l, m, ⟨b _ _ h1.symm S.at_, b.seq h2.symm S.cel, S.ne, S.hi, S.hl, S.hc, S.m0, S.m1⟩⟩
end
/-! ### irreducible values of a regular lattice -/
namespace Lt
variable {L : Lt}
/-- the join of a row of values -/
def sup (L : Lt) (xs : List Nat) : Nat := xs.foldl L.jn L.low
namespace Reg
variable (R : L.Reg)
include R
theorem fold_lt : ∀ (xs : List Nat) {z : Nat}, z < L.n → (∀ x ∈ xs, x < L.n) → xs.foldl L.jn z < L.n
  | [], _, h, _ => h
  | x :: xs, _, h, hs => fold_lt xs (R.jlt h (hs x (.head _))) fun y hy => hs y (.tail _ hy)
theorem fold_le : ∀ (xs : List Nat) {z i : Nat}, z < L.n → i < L.n → (∀ x ∈ xs, x < L.n) → (L.le (xs.foldl L.jn z) i = true ↔ L.le z i = true ∧ ∀ x ∈ xs, L.le x i = true)
  | [], z, i, h, hi, _ => ⟨fun g => ⟨g, fun _ y => nomatch y⟩, fun g => g.1⟩
  | x :: xs, z, i, h, hi, hs => by
    have hx := hs x (.head _)
    rw [List.foldl_cons, fold_le xs (R.jlt h hx) hi fun y hy => hs y (.tail _ hy), R.jle h hx hi, Bool.and_eq_true]
    constructor
    · rintro ⟨⟨g1, g2⟩, g3⟩
      exact ⟨g1, fun y hy => by cases hy with
        | head => exact g2
        | tail _ q => exact g3 y q⟩
    · rintro ⟨g1, g2⟩
      exact ⟨⟨g1, g2 x (.head _)⟩, fun y hy => g2 y (.tail _ hy)⟩
theorem sup_lt {xs : List Nat} (h : ∀ x ∈ xs, x < L.n) : L.sup xs < L.n := R.fold_lt xs R.isLow.2.1 h
theorem sup_le {xs : List Nat} {i : Nat} (hi : i < L.n) (h : ∀ x ∈ xs, x < L.n) : L.le (L.sup xs) i = true ↔ ∀ x ∈ xs, L.le x i = true := by
  unfold sup
  rw [R.fold_le xs R.isLow.2.1 hi h]
  exact ⟨fun g => g.2, fun g => ⟨R.isLow.2.2 i hi, g⟩⟩
theorem le_sup {xs : List Nat} {x : Nat} (h : ∀ x ∈ xs, x < L.n) (hx : x ∈ xs) : L.le x (L.sup xs) = true :=
  (R.sup_le (R.sup_lt h) h).mp (R.refl (R.sup_lt h)) x hx
theorem irr_low : L.irr L.low = false := Bool.eq_false_iff.mpr fun h => by
  obtain ⟨k, hk, hl⟩ := (irr_iff L _).mp h
  have h1 := hl k hk
  rw [R.refl hk] at h1
  rw [Bool.true_eq, Bool.and_eq_true, Bool.not_eq_true', beq_eq_false_iff_ne] at h1
  exact h1.2 (R.ord.anti k L.low hk R.isLow.2.1 h1.1 (R.isLow.2.2 k hk))
theorem irr_not {p k : Nat} (hp : p < L.n) (hl : ∀ i, i < L.n → L.le i k = (L.le i p && !(i == p))) : L.le p k = false := by
  rw [hl p hp, beq_self_eq_true]
  exact Bool.and_false _
/-- one within a join lies within one side -/
theorem irr_prime {p a b : Nat} (hp : p < L.n) (ha : a < L.n) (hb : b < L.n) (h : L.irr p = true) : L.le p (L.jn a b) = (L.le p a || L.le p b) := by
  rw [Bool.eq_iff_iff, Bool.or_eq_true]
  constructor
  · intro g
    obtain ⟨k, hk, hl⟩ := (irr_iff L p).mp h
    have np := R.irr_not hp hl
    have cut : ∀ {x}, x < L.n → L.le p x ≠ true → L.le (L.mt p x) k = true := fun {x} hx nx => by
      rw [hl _ (R.mlt hp hx), (R.ml hp hx).1, Bool.true_and, Bool.not_eq_true', beq_eq_false_iff_ne]
      exact fun e => nx ((R.le_m hp hx).mpr e)
    by_cases ca : L.le p a = true
    · exact .inl ca
    · by_cases cb : L.le p b = true
      · exact .inr cb
      · exfalso
        have e := (R.le_m hp (R.jlt ha hb)).mp g
        rw [R.mdist hp ha hb] at e
        have : L.le (L.jn (L.mt p a) (L.mt p b)) k = true := by rw [R.jle (R.mlt hp ha) (R.mlt hp hb) hk, cut ha ca, cut hb cb]; rfl
        rw [e, np] at this
        cases this
  · rintro (g | g)
    · exact R.trans p a _ hp ha (R.jlt ha hb) g (R.jl ha hb).1
    · exact R.trans p b _ hp hb (R.jlt ha hb) g (R.jl ha hb).2
theorem irr_join {a b : Nat} (ha : a < L.n) (hb : b < L.n) (h : L.irr (L.jn a b) = true) : L.jn a b = a ∨ L.jn a b = b := by
  have hj := R.jlt ha hb
  have := R.irr_prime hj ha hb h
  rw [R.refl hj, Bool.true_eq, Bool.or_eq_true] at this
  rcases this with g | g
  · exact .inl (R.ord.anti _ _ hj ha g (R.jl ha hb).1)
  · exact .inr (R.ord.anti _ _ hj hb g (R.jl ha hb).2)
theorem irrs_lt {x : Nat} (h : x ∈ L.irrs) : x < L.n := List.mem_range.mp (List.mem_filter.mp h).1
theorem mem_irrs {x : Nat} : x ∈ L.irrs ↔ x < L.n ∧ L.irr x = true := by
  unfold irrs
  rw [List.mem_filter, List.mem_range]
theorem le_lt {a b : Nat} (ha : a < L.n) (hb : b < L.n) (h : L.le b a = true) (ne : b ≠ a) : ((List.range L.n).filter fun x => L.le x b).length < ((List.range L.n).filter fun x => L.le x a).length := by
  refine filter_len_lt (fun x hx g => R.trans x b a (List.mem_range.mp hx) hb ha g h) ⟨a, List.mem_range.mpr ha, ?_, R.refl ha⟩
  exact Bool.eq_false_iff.mpr fun g => ne (R.ord.anti b a hb ha h g)
/-- every value is the join of the irreducible ones within it -/
theorem sup_irrs {a : Nat} (ha : a < L.n) : L.sup (L.irrs.filter fun p => L.le p a) = a := by
  have lt : ∀ a, ∀ x ∈ L.irrs.filter (fun p => L.le p a), x < L.n := fun a x hx => R.irrs_lt (List.mem_filter.mp hx).1
  have key : ∀ k a, a < L.n → ((List.range L.n).filter fun x => L.le x a).length ≤ k → L.le a (L.sup (L.irrs.filter fun p => L.le p a)) = true := fun k => by
    induction k with
    | zero =>
      intro a ha hk
      have := List.length_pos_of_mem (List.mem_filter.mpr ⟨List.mem_range.mpr ha, R.refl ha⟩ : a ∈ (List.range L.n).filter fun x => L.le x a)
      omega
    | succ k ih =>
      intro a ha hk
      have ht := R.sup_lt (lt a)
      have ta : L.le (L.sup (L.irrs.filter fun p => L.le p a)) a = true := (R.sup_le ha (lt a)).mpr fun x hx => (List.mem_filter.mp hx).2
      by_cases ne : L.sup (L.irrs.filter fun p => L.le p a) = a
      · rw [ne]; exact R.refl ha
      · refine R.le_sup (lt a) (List.mem_filter.mpr ⟨R.mem_irrs.mpr ⟨ha, (irr_iff L a).mpr ⟨_, ht, fun b hb => ?_⟩⟩, R.refl ha⟩)
        rw [Bool.eq_iff_iff, Bool.and_eq_true, Bool.not_eq_true', beq_eq_false_iff_ne]
        constructor
        · intro g
          refine ⟨R.trans b _ a hb ht ha g ta, fun e => ?_⟩
          rw [e] at g
          exact ne (R.ord.anti _ _ ht ha ta g)
        · rintro ⟨g, nb⟩
          have h1 := ih b hb (by have := R.le_lt ha hb g nb; omega)
          refine R.trans b _ _ hb (R.sup_lt (lt b)) ht h1 ((R.sup_le ht (lt b)).mpr fun x hx => R.le_sup (lt a) ?_)
          obtain ⟨m1, m2⟩ := List.mem_filter.mp hx
          exact List.mem_filter.mpr ⟨m1, R.trans x b a (R.irrs_lt m1) hb ha m2 g⟩
  refine R.ord.anti _ _ (R.sup_lt (lt a)) ha ((R.sup_le ha (lt a)).mpr fun x hx => (List.mem_filter.mp hx).2) (key _ a ha (Nat.le_refl _))
theorem irrs_inj {a b : Nat} (ha : a < L.n) (hb : b < L.n) (h : L.irrs.filter (fun p => L.le p a) = L.irrs.filter (fun p => L.le p b)) : a = b := by
  rw [← R.sup_irrs ha, h, R.sup_irrs hb]
end Reg
end Lt
/-! ### their number in lattices of down-sets -/
section
theorem irr_count {L : Lt} {m : Nat} (f : Nat → Nat) (h1 : ∀ c, c < m → f c < L.n ∧ L.irr (f c) = true) (inj : ∀ c d, c < m → d < m → f c = f d → c = d) (h2 : ∀ i, i < L.n → L.irr i = true → ∃ c, c < m ∧ f c = i) : L.irrs.length = m := by
  have nd : ((List.range m).map f).Nodup := by
    rw [List.nodup_iff_pairwise_ne, List.pairwise_map]
    exact List.nodup_range.imp_of_mem fun {a b} ha hb ne e => ne (inj a b (List.mem_range.mp ha) (List.mem_range.mp hb) e)
  have nd2 : L.irrs.Nodup := List.nodup_range.filter _
  have p : L.irrs.Perm ((List.range m).map f) := (List.perm_ext_iff_of_nodup nd2 nd).mpr fun i => by
    unfold Lt.irrs
    rw [List.mem_filter, List.mem_range, List.mem_map]
    constructor
    · rintro ⟨hi, hr⟩
      obtain ⟨c, hc, e⟩ := h2 i hi hr
      exact ⟨c, List.mem_range.mpr hc, e⟩
    · rintro ⟨c, hc, rfl⟩
      exact h1 c (List.mem_range.mp hc)
  rw [p.length_eq, List.length_map, List.length_range]
theorem pr_mem {n : Nat} {ps : List (Nat × Nat)} (p : Nat → Bool) (h : ∀ a b, a < n → b < n → Reach ps b a → p a = true → p b = true) : mask n p ∈ heaps n ps :=
  heap_mem.mpr ⟨mask_lt p n, fun a ha m b hb r => by
    rw [mask_bit, decide_eq_true ha, Bool.true_and] at m
    rw [mask_bit, decide_eq_true hb, Bool.true_and]
    exact h a b ha hb r m⟩
theorem at_bit {n i : Nat} {p : Nat → Bool} (h : i < n) : (mask n p).testBit i = p i := by rw [mask_bit, decide_eq_true h, Bool.true_and]
theorem part_in {n a b : Nat} (h : a < 2 ^ n) : part a b = true ↔ ∀ j, j < n → a.testBit j = true → b.testBit j = true :=
  part_bits.trans ⟨fun g j _ => g j, fun g j hj => g j (Nat.lt_of_not_le fun l => by rw [Nat.testBit_lt_two_pow (Nat.lt_of_lt_of_le h (Nat.pow_le_pow_right (by decide) l))] at hj; cases hj) hj⟩
theorem reachB_self {ps : List (Nat × Nat)} {c : Nat} : reachB ps c c = true := reachB_iff.mpr .here
theorem down_count {xs : List Str} {ps : List (Nat × Nat)} (A : Anti xs.length ps) : (downL xs ps).irrs.length = xs.length := by
  have R := down_reg xs ps
  have W := down_ring xs.length ps
  have hn := downL_n xs ps
  have le : ∀ i j, (downL xs ps).le i j = part ((heaps xs.length ps).getD i 0) ((heaps xs.length ps).getD j 0) := fun _ _ => rfl
  generalize xs.length = n at *
  generalize downL xs ps = L at *
  generalize hH : heaps n ps = hs at *
  have lt : ∀ {i}, i < L.n → hs.getD i 0 < 2 ^ n := fun hi => W.lt _ (getD_mem (hn ▸ hi))
  have hp : ∀ {i a b}, i < L.n → a < n → b < n → Reach ps b a → (hs.getD i 0).testBit a = true → (hs.getD i 0).testBit b = true := fun {i a b} hi ha hb r z => by
    have m : hs.getD i 0 ∈ heaps n ps := by rw [hH]; exact getD_mem (hn ▸ hi)
    exact (heap_mem.mp m).2 a ha z b hb r
  have idx : ∀ {g}, g ∈ heaps n ps → ∃ i, i < L.n ∧ hs.getD i 0 = g := fun {g} h => by
    rw [hH] at h
    obtain ⟨i, hi, e⟩ := mem_getD h
    exact ⟨i, hn ▸ hi, e⟩
  have inj : ∀ {i j}, i < L.n → j < L.n → hs.getD i 0 = hs.getD j 0 → i = j := fun hi hj e => getD_inj W.nd (hn ▸ hi) (hn ▸ hj) e
  obtain ⟨f, hf⟩ : ∃ f : Nat → Nat, ∀ c, c < n → f c < L.n ∧ hs.getD (f c) 0 = mask n (fun a => reachB ps a c) := (Classical.skolem (b := fun _ => Nat) (p := fun c i => c < n → i < L.n ∧ hs.getD i 0 = mask n (fun a => reachB ps a c))).mp fun c => by
    obtain ⟨i, hi, e⟩ := idx (pr_mem (n := n) (fun a => reachB ps a c) fun a b _ _ r z => reachB_iff.mpr (r.trans (reachB_iff.mp z)))
    exact ⟨i, fun _ => ⟨hi, e⟩⟩
  refine irr_count f (fun c hc => ⟨(hf c hc).1, (Lt.irr_iff L _).mpr ?_⟩) (fun c d hc hd e => ?_) (fun i hi h => ?_)
  · obtain ⟨k, hk, ek⟩ := idx (pr_mem (n := n) (fun a => reachB ps a c && !(a == c)) fun a b ha hb r z => by
      rw [Bool.and_eq_true, Bool.not_eq_true', beq_eq_false_iff_ne] at z ⊢
      refine ⟨reachB_iff.mpr (r.trans (reachB_iff.mp z.1)), fun e => z.2 ?_⟩
      subst e
      exact A a b ha hb (reachB_iff.mp z.1) r)
    refine ⟨k, hk, fun i hi => ?_⟩
    obtain ⟨h1, h2⟩ := hf c hc
    rw [le, le, ek, h2, Bool.eq_iff_iff, Bool.and_eq_true, Bool.not_eq_true', beq_eq_false_iff_ne, part_in (lt hi), part_in (lt hi)]
    constructor
    · intro g
      refine ⟨fun j hj z => ?_, fun e => ?_⟩
      · have := g j hj z
        rw [at_bit hj, Bool.and_eq_true] at this
        rw [at_bit hj]
        exact this.1
      · have := g c hc (by rw [e, h2, at_bit hc]; exact reachB_self)
        rw [at_bit hc, beq_self_eq_true] at this
        simp at this
    · rintro ⟨g, ne⟩ j hj z
      rw [at_bit hj, Bool.and_eq_true, Bool.not_eq_true', beq_eq_false_iff_ne]
      have gj := g j hj z
      rw [at_bit hj] at gj
      refine ⟨gj, fun e => ne ?_⟩
      subst e
      refine inj hi h1 (part_anti ((part_in (lt hi)).mpr ?_) ((part_in (lt h1)).mpr fun a ha za => ?_))
      · rw [h2]; exact g
      · rw [h2, at_bit ha] at za
        exact hp hi hj ha (reachB_iff.mp za) z
  · have e := (hf c hc).2.symm.trans ((congrArg (fun i => hs.getD i 0) e).trans (hf d hd).2)
    have e := mask_eq.mp e
    have e1 := e c hc
    have e2 := e d hd
    rw [reachB_self] at e1 e2
    exact A c d hc hd (reachB_iff.mp e1.symm) (reachB_iff.mp e2)
  · obtain ⟨k, hk, hl⟩ := (Lt.irr_iff L i).mp h
    have np := R.irr_not hi hl
    obtain ⟨c, hc, z1, z2⟩ : ∃ c, c < n ∧ (hs.getD i 0).testBit c = true ∧ (hs.getD k 0).testBit c ≠ true := Classical.byContradiction fun no => by
      have : L.le i k = true := by
        rw [le, part_in (lt hi)]
        exact fun j hj z => Classical.byContradiction fun y => no ⟨j, hj, z, y⟩
      rw [np] at this
      cases this
    obtain ⟨h1, h2⟩ := hf c hc
    refine ⟨c, hc, Classical.byContradiction fun ne => z2 ?_⟩
    have l1 : L.le (f c) i = true := by
      rw [le, part_in (lt h1), h2]
      intro a ha za
      rw [at_bit ha] at za
      exact hp hi hc ha (reachB_iff.mp za) z1
    have l2 : L.le (f c) k = true := by
      rw [hl _ h1, l1, beq_false_of_ne ne]
      rfl
    rw [le, part_in (lt h1), h2] at l2
    exact l2 c hc (by rw [at_bit hc]; exact reachB_self)
theorem downT_count {xs : List Str} {ps : List (Nat × Nat)} (A : Anti xs.length ps) : (turnL (downL xs ps)).irrs.length = xs.length := by
  have R := (down_reg xs ps).turn
  have W := down_ring xs.length ps
  have hn : (turnL (downL xs ps)).n = _ := downL_n xs ps
  have le : ∀ i j, (turnL (downL xs ps)).le i j = part ((heaps xs.length ps).getD j 0) ((heaps xs.length ps).getD i 0) := fun _ _ => rfl
  generalize xs.length = n at *
  generalize turnL (downL xs ps) = L at *
  generalize hH : heaps n ps = hs at *
  have lt : ∀ {i}, i < L.n → hs.getD i 0 < 2 ^ n := fun hi => W.lt _ (getD_mem (hn ▸ hi))
  have hp : ∀ {i a b}, i < L.n → a < n → b < n → Reach ps b a → (hs.getD i 0).testBit a = true → (hs.getD i 0).testBit b = true := fun {i a b} hi ha hb r z => by
    have m : hs.getD i 0 ∈ heaps n ps := by rw [hH]; exact getD_mem (hn ▸ hi)
    exact (heap_mem.mp m).2 a ha z b hb r
  have idx : ∀ {g}, g ∈ heaps n ps → ∃ i, i < L.n ∧ hs.getD i 0 = g := fun {g} h => by
    rw [hH] at h
    obtain ⟨i, hi, e⟩ := mem_getD h
    exact ⟨i, hn ▸ hi, e⟩
  have inj : ∀ {i j}, i < L.n → j < L.n → hs.getD i 0 = hs.getD j 0 → i = j := fun hi hj e => getD_inj W.nd (hn ▸ hi) (hn ▸ hj) e
  obtain ⟨f, hf⟩ : ∃ f : Nat → Nat, ∀ c, c < n → f c < L.n ∧ hs.getD (f c) 0 = mask n (fun a => !reachB ps c a) := (Classical.skolem (b := fun _ => Nat) (p := fun c i => c < n → i < L.n ∧ hs.getD i 0 = mask n (fun a => !reachB ps c a))).mp fun c => by
    obtain ⟨i, hi, e⟩ := idx (pr_mem (n := n) (fun a => !reachB ps c a) fun a b _ _ r z => by
      rw [Bool.not_eq_true'] at z ⊢
      exact Bool.eq_false_iff.mpr fun y => by
        have := reachB_iff.mpr ((reachB_iff.mp y).trans r)
        rw [z] at this; cases this)
    exact ⟨i, fun _ => ⟨hi, e⟩⟩
  refine irr_count f (fun c hc => ⟨(hf c hc).1, (Lt.irr_iff L _).mpr ?_⟩) (fun c d hc hd e => ?_) (fun i hi h => ?_)
  · obtain ⟨k, hk, ek⟩ := idx (pr_mem (n := n) (fun a => !reachB ps c a || a == c) fun a b ha hb r z => by
      rw [Bool.or_eq_true, Bool.not_eq_true', beq_iff_eq] at z ⊢
      rcases z with z | z
      · exact .inl (Bool.eq_false_iff.mpr fun y => by
          have := reachB_iff.mpr ((reachB_iff.mp y).trans r)
          rw [z] at this; cases this)
      · subst z
        by_cases y : reachB ps a b = true
        · exact .inr (A b a hb ha r (reachB_iff.mp y))
        · exact .inl (Bool.eq_false_iff.mpr y))
    refine ⟨k, hk, fun i hi => ?_⟩
    obtain ⟨h1, h2⟩ := hf c hc
    rw [le, le, Bool.eq_iff_iff, Bool.and_eq_true, Bool.not_eq_true', beq_eq_false_iff_ne, part_in (lt hk), part_in (lt h1), ek, h2]
    constructor
    · intro g
      refine ⟨fun j hj z => ?_, fun e => ?_⟩
      · rw [at_bit hj] at z
        exact g j hj (by rw [at_bit hj, z]; rfl)
      · have := g c hc (by rw [at_bit hc, beq_self_eq_true, Bool.or_true])
        rw [e, h2, at_bit hc, reachB_self] at this
        cases this
    · rintro ⟨g, ne⟩ j hj z
      rw [at_bit hj, Bool.or_eq_true, beq_iff_eq] at z
      rcases z with z | z
      · exact g j hj (by rw [at_bit hj]; exact z)
      · subst z
        refine Classical.byContradiction fun y => ne (inj hi h1 (part_anti ((part_in (lt hi)).mpr fun a ha za => ?_) ((part_in (lt h1)).mpr ?_)))
        · rw [h2, at_bit ha, Bool.not_eq_true']
          exact Bool.eq_false_iff.mpr fun w => y (hp hi ha hj (reachB_iff.mp w) za)
        · rw [h2]; exact g
  · have e := (hf c hc).2.symm.trans ((congrArg (fun i => hs.getD i 0) e).trans (hf d hd).2)
    have e := mask_eq.mp e
    have e1 := e c hc
    have e2 := e d hd
    rw [reachB_self] at e1 e2
    have e1 : reachB ps d c = true := by cases h : reachB ps d c <;> simp [h] at e1 ⊢
    have e2 : reachB ps c d = true := by cases h : reachB ps c d <;> simp [h] at e2 ⊢
    exact A c d hc hd (reachB_iff.mp e2) (reachB_iff.mp e1)
  · obtain ⟨k, hk, hl⟩ := (Lt.irr_iff L i).mp h
    have np := R.irr_not hi hl
    obtain ⟨c, hc, z1, z2⟩ : ∃ c, c < n ∧ (hs.getD k 0).testBit c = true ∧ (hs.getD i 0).testBit c ≠ true := Classical.byContradiction fun no => by
      have : L.le i k = true := by
        rw [le, part_in (lt hk)]
        exact fun j hj z => Classical.byContradiction fun y => no ⟨j, hj, z, y⟩
      rw [np] at this
      cases this
    obtain ⟨h1, h2⟩ := hf c hc
    refine ⟨c, hc, Classical.byContradiction fun ne => ?_⟩
    have l1 : L.le (f c) i = true := by
      rw [le, part_in (lt hi), h2]
      intro a ha za
      rw [at_bit ha, Bool.not_eq_true']
      exact Bool.eq_false_iff.mpr fun w => z2 (hp hi ha hc (reachB_iff.mp w) za)
    have l2 : L.le (f c) k = true := by
      rw [hl _ h1, l1, beq_false_of_ne ne]
      rfl
    rw [le, part_in (lt hk), h2] at l2
    have := l2 c hc z1
    rw [at_bit hc, reachB_self] at this
    cases this
end
/-! ### values of formulas by rounds: the plain law -/
/-- all names of values in it keep V -/
def Fm.Vs (V : Str → Prop) : Fm → Prop
  | .lit _ | .mark _ | .name _ => True
  | .val s => V s
  | .bin _ l r => l.Vs V ∧ r.Vs V
  | .un _ a => a.Vs V
  | .fix _ _ a => a.Vs V
/-- its marks keep p -/
def Fm.Ms (p : Str → Prop) : Fm → Prop
  | .lit _ | .val _ | .name _ => True
  | .mark m => p m
  | .bin _ l r => l.Ms p ∧ r.Ms p
  | .un _ a => a.Ms p
  | .fix _ _ a => a.Ms p
/-- its names, bound or free, keep p -/
def Fm.Ns (p : Str → Prop) : Fm → Prop
  | .lit _ | .val _ | .mark _ => True
  | .name x => p x
  | .bin _ l r => l.Ns p ∧ r.Ns p
  | .un _ a => a.Ns p
  | .fix _ x a => p x ∧ a.Ns p
theorem Fm.Ns.mono {p q : Str → Prop} (h : ∀ x, p x → q x) {f : Fm} : f.Ns p → f.Ns q := by
  induction f with
  | lit _ | val _ | mark _ => exact fun _ => trivial
  | name x => exact h x
  | bin b l r il ir => exact fun a => ⟨il a.1, ir a.2⟩
  | un b a ih => exact ih
  | fix b x a ih => exact fun a => ⟨h _ a.1, ih a.2⟩
theorem Fm.Ms.mono {p q : Str → Prop} (h : ∀ x, p x → q x) {f : Fm} : f.Ms p → f.Ms q := by
  induction f with
  | lit _ | val _ | name _ => exact fun _ => trivial
  | mark x => exact h x
  | bin b l r il ir => exact fun a => ⟨il a.1, ir a.2⟩
  | un b a ih => exact ih
  | fix b x a ih => exact ih
theorem Fm.Vs.mono {p q : Str → Prop} (h : ∀ x, p x → q x) {f : Fm} : f.Vs p → f.Vs q := by
  induction f with
  | lit _ | mark _ | name _ => exact fun _ => trivial
  | val x => exact h x
  | bin b l r il ir => exact fun a => ⟨il a.1, ir a.2⟩
  | un b a ih => exact ih
  | fix b x a ih => exact ih
namespace Lt
/-- a value at each state -/
abbrev Vl := Str → Nat
/-- a value for each name, at each state -/
abbrev En := Str → Vl
def put (e : En) (x : Str) (v : Vl) : En := fun y => if y = x then v else e y
def iter (F : Vl → Vl) (b : Vl) : Nat → Vl
  | 0 => b
  | k + 1 => F (iter F b k)
/-- what a system tells: the marks, some and all -/
structure Fr where
  st : List Str
  ma : Str → Vl
  sm : Vl → Vl
  al : Vl → Vl
/-- the place of a name -/
def idx (L : Lt) (x : Str) : Nat := (L.names.idxOf x)
def den (L : Lt) (S : Fr) : Fm → En → Vl
  | .lit b, _ => fun _ => if b then L.high else L.low
  | .val x, _ => fun _ => L.idx x
  | .mark m, _ => S.ma m
  | .name x, e => e x
  | .bin b f g, e => fun s => if b then L.mt (den L S f e s) (den L S g e s) else L.jn (den L S f e s) (den L S g e s)
  | .un b f, e => if b then S.sm (den L S f e) else S.al (den L S f e)
  | .fix b x f, e => iter (fun v => den L S f (put e x v)) (fun _ => if b then L.low else L.high) (S.st.length * L.n)
variable {L : Lt}
/-- within, at all states -/
def Vle (L : Lt) (st : List Str) (v w : Vl) : Prop := ∀ s ∈ st, L.le (v s) (w s) = true
def Vok (L : Lt) (v : Vl) : Prop := ∀ s, v s < L.n
def Eok (L : Lt) (e : En) : Prop := ∀ x, Vok L (e x)
def Ele (L : Lt) (st : List Str) (e e' : En) : Prop := ∀ x, Vle L st (e x) (e' x)
theorem Eok.put {e : En} (h : Eok L e) {v : Vl} (hv : Vok L v) (x : Str) : Eok L (put e x v) := fun y => by
  unfold Lt.put
  split
  · exact hv
  · exact h y
theorem Ele.put {st : List Str} {e e' : En} (h : Ele L st e e') {v w : Vl} (hv : Vle L st v w) (x : Str) : Ele L st (put e x v) (put e' x w) := fun y => by
  unfold Lt.put
  by_cases c : y = x
  · rw [if_pos c, if_pos c]; exact hv
  · rw [if_neg c, if_neg c]; exact h y
/-- a frame of a lattice -/
structure Fr.Ok (L : Lt) (S : Fr) : Prop where
  ma : ∀ m, Vok L (S.ma m)
  sm : ∀ v, Vok L v → Vok L (S.sm v)
  al : ∀ v, Vok L v → Vok L (S.al v)
/-- a frame below another one -/
structure Fr.Le (L : Lt) (S S' : Fr) : Prop where
  st : S.st = S'.st
  ma : ∀ m, Vle L S.st (S.ma m) (S'.ma m)
  sm : ∀ v w, Vok L v → Vok L w → Vle L S.st v w → Vle L S.st (S.sm v) (S'.sm w)
  al : ∀ v w, Vok L v → Vok L w → Vle L S.st v w → Vle L S.st (S.al v) (S'.al w)
theorem iter_ok {F : Vl → Vl} (h : ∀ v, Vok L v → Vok L (F v)) {b : Vl} (hb : Vok L b) : ∀ k, Vok L (iter F b k)
  | 0 => hb
  | k + 1 => h _ (iter_ok h hb k)
def VIn (L : Lt) (x : Str) : Prop := x ∈ L.names
theorem idx_lt {x : Str} (h : x ∈ L.names) : L.idx x < L.n := List.idxOf_lt_length_of_mem h
theorem ends_ok (R : L.Reg) (b : Bool) : (if b then L.low else L.high) < L.n := by
  cases b
  · exact R.isHigh.2.1
  · exact R.isLow.2.1
theorem den_ok (R : L.Reg) {S : Fr} (ok : S.Ok L) : ∀ (f : Fm) {e : En}, f.Vs (· ∈ L.names) → Eok L e → Vok L (den L S f e)
  | .lit b, _, _, _ => fun _ => by
    cases b
    · exact R.isLow.2.1
    · exact R.isHigh.2.1
  | .val x, _, h, _ => fun _ => idx_lt h
  | .mark m, _, _, _ => ok.ma m
  | .name x, _, _, he => he x
  | .bin b f g, _, h, he => fun s => by
    have h1 := den_ok R ok f h.1 he s
    have h2 := den_ok R ok g h.2 he s
    cases b
    · exact R.jlt h1 h2
    · exact R.mlt h1 h2
  | .un b f, _, h, he => by
    have h1 := den_ok R ok f h he
    cases b
    · exact ok.al _ h1
    · exact ok.sm _ h1
  | .fix b x f, _, h, he => iter_ok (fun v hv => den_ok R ok f h (he.put hv x)) (fun _ => ends_ok R b) _
theorem jn_mono (R : L.Reg) {a b c d : Nat} (ha : a < L.n) (hb : b < L.n) (hc : c < L.n) (hd : d < L.n) (h1 : L.le a c = true) (h2 : L.le b d = true) : L.le (L.jn a b) (L.jn c d) = true := by
  have hj := R.jlt hc hd
  rw [R.jle ha hb hj, R.trans a c _ ha hc hj h1 (R.jl hc hd).1, R.trans b d _ hb hd hj h2 (R.jl hc hd).2]
  rfl
theorem mt_mono (R : L.Reg) {a b c d : Nat} (ha : a < L.n) (hb : b < L.n) (hc : c < L.n) (hd : d < L.n) (h1 : L.le a c = true) (h2 : L.le b d = true) : L.le (L.mt a b) (L.mt c d) = true := by
  have hm := R.mlt ha hb
  rw [R.mle hc hd hm, R.trans _ a c hm ha hc (R.ml ha hb).1 h1, R.trans _ b d hm hb hd (R.ml ha hb).2 h2]
  rfl
theorem iter_mono {st : List Str} {F G : Vl → Vl} (hF : ∀ v, Vok L v → Vok L (F v)) (hG : ∀ v, Vok L v → Vok L (G v)) (h : ∀ v w, Vok L v → Vok L w → Vle L st v w → Vle L st (F v) (G w)) {b c : Vl} (hb : Vok L b) (hc : Vok L c) (bc : Vle L st b c) : ∀ k, Vle L st (iter F b k) (iter G c k)
  | 0 => bc
  | k + 1 => h _ _ (iter_ok hF hb k) (iter_ok hG hc k) (iter_mono hF hG h hb hc bc k)
theorem den_mono (R : L.Reg) {S S' : Fr} (ok : S.Ok L) (ok' : S'.Ok L) (le : S.Le L S') : ∀ (f : Fm) {e e' : En}, f.Vs (· ∈ L.names) → Eok L e → Eok L e' → Ele L S.st e e' → Vle L S.st (den L S f e) (den L S' f e')
  | .lit b, _, _, _, _, _, _ => fun _ _ => by
    cases b
    · exact R.refl R.isLow.2.1
    · exact R.refl R.isHigh.2.1
  | .val x, _, _, h, _, _, _ => fun _ _ => R.refl (idx_lt h)
  | .mark m, _, _, _, _, _, _ => le.ma m
  | .name x, _, _, _, _, _, hl => hl x
  | .bin b f g, _, _, h, he, he', hl => fun s hs => by
    have h1 := den_mono R ok ok' le f h.1 he he' hl s hs
    have h2 := den_mono R ok ok' le g h.2 he he' hl s hs
    have a1 := den_ok R ok f h.1 he s
    have a2 := den_ok R ok g h.2 he s
    have b1 := den_ok R ok' f h.1 he' s
    have b2 := den_ok R ok' g h.2 he' s
    cases b
    · exact jn_mono R a1 a2 b1 b2 h1 h2
    · exact mt_mono R a1 a2 b1 b2 h1 h2
  | .un b f, _, _, h, he, he', hl => by
    have h1 := den_mono R ok ok' le f h he he' hl
    have a1 := den_ok R ok f h he
    have b1 := den_ok R ok' f h he'
    cases b
    · exact le.al _ _ a1 b1 h1
    · exact le.sm _ _ a1 b1 h1
  | .fix b x f, e, e', h, he, he', hl => by
    show Vle L S.st (iter _ _ (S.st.length * L.n)) (iter _ _ (S'.st.length * L.n))
    rw [← le.st]
    exact iter_mono (fun v hv => den_ok R ok f h (he.put hv x)) (fun v hv => den_ok R ok' f h (he'.put hv x))
      (fun v w hv hw hvw => den_mono R ok ok' le f h (he.put hv x) (he'.put hw x) (hl.put hvw x)) (fun _ => ends_ok R b) (fun _ => ends_ok R b) (fun _ _ => R.refl (ends_ok R b)) _
/-! #### agreement at the states -/
def Agree (st : List Str) (v w : Vl) : Prop := ∀ s ∈ st, v s = w s
/-- a frame looks at the states alone -/
def Fr.Local (L : Lt) (S : Fr) : Prop := ∀ v w, Agree S.st v w → Agree S.st (S.sm v) (S.sm w) ∧ Agree S.st (S.al v) (S.al w)
theorem put_agree {st : List Str} {e e' : En} (h : ∀ x, Agree st (e x) (e' x)) {v w : Vl} (hv : Agree st v w) (x y : Str) : Agree st (put e x v y) (put e' x w y) := by
  unfold Lt.put
  by_cases c : y = x
  · rw [if_pos c, if_pos c]; exact hv
  · rw [if_neg c, if_neg c]; exact h y
theorem den_agree {S : Fr} (lo : S.Local L) : ∀ (f : Fm) {e e' : En}, (∀ x, Agree S.st (e x) (e' x)) → Agree S.st (den L S f e) (den L S f e')
  | .lit _, _, _, _ | .val _, _, _, _ | .mark _, _, _, _ => fun _ _ => rfl
  | .name x, _, _, h => h x
  | .bin b f g, _, _, h => fun s hs => by
    have h1 := den_agree lo f h s hs
    have h2 := den_agree lo g h s hs
    show (if b then _ else _) = (if b then _ else _)
    rw [h1, h2]
  | .un b f, _, _, h => by
    have h1 := lo _ _ (den_agree lo f h)
    cases b
    · exact h1.2
    · exact h1.1
  | .fix b x f, e, e', h => by
    show Agree _ (iter _ _ _) (iter _ _ _)
    generalize S.st.length * L.n = k
    induction k with
    | zero => exact fun _ _ => rfl
    | succ k ih => exact den_agree lo f fun y => put_agree h ih x y
theorem iter_agree {st : List Str} {F : Vl → Vl} (hF : ∀ v w, Agree st v w → Agree st (F v) (F w)) {b : Vl} {k : Nat} (h : Agree st (iter F b (k + 1)) (iter F b k)) : ∀ m, Agree st (iter F b (k + m)) (iter F b k)
  | 0 => fun _ _ => rfl
  | m + 1 => fun s hs => (hF _ _ (iter_agree hF h m) s hs).trans (h s hs)
/-! #### the rounds end -/
def rank (L : Lt) (a : Nat) : Nat := ((List.range L.n).filter fun x => L.le x a).length
def total (L : Lt) (st : List Str) (v : Vl) : Nat := (st.map fun s => L.rank (v s)).sum
theorem rank_le (a : Nat) : L.rank a ≤ L.n := by
  have := List.length_filter_le (fun x => L.le x a) (List.range L.n)
  rw [List.length_range] at this
  exact this
theorem total_le (v : Vl) : ∀ st : List Str, L.total st v ≤ st.length * L.n
  | [] => Nat.zero_le _
  | s :: st => by
    have h1 := total_le v st
    have h2 := L.rank_le (v s)
    show L.rank (v s) + L.total st v ≤ (st.length + 1) * L.n
    rw [Nat.succ_mul]
    omega
theorem rank_mono (R : L.Reg) {a b : Nat} (ha : a < L.n) (hb : b < L.n) (h : L.le a b = true) : L.rank a ≤ L.rank b := by
  by_cases c : a = b
  · rw [c]; exact Nat.le_refl _
  · exact Nat.le_of_lt (R.le_lt hb ha h c)
theorem total_lt (R : L.Reg) {v w : Vl} (hv : Vok L v) (hw : Vok L w) : ∀ st : List Str, Vle L st v w → (L.total st v ≤ L.total st w ∧ (¬ Agree st v w → L.total st v < L.total st w))
  | [], _ => ⟨Nat.le_refl _, fun h => absurd (fun _ z => nomatch z) h⟩
  | s :: st, h => by
    obtain ⟨i1, i2⟩ := total_lt R hv hw st fun z hz => h z (.tail _ hz)
    have r := rank_mono R (hv s) (hw s) (h s (.head _))
    refine ⟨?_, fun na => ?_⟩
    · show L.rank (v s) + L.total st v ≤ L.rank (w s) + L.total st w
      omega
    · show L.rank (v s) + L.total st v < L.rank (w s) + L.total st w
      by_cases c : v s = w s
      · have := i2 fun ag => na fun z hz => by
          cases hz with
          | head => exact c
          | tail _ hz => exact ag z hz
        omega
      · have := R.le_lt (hw s) (hv s) (h s (.head _)) c
        have : L.rank (v s) < L.rank (w s) := this
        omega
/-- an ascending row of rounds -/
theorem asc (R : L.Reg) {st : List Str} {F : Vl → Vl} (hF : ∀ v, Vok L v → Vok L (F v)) (hm : ∀ v w, Vok L v → Vok L w → Vle L st v w → Vle L st (F v) (F w)) {b : Vl} (hb : Vok L b) (h0 : ∀ v, Vok L v → Vle L st b v) (k : Nat) : Vle L st (iter F b k) (iter F b (k + 1)) := by
  induction k with
  | zero => exact h0 _ (hF _ hb)
  | succ k ih => exact hm _ _ (iter_ok hF hb k) (iter_ok hF hb (k + 1)) ih
theorem asc_total (R : L.Reg) {st : List Str} {F : Vl → Vl} (hF : ∀ v, Vok L v → Vok L (F v)) (hm : ∀ v w, Vok L v → Vok L w → Vle L st v w → Vle L st (F v) (F w)) {b : Vl} (hb : Vok L b) (h0 : ∀ v, Vok L v → Vle L st b v) (k : Nat) (hk : ∀ j, j < k → ¬ Agree st (iter F b j) (iter F b (j + 1))) : k ≤ L.total st (iter F b k) := by
  induction k with
  | zero => exact Nat.zero_le _
  | succ k ih =>
    have h1 := ih fun j hj => hk j (by omega)
    have h2 := (total_lt R (iter_ok hF hb k) (iter_ok hF hb (k + 1)) st (asc R hF hm hb h0 k)).2 (hk k (Nat.lt_succ_self _))
    omega
end Lt
/-! ### is_name of a name -/
section
variable {P : Program} {w : World} {K : PySem.W.Frag} {mg : Str → Option Value} {base : Heap}
def smallS : Str := "abcdefghijklmnopqrstuvwxyz"
def signS : Str := smallS ++ "0123456789"
def headsG : List Str := ["value", "mark", "and", "or", "some", "all", "least", "most"]
/-- the name of a name, a mark, a state or a formula -/
def nmB (x : Str) : Bool := decide (1 ≤ x.length) && decide (x.length ≤ 12) && !headsG.contains x && !(x == "true" || x == "false") && (match x.cps.toList with | c :: _ => smallS.cps.toList.contains c | [] => false) && x.cps.toList.all fun c => signS.cps.toList.contains c
structure NmG (x : Str) : Prop where
  pos : 1 ≤ x.length
  le : x.length ≤ 12
  head : x ∉ headsG
  nt : (x == "true" || x == "false") = false
  first : ∃ c, x.cps.toList[0]? = some c ∧ c ∈ smallS.cps.toList
  all : ∀ c ∈ x.cps.toList, c ∈ signS.cps.toList
theorem nmG {x : Str} (h : nmB x = true) : NmG x := by
  unfold nmB at h
  simp only [Bool.and_eq_true, decide_eq_true_eq] at h
  obtain ⟨⟨⟨⟨⟨h1, h2⟩, h3⟩, h4⟩, h5⟩, h6⟩ := h
  refine ⟨h1, h2, fun m => ?_, by simpa using h4, ?_, fun c hc => ?_⟩
  · rw [List.contains_iff_mem.mpr m] at h3; cases h3
  · cases e : x.cps.toList with
    | nil => rw [e] at h5; cases h5
    | cons c cs => rw [e] at h5; exact ⟨c, rfl, List.contains_iff_mem.mp h5⟩
  · exact List.contains_iff_mem.mp (List.all_eq_true.mp h6 c hc)
def sp_isnm : Sp := fun vs H Q _ => ∃ x : Str, vs = [.str x] ∧ nmB x = true ∧ ∀ H', Same H H' → Q (.bl true) H'
theorem ok_isnm (T : Tx K mg w) : FnOk P w K mg base CX0 1 T.a_is_name T.d_is_name ["word"] sp_isnm := by
  refine T.F_is_name.ok sc_is_name (fun vs H Q E h => ?_) (fun cdv A outer s H vs Q E hr h => ?_)
  · obtain ⟨x, rfl, _⟩ := h
    rfl
  obtain ⟨x, rfl, nx, q⟩ := h
  have nx := nmG nx
  refine ⟨_, pss_cons (ps_if (PW.pt (pw_or (pt_not (pt_chain op_le op_le pe_int (pe_callB call_len_str (by rfl) T.n_len (by decide +kernel) (pa_cons (pv 0) pa_nil)) pe_int)) (pw_or (pt_cmpR (op_in_kd ⟨T.l_SHAPES, T.y_SHAPES, T.lo_SHAPES⟩) (pv 0) (pe_glob (v := .ref T.a_SHAPES) (by rfl) T.g_SHAPES rfl) (by rfl)) (pw_or (pt_cmpR op_in_seq (pv 0) (pe_glob (v := .ref T.a_SINGLE_WORDS) (by rfl) T.g_SINGLE_WORDS rfl) (by rfl)) (pw_or1 (pt_cmpR op_notIn_sign (pe_ix ix_str (pv 0) pe_int (fun _ _ => rfl)) (pe_glob (v := .str "abcdefghijklmnopqrstuvwxyz") (by rfl) T.g_SMALL_LETTERS.choose_spec ⟨_, rfl⟩) rfl)))))) (pss_one (ps_ret pe_bl)) pss_nil)
    (pss_one (ps_ret (pe_callB (cr_all rfl) (by rfl) T.n_all (by decide +kernel) (pa_cons (pe_lc (own := [("sign", 1)]) (g := gName 1) (tt := tYes) rfl sc_is_name.nd (pi_str (pv 0)) (blkOk_by (N := N_is_name) (sc := defScope St_is_name) (by decide +kernel)) (fun _ _ _ _ _ => (pg_name (i := 1) sc_is_name.nd rfl (Or.inl rfl))) (fun _ _ _ _ _ => pts_nil) (fun _ _ _ _ _ => (pe_cmpR op_in_sign (pv 1) (pe_op op_add_str (pe_glob (v := .str "abcdefghijklmnopqrstuvwxyz") (by rfl) T.g_SMALL_LETTERS.choose_spec ⟨_, rfl⟩) (pe_glob (v := .str "0123456789") (by rfl) T.g_TEN_FIGURES.choose_spec ⟨_, rfl⟩)) rfl))) pa_nil)))), ?_⟩
  obtain ⟨c0, e0, l0⟩ := nx.first
  have n1 := nx.pos; have n2 := nx.le
  have miss : PySem.W.nsIn K T.a_SHAPES x = some none := T.w_SHAPES.nsIn T.l_SHAPES nx.head
  refine if_run (fun b H1 => H1 = H ∧ b = false) (fun Q' q' => ?_) ?_
  · refine ⟨_, rfl, x, rfl, Nat.le_of_lt (smallM (by omega)), _, _, rfl, rfl, _, rfl, ?_⟩
    refine iteY (by omega) ?_
    refine ⟨_, _, rfl, rfl, _, rfl, ?_⟩
    rw [decide_eq_true (show ((x.length : Nat) : Int) ≤ 12 by omega)]
    refine iteF ?_
    refine ⟨_, rfl, x, none, rfl, rfl, miss, _, rfl, ?_⟩
    refine iteF ?_
    refine ⟨_, rfl, _, _, rfl, .inr (T.t_SINGLE_WORDS H), rfl, rfl, _, rfl, ?_⟩
    rw [show (if false = true then !inV (.str x) [.str "true", .str "false"] else inV (.str x) [.str "true", .str "false"]) = false from (inV_str _ _ _).trans nx.nt]
    refine iteF ?_
    refine ⟨_, rfl, x, 0, c0, rfl, rfl, Nat.le_of_lt (smallM (by omega)), atI_nat (j := 0) e0, c0, smallS, rfl, rfl, _, rfl, ?_⟩
    rw [decide_eq_true l0]
    exact q' _ _ ⟨rfl, rfl⟩
  rintro b H1 ⟨rfl, rfl⟩
  refine iteF ?_
  refine ⟨_, rfl, x, rfl, fun D hD => ?_⟩
  refine lc_fold walk_str hD (fun i H5 ys => i ≤ x.cps.toList.length ∧ ys = List.replicate i (V.bl true)) (fun _ => ⟨Nat.zero_le _, rfl⟩) (fun i H5 H6 xs _ h => h) ?_ (fun H5 s6 => trivial) ?_ ?_
  · rintro i H5 ys ⟨hi, rfl⟩
    have a2 : x.cps.toList.length = x.length := rfl
    rw [List.length_replicate]; omega
  · rintro i v H5 H6 ys Nx Ex hi s6 ⟨hil, rfl⟩ ⟨rfl, c, hc, rfl⟩ k1 k2
    have hc' : x.cps.toList[i]? = some c := by rw [Array.getElem?_toList]; exact hc
    have hl := (List.getElem?_eq_some_iff.mp hc').1
    refine ⟨rfl, ?_⟩
    refine lcY ?_
    refine ⟨_, rfl, _, _, rfl, rfl, (by decide +kernel), c, signS, rfl, rfl, ?_⟩
    rw [decide_eq_true (nx.all c (List.mem_of_getElem? hc'))]
    exact k1 _ _ (Same.refl _) ⟨hl, by rw [List.replicate_succ']⟩
  · rintro H5 ys s6 hD5 ⟨_, rfl⟩
    refine ⟨D, List.replicate x.cps.size true, rfl, SqL.of (K := K) (by rw [hD5, List.map_replicate]), ?_⟩
    rw [show (List.replicate x.cps.size true).all id = true from List.all_eq_true.mpr fun b hb => (List.mem_replicate.mp hb).2]
    exact q H5 s6
end
/-! ### systems: what a System holds -/
/-- states; marks (mark, state, place); arrows (start, end, has, lacks) -/
structure Sys where
  st : List Str
  ms : List (Str × Str × Nat)
  ar : List (Str × Str × Nat × Nat)
namespace Sys
def mkK (S : Sys) : List (List L2.Key × V) := S.ms.map fun m => ([Sum.inr m.1, Sum.inr m.2.1], V.int (m.2.2 : Nat))
def lv (S : Sys) (ta : Str → Str → Addr) (s : Str) : List (L2.Key × V) := (S.ar.filter fun a => a.1 == s).map fun a => (Sum.inr a.2.1, V.ref (ta s a.2.1))
def stK (S : Sys) (da : Str → Addr) : List (L2.Key × V) := S.st.map fun s => (Sum.inr s, V.ref (da s))
end Sys
section
open L2
theorem valV_strs {α : Type} (f : α → Str) (g : α → V) (x : Str) : ∀ xs : List α, valV (xs.map fun a => ((Sum.inr (f a) : Key), g a)) (Sum.inr x) = (xs.find? fun a => f a == x).map g
  | [] => rfl
  | a :: xs => by
    rw [List.map_cons]
    by_cases c : f a = x
    · rw [valV_pos (by show (Sum.inr (f a) : Key) = Sum.inr x; rw [c]), List.find?_cons_of_pos (by rw [c]; exact beq_self_eq_true x)]
      rfl
    · rw [valV_neg (fun e => c (by injection e)), List.find?_cons_of_neg (by rw [beq_false_of_ne c]; exact Bool.false_ne_true)]
      exact valV_strs f g x xs
theorem valV_pairs {α : Type} (f h : α → Str) (g : α → V) (x y : Str) : ∀ xs : List α, valV (xs.map fun a => (([Sum.inr (f a), Sum.inr (h a)] : List Key), g a)) [Sum.inr x, Sum.inr y] = (xs.find? fun a => f a == x && h a == y).map g
  | [] => rfl
  | a :: xs => by
    rw [List.map_cons]
    by_cases c : f a = x ∧ h a = y
    · rw [valV_pos (by show ([Sum.inr (f a), Sum.inr (h a)] : List Key) = _; rw [c.1, c.2]), List.find?_cons_of_pos (by rw [c.1, c.2, beq_self_eq_true, beq_self_eq_true]; rfl)]
      rfl
    · rw [valV_neg (fun e => c (by injection e with e1 e2; injection e2 with e3 _; injection e1 with e1; injection e3 with e3; exact ⟨e1, e3⟩)), List.find?_cons_of_neg (by
        rw [Bool.and_eq_true, beq_iff_eq, beq_iff_eq]; exact c)]
      exact valV_pairs f h g x y xs
theorem find_none {α : Type} {p : α → Bool} {xs : List α} (h : ∀ a ∈ xs, p a = false) : xs.find? p = none := List.find?_eq_none.mpr fun a ha => by rw [h a ha]; exact Bool.false_ne_true
end
section
open PyProof.Rows
variable {w : World} {K : PySem.W.Frag} {mg : Str → Option Value} {base : Heap} {mm : List (Str × Addr)} {H H' : Hp}
/-- what the two dicts of a System hold -/
structure Tol (K : PySem.W.Frag) (H : Hp) (td ld : Addr) (S : Sys) (da : Str → Addr) (ta : Str → Str → Addr) : Prop where
  tdE : H td = some (.dT S.mkK)
  ldE : H ld = some (.dK (S.stK da))
  at_ : ∀ s ∈ S.st, H (da s) = some (.dK (S.lv ta s)) ∧ da s ≠ ld
  inj : ∀ s ∈ S.st, ∀ t ∈ S.st, da s = da t → s = t
  tup : ∀ a ∈ S.ar, SqT K H (ta a.1 a.2.1) [.int (a.2.2.1 : Nat), .int (a.2.2.2 : Nat)]
  ends : ∀ a ∈ S.ar, a.1 ∈ S.st
theorem Tol.same {td ld : Addr} {S : Sys} {da : Str → Addr} {ta : Str → Str → Addr} (h : Tol K H td ld S da ta) (s : Same H H') : Tol K H' td ld S da ta :=
  ⟨s _ _ h.tdE, s _ _ h.ldE, fun x hx => ⟨s _ _ (h.at_ x hx).1, (h.at_ x hx).2⟩, h.inj, fun a ha => s.keeps.sqT (h.tup a ha), h.ends⟩
/-- what stands in a tuple stays where a dict alone changes -/
theorem sqT_dict {d t : Addr} {o : HO} {xs : List V} (hd : H d = some o) (mo : Mut (some o)) (b : But d H H') (h : SqT K H t xs) : SqT K H' t xs := (b.keeps hd mo).sqT h
def sfs (z sr mr ar td ld : Addr) : List (Str × V) := [(("lattice" : Str), .ref z), (("state_row" : Str), .ref sr), (("mark_rows" : Str), .ref mr), (("arrow_rows" : Str), .ref ar), (("told_marks" : Str), .ref td), (("leaving" : Str), .ref ld)]
theorem stK_get {S : Sys} {da : Str → Addr} {x : Str} : L2.valV (S.stK da) (Sum.inr x) = if x ∈ S.st then some (V.ref (da x)) else none := by
  unfold Sys.stK
  rw [valV_strs (fun s => s) (fun s => V.ref (da s))]
  by_cases c : x ∈ S.st
  · rw [if_pos c]
    have : S.st.find? (fun a => a == x) = some x := by
      cases e : S.st.find? (fun a => a == x) with
      | none => exact absurd (beq_self_eq_true x) (List.find?_eq_none.mp e x c)
      | some y => rw [show y = x from by have := List.find?_some e; simpa using this]
    rw [this]
    rfl
  · rw [if_neg c, find_none fun a ha => beq_false_of_ne fun (e : a = x) => c (e ▸ ha)]
    rfl
/-- need_state -/
def sp_nst (K : PySem.W.Frag) (C : Addr) : Sp := fun vs H Q _ => ∃ (p dx z sr mr ar td ld : Addr) (S : Sys) (da : Str → Addr) (ta : Str → Str → Addr) (x : Str), vs = [.ref p, .str x] ∧ H p = some (.ins C dx (sfs z sr mr ar td ld)) ∧ Tol K H td ld S da ta ∧ x ∈ S.st ∧ ∀ H', Same H H' → Q .non H'
theorem ok_nst {P : Program} (T : Tx K mg w) : FnOk P w K mg base CX0 1 T.a_System_need_state T.d_System_need_state ["self", "name"] (sp_nst K T.a_System) := by
  refine T.F_System_need_state.ok sc_System_need_state (fun vs H Q E h => ?_) (fun cdv A outer s H vs Q E hr h => ?_)
  · obtain ⟨p, dx, z, sr, mr, ar, td, ld, S, da, ta, x, rfl, _⟩ := h
    rfl
  obtain ⟨p, dx, z, sr, mr, ar, td, ld, S, da, ta, x, rfl, hp, ht, hx, q⟩ := h
  have hu := hu_of hr
  refine ⟨_, pss_one (ps_if (pt_cmp (pc_dnotin hu (pv 1) (pe_fld (pv 0) rfl))) (pss_one ps_dead) pss_nil), ?_⟩
  refine ⟨_, rfl, _, rfl, p, _, dx, _, _, rfl, hp, T.c_System, T.n_System_leaving, rfl, ld, _, rfl, DGet.k (k := Sum.inr x) ht.ldE, _, rfl, ?_⟩
  rw [stK_get, if_pos hx]
  refine iteF ?_
  exact q H (Same.refl _)
/-- tell_state -/
def sp_tst (K : PySem.W.Frag) (C : Addr) : Sp := fun vs H Q _ => ∃ (p dx z sr mr ar td ld : Addr) (S : Sys) (da : Str → Addr) (ta : Str → Str → Addr) (x : Str), vs = [.ref p, .str x] ∧ H p = some (.ins C dx (sfs z sr mr ar td ld)) ∧ Tol K H td ld S da ta ∧ nmB x = true ∧ x ∉ S.st ∧ S.st.length < 1000 ∧
  ∀ (d : Addr) (H' : Hp), H d = none → But ld H H' → Tol K H' td ld { S with st := S.st ++ [x] } (fun y => if y = x then d else da y) ta → Q .non H'
theorem ok_tst {P : Program} (T : Tx K mg w) : FnOk P w K mg base CX0 2 T.a_System_tell_state T.d_System_tell_state ["self", "name"] (sp_tst K T.a_System) := by
  have G_is_name := ok_isnm (P := P) (base := base) T
  refine T.F_System_tell_state.ok sc_System_tell_state (fun vs H Q E h => ?_) (fun cdv A outer s H vs Q E hr h => ?_)
  · obtain ⟨p, dx, z, sr, mr, ar, td, ld, S, da, ta, x, rfl, _⟩ := h
    rfl
  obtain ⟨p, dx, z, sr, mr, ar, td, ld, S, da, ta, x, rfl, hp, ht, hn, hx, hz, q⟩ := h
  have hu := hu_of hr
  refine ⟨_, pss_cons (ps_if (pt_not (pt_val (pe_call G_is_name (hr.mono (by omega)) (by rfl) T.g_is_name T.F_is_name.kp T.b_is_name .nil pass0 (pa_cons (pv 1) pa_nil)))) (pss_one ps_dead) pss_nil)
    (pss_cons (ps_if (pt_cmp (pc_din hu (pv 1) (pe_fld (pv 0) rfl))) (pss_one ps_dead) pss_nil)
    (pss_one (ps_dput hu (pe_fld (pv 0) rfl) (pv 1) pe_dnewK rfl))), ?_⟩
  refine ⟨_, rfl, x, rfl, hn, fun H1 s1 => ⟨_, rfl, ?_⟩⟩
  refine iteF ?_
  refine nx_run ?_
  dsimp only
  have h1 := ht.same s1
  refine ⟨_, rfl, _, rfl, p, _, dx, _, _, rfl, s1 _ _ hp, T.c_System, T.n_System_leaving, rfl, ld, _, rfl, DGet.k (k := Sum.inr x) h1.ldE, _, rfl, ?_⟩
  rw [stK_get, if_neg hx]
  refine iteF ?_
  refine nx_run ?_
  dsimp only
  refine newQ (.dK []) fun d hd s2 e2 => ?_
  generalize upd H1 d (.dK []) = H2 at s2 e2 ⊢
  have h2 := h1.same s2
  refine ⟨_, rfl, p, _, dx, _, _, rfl, s2 _ _ (s1 _ _ hp), T.c_System, T.n_System_leaving, rfl, _, rfl, ld, _, rfl, DPut.k (k := Sum.inr x) h2.ldE (Nat.lt_of_lt_of_le (show _ < 1000 by unfold Sys.stK; rw [List.length_map]; exact hz) (by decide)), ?_⟩
  rw [putK_new _ (by rw [stK_get, if_neg hx])]
  have dl : d ≠ ld := fun e => by rw [e, h1.ldE] at hd; cases hd
  have dn : H d = none := by
    cases e : H d with
    | none => rfl
    | some o => have := s1 _ _ e; rw [hd] at this; cases this
  have b3 : But ld H2 (upd H2 ld (.dK (S.stK da ++ [(Sum.inr x, V.ref d)]))) := (But.refl ld H2).upd _
  have e3 : upd H2 ld (.dK (S.stK da ++ [(Sum.inr x, V.ref d)])) ld = _ := upd_same
  generalize upd H2 ld (.dK (S.stK da ++ [(Sum.inr x, V.ref d)])) = H3 at b3 e3 ⊢
  have nx : ∀ {y}, y ∈ S.st → y ≠ x := fun hy e => hx (e ▸ hy)
  have tl : td ≠ ld := ne_of h2.tdE h2.ldE (by intro z; cases z)
  refine q d H3 dn (((s1.trans s2).but ld).trans b3) ⟨b3 _ _ tl h2.tdE, ?_, fun y hy => ?_, fun y hy y' hy' e => ?_, fun a ha => sqT_dict h2.ldE trivial b3 (h2.tup a ha), fun a ha => List.mem_append_left _ (h2.ends a ha)⟩
  · rw [e3]
    unfold Sys.stK
    rw [List.map_append]
    congr 3
    · exact List.map_congr_left fun y hy => by
        show ((Sum.inr y : Key), V.ref (da y)) = (Sum.inr y, V.ref (if y = x then d else da y))
        rw [if_neg (nx hy)]
    · show [((Sum.inr x : Key), V.ref d)] = [(Sum.inr x, V.ref (if x = x then d else da x))]
      rw [if_pos rfl]
  · rcases List.mem_append.mp hy with hy | hy
    · rw [if_neg (nx hy)]
      obtain ⟨a1, a2⟩ := h2.at_ y hy
      exact ⟨b3 _ _ a2 a1, a2⟩
    · have : y = x := by simpa using hy
      subst this
      rw [if_pos rfl]
      refine ⟨?_, dl⟩
      rw [b3 _ _ dl e2]
      unfold Sys.lv
      rw [List.filter_eq_nil_iff.mpr fun a ha => by
        have := nx (h2.ends a ha)
        rw [beq_iff_eq]; exact this]
      rfl
  · have ne : ∀ {y}, y ∈ S.st → da y ≠ d := fun hy e => by
      have := (h1.at_ _ hy).1
      rw [e, hd] at this
      cases this
    rcases List.mem_append.mp hy with g | g <;> rcases List.mem_append.mp hy' with g' | g'
    · rw [if_neg (nx g), if_neg (nx g')] at e
      exact h2.inj y g y' g' e
    · have : y' = x := by simpa using g'
      rw [if_neg (nx g), if_pos this] at e
      exact absurd e (ne g)
    · have : y = x := by simpa using g
      rw [if_neg (nx g'), if_pos this] at e
      exact absurd e.symm (ne g')
    · have h1 : y = x := by simpa using g
      have h2 : y' = x := by simpa using g'
      rw [h1, h2]
end
/-! ### tell_mark, tell_arrow -/
section
open PyProof.Rows
variable {w : World} {K : PySem.W.Frag} {mg : Str → Option Value} {base : Heap} {mm : List (Str × Addr)} {H H' : Hp}
theorem mkK_get {S : Sys} {x y : Str} : L2.valV S.mkK [Sum.inr x, Sum.inr y] = (S.ms.find? fun m => m.1 == x && m.2.1 == y).map fun m => V.int (m.2.2 : Nat) := by
  unfold Sys.mkK
  exact valV_pairs (fun m : Str × Str × Nat => m.1) (fun m => m.2.1) (fun m => V.int (m.2.2 : Nat)) x y S.ms
theorem mkK_none {S : Sys} {x y : Str} (h : (x, y) ∉ S.ms.map fun m => (m.1, m.2.1)) : L2.valV S.mkK [Sum.inr x, Sum.inr y] = none := by
  rw [mkK_get, find_none fun m hm => ?_]
  · rfl
  · rw [Bool.and_eq_false_iff, beq_eq_false_iff_ne, beq_eq_false_iff_ne]
    by_cases c : m.1 = x
    · exact .inr fun e => h (List.mem_map.mpr ⟨m, hm, by rw [c, e]⟩)
    · exact .inl c
def sp_tmk (K : PySem.W.Frag) (mm : List (Str × Addr)) (C : Addr) : Sp := fun vs H Q _ => ∃ (p dx z sr mr ar td ld : Addr) (S : Sys) (da : Str → Addr) (ta : Str → Str → Addr) (L : Lt) (x s v : Str) (a : Nat), vs = [.ref p, .str x, .str s, .str v] ∧ H p = some (.ins C dx (sfs z sr mr ar td ld)) ∧ Tol K H td ld S da ta ∧ IsLat K mm H z L ∧ L.names.Nodup ∧ L.names[a]? = some v ∧ nmB x = true ∧ s ∈ S.st ∧ (x, s) ∉ S.ms.map (fun m => (m.1, m.2.1)) ∧ S.ms.length < 1000 ∧
  ∀ (H' : Hp), But td H H' → Tol K H' td ld { S with ms := S.ms ++ [(x, s, a)] } da ta → Q .non H'
theorem ok_tmk {P : Program} (T : Tx K mg w) : FnOk P w K mg base CX0 2 T.a_System_tell_mark T.d_System_tell_mark ["self", "mark", "state", "value"] (sp_tmk K T.mm T.a_System) := by
  have G_is_name := ok_isnm (P := P) (base := base) T
  have G_System_need_state := ok_nst (P := P) (base := base) T
  have G_Lattice_at_name := ok_at_name (P := P) (w := w) (base := base) T
  refine T.F_System_tell_mark.ok sc_System_tell_mark (fun vs H Q E h => ?_) (fun cdv A outer s H vs Q E hr h => ?_)
  · obtain ⟨p, dx, z, sr, mr, ar, td, ld, S, da, ta, L, x, s, v, a, rfl, _⟩ := h
    rfl
  obtain ⟨p, dx, z, sr, mr, ar, td, ld, S, da, ta, L, x, st, v, a, rfl, hp, ht, hL, nd, ha, hn, hs, hx, hz, q⟩ := h
  have hu := hu_of hr
  refine ⟨_, pss_cons (ps_if (pt_not (pt_val (pe_call G_is_name (hr.mono (by omega)) (by rfl) T.g_is_name T.F_is_name.kp T.b_is_name .nil pass0 (pa_cons (pv 1) pa_nil)))) (pss_one ps_dead) pss_nil)
    (pss_cons (ps_expr (pe_meth (pv 0) T.c_System T.m_System_need_state G_System_need_state (hr.mono (by omega)) T.b_System_need_state .nil pass0 (pa_cons (pv 2) pa_nil)))
    (pss_cons (ps_set (i := 4) sc_System_tell_mark.nd rfl (Or.inl rfl) (pe_methG (pe_fld (pv 0) rfl) G_Lattice_at_name (hr.mono (by omega)) T.b_Lattice_at_name .nil pass0 (pa_cons (pv 3) pa_nil)))
    (pss_cons (ps_if (pt_cmp (pc_din hu (pe_tup (pa_cons (pv 1) (pa_cons (pv 2) pa_nil))) (pe_fld (pv 0) rfl))) (pss_one ps_dead) pss_nil)
    (pss_one (ps_dput hu (pe_fld (pv 0) rfl) (pe_tup (pa_cons (pv 1) (pa_cons (pv 2) pa_nil))) (pv 4) rfl))))), ?_⟩
  refine ⟨_, rfl, x, rfl, hn, fun H1 s1 => ⟨_, rfl, ?_⟩⟩
  refine iteF ?_
  refine nx_run ?_
  dsimp only
  have h1 := ht.same s1
  have p1 := s1 _ _ hp
  refine ⟨_, rfl, p, dx, _, rfl, p1, rfl, _, rfl, p, dx, z, sr, mr, ar, td, ld, S, da, ta, st, rfl, p1, h1, hs, fun H2 s2 => ?_⟩
  have h2 := h1.same s2
  have p2 := s2 _ _ p1
  have L2' := (hL.same s1).same s2
  obtain ⟨Cz, dz, fz, tn, td', tu, A2⟩ := id L2'
  refine ⟨_, rfl, p, _, dx, _, _, rfl, p2, T.c_System, T.n_System_lattice, rfl, z, Cz, dz, fz, rfl, A2.at_, A2.c.cl, A2.c.me _ T.in_at_name, A2.no _ T.in_at_name, _, rfl, z, L, a, v, rfl, L2', nd, ha, fun H3 s3 => ?_⟩
  have h3 := h2.same s3
  have p3 := s3 _ _ p2
  dsimp only [gName]
  refine ⟨_, rfl, _, rfl, (by show 2 ≤ sizeLine; decide), newQ (.tup [.str x, .str st]) fun t ht4 s4 e4 => ?_⟩
  generalize upd H3 t (.tup [.str x, .str st]) = H4 at s4 e4 ⊢
  have h4 := h3.same s4
  have p4 := s4 _ _ p3
  refine ⟨_, rfl, p, _, dx, _, _, rfl, p4, T.c_System, T.n_System_told_marks, rfl, td, _, rfl, DGet.t (k := [Sum.inr x, Sum.inr st]) h4.tdE e4, _, rfl, ?_⟩
  rw [mkK_none hx]
  refine iteF ?_
  refine nx_run ?_
  dsimp only
  refine ⟨_, rfl, _, rfl, p, _, dx, _, _, rfl, p4, T.c_System, T.n_System_told_marks, rfl, _, rfl, _, rfl, (by show 2 ≤ sizeLine; decide), newQ (.tup [.str x, .str st]) fun t5 ht5 s5 e5 => ?_⟩
  generalize upd H4 t5 (.tup [.str x, .str st]) = H5 at s5 e5 ⊢
  have h5 := h4.same s5
  refine ⟨td, _, rfl, DPut.t (k := [Sum.inr x, Sum.inr st]) h5.tdE e5 (Nat.lt_of_lt_of_le (show _ < 1000 by unfold Sys.mkK; rw [List.length_map]; exact hz) (by decide)), ?_⟩
  rw [putK_new _ (mkK_none hx)]
  have b6 : But td H5 (upd H5 td (.dT (S.mkK ++ [([Sum.inr x, Sum.inr st], V.int (a : Nat))]))) := (But.refl td H5).upd _
  have e6 : upd H5 td (.dT (S.mkK ++ [([Sum.inr x, Sum.inr st], V.int (a : Nat))])) td = _ := upd_same
  generalize upd H5 td (.dT (S.mkK ++ [([Sum.inr x, Sum.inr st], V.int (a : Nat))])) = H6 at b6 e6 ⊢
  have tl : ld ≠ td := ne_of h5.ldE h5.tdE (by intro z; cases z)
  refine q H6 (((((s1.trans s2).trans s3).trans s4).trans s5).but td |>.trans b6) ⟨?_, b6 _ _ tl h5.ldE, fun y hy => ?_, h5.inj, fun b hb => sqT_dict h5.tdE trivial b6 (h5.tup b hb), h5.ends⟩
  · rw [e6]
    unfold Sys.mkK
    rw [List.map_append]
    rfl
  · obtain ⟨a1, a2⟩ := h5.at_ y hy
    exact ⟨b6 _ _ (ne_of a1 h5.tdE (by intro z; cases z)) a1, a2⟩
theorem lv_get {S : Sys} {ta : Str → Str → Addr} {s e : Str} : L2.valV (S.lv ta s) (Sum.inr e) = ((S.ar.filter fun a => a.1 == s).find? fun a => a.2.1 == e).map fun a => V.ref (ta s a.2.1) := by
  unfold Sys.lv
  exact valV_strs (fun a : Str × Str × Nat × Nat => a.2.1) (fun a => V.ref (ta s a.2.1)) e _
theorem lv_none {S : Sys} {ta : Str → Str → Addr} {s e : Str} (h : (s, e) ∉ S.ar.map fun a => (a.1, a.2.1)) : L2.valV (S.lv ta s) (Sum.inr e) = none := by
  rw [lv_get, find_none fun a ha => beq_false_of_ne fun c => h ?_]
  · rfl
  · obtain ⟨m1, m2⟩ := List.mem_filter.mp ha
    exact List.mem_map.mpr ⟨a, m1, by rw [c, beq_iff_eq.mp m2]⟩
def sp_tar (K : PySem.W.Frag) (mm : List (Str × Addr)) (C : Addr) : Sp := fun vs H Q _ => ∃ (p dx z sr mr ar td ld : Addr) (S : Sys) (da : Str → Addr) (ta : Str → Str → Addr) (L : Lt) (s e v u : Str) (a b : Nat), vs = [.ref p, .str s, .str e, .str v, .str u] ∧ H p = some (.ins C dx (sfs z sr mr ar td ld)) ∧ Tol K H td ld S da ta ∧ IsLat K mm H z L ∧ L.names.Nodup ∧ L.names[a]? = some v ∧ L.names[b]? = some u ∧ s ∈ S.st ∧ e ∈ S.st ∧ (s, e) ∉ S.ar.map (fun m => (m.1, m.2.1)) ∧ S.ar.length < 1000 ∧
  ∀ (H' : Hp) (t : Addr), H t = none → But (da s) H H' → Tol K H' td ld { S with ar := S.ar ++ [(s, e, a, b)] } da (fun x y => if x = s ∧ y = e then t else ta x y) → Q .non H'
theorem ok_tar {P : Program} (T : Tx K mg w) : FnOk P w K mg base CX0 2 T.a_System_tell_arrow T.d_System_tell_arrow ["self", "start", "end", "has", "lacks"] (sp_tar K T.mm T.a_System) := by
  have G_System_need_state := ok_nst (P := P) (base := base) T
  have G_Lattice_at_name := ok_at_name (P := P) (w := w) (base := base) T
  refine T.F_System_tell_arrow.ok sc_System_tell_arrow (fun vs H Q E h => ?_) (fun cdv A outer s H vs Q E hr h => ?_)
  · obtain ⟨p, dx, z, sr, mr, ar, td, ld, S, da, ta, L, s, e, v, u, a, b, rfl, _⟩ := h
    rfl
  obtain ⟨p, dx, z, sr, mr, ar, td, ld, S, da, ta, L, st, en, v, u, a, b, rfl, hp, ht, hL, nd, ha, hb, hs, he, hx, hz, q⟩ := h
  have hu := hu_of hr
  refine ⟨_, pss_cons (ps_expr (pe_meth (pv 0) T.c_System T.m_System_need_state G_System_need_state (hr.mono (by omega)) T.b_System_need_state .nil pass0 (pa_cons (pv 1) pa_nil)))
    (pss_cons (ps_expr (pe_meth (pv 0) T.c_System T.m_System_need_state G_System_need_state (hr.mono (by omega)) T.b_System_need_state .nil pass0 (pa_cons (pv 2) pa_nil)))
    (pss_cons (ps_set (i := 5) sc_System_tell_arrow.nd rfl (Or.inl rfl) (pe_tup (pa_cons (pe_methG (pe_fld (pv 0) rfl) G_Lattice_at_name (hr.mono (by omega)) T.b_Lattice_at_name .nil pass0 (pa_cons (pv 3) pa_nil)) (pa_cons (pe_methG (pe_fld (pv 0) rfl) G_Lattice_at_name (hr.mono (by omega)) T.b_Lattice_at_name .nil pass0 (pa_cons (pv 4) pa_nil)) pa_nil))))
    (pss_cons (ps_if (pt_cmp (pc_din hu (pv 2) (pe_dget hu (pe_fld (pv 0) rfl) (pv 1) (fun _ _ => rfl)))) (pss_one ps_dead) pss_nil)
    (pss_one (ps_dput hu (pe_dget hu (pe_fld (pv 0) rfl) (pv 1) (fun _ _ => rfl)) (pv 2) (pv 5) rfl))))), ?_⟩
  refine ⟨_, rfl, p, dx, _, rfl, hp, rfl, _, rfl, p, dx, z, sr, mr, ar, td, ld, S, da, ta, st, rfl, hp, ht, hs, fun H1 s1 => ?_⟩
  have h1 := ht.same s1
  have p1 := s1 _ _ hp
  refine ⟨_, rfl, p, dx, _, rfl, p1, rfl, _, rfl, p, dx, z, sr, mr, ar, td, ld, S, da, ta, en, rfl, p1, h1, he, fun H2 s2 => ?_⟩
  have h2 := h1.same s2
  have p2 := s2 _ _ p1
  have hL2 := (hL.same s1).same s2
  obtain ⟨Cz, dz, fz, tn, td', tu, A2⟩ := id hL2
  refine ⟨_, rfl, p, _, dx, _, _, rfl, p2, T.c_System, T.n_System_lattice, rfl, z, Cz, dz, fz, rfl, A2.at_, A2.c.cl, A2.c.me _ T.in_at_name, A2.no _ T.in_at_name, _, rfl, z, L, a, v, rfl, hL2, nd, ha, fun H3 s3 => ?_⟩
  have h3 := h2.same s3
  have p3 := s3 _ _ p2
  have hL3 := hL2.same s3
  have A3 := A2.same s3
  refine ⟨_, rfl, p, _, dx, _, _, rfl, p3, T.c_System, T.n_System_lattice, rfl, z, Cz, dz, fz, rfl, A3.at_, A3.c.cl, A3.c.me _ T.in_at_name, A3.no _ T.in_at_name, _, rfl, z, L, b, u, rfl, hL3, nd, hb, fun H4 s4 => ?_⟩
  have h4 := h3.same s4
  have p4 := s4 _ _ p3
  refine ⟨(by show 2 ≤ sizeLine; decide), newQ (.tup [.int (a : Nat), .int (b : Nat)]) fun t ht5 s5 e5 => ?_⟩
  generalize upd H4 t (.tup [.int (a : Nat), .int (b : Nat)]) = H5 at s5 e5 ⊢
  have h5 := h4.same s5
  have p5 := s5 _ _ p4
  obtain ⟨d1, d2⟩ := h5.at_ st hs
  dsimp only [gName]
  refine ⟨_, rfl, _, rfl, p, _, dx, _, _, rfl, p5, T.c_System, T.n_System_leaving, rfl, _, rfl, ld, V.ref (da st), rfl, (by have := DGet.k (k := Sum.inr st) h5.ldE; rw [stK_get, if_pos hs] at this; exact this), da st, _, rfl, DGet.k (k := Sum.inr en) d1, _, rfl, ?_⟩
  rw [lv_none hx]
  refine iteF ?_
  refine nx_run ?_
  dsimp only
  refine ⟨_, rfl, _, rfl, p, _, dx, _, _, rfl, p5, T.c_System, T.n_System_leaving, rfl, _, rfl, ld, V.ref (da st), rfl, (by have := DGet.k (k := Sum.inr st) h5.ldE; rw [stK_get, if_pos hs] at this; exact this), _, rfl, da st, _, rfl, DPut.k (k := Sum.inr en) d1 (Nat.lt_of_lt_of_le (show _ < 1000 by unfold Sys.lv; rw [List.length_map]; exact Nat.lt_of_le_of_lt (List.length_filter_le _ _) hz) (by decide)), ?_⟩
  rw [putK_new _ (lv_none hx)]
  have b6 : But (da st) H5 (upd H5 (da st) (.dK (S.lv ta st ++ [(Sum.inr en, V.ref t)]))) := (But.refl _ H5).upd _
  have e6 : upd H5 (da st) (.dK (S.lv ta st ++ [(Sum.inr en, V.ref t)])) (da st) = _ := upd_same
  generalize upd H5 (da st) (.dK (S.lv ta st ++ [(Sum.inr en, V.ref t)])) = H6 at b6 e6 ⊢
  have td5 : td ≠ da st := ne_of h5.tdE d1 (by intro z; cases z)
  have old : ∀ m ∈ S.ar, ¬ (m.1 = st ∧ m.2.1 = en) := fun m hm e => hx (List.mem_map.mpr ⟨m, hm, by rw [e.1, e.2]⟩)
  have s05 := ((((s1.trans s2).trans s3).trans s4).trans s5)
  have tn0 : H t = none := by
    cases e : H t with
    | none => rfl
    | some o => have := (((s1.trans s2).trans s3).trans s4) _ _ e; rw [ht5] at this; cases this
  refine q H6 t tn0 ((s05.but _).trans b6) ⟨b6 _ _ td5 h5.tdE, b6 _ _ (fun e => d2 e.symm) h5.ldE, fun y hy => ?_, h5.inj, fun m hm => ?_, fun m hm => ?_⟩
  · obtain ⟨a1, a2⟩ := h5.at_ y hy
    refine ⟨?_, a2⟩
    by_cases c : y = st
    · subst c
      rw [e6]
      unfold Sys.lv
      show some (HO.dK _) = some (HO.dK (((S.ar ++ [(y, en, a, b)]).filter fun m => m.1 == y).map _))
      rw [List.filter_append, List.filter_cons_of_pos (by exact beq_self_eq_true y), List.filter_nil, List.map_append]
      congr 3
      · refine List.map_congr_left fun m hm => ?_
        obtain ⟨m1, m2⟩ := List.mem_filter.mp hm
        show ((Sum.inr m.2.1 : L2.Key), V.ref (ta y m.2.1)) = (Sum.inr m.2.1, V.ref (if y = y ∧ m.2.1 = en then t else ta y m.2.1))
        rw [if_neg fun e => old m m1 ⟨beq_iff_eq.mp m2, e.2⟩]
      · show [((Sum.inr en : L2.Key), V.ref t)] = [(Sum.inr en, V.ref (if y = y ∧ en = en then t else ta y en))]
        rw [if_pos ⟨rfl, rfl⟩]
    · rw [b6 _ _ (fun e => c (h5.inj y hy st hs e)) a1]
      unfold Sys.lv
      show some (HO.dK _) = some (HO.dK (((S.ar ++ [(st, en, a, b)]).filter fun m => m.1 == y).map _))
      rw [List.filter_append, List.filter_cons_of_neg (by rw [beq_iff_eq]; exact fun e => c e.symm), List.filter_nil, List.append_nil]
      congr 2
      refine List.map_congr_left fun m _ => ?_
      show ((Sum.inr m.2.1 : L2.Key), V.ref (ta y m.2.1)) = (Sum.inr m.2.1, V.ref (if y = st ∧ m.2.1 = en then t else ta y m.2.1))
      rw [if_neg fun e => c e.1]
  · rcases List.mem_append.mp hm with g | g
    · rw [if_neg (old m g)]
      exact sqT_dict d1 trivial b6 (h5.tup m g)
    · have : m = (st, en, a, b) := by simpa using g
      subst this
      rw [if_pos ⟨rfl, rfl⟩]
      exact sqT_dict d1 trivial b6 (SqT.of (K := K) e5)
  · rcases List.mem_append.mp hm with g | g
    · exact h5.ends m g
    · have : m = (st, en, a, b) := by simpa using g
      subst this
      exact hs
end
/-! ### System.__init__ -/
section
open PyProof.Rows
variable {w : World} {K : PySem.W.Frag} {mg : Str → Option Value} {base : Heap} {mm : List (Str × Addr)} {H H' : Hp} {L : Lt}
/-- the marks of a system, as tuples -/
def MkAt (K : PySem.W.Frag) (H : Hp) (L : Lt) (vs : List V) (ms : List (Str × Str × Nat)) : Prop := vs.length = ms.length ∧ ∀ (i : Nat) (m : Str × Str × Nat), ms[i]? = some m → ∃ (t : Addr) (v : Str), vs[i]? = some (.ref t) ∧ SqT K H t [.str m.1, .str m.2.1, .str v] ∧ L.names[m.2.2]? = some v
/-- the arrows of a system, as tuples -/
def ArAt (K : PySem.W.Frag) (H : Hp) (L : Lt) (vs : List V) (ar : List (Str × Str × Nat × Nat)) : Prop := vs.length = ar.length ∧ ∀ (i : Nat) (a : Str × Str × Nat × Nat), ar[i]? = some a → ∃ (t : Addr) (v u : Str), vs[i]? = some (.ref t) ∧ SqT K H t [.str a.1, .str a.2.1, .str v, .str u] ∧ L.names[a.2.2.1]? = some v ∧ L.names[a.2.2.2]? = some u
theorem MkAt.keep {vs : List V} {ms : List (Str × Str × Nat)} (h : MkAt K H L vs ms) (k : Keeps H H') : MkAt K H' L vs ms := ⟨h.1, fun i m hm => by
  obtain ⟨t, v, a1, a2, a3⟩ := h.2 i m hm
  exact ⟨t, v, a1, k.sqT a2, a3⟩⟩
theorem ArAt.keep {vs : List V} {ar : List (Str × Str × Nat × Nat)} (h : ArAt K H L vs ar) (k : Keeps H H') : ArAt K H' L vs ar := ⟨h.1, fun i m hm => by
  obtain ⟨t, v, u, a1, a2, a3⟩ := h.2 i m hm
  exact ⟨t, v, u, a1, k.sqT a2, a3⟩⟩
structure Sys.Ok (S : Sys) : Prop where
  nm : ∀ s ∈ S.st, nmB s = true
  nd : S.st.Nodup
  mnm : ∀ m ∈ S.ms, nmB m.1 = true ∧ m.2.1 ∈ S.st
  mnd : (S.ms.map fun m => (m.1, m.2.1)).Nodup
  ast : ∀ a ∈ S.ar, a.1 ∈ S.st ∧ a.2.1 ∈ S.st
  and : (S.ar.map fun a => (a.1, a.2.1)).Nodup
  zs : S.st.length ≤ 900
  zm : S.ms.length ≤ 900
  za : S.ar.length ≤ 900
/-- at p stands a System -/
def IsSys (K : PySem.W.Frag) (mm : List (Str × Addr)) (C : Addr) (H : Hp) (p z : Addr) (L : Lt) (S : Sys) : Prop := ∃ (dx sr mr ar td ld : Addr) (da : Str → Addr) (ta : Str → Str → Addr) (vs us : List V), H p = some (.ins C dx (sfs z sr mr ar td ld)) ∧ IsLat K mm H z L ∧ SqT K H sr (S.st.map V.str) ∧ SqT K H mr vs ∧ MkAt K H L vs S.ms ∧ SqT K H ar us ∧ ArAt K H L us S.ar ∧ Tol K H td ld S da ta
theorem IsSys.same {C p z : Addr} {S : Sys} (h : IsSys K mm C H p z L S) (s : Same H H') : IsSys K mm C H' p z L S := by
  obtain ⟨dx, sr, mr, ar, td, ld, da, ta, vs, us, a1, a2, a3, a4, a5, a6, a7, a8⟩ := h
  exact ⟨dx, sr, mr, ar, td, ld, da, ta, vs, us, s _ _ a1, a2.same s, s.keeps.sqT a3, s.keeps.sqT a4, a5.keep s.keeps, s.keeps.sqT a6, a7.keep s.keeps, a8.same s⟩
theorem nodup_take {α : Type} {l : List α} (nd : l.Nodup) {i : Nat} (hi : i < l.length) : l[i] ∉ l.take i := fun m => by
  obtain ⟨j, hj, e⟩ := List.getElem_of_mem m
  rw [List.length_take] at hj
  rw [List.getElem_take] at e
  exact List.pairwise_iff_getElem.mp nd j i (by omega) hi (by omega) e
def sp_sysi (K : PySem.W.Frag) (mm : List (Str × Addr)) (C : Addr) : Sp := fun vs H Q _ => ∃ (p dx z sl ml al : Addr) (L : Lt) (S : Sys) (xs us : List V), vs = [.ref p, .ref z, .ref sl, .ref ml, .ref al] ∧ H p = some (.ins C dx []) ∧ IsLat K mm H z L ∧ z ≠ p ∧ L.names.Nodup ∧ SqL K H sl (S.st.map V.str) ∧ SqL K H ml xs ∧ MkAt K H L xs S.ms ∧ SqL K H al us ∧ ArAt K H L us S.ar ∧ sl ≠ p ∧ ml ≠ p ∧ al ≠ p ∧ S.Ok ∧
  ∀ (H' : Hp), But p H H' → IsSys K mm C H' p z L S → Q .non H'
theorem ok_sysi {P : Program} (T : Tx K mg w) : FnOk P w K mg base CX0 3 T.a_System_init T.d_System_init ["self", "lattice", "states", "marks", "arrows"] (sp_sysi K T.mm T.a_System) := by
  have G_System_tell_state := ok_tst (P := P) (base := base) T
  have G_System_tell_mark := ok_tmk (P := P) (base := base) T
  have G_System_tell_arrow := ok_tar (P := P) (base := base) T
  refine T.F_System_init.ok sc_System_init (fun vs H Q E h => ?_) (fun cdv A outer s H vs Q E hr h => ?_)
  · obtain ⟨p, dx, z, sl, ml, al, L, S, xs, us, rfl, _⟩ := h
    rfl
  obtain ⟨p, dx, z, sl, ml, al, L, S, xs, us, rfl, hp, hL, nz, nd, hsl, hml, hms, hal, har, n1, n2, n3, ok, q⟩ := h
  refine ⟨_, pss_cons (ps_fld (pv 0) (pv 1) rfl)
    (pss_cons (ps_fld (pv 0) (pe_callTy call_tuple_of (by rfl) T.n_tuple (by decide +kernel) (pa_cons (pv 2) pa_nil)) rfl)
    (pss_cons (ps_fld (pv 0) (pe_callTy call_tuple_of (by rfl) T.n_tuple (by decide +kernel) (pa_cons (pe_lc (own := [("row", 5)]) (g := gName 5) (tt := tYes) rfl sc_System_init.nd (pi_list (pv 3)) (blkOk_by (N := N_System_init) (sc := defScope St_System_init) (by decide +kernel)) (fun _ _ _ _ _ => (pg_name (i := 5) sc_System_init.nd rfl (Or.inl rfl))) (fun _ _ _ _ _ => pts_nil) (fun _ _ _ _ _ => (pe_callTy (kx_call_tupleT K) (by rfl) T.n_tuple (by decide +kernel) (pa_cons (pv 5) pa_nil)))) pa_nil)) rfl)
    (pss_cons (ps_fld (pv 0) (pe_callTy call_tuple_of (by rfl) T.n_tuple (by decide +kernel) (pa_cons (pe_lc (own := [("row", 5)]) (g := gName 5) (tt := tYes) rfl sc_System_init.nd (pi_list (pv 4)) (blkOk_by (N := N_System_init) (sc := defScope St_System_init) (by decide +kernel)) (fun _ _ _ _ _ => (pg_name (i := 5) sc_System_init.nd rfl (Or.inl rfl))) (fun _ _ _ _ _ => pts_nil) (fun _ _ _ _ _ => (pe_callTy (kx_call_tupleT K) (by rfl) T.n_tuple (by decide +kernel) (pa_cons (pv 5) pa_nil)))) pa_nil)) rfl)
    (pss_cons (ps_fld (pv 0) pe_dnewT rfl)
    (pss_cons (ps_fld (pv 0) pe_dnewK rfl)
    (pss_cons (ps_for PassesOwn.never rfl (pi_tup (pe_fld (pv 0) rfl)) (pg_name (i := 6) sc_System_init.nd rfl (Or.inl rfl)) (pss_one (ps_expr (pe_meth (pv 0) T.c_System T.m_System_tell_state G_System_tell_state (hr.mono (by omega)) T.b_System_tell_state .nil pass0 (pa_cons (pv 6) pa_nil)))))
    (pss_cons (ps_for PassesOwn.never rfl (pi_tup (pe_fld (pv 0) rfl)) (pg_tup rfl (pgs_cons (pg_name (i := 7) sc_System_init.nd rfl (Or.inl rfl)) (pgs_cons (pg_name (i := 8) sc_System_init.nd rfl (Or.inl rfl)) (pgs_cons (pg_name (i := 9) sc_System_init.nd rfl (Or.inl rfl)) pgs_nil)))) (pss_one (ps_expr (pe_meth (pv 0) T.c_System T.m_System_tell_mark G_System_tell_mark (hr.mono (by omega)) T.b_System_tell_mark .nil pass0 (pa_cons (pv 7) (pa_cons (pv 8) (pa_cons (pv 9) pa_nil)))))))
    (pss_one (ps_for PassesOwn.never rfl (pi_tup (pe_fld (pv 0) rfl)) (pg_tup rfl (pgs_cons (pg_name (i := 10) sc_System_init.nd rfl (Or.inl rfl)) (pgs_cons (pg_name (i := 11) sc_System_init.nd rfl (Or.inl rfl)) (pgs_cons (pg_name (i := 12) sc_System_init.nd rfl (Or.inl rfl)) (pgs_cons (pg_name (i := 13) sc_System_init.nd rfl (Or.inl rfl)) pgs_nil))))) (pss_one (ps_expr (pe_meth (pv 0) T.c_System T.m_System_tell_arrow G_System_tell_arrow (hr.mono (by omega)) T.b_System_tell_arrow .nil pass0 (pa_cons (pv 10) (pa_cons (pv 11) (pa_cons (pv 12) (pa_cons (pv 13) pa_nil)))))))))))))))), ?_⟩
  refine ⟨_, rfl, _, rfl, p, T.a_System, dx, [], rfl, hp, T.c_System, T.n_System_lattice, by decide, ?_⟩
  have b1 : But p H (upd H p (.ins T.a_System dx [(("lattice" : Str), .ref z)])) := (But.refl p H).upd _
  have p1 : upd H p (.ins T.a_System dx [(("lattice" : Str), .ref z)]) p = _ := upd_same
  show (_ : Hp → Prop) (upd H p (.ins T.a_System dx [(("lattice" : Str), .ref z)]))
  generalize upd H p (.ins T.a_System dx [(("lattice" : Str), .ref z)]) = H1 at b1 p1 ⊢
  refine ⟨_, rfl, sl, _, rfl, .inl ⟨b1.seq n1 hsl, newQ (.tup (S.st.map V.str)) fun sr hsr s2 e2 => ?_⟩⟩
  generalize upd H1 sr (.tup (S.st.map V.str)) = H2 at s2 e2 ⊢
  refine ⟨_, rfl, p, T.a_System, dx, _, rfl, s2 _ _ p1, T.c_System, T.n_System_state_row, by show 1 < 1000; decide, ?_⟩
  have b3 : But p H2 (upd H2 p (.ins T.a_System dx [(("lattice" : Str), .ref z), (("state_row" : Str), .ref sr)])) := (But.refl p H2).upd _
  have p3 : upd H2 p (.ins T.a_System dx [(("lattice" : Str), .ref z), (("state_row" : Str), .ref sr)]) p = _ := upd_same
  show (_ : Hp → Prop) (upd H2 p (.ins T.a_System dx [(("lattice" : Str), .ref z), (("state_row" : Str), .ref sr)]))
  generalize upd H2 p (.ins T.a_System dx [(("lattice" : Str), .ref z), (("state_row" : Str), .ref sr)]) = H3 at b3 p3 ⊢
  have B3 : But p H H3 := (b1.trans (s2.but p)).trans b3
  refine ⟨_, rfl, ml, rfl, ⟨_, B3.seq n2 hml⟩, fun U hU => ?_⟩
  refine lc_fold (walk_list (K := K) (a := ml) (xs := xs)) hU (fun i _ ys => i ≤ xs.length ∧ ys = xs.take i) (fun _ => ⟨Nat.zero_le _, rfl⟩) (fun i _ _ xs _ h => h) ?_ (fun H4 s4 => s4.seq (B3.seq n2 hml)) ?_ (fun H4 ys s4 h4 h => ?_)
  · rintro i _ ys ⟨hi, rfl⟩
    have := hms.1
    have := ok.zm
    rw [List.length_take]
    omega
  · rintro i x H4 H5 ys Nx Ex hi s4 ⟨_, rfl⟩ ⟨e5, hx⟩ k1 k2
    obtain rfl : H4 = H5 := e5.symm
    have hi : i < S.ms.length := by rw [← hms.1]; exact hi
    obtain ⟨t, v, a1, a2, a3⟩ := hms.2 i _ (List.getElem?_eq_getElem hi)
    have hx : xs[i]? = some x := hx
    rw [a1] at hx
    cases hx
    refine ⟨rfl, ?_⟩
    refine lcY ?_
    refine ⟨_, rfl, t, _, rfl, ((B3.keeps hp trivial).trans s4.keeps).sqT a2, k1 _ _ (Same.refl _) ⟨by rw [hms.1]; exact hi, ?_⟩⟩
    rw [List.take_add_one, a1]
    rfl
  obtain rfl : xs = ys := by rw [h.2, List.take_length]
  refine ⟨U, _, rfl, .inl ⟨SqL.of (K := K) h4, newQ (.tup xs) fun mr hmr s5 e5 => ?_⟩⟩
  generalize upd H4 mr (.tup xs) = H5 at s5 e5 ⊢
  have p5 := s5 _ _ (s4 _ _ p3)
  refine ⟨_, rfl, p, T.a_System, dx, _, rfl, p5, T.c_System, T.n_System_mark_rows, by show 2 < 1000; decide, ?_⟩
  have b6 : But p H5 (upd H5 p (.ins T.a_System dx [(("lattice" : Str), .ref z), (("state_row" : Str), .ref sr), (("mark_rows" : Str), .ref mr)])) := (But.refl p H5).upd _
  have p6 : upd H5 p (.ins T.a_System dx [(("lattice" : Str), .ref z), (("state_row" : Str), .ref sr), (("mark_rows" : Str), .ref mr)]) p = _ := upd_same
  show (_ : Hp → Prop) (upd H5 p (.ins T.a_System dx [(("lattice" : Str), .ref z), (("state_row" : Str), .ref sr), (("mark_rows" : Str), .ref mr)]))
  generalize upd H5 p (.ins T.a_System dx [(("lattice" : Str), .ref z), (("state_row" : Str), .ref sr), (("mark_rows" : Str), .ref mr)]) = H6 at b6 p6 ⊢
  have B6 : But p H H6 := (B3.trans ((s4.trans s5).but p)).trans b6
  clear h h4 hU
  refine ⟨_, rfl, al, rfl, ⟨_, B6.seq n3 hal⟩, fun U2 hU2 => ?_⟩
  refine lc_fold (walk_list (K := K) (a := al) (xs := us)) hU2 (fun i _ ys => i ≤ us.length ∧ ys = us.take i) (fun _ => ⟨Nat.zero_le _, rfl⟩) (fun i _ _ xs _ h => h) ?_ (fun H4 s4 => s4.seq (B6.seq n3 hal)) ?_ (fun H7 ys s7 h7 h => ?_)
  · rintro i _ ys ⟨hi, rfl⟩
    have := har.1
    have := ok.za
    rw [List.length_take]
    omega
  · rintro i x H7 H8 ys Nx Ex hi s7 ⟨_, rfl⟩ ⟨e8, hx⟩ k1 k2
    obtain rfl : H7 = H8 := e8.symm
    have hi : i < S.ar.length := by rw [← har.1]; exact hi
    obtain ⟨t, v, u, a1, a2, a3⟩ := har.2 i _ (List.getElem?_eq_getElem hi)
    have hx : us[i]? = some x := hx
    rw [a1] at hx
    cases hx
    refine ⟨rfl, ?_⟩
    refine lcY ?_
    refine ⟨_, rfl, t, _, rfl, ((B6.keeps hp trivial).trans s7.keeps).sqT a2, k1 _ _ (Same.refl _) ⟨by rw [har.1]; exact hi, ?_⟩⟩
    rw [List.take_add_one, a1]
    rfl
  obtain rfl : us = ys := by rw [h.2, List.take_length]
  refine ⟨U2, _, rfl, .inl ⟨SqL.of (K := K) h7, newQ (.tup us) fun ar hart s8 e8 => ?_⟩⟩
  generalize upd H7 ar (.tup us) = H8 at s8 e8 ⊢
  have p8 := s8 _ _ (s7 _ _ p6)
  refine ⟨_, rfl, p, T.a_System, dx, _, rfl, p8, T.c_System, T.n_System_arrow_rows, by show 3 < 1000; decide, ?_⟩
  have b9 : But p H8 (upd H8 p (.ins T.a_System dx [(("lattice" : Str), .ref z), (("state_row" : Str), .ref sr), (("mark_rows" : Str), .ref mr), (("arrow_rows" : Str), .ref ar)])) := (But.refl p H8).upd _
  have p9 : upd H8 p (.ins T.a_System dx [(("lattice" : Str), .ref z), (("state_row" : Str), .ref sr), (("mark_rows" : Str), .ref mr), (("arrow_rows" : Str), .ref ar)]) p = _ := upd_same
  show (_ : Hp → Prop) (upd H8 p (.ins T.a_System dx [(("lattice" : Str), .ref z), (("state_row" : Str), .ref sr), (("mark_rows" : Str), .ref mr), (("arrow_rows" : Str), .ref ar)]))
  generalize upd H8 p (.ins T.a_System dx [(("lattice" : Str), .ref z), (("state_row" : Str), .ref sr), (("mark_rows" : Str), .ref mr), (("arrow_rows" : Str), .ref ar)]) = H9 at b9 p9 ⊢
  have B9 : But p H H9 := (B6.trans ((s7.trans s8).but p)).trans b9
  refine newQ (.dT []) fun td htd s10 e10 => ?_
  generalize upd H9 td (.dT []) = H10 at s10 e10 ⊢
  refine ⟨_, rfl, p, T.a_System, dx, _, rfl, s10 _ _ p9, T.c_System, T.n_System_told_marks, by show 4 < 1000; decide, ?_⟩
  have b11 : But p H10 (upd H10 p (.ins T.a_System dx [(("lattice" : Str), .ref z), (("state_row" : Str), .ref sr), (("mark_rows" : Str), .ref mr), (("arrow_rows" : Str), .ref ar), (("told_marks" : Str), .ref td)])) := (But.refl p H10).upd _
  have p11 : upd H10 p (.ins T.a_System dx [(("lattice" : Str), .ref z), (("state_row" : Str), .ref sr), (("mark_rows" : Str), .ref mr), (("arrow_rows" : Str), .ref ar), (("told_marks" : Str), .ref td)]) p = _ := upd_same
  show (_ : Hp → Prop) (upd H10 p (.ins T.a_System dx [(("lattice" : Str), .ref z), (("state_row" : Str), .ref sr), (("mark_rows" : Str), .ref mr), (("arrow_rows" : Str), .ref ar), (("told_marks" : Str), .ref td)]))
  generalize upd H10 p (.ins T.a_System dx [(("lattice" : Str), .ref z), (("state_row" : Str), .ref sr), (("mark_rows" : Str), .ref mr), (("arrow_rows" : Str), .ref ar), (("told_marks" : Str), .ref td)]) = H11 at b11 p11 ⊢
  refine newQ (.dK []) fun ld hld s12 e12 => ?_
  generalize upd H11 ld (.dK []) = H12 at s12 e12 ⊢
  refine ⟨_, rfl, p, T.a_System, dx, _, rfl, s12 _ _ p11, T.c_System, T.n_System_leaving, by show 5 < 1000; decide, ?_⟩
  have b13 : But p H12 (upd H12 p (.ins T.a_System dx [(("lattice" : Str), .ref z), (("state_row" : Str), .ref sr), (("mark_rows" : Str), .ref mr), (("arrow_rows" : Str), .ref ar), (("told_marks" : Str), .ref td), (("leaving" : Str), .ref ld)])) := (But.refl p H12).upd _
  have p13 : upd H12 p (.ins T.a_System dx [(("lattice" : Str), .ref z), (("state_row" : Str), .ref sr), (("mark_rows" : Str), .ref mr), (("arrow_rows" : Str), .ref ar), (("told_marks" : Str), .ref td), (("leaving" : Str), .ref ld)]) p = _ := upd_same
  show (_ : Hp → Prop) (upd H12 p (.ins T.a_System dx [(("lattice" : Str), .ref z), (("state_row" : Str), .ref sr), (("mark_rows" : Str), .ref mr), (("arrow_rows" : Str), .ref ar), (("told_marks" : Str), .ref td), (("leaving" : Str), .ref ld)]))
  generalize upd H12 p (.ins T.a_System dx [(("lattice" : Str), .ref z), (("state_row" : Str), .ref sr), (("mark_rows" : Str), .ref mr), (("arrow_rows" : Str), .ref ar), (("told_marks" : Str), .ref td), (("leaving" : Str), .ref ld)]) = H13 at b13 p13 ⊢
  have B13 : But p H H13 := (((B9.trans (s10.but p)).trans b11).trans (s12.but p)).trans b13
  have K3 : Keeps H2 H13 := ((((((b3.keeps (s2 _ _ p1) trivial).trans (s4.trans s5).keeps).trans (b6.keeps p5 trivial)).trans (s7.trans s8).keeps).trans (b9.keeps p8 trivial)).trans (s10.keeps.trans (b11.keeps (s10 _ _ p9) trivial))).trans (s12.keeps.trans (b13.keeps (s12 _ _ p11) trivial))
  have K6 : Keeps H5 H13 := ((((b6.keeps p5 trivial).trans (s7.trans s8).keeps).trans (b9.keeps p8 trivial)).trans (s10.keeps.trans (b11.keeps (s10 _ _ p9) trivial))).trans (s12.keeps.trans (b13.keeps (s12 _ _ p11) trivial))
  have K9 : Keeps H8 H13 := ((b9.keeps p8 trivial).trans (s10.keeps.trans (b11.keeps (s10 _ _ p9) trivial))).trans (s12.keeps.trans (b13.keeps (s12 _ _ p11) trivial))
  have tdp : td ≠ p := fun e => by rw [e, p9] at htd; cases htd
  have ldp : ld ≠ p := fun e => by rw [e, p11] at hld; cases hld
  have td13 : H13 td = some (.dT []) := b13 _ _ tdp (s12 _ _ (b11 _ _ tdp e10))
  have ld13 : H13 ld = some (.dK []) := b13 _ _ ldp e12
  have tdn : H td = none := by
    cases e : H td with
    | none => rfl
    | some o => have := B9 _ _ tdp e; rw [htd] at this; cases this
  have ldn : H ld = none := by
    cases e : H ld with
    | none => rfl
    | some o => have := b11 _ _ ldp (s10 _ _ (B9 _ _ ldp e)); rw [hld] at this; cases this
  let G : Hp → Prop := fun H' => But p H H' ∧ H' p = some (.ins T.a_System dx (sfs z sr mr ar td ld)) ∧ SqT K H' sr (S.st.map V.str) ∧ SqT K H' mr xs ∧ SqT K H' ar us
  have G13 : G H13 := ⟨B13, p13, K3.sqT (SqT.of (K := K) e2), K6.sqT (SqT.of (K := K) e5), K9.sqT (SqT.of (K := K) e8)⟩
  have step : ∀ {H' H'' : Hp} {x : Addr} {o : HO}, G H' → H' x = some o → Mut (some o) → H x = none → But x H' H'' → G H'' := fun {H' H'' x o} g hx mo hn b => by
    have xp : p ≠ x := fun e => by rw [← e, hp] at hn; cases hn
    refine ⟨fun c u hc he => b _ _ (fun e => by rw [e, hn] at he; cases he) (g.1 _ _ hc he), b _ _ xp g.2.1, sqT_dict hx mo b g.2.2.1, sqT_dict hx mo b g.2.2.2.1, sqT_dict hx mo b g.2.2.2.2⟩
  have fresh : ∀ {H' : Hp} {d : Addr}, G H' → H' d = none → H d = none := fun {H' d} g hd => by
    cases e : H d with
    | none => rfl
    | some o =>
      have dp : d ≠ p := fun z => by rw [z, g.2.1] at hd; cases hd
      have := g.1 _ _ dp e
      rw [hd] at this; cases this
  have T0 : Tol K H13 td ld ⟨[], [], []⟩ (fun _ => 0) (fun _ _ => 0) := ⟨td13, ld13, fun _ h => (nomatch h), fun _ h => (nomatch h), fun _ h => (nomatch h), fun _ h => (nomatch h)⟩
  clear K3 K6 K9 td13 ld13
  have pn : ∀ {x : Addr}, H x = none → x ≠ p := fun hn e => by rw [e, hp] at hn; cases hn
  dsimp only
  refine st_run (fun σ H' => ∃ (v6 : Option V) (da : Str → Addr), σ = [some (.ref p), some (.ref z), some (.ref sl), some (.ref ml), some (.ref al), none, v6, none, none, none, none, none, none, none] ∧ G H' ∧ Tol K H' td ld ⟨S.st, [], []⟩ da (fun _ _ => 0) ∧ ∀ y ∈ S.st, H (da y) = none) (fun D' hD q' => ?_) ?_
  · refine ⟨_, rfl, p, _, dx, _, _, rfl, p13, T.c_System, T.n_System_state_row, rfl, sr, rfl, ⟨_, G13.2.2.1⟩, ?_⟩
    refine for_it (walk_tup (K := K) (a := sr) (xs := S.st.map V.str)) (fun i σ H' => ∃ (v6 : Option V) (da : Str → Addr), σ = [some (.ref p), some (.ref z), some (.ref sl), some (.ref ml), some (.ref al), none, v6, none, none, none, none, none, none, none] ∧ G H' ∧ Tol K H' td ld ⟨S.st.take i, [], []⟩ da (fun _ _ => 0) ∧ ∀ y ∈ S.st.take i, H (da y) = none) ⟨_, _, rfl, G13, T0, fun _ h => (nomatch h)⟩ (fun i σ H' _ ⟨_, _, _, g, _⟩ => g.2.2.1) ?_ ?_
    · rintro i x σ H' H'' hi ⟨v6, da, rfl, g, t, fr⟩ ⟨e, hx⟩
      obtain rfl : H' = H'' := e.symm
      have hi : i < S.st.length := by simpa using hi
      have hxs : S.st[i]? = some S.st[i] := List.getElem?_eq_getElem hi
      have hx : (S.st.map V.str)[i]? = some x := hx
      rw [List.getElem?_map, hxs] at hx
      have hm := List.getElem_mem hi
      have et : S.st.take (i + 1) = S.st.take i ++ [S.st[i]] := by rw [List.take_add_one, hxs]; rfl
      have nm := nodup_take ok.nd hi
      rw [et]
      generalize S.st[i] = y at hx hm nm
      cases hx
      refine ⟨_, rfl, p, dx, _, rfl, g.2.1, rfl, _, rfl, p, dx, z, sr, mr, ar, td, ld, _, da, _, y, rfl, g.2.1, t, ok.nm y hm, nm, (by show (S.st.take i).length < 1000; rw [List.length_take]; have := ok.zs; omega), fun d H' hd b t' => ?_⟩
      refine ⟨_, _, rfl, step g t.ldE trivial ldn b, t', fun y' hy' => ?_⟩
      show H (if y' = y then d else da y') = none
      rcases List.mem_append.mp hy' with h | h
      · rw [if_neg (fun (e : y' = y) => nm (e ▸ h))]; exact fr y' h
      · rw [if_pos (by simpa using h)]; exact fresh g hd
    · rintro σ H' ⟨v6, da, rfl, g, t, fr⟩
      have el : S.st.take (S.st.map V.str).length = S.st := by rw [List.length_map, List.take_length]
      rw [el] at t fr
      exact q' _ _ ⟨_, _, rfl, g, t, fr⟩
  rintro _ H14 ⟨v6, da, rfl, g14, t14, fr⟩
  refine st_run (fun σ H' => ∃ (v7 v8 v9 : Option V), σ = [some (.ref p), some (.ref z), some (.ref sl), some (.ref ml), some (.ref al), none, v6, v7, v8, v9, none, none, none, none] ∧ G H' ∧ Tol K H' td ld ⟨S.st, S.ms, []⟩ da (fun _ _ => 0)) (fun D' hD q' => ?_) ?_
  · refine ⟨_, rfl, p, _, dx, _, _, rfl, g14.2.1, T.c_System, T.n_System_mark_rows, rfl, mr, rfl, ⟨_, g14.2.2.2.1⟩, ?_⟩
    refine for_it (walk_tup (K := K) (a := mr) (xs := xs)) (fun i σ H' => ∃ (v7 v8 v9 : Option V), σ = [some (.ref p), some (.ref z), some (.ref sl), some (.ref ml), some (.ref al), none, v6, v7, v8, v9, none, none, none, none] ∧ G H' ∧ Tol K H' td ld ⟨S.st, S.ms.take i, []⟩ da (fun _ _ => 0)) ⟨_, _, _, rfl, g14, t14⟩ (fun i σ H' _ ⟨_, _, _, _, g, _⟩ => g.2.2.2.1) ?_ ?_
    · rintro i x σ H' H'' hi ⟨v7, v8, v9, rfl, g, t⟩ ⟨e, hx⟩
      obtain rfl : H' = H'' := e.symm
      have hi : i < S.ms.length := by rw [← hms.1]; exact hi
      have hxs : S.ms[i]? = some S.ms[i] := List.getElem?_eq_getElem hi
      obtain ⟨tt, v, a1, a2, a3⟩ := hms.2 i _ hxs
      have hx : xs[i]? = some x := hx
      rw [a1] at hx
      have hm := List.getElem_mem hi
      have et : S.ms.take (i + 1) = S.ms.take i ++ [S.ms[i]] := by rw [List.take_add_one, hxs]; rfl
      have nm : ((S.ms[i]).1, (S.ms[i]).2.1) ∉ (S.ms.take i).map fun m => (m.1, m.2.1) := by
        rw [List.map_take]
        have := nodup_take (l := S.ms.map fun m => (m.1, m.2.1)) (i := i) ok.mnd (by rw [List.length_map]; exact hi)
        rw [List.getElem_map] at this
        exact this
      rw [et]
      generalize S.ms[i] = y at hx hm nm a2 a3
      obtain ⟨y1, y2, y3⟩ := y
      cases hx
      have kk : Keeps H H' := g.1.keeps hp trivial
      refine ⟨tt, _, rfl, kk.sqT a2, rfl, _, _, rfl, _, _, rfl, _, _, rfl, ⟨rfl, ?_⟩⟩
      refine ⟨_, rfl, p, dx, _, rfl, g.2.1, rfl, _, rfl, _, rfl, _, rfl, p, dx, z, sr, mr, ar, td, ld, _, da, _, L, y1, y2, v, y3, rfl, g.2.1, t, hL.but g.1 hp trivial nz, nd, a3, (ok.mnm _ hm).1, (ok.mnm _ hm).2, nm, (by show (S.ms.take i).length < 1000; rw [List.length_take]; have := ok.zm; omega), fun H'' b t' => ?_⟩
      exact ⟨_, _, _, rfl, step g t.tdE trivial tdn b, t'⟩
    · rintro σ H' ⟨v7, v8, v9, rfl, g, t⟩
      have el : S.ms.take xs.length = S.ms := by rw [hms.1, List.take_length]
      rw [el] at t
      exact q' _ _ ⟨_, _, _, rfl, g, t⟩
  rintro _ H15 ⟨v7, v8, v9, rfl, g15, t15⟩
  refine ⟨_, rfl, p, _, dx, _, _, rfl, g15.2.1, T.c_System, T.n_System_arrow_rows, rfl, ar, rfl, ⟨_, g15.2.2.2.2⟩, ?_⟩
  refine for_it (walk_tup (K := K) (a := ar) (xs := us)) (fun i σ H' => ∃ (v10 v11 v12 v13 : Option V) (ta : Str → Str → Addr), σ = [some (.ref p), some (.ref z), some (.ref sl), some (.ref ml), some (.ref al), none, v6, v7, v8, v9, v10, v11, v12, v13] ∧ G H' ∧ Tol K H' td ld ⟨S.st, S.ms, S.ar.take i⟩ da ta) ⟨_, _, _, _, _, rfl, g15, t15⟩ (fun i σ H' _ ⟨_, _, _, _, _, _, g, _⟩ => g.2.2.2.2) ?_ ?_
  · rintro i x σ H' H'' hi ⟨v10, v11, v12, v13, ta, rfl, g, t⟩ ⟨e, hx⟩
    obtain rfl : H' = H'' := e.symm
    have hi : i < S.ar.length := by rw [← har.1]; exact hi
    have hxs : S.ar[i]? = some S.ar[i] := List.getElem?_eq_getElem hi
    obtain ⟨tt, v, u, a1, a2, a3, a4⟩ := har.2 i _ hxs
    have hx : us[i]? = some x := hx
    rw [a1] at hx
    have hm := List.getElem_mem hi
    have et : S.ar.take (i + 1) = S.ar.take i ++ [S.ar[i]] := by rw [List.take_add_one, hxs]; rfl
    have nm : ((S.ar[i]).1, (S.ar[i]).2.1) ∉ (S.ar.take i).map fun m => (m.1, m.2.1) := by
      rw [List.map_take]
      have := nodup_take (l := S.ar.map fun m => (m.1, m.2.1)) (i := i) ok.and (by rw [List.length_map]; exact hi)
      rw [List.getElem_map] at this
      exact this
    rw [et]
    generalize S.ar[i] = y at hx hm nm a2 a3 a4
    obtain ⟨y1, y2, y3, y4⟩ := y
    cases hx
    have kk : Keeps H H' := g.1.keeps hp trivial
    have d1 := (t.at_ y1 (ok.ast _ hm).1).1
    refine ⟨tt, _, rfl, kk.sqT a2, rfl, _, _, rfl, _, _, rfl, _, _, rfl, _, _, rfl, ⟨rfl, ?_⟩⟩
    refine ⟨_, rfl, p, dx, _, rfl, g.2.1, rfl, _, rfl, _, rfl, _, rfl, _, rfl, p, dx, z, sr, mr, ar, td, ld, _, da, ta, L, y1, y2, v, u, y3, y4, rfl, g.2.1, t, hL.but g.1 hp trivial nz, nd, a3, a4, (ok.ast _ hm).1, (ok.ast _ hm).2, nm, (by show (S.ar.take i).length < 1000; rw [List.length_take]; have := ok.za; omega), fun H'' d hd b t' => ?_⟩
    exact ⟨_, _, _, _, _, rfl, step g d1 trivial (fr y1 (ok.ast _ hm).1) b, t'⟩
  · rintro σ H' ⟨v10, v11, v12, v13, ta, rfl, g, t⟩
    have el : S.ar.take us.length = S.ar := by rw [har.1, List.take_length]
    rw [el] at t
    have kk : Keeps H H' := g.1.keeps hp trivial
    exact q H' g.1 ⟨dx, sr, mr, ar, td, ld, da, ta, xs, us, g.2.1, hL.but g.1 hp trivial nz, g.2.2.1, g.2.2.2.1, hms.keep kk, g.2.2.2.2, har.keep kk, t⟩
end
/-! ### states(), marks(), arrows() -/
section
open PyProof.Rows
variable {w : World} {K : PySem.W.Frag} {mg : Str → Option Value} {base : Heap} {mm : List (Str × Addr)} {H H' : Hp} {L : Lt}
def sp_sts (K : PySem.W.Frag) (mm : List (Str × Addr)) (C : Addr) : Sp := fun vs H Q _ => ∃ (p z : Addr) (L : Lt) (S : Sys), vs = [.ref p] ∧ IsSys K mm C H p z L S ∧ ∀ l H', Same H H' → H l = none → H' l = some (.lst (S.st.map V.str)) → Q (.ref l) H'
theorem ok_sts {P : Program} (T : Tx K mg w) : FnOk P w K mg base CX0 1 T.a_System_states T.d_System_states ["self"] (sp_sts K T.mm T.a_System) := by
  refine T.F_System_states.ok sc_System_states (fun vs H Q E h => ?_) (fun cdv A outer s H vs Q E hr h => ?_)
  · obtain ⟨p, z, L, S, rfl, _⟩ := h
    rfl
  obtain ⟨p, z, L, S, rfl, ⟨dx, sr, mr, ar, td, ld, da, ta, vs, us, a1, a2, a3, a4, a5, a6, a7, a8⟩, q⟩ := h
  refine ⟨_, pss_one (ps_ret (pe_callTy call_list_of (by rfl) T.n_list (by decide +kernel) (pa_cons (pe_fld (pv 0) rfl) pa_nil))), ?_⟩
  refine ⟨_, rfl, p, _, dx, _, _, rfl, a1, T.c_System, T.n_System_state_row, rfl, sr, _, rfl, .inr a3, fun l hl => ?_⟩
  exact q l _ (Same.new hl _) hl upd_same
def sp_mks (K : PySem.W.Frag) (mm : List (Str × Addr)) (C : Addr) : Sp := fun vs H Q _ => ∃ (p z : Addr) (L : Lt) (S : Sys), vs = [.ref p] ∧ IsSys K mm C H p z L S ∧ ∀ l xs H', Same H H' → H l = none → H' l = some (.lst xs) → MkAt K H' L xs S.ms → Q (.ref l) H'
theorem ok_mks {P : Program} (T : Tx K mg w) : FnOk P w K mg base CX0 1 T.a_System_marks T.d_System_marks ["self"] (sp_mks K T.mm T.a_System) := by
  refine T.F_System_marks.ok sc_System_marks (fun vs H Q E h => ?_) (fun cdv A outer s H vs Q E hr h => ?_)
  · obtain ⟨p, z, L, S, rfl, _⟩ := h
    rfl
  obtain ⟨p, z, L, S, rfl, ⟨dx, sr, mr, ar, td, ld, da, ta, vs, us, a1, a2, a3, a4, a5, a6, a7, a8⟩, q⟩ := h
  refine ⟨_, pss_one (ps_ret (pe_callTy call_list_of (by rfl) T.n_list (by decide +kernel) (pa_cons (pe_fld (pv 0) rfl) pa_nil))), ?_⟩
  refine ⟨_, rfl, p, _, dx, _, _, rfl, a1, T.c_System, T.n_System_mark_rows, rfl, mr, _, rfl, .inr a4, fun l hl => ?_⟩
  exact q l vs _ (Same.new hl _) hl upd_same (a5.keep (Same.new hl _).keeps)
def sp_ars (K : PySem.W.Frag) (mm : List (Str × Addr)) (C : Addr) : Sp := fun vs H Q _ => ∃ (p z : Addr) (L : Lt) (S : Sys), vs = [.ref p] ∧ IsSys K mm C H p z L S ∧ ∀ l xs H', Same H H' → H l = none → H' l = some (.lst xs) → ArAt K H' L xs S.ar → Q (.ref l) H'
theorem ok_ars {P : Program} (T : Tx K mg w) : FnOk P w K mg base CX0 1 T.a_System_arrows T.d_System_arrows ["self"] (sp_ars K T.mm T.a_System) := by
  refine T.F_System_arrows.ok sc_System_arrows (fun vs H Q E h => ?_) (fun cdv A outer s H vs Q E hr h => ?_)
  · obtain ⟨p, z, L, S, rfl, _⟩ := h
    rfl
  obtain ⟨p, z, L, S, rfl, ⟨dx, sr, mr, ar, td, ld, da, ta, vs, us, a1, a2, a3, a4, a5, a6, a7, a8⟩, q⟩ := h
  refine ⟨_, pss_one (ps_ret (pe_callTy call_list_of (by rfl) T.n_list (by decide +kernel) (pa_cons (pe_fld (pv 0) rfl) pa_nil))), ?_⟩
  refine ⟨_, rfl, p, _, dx, _, _, rfl, a1, T.c_System, T.n_System_arrow_rows, rfl, ar, _, rfl, .inr a6, fun l hl => ?_⟩
  exact q l us _ (Same.new hl _) hl upd_same (a7.keep (Same.new hl _).keeps)
/-! ### Evaluation.__init__ -/
/-- the moves from a state, as tuples -/
def MvAt (K : PySem.W.Frag) (H : Hp) (vs : List V) (ar : List (Str × Str × Nat × Nat)) : Prop := vs.length = ar.length ∧ ∀ (i : Nat) (a : Str × Str × Nat × Nat), ar[i]? = some a → ∃ (t : Addr), vs[i]? = some (.ref t) ∧ SqT K H t [.str a.2.1, .int (a.2.2.1 : Nat), .int (a.2.2.2 : Nat)]
theorem MvAt.keep {vs : List V} {ar : List (Str × Str × Nat × Nat)} (h : MvAt K H vs ar) (k : Keeps H H') : MvAt K H' vs ar := ⟨h.1, fun i m hm => by
  obtain ⟨t, a1, a2⟩ := h.2 i m hm
  exact ⟨t, a1, k.sqT a2⟩⟩
def efs (z sn mv mo : Addr) : List (Str × V) := [(("lattice" : Str), .ref z), (("state_names" : Str), .ref sn), (("mark_values" : Str), .ref mv), (("moves" : Str), .ref mo)]
/-- at p stands an Evaluation -/
def IsEv (K : PySem.W.Frag) (mm : List (Str × Addr)) (C : Addr) (H : Hp) (p z : Addr) (L : Lt) (S : Sys) : Prop := ∃ (dx sn mv mo : Addr) (ma : Str → Addr) (mvs : Str → List V), H p = some (.ins C dx (efs z sn mv mo)) ∧ IsLat K mm H z L ∧ H sn = some (.lst (S.st.map V.str)) ∧ H mv = some (.dT S.mkK) ∧ H mo = some (.dK (S.stK ma)) ∧ ∀ s ∈ S.st, H (ma s) = some (.lst (mvs s)) ∧ MvAt K H (mvs s) (S.ar.filter fun a => a.1 == s)
theorem IsEv.same {C p z : Addr} {S : Sys} (h : IsEv K mm C H p z L S) (s : Same H H') : IsEv K mm C H' p z L S := by
  obtain ⟨dx, sn, mv, mo, ma, mvs, a1, a2, a3, a4, a5, a6⟩ := h
  exact ⟨dx, sn, mv, mo, ma, mvs, s _ _ a1, a2.same s, s _ _ a3, s _ _ a4, s _ _ a5, fun x hx => ⟨s _ _ (a6 x hx).1, (a6 x hx).2.keep s.keeps⟩⟩
theorem IsSys.but {CS y z p : Addr} {S : Sys} {C dx : Addr} {fs : List (Str × V)} (h : IsSys K mm CS H y z L S) (hp : H p = some (.ins C dx fs)) (yp : y ≠ p) (zp : z ≠ p) (b : But p H H') : IsSys K mm CS H' y z L S := by
  obtain ⟨dy, sr, mr, ar, td, ld, da, ta, vs, us, a1, a2, a3, a4, a5, a6, a7, t⟩ := h
  have k := b.keeps hp trivial
  exact ⟨dy, sr, mr, ar, td, ld, da, ta, vs, us, b _ _ yp a1, a2.but b hp trivial zp, k.sqT a3, k.sqT a4, a5.keep k, k.sqT a6, a7.keep k,
    ⟨b _ _ (ne_of t.tdE hp (by intro z; cases z)) t.tdE, b _ _ (ne_of t.ldE hp (by intro z; cases z)) t.ldE, fun s hs => ⟨b _ _ (ne_of (t.at_ s hs).1 hp (by intro z; cases z)) (t.at_ s hs).1, (t.at_ s hs).2⟩, t.inj, fun a ha => k.sqT (t.tup a ha), t.ends⟩⟩
def sp_evi (K : PySem.W.Frag) (mm : List (Str × Addr)) (CS C : Addr) : Sp := fun vs H Q _ => ∃ (p dx y z : Addr) (L : Lt) (S : Sys), vs = [.ref p, .ref y] ∧ H p = some (.ins C dx []) ∧ IsSys K mm CS H y z L S ∧ y ≠ p ∧ z ≠ p ∧ L.names.Nodup ∧ S.Ok ∧ ∀ (H' : Hp), But p H H' → IsEv K mm C H' p z L S → Q .non H'
theorem ok_evi {P : Program} (T : Tx K mg w) : FnOk P w K mg base CX0 3 T.a_Evaluation_init T.d_Evaluation_init ["self", "system"] (sp_evi K T.mm T.a_System T.a_Evaluation) := by
  have G_System_states := ok_sts (P := P) (base := base) T
  have G_System_marks := ok_mks (P := P) (base := base) T
  have G_System_arrows := ok_ars (P := P) (base := base) T
  have G_Lattice_at_name := ok_at_name (P := P) (w := w) (base := base) T
  refine T.F_Evaluation_init.ok sc_Evaluation_init (fun vs H Q E h => ?_) (fun cdv A outer s H vs Q E hr h => ?_)
  · obtain ⟨p, dx, y, z, L, S, rfl, _⟩ := h
    rfl
  obtain ⟨p, dx, y, z, L, S, rfl, hp, hS, yp, zp, nd, ok, q⟩ := h
  have hu := hu_of hr
  refine ⟨_, pss_cons (ps_fld (pv 0) (pe_fld (pv 1) rfl) rfl)
    (pss_cons (ps_fld (pv 0) (pe_meth0 (pv 1) T.c_System T.m_System_states G_System_states (hr.mono (by omega)) T.b_System_states .nil pass0) rfl)
    (pss_cons (ps_fld (pv 0) pe_dnewT rfl)
    (pss_cons (ps_for PassesOwn.never rfl (pi_list (pe_meth0 (pv 1) T.c_System T.m_System_marks G_System_marks (hr.mono (by omega)) T.b_System_marks .nil pass0)) (pg_tup rfl (pgs_cons (pg_name (i := 2) sc_Evaluation_init.nd rfl (Or.inl rfl)) (pgs_cons (pg_name (i := 3) sc_Evaluation_init.nd rfl (Or.inl rfl)) (pgs_cons (pg_name (i := 4) sc_Evaluation_init.nd rfl (Or.inl rfl)) pgs_nil)))) (pss_one (ps_dput hu (pe_fld (pv 0) rfl) (pe_tup (pa_cons (pv 2) (pa_cons (pv 3) pa_nil))) (pe_methG (pe_fld (pv 0) rfl) G_Lattice_at_name (hr.mono (by omega)) T.b_Lattice_at_name .nil pass0 (pa_cons (pv 4) pa_nil)) rfl)))
    (pss_cons (ps_fld (pv 0) (pe_dc (own := [("state", 3)]) (g := gName 3) (tt := tYes) rfl sc_Evaluation_init.nd (pi_list (pe_fld (pv 0) rfl)) (blkOk_by (N := N_Evaluation_init) (sc := defScope St_Evaluation_init) (by decide +kernel)) (fun _ _ _ _ _ => (pg_name (i := 3) sc_Evaluation_init.nd rfl (Or.inl rfl))) (fun _ _ _ _ _ => pts_nil) (fun _ _ _ _ _ => (pv 3)) (fun _ _ _ _ _ => (pe_lst pa_nil))) rfl)
    (pss_one (ps_for PassesOwn.never rfl (pi_list (pe_meth0 (pv 1) T.c_System T.m_System_arrows G_System_arrows (hr.mono (by omega)) T.b_System_arrows .nil pass0)) (pg_tup rfl (pgs_cons (pg_name (i := 5) sc_Evaluation_init.nd rfl (Or.inl rfl)) (pgs_cons (pg_name (i := 6) sc_Evaluation_init.nd rfl (Or.inl rfl)) (pgs_cons (pg_name (i := 7) sc_Evaluation_init.nd rfl (Or.inl rfl)) (pgs_cons (pg_name (i := 8) sc_Evaluation_init.nd rfl (Or.inl rfl)) pgs_nil))))) (pss_one (ps_expr (pe_bm PySem.F.plainAttrs_list PySem.F.slot_list_append PySem.F.type_list_append mt_append (pe_dget hu (pe_fld (pv 0) rfl) (pv 5) (fun _ _ => rfl)) (pa_cons (pe_tup (pa_cons (pv 6) (pa_cons (pe_methG (pe_fld (pv 0) rfl) G_Lattice_at_name (hr.mono (by omega)) T.b_Lattice_at_name .nil pass0 (pa_cons (pv 7) pa_nil)) (pa_cons (pe_methG (pe_fld (pv 0) rfl) G_Lattice_at_name (hr.mono (by omega)) T.b_Lattice_at_name .nil pass0 (pa_cons (pv 8) pa_nil)) pa_nil)))) pa_nil)))))))))), ?_⟩
  obtain ⟨dy, sr, mr, ar, td, ld, da, ta, vs0, us0, y1, yL, _⟩ := id hS
  refine ⟨_, rfl, y, _, dy, _, _, rfl, y1, T.c_System, T.n_System_lattice, rfl, _, rfl, p, T.a_Evaluation, dx, [], rfl, hp, T.c_Evaluation, T.n_Evaluation_lattice, by decide, ?_⟩
  have b1 : But p H (upd H p (.ins T.a_Evaluation dx [(("lattice" : Str), .ref z)])) := (But.refl p H).upd _
  have p1 : upd H p (.ins T.a_Evaluation dx [(("lattice" : Str), .ref z)]) p = _ := upd_same
  show (_ : Hp → Prop) (upd H p (.ins T.a_Evaluation dx [(("lattice" : Str), .ref z)]))
  generalize upd H p (.ins T.a_Evaluation dx [(("lattice" : Str), .ref z)]) = H1 at b1 p1 ⊢
  refine ⟨_, rfl, y, dy, _, rfl, b1 _ _ yp y1, rfl, y, z, L, S, rfl, hS.but hp yp zp b1, fun sn H2 s2 f2 e2 => ?_⟩
  have p2 := s2 _ _ p1
  refine ⟨_, rfl, p, T.a_Evaluation, dx, _, rfl, p2, T.c_Evaluation, T.n_Evaluation_state_names, by show 1 < 1000; decide, ?_⟩
  have b3 : But p H2 (upd H2 p (.ins T.a_Evaluation dx [(("lattice" : Str), .ref z), (("state_names" : Str), .ref sn)])) := (But.refl p H2).upd _
  have p3 : upd H2 p (.ins T.a_Evaluation dx [(("lattice" : Str), .ref z), (("state_names" : Str), .ref sn)]) p = _ := upd_same
  show (_ : Hp → Prop) (upd H2 p (.ins T.a_Evaluation dx [(("lattice" : Str), .ref z), (("state_names" : Str), .ref sn)]))
  generalize upd H2 p (.ins T.a_Evaluation dx [(("lattice" : Str), .ref z), (("state_names" : Str), .ref sn)]) = H3 at b3 p3 ⊢
  have B3 : But p H H3 := (b1.trans (s2.but p)).trans b3
  have snp : sn ≠ p := fun e => by rw [e, p1] at f2; cases f2
  have sn3 := b3 _ _ snp e2
  refine newQ (.dT []) fun mv hmv s4 e4 => ?_
  generalize upd H3 mv (.dT []) = H4 at s4 e4 ⊢
  have mvp : mv ≠ p := fun e => by rw [e, p3] at hmv; cases hmv
  refine ⟨_, rfl, p, T.a_Evaluation, dx, _, rfl, s4 _ _ p3, T.c_Evaluation, T.n_Evaluation_mark_values, by show 2 < 1000; decide, ?_⟩
  have b5 : But p H4 (upd H4 p (.ins T.a_Evaluation dx [(("lattice" : Str), .ref z), (("state_names" : Str), .ref sn), (("mark_values" : Str), .ref mv)])) := (But.refl p H4).upd _
  have p5 : upd H4 p (.ins T.a_Evaluation dx [(("lattice" : Str), .ref z), (("state_names" : Str), .ref sn), (("mark_values" : Str), .ref mv)]) p = _ := upd_same
  show (_ : Hp → Prop) (upd H4 p (.ins T.a_Evaluation dx [(("lattice" : Str), .ref z), (("state_names" : Str), .ref sn), (("mark_values" : Str), .ref mv)]))
  generalize upd H4 p (.ins T.a_Evaluation dx [(("lattice" : Str), .ref z), (("state_names" : Str), .ref sn), (("mark_values" : Str), .ref mv)]) = H5 at b5 p5 ⊢
  have B5 : But p H H5 := (B3.trans (s4.but p)).trans b5
  have sn5 := b5 _ _ snp (s4 _ _ sn3)
  have mv5 := b5 _ _ mvp e4
  have mvn : H mv = none := by
    cases e : H mv with
    | none => rfl
    | some o => have := B3 _ _ mvp e; rw [hmv] at this; cases this
  have hS5 := hS.but hp yp zp B5
  dsimp only
  refine st_run (fun σ H' => ∃ (v2 v3 v4 : Option V), σ = [some (.ref p), some (.ref y), v2, v3, v4, none, none, none, none] ∧ But p H H' ∧ H' p = some (.ins T.a_Evaluation dx [(("lattice" : Str), .ref z), (("state_names" : Str), .ref sn), (("mark_values" : Str), .ref mv)]) ∧ H' sn = some (.lst (S.st.map V.str)) ∧ H' mv = some (.dT S.mkK)) (fun D' hD q' => ?_) ?_
  · refine ⟨_, rfl, y, dy, _, rfl, B5 _ _ yp y1, rfl, y, z, L, S, rfl, hS5, fun l2 xs H6 s6 f6 e6 hms => ?_⟩
    have mv6 := s6 _ _ mv5
    have ne : l2 ≠ mv := ne_of e6 mv6 (by intro z; cases z)
    refine ⟨l2, rfl, ⟨_, SqL.of (K := K) e6⟩, ?_⟩
    refine for_it (walk_list (K := K) (a := l2) (xs := xs)) (fun i σ H' => ∃ (v2 v3 v4 : Option V), σ = [some (.ref p), some (.ref y), v2, v3, v4, none, none, none, none] ∧ But mv H6 H' ∧ H' mv = some (.dT (Sys.mkK ⟨S.st, S.ms.take i, []⟩))) ⟨_, _, _, rfl, But.refl _ _, mv6⟩ (fun i σ H' _ ⟨_, _, _, _, b, _⟩ => SqL.of (K := K) (b _ _ ne e6)) ?_ ?_
    · rintro i x σ H' H'' hi ⟨v2, v3, v4, rfl, b, mv'⟩ ⟨e, hx⟩
      obtain rfl : H' = H'' := e.symm
      have hi : i < S.ms.length := by rw [← hms.1]; exact hi
      have hxs : S.ms[i]? = some S.ms[i] := List.getElem?_eq_getElem hi
      obtain ⟨tt, v, a1, a2, a3⟩ := hms.2 i _ hxs
      have hx : xs[i]? = some x := hx
      rw [a1] at hx
      have et : S.ms.take (i + 1) = S.ms.take i ++ [S.ms[i]] := by rw [List.take_add_one, hxs]; rfl
      have nm : ((S.ms[i]).1, (S.ms[i]).2.1) ∉ (S.ms.take i).map fun m => (m.1, m.2.1) := by
        rw [List.map_take]
        have := nodup_take (l := S.ms.map fun m => (m.1, m.2.1)) (i := i) ok.mnd (by rw [List.length_map]; exact hi)
        rw [List.getElem_map] at this
        exact this
      rw [et]
      generalize S.ms[i] = g at hx nm a2 a3
      obtain ⟨g1, g2, g3⟩ := g
      cases hx
      have mvp' : p ≠ mv := fun e => mvp e.symm
      have p' : H' p = _ := b _ _ mvp' (s6 _ _ p5)
      have hL' := ((yL.but B5 hp trivial zp).same s6).but b mv6 trivial (fun e => by
        obtain ⟨Cz, dz, fz, tn, td', tu, A⟩ := yL.but B5 hp trivial zp
        have := A.at_
        rw [e, mv5] at this; cases this)
      obtain ⟨Cz, dz, fz, tn, td', tu, A⟩ := id hL'
      refine ⟨tt, _, rfl, sqT_dict mv6 trivial b a2, rfl, _, _, rfl, _, _, rfl, _, _, rfl, ⟨rfl, ?_⟩⟩
      refine ⟨_, rfl, p, _, dx, _, _, rfl, p', T.c_Evaluation, T.n_Evaluation_lattice, rfl, z, Cz, dz, fz, rfl, A.at_, A.c.cl, A.c.me _ T.in_at_name, A.no _ T.in_at_name, _, rfl, z, L, g3, v, rfl, hL', nd, a3, fun H7 s7 => ?_⟩
      refine ⟨_, rfl, p, _, dx, _, _, rfl, s7 _ _ p', T.c_Evaluation, T.n_Evaluation_mark_values, rfl, _, rfl, _, rfl, (by show 2 ≤ sizeLine; decide), newQ (.tup [.str g1, .str g2]) fun t ht s8 e8 => ?_⟩
      generalize upd H7 t (.tup [.str g1, .str g2]) = H8 at s8 e8 ⊢
      have mv8 := s8 _ _ (s7 _ _ mv')
      have mn := mkK_none (S := ⟨S.st, S.ms.take i, []⟩) (x := g1) (y := g2) nm
      refine ⟨mv, _, rfl, DPut.t (k := [Sum.inr g1, Sum.inr g2]) mv8 e8 (Nat.lt_of_lt_of_le (show _ < 1000 by unfold Sys.mkK; rw [List.length_map, List.length_take]; have := ok.zm; omega) (by decide)), ?_⟩
      rw [putK_new _ mn]
      refine ⟨_, _, _, rfl, ((b.trans ((s7.trans s8).but mv)).trans ((But.refl mv H8).upd _)), ?_⟩
      rw [upd_same]
      unfold Sys.mkK
      rw [List.map_append]
      rfl
    · rintro σ H' ⟨v2, v3, v4, rfl, b, mv'⟩
      have el : S.ms.take xs.length = S.ms := by rw [hms.1, List.take_length]
      rw [el] at mv'
      have snm : sn ≠ mv := ne_of sn5 mv5 (by intro z; cases z)
      refine q' _ _ ⟨_, _, _, rfl, fun c u hc he => b _ _ (fun e => by rw [e, mvn] at he; cases he) (s6 _ _ (B5 _ _ hc he)), b _ _ (fun e => mvp e.symm) (s6 _ _ p5), b _ _ snm (s6 _ _ sn5), mv'⟩
  rintro _ H6 ⟨v2, v3, v4, rfl, B6, p6, sn6, mv6⟩
  refine ⟨_, rfl, p, _, dx, _, _, rfl, p6, T.c_Evaluation, T.n_Evaluation_state_names, rfl, sn, rfl, ⟨_, SqL.of (K := K) sn6⟩, fun D hD => ?_⟩
  have snD : sn ≠ D := fun e => by rw [e, hD] at sn6; cases sn6
  refine dc_it (walk_list (K := K) (a := sn) (xs := S.st.map V.str)) (fun i H' => Same H6 H' ∧ ∃ ma : Str → Addr, H' D = some (.dK ((S.st.take i).map fun s => (Sum.inr s, V.ref (ma s)))) ∧ (∀ s ∈ S.st.take i, H' (ma s) = some (.lst []) ∧ H6 (ma s) = none ∧ ma s ≠ D) ∧ ∀ s ∈ S.st.take i, ∀ t ∈ S.st.take i, ma s = ma t → s = t) ⟨Same.new hD _, fun _ => 0, upd_same, fun _ h => (nomatch h), fun _ h => (nomatch h)⟩ (fun i H' _ h => SqL.of (K := K) (h.1 _ _ sn6)) ?_ ?_
  · rintro i x H' H'' hi ⟨s', ma, hDm, h1, h2⟩ ⟨e, hx⟩
    obtain rfl : H' = H'' := e.symm
    have hi : i < S.st.length := by simpa using hi
    have hxs : S.st[i]? = some S.st[i] := List.getElem?_eq_getElem hi
    have hx : (S.st.map V.str)[i]? = some x := hx
    rw [List.getElem?_map, hxs] at hx
    have et : S.st.take (i + 1) = S.st.take i ++ [S.st[i]] := by rw [List.take_add_one, hxs]; rfl
    have nm := nodup_take ok.nd hi
    rw [et]
    generalize S.st[i] = g at hx nm
    cases hx
    refine ⟨rfl, ?_⟩
    refine lcY ?_
    refine ⟨_, rfl, (by show 0 ≤ sizeLine; decide), newQ (.lst []) fun d hd s7 e7 => ?_⟩
    generalize upd H' d (.lst []) = H7 at s7 e7 ⊢
    have D7 := s7 _ _ hDm
    have dD : d ≠ D := fun e => by rw [e, hDm] at hd; cases hd
    have ng : ∀ {y}, y ∈ S.st.take i → y ≠ g := fun h e => nm (e ▸ h)
    have nk : L2.valV ((S.st.take i).map fun s => ((Sum.inr s : L2.Key), V.ref (ma s))) (Sum.inr g) = none := by
      rw [valV_strs (fun s => s) (fun s => V.ref (ma s)), find_none fun a ha => beq_false_of_ne (ng ha)]
      rfl
    refine ⟨_, Sum.inr g, rfl, D7, Nat.lt_of_lt_of_le (show _ < 1000 by rw [List.length_map, List.length_take]; have := ok.zs; omega) (by decide), ?_⟩
    rw [putK_new _ nk]
    have dn : H6 d = none := by
      cases e : H6 d with
      | none => rfl
      | some o => have := s' _ _ e; rw [hd] at this; cases this
    have bD : But D H7 (upd H7 D (.dK (((S.st.take i).map fun s => ((Sum.inr s : L2.Key), V.ref (ma s))) ++ [(Sum.inr g, V.ref d)]))) := (But.refl D H7).upd _
    have eD : upd H7 D (.dK (((S.st.take i).map fun s => ((Sum.inr s : L2.Key), V.ref (ma s))) ++ [(Sum.inr g, V.ref d)])) D = _ := upd_same
    generalize upd H7 D (.dK (((S.st.take i).map fun s => ((Sum.inr s : L2.Key), V.ref (ma s))) ++ [(Sum.inr g, V.ref d)])) = H8 at bD eD ⊢
    refine ⟨fun c u he => bD _ _ (fun e => by rw [e, hD] at he; cases he) ((s'.trans s7) _ _ he), fun y => if y = g then d else ma y, ?_, fun y hy => ?_, fun y hy y' hy' e => ?_⟩
    · rw [eD, List.map_append]
      congr 3
      · exact List.map_congr_left fun y hy => by
          show ((Sum.inr y : L2.Key), V.ref (ma y)) = (Sum.inr y, V.ref (if y = g then d else ma y))
          rw [if_neg (ng hy)]
      · show [((Sum.inr g : L2.Key), V.ref d)] = [(Sum.inr g, V.ref (if g = g then d else ma g))]
        rw [if_pos rfl]
    · dsimp only
      rcases List.mem_append.mp hy with h | h
      · rw [if_neg (ng h)]
        obtain ⟨a1, a2, a3⟩ := h1 y h
        exact ⟨bD _ _ a3 (s7 _ _ a1), a2, a3⟩
      · rw [if_pos (by simpa using h)]
        exact ⟨bD _ _ dD e7, dn, dD⟩
    · dsimp only at e
      have ne : ∀ {y}, y ∈ S.st.take i → ma y ≠ d := fun hy e => by
        have := (h1 _ hy).1
        rw [e, hd] at this
        cases this
      rcases List.mem_append.mp hy with k | k <;> rcases List.mem_append.mp hy' with k' | k'
      · rw [if_neg (ng k), if_neg (ng k')] at e
        exact h2 y k y' k' e
      · have : y' = g := by simpa using k'
        rw [if_neg (ng k), if_pos this] at e
        exact absurd e (ne k)
      · have : y = g := by simpa using k
        rw [if_neg (ng k'), if_pos this] at e
        exact absurd e.symm (ne k')
      · have h1 : y = g := by simpa using k
        have h2 : y' = g := by simpa using k'
        rw [h1, h2]
  rintro H7 ⟨s7, ma, hDm, h1, h2⟩
  have el : S.st.take (S.st.map V.str).length = S.st := by rw [List.length_map, List.take_length]
  rw [el] at hDm h1 h2
  have p7 := s7 _ _ p6
  refine ⟨_, rfl, p, T.a_Evaluation, dx, _, rfl, p7, T.c_Evaluation, T.n_Evaluation_moves, by show 3 < 1000; decide, ?_⟩
  have b8 : But p H7 (upd H7 p (.ins T.a_Evaluation dx (efs z sn mv D))) := (But.refl p H7).upd _
  have p8 : upd H7 p (.ins T.a_Evaluation dx (efs z sn mv D)) p = _ := upd_same
  show (_ : Hp → Prop) (upd H7 p (.ins T.a_Evaluation dx (efs z sn mv D)))
  generalize upd H7 p (.ins T.a_Evaluation dx (efs z sn mv D)) = H8 at b8 p8 ⊢
  have B8 : But p H H8 := (B6.trans (s7.but p)).trans b8
  have Dp : D ≠ p := fun e => by rw [e, p6] at hD; cases hD
  have sn8 := b8 _ _ snp (s7 _ _ sn6)
  have mv8 := b8 _ _ mvp (s7 _ _ mv6)
  have D8 := b8 _ _ Dp hDm
  have hS8 := hS.but hp yp zp B8
  have map' : ∀ s ∈ S.st, ma s ≠ p := fun s hs e => by
    have := (h1 s hs).2.1
    rw [e, p6] at this; cases this
  have m8 : ∀ s ∈ S.st, H8 (ma s) = some (.lst []) := fun s hs => b8 _ _ (map' s hs) (h1 s hs).1
  have mH : ∀ s ∈ S.st, H (ma s) = none := fun s hs => by
    cases e : H (ma s) with
    | none => rfl
    | some o => have := B6 _ _ (map' s hs) e; rw [(h1 s hs).2.1] at this; cases this
  have msn : ∀ s ∈ S.st, sn ≠ ma s := fun s hs e => by have := (h1 s hs).2.1; rw [← e, sn6] at this; cases this
  have mmv : ∀ s ∈ S.st, mv ≠ ma s := fun s hs e => by have := (h1 s hs).2.1; rw [← e, mv6] at this; cases this
  have mD : ∀ s ∈ S.st, D ≠ ma s := fun s hs e => (h1 s hs).2.2 e.symm
  dsimp only
  refine ⟨_, rfl, y, dy, _, rfl, B8 _ _ yp y1, rfl, y, z, L, S, rfl, hS8, fun l3 us H9 s9 f9 e9 har => ?_⟩
  have ml3 : ∀ s ∈ S.st, l3 ≠ ma s := fun s hs e => by rw [e, m8 s hs] at f9; cases f9
  refine ⟨l3, rfl, ⟨_, SqL.of (K := K) e9⟩, ?_⟩
  refine for_it (walk_list (K := K) (a := l3) (xs := us)) (fun i σ H' => ∃ (v5 v6 v7 v8 : Option V) (mvs : Str → List V), σ = [some (.ref p), some (.ref y), v2, v3, v4, v5, v6, v7, v8] ∧ (∀ c u, (∀ s ∈ S.st, c ≠ ma s) → H9 c = some u → H' c = some u) ∧ Keeps H9 H' ∧ ∀ s ∈ S.st, H' (ma s) = some (.lst (mvs s)) ∧ MvAt K H' (mvs s) ((S.ar.take i).filter fun a => a.1 == s)) ⟨_, _, _, _, fun _ => [], rfl, fun _ _ _ h => h, Keeps.refl _, fun s hs => ⟨s9 _ _ (m8 s hs), rfl, fun _ _ h => (nomatch h)⟩⟩ (fun i σ H' _ ⟨_, _, _, _, _, _, b, _⟩ => SqL.of (K := K) (b _ _ ml3 e9)) ?_ ?_
  · rintro i x σ H' H'' hi ⟨v5, v6, v7, v8, mvs, rfl, b, kk, hm⟩ ⟨e, hx⟩
    obtain rfl : H' = H'' := e.symm
    have hi : i < S.ar.length := by rw [← har.1]; exact hi
    have hxs : S.ar[i]? = some S.ar[i] := List.getElem?_eq_getElem hi
    obtain ⟨tt, v, u, a1, a2, a3, a4⟩ := har.2 i _ hxs
    have hx : us[i]? = some x := hx
    rw [a1] at hx
    have hmem := ok.ast _ (List.getElem_mem hi)
    have et : S.ar.take (i + 1) = S.ar.take i ++ [S.ar[i]] := by rw [List.take_add_one, hxs]; rfl
    rw [et]
    generalize S.ar[i] = g at hx a2 a3 a4 hmem
    obtain ⟨g1, g2, g3, g4⟩ := g
    cases hx
    have pm : ∀ s ∈ S.st, p ≠ ma s := fun s hs e => map' s hs e.symm
    have p' := b _ _ pm (s9 _ _ p8)
    have D' := b _ _ mD (s9 _ _ D8)
    have hL9 := (yL.but B8 hp trivial zp).same s9
    have hL' : IsLat K T.mm H' z L := by
      obtain ⟨Cz, dz, fz, tn, td', tu, A⟩ := hL9
      exact ⟨Cz, dz, fz, tn, td', tu, A.to kk (b _ _ (fun s hs e => by
        have h0 := (h1 s hs).2.1
        obtain ⟨C0, d0, f0, t0, t1, t2, A0⟩ := yL.but B6 hp trivial zp
        rw [← e, A0.at_] at h0
        cases h0) A.at_)⟩
    obtain ⟨Cz, dz, fz, tn, td', tu, A⟩ := id hL'
    have gm := (hm g1 hmem.1).1
    have hg : DGet H' D (.str g1) (some (.ref (ma g1))) := by
      have := DGet.k (k := Sum.inr g1) D'
      have e2 : L2.valV (S.st.map fun s => ((Sum.inr s : L2.Key), V.ref (ma s))) (Sum.inr g1) = some (V.ref (ma g1)) := by
        have := stK_get (S := S) (da := ma) (x := g1)
        rw [if_pos hmem.1] at this
        exact this
      rw [e2] at this
      exact this
    refine ⟨tt, _, rfl, kk.sqT a2, rfl, _, _, rfl, _, _, rfl, _, _, rfl, _, _, rfl, ⟨rfl, ?_⟩⟩
    refine ⟨_, rfl, p, _, dx, _, _, rfl, p', T.c_Evaluation, T.n_Evaluation_moves, rfl, _, rfl, D, _, rfl, hg, .inl ⟨rfl, _, SqL.of (K := K) gm⟩, _, rfl, ?_⟩
    refine ⟨_, rfl, p, _, dx, _, _, rfl, p', T.c_Evaluation, T.n_Evaluation_lattice, rfl, z, Cz, dz, fz, rfl, A.at_, A.c.cl, A.c.me _ T.in_at_name, A.no _ T.in_at_name, _, rfl, z, L, g3, v, rfl, hL', nd, a3, fun H10 s10 => ?_⟩
    have A10 := A.same s10
    refine ⟨_, rfl, p, _, dx, _, _, rfl, s10 _ _ p', T.c_Evaluation, T.n_Evaluation_lattice, rfl, z, Cz, dz, fz, rfl, A10.at_, A10.c.cl, A10.c.me _ T.in_at_name, A10.no _ T.in_at_name, _, rfl, z, L, g4, u, rfl, hL'.same s10, nd, a4, fun H11 s11 => ?_⟩
    refine ⟨(by show 3 ≤ sizeLine; decide), newQ (.tup [.str g2, .int (g3 : Nat), .int (g4 : Nat)]) fun t ht s12 e12 => ?_⟩
    generalize upd H11 t (.tup [.str g2, .int (g3 : Nat), .int (g4 : Nat)]) = H12 at s12 e12 ⊢
    have S12 := (s10.trans s11).trans s12
    have gm12 := S12 _ _ gm
    have gl : (mvs g1).length < 1000 := by
      rw [(hm g1 hmem.1).2.1]
      refine Nat.lt_of_le_of_lt (List.length_filter_le _ _) ?_
      rw [List.length_take]
      have := ok.za
      omega
    refine ⟨ma g1, _, _, rfl, rfl, gm12, Nat.lt_of_lt_of_le gl (by decide), ?_⟩
    have bm : But (ma g1) H12 (upd H12 (ma g1) (.lst (mvs g1 ++ [V.ref t]))) := (But.refl _ H12).upd _
    have em : upd H12 (ma g1) (.lst (mvs g1 ++ [V.ref t])) (ma g1) = _ := upd_same
    generalize upd H12 (ma g1) (.lst (mvs g1 ++ [V.ref t])) = H13 at bm em ⊢
    have km : Keeps H12 H13 := bm.keeps gm12 trivial
    refine ⟨_, _, _, _, fun s => if s = g1 then mvs g1 ++ [V.ref t] else mvs s, rfl, fun c o hc he => bm _ _ (hc g1 hmem.1) (S12 _ _ (b _ _ hc he)), (kk.trans S12.keeps).trans km, fun s hs => ?_⟩
    obtain ⟨c1, c2⟩ := hm s hs
    dsimp only
    by_cases c : s = g1
    · subst c
      rw [if_pos rfl, List.filter_append, List.filter_cons_of_pos (by exact beq_self_eq_true s), List.filter_nil]
      refine ⟨em, by rw [List.length_append, List.length_append, c2.1]; rfl, fun j a ha => ?_⟩
      have c2' := (c2.keep S12.keeps).keep km
      rcases Nat.lt_or_ge j ((S.ar.take i).filter fun a => a.1 == s).length with l | l
      · rw [List.getElem?_append_left l] at ha
        obtain ⟨t', q1, q2⟩ := c2'.2 j a ha
        exact ⟨t', by rw [List.getElem?_append_left (by rw [c2.1]; exact l)]; exact q1, q2⟩
      · have jl := (List.getElem?_eq_some_iff.mp ha).1
        rw [List.length_append] at jl
        have ej : j = ((S.ar.take i).filter fun a => a.1 == s).length := by
          have : ([(s, g2, g3, g4)] : List (Str × Str × Nat × Nat)).length = 1 := rfl
          omega
        subst ej
        rw [List.getElem?_append_right (Nat.le_refl _), Nat.sub_self] at ha
        cases ha
        exact ⟨t, by rw [← c2.1, List.getElem?_append_right (Nat.le_refl _), Nat.sub_self]; rfl, km.sqT (SqT.of (K := K) e12)⟩
    · rw [if_neg c, List.filter_append, List.filter_cons_of_neg (by rw [beq_iff_eq]; exact fun e => c e.symm), List.filter_nil, List.append_nil]
      exact ⟨bm _ _ (fun e => c (h2 s hs g1 hmem.1 e)) (S12 _ _ c1), (c2.keep S12.keeps).keep km⟩
  · rintro σ H' ⟨v5, v6, v7, v8, mvs, rfl, b, kk, hm⟩
    have el : S.ar.take us.length = S.ar := by rw [har.1, List.take_length]
    rw [el] at hm
    have pm : ∀ s ∈ S.st, p ≠ ma s := fun s hs e => map' s hs e.symm
    have hL9 := (yL.but B8 hp trivial zp).same s9
    have hL' : IsLat K T.mm H' z L := by
      obtain ⟨Cz, dz, fz, tn, td', tu, A⟩ := hL9
      exact ⟨Cz, dz, fz, tn, td', tu, A.to kk (b _ _ (fun s hs e => by
        have h0 := (h1 s hs).2.1
        obtain ⟨C0, d0, f0, t0, t1, t2, A0⟩ := yL.but B6 hp trivial zp
        rw [← e, A0.at_] at h0
        cases h0) A.at_)⟩
    exact q H' (fun c u hc he => b _ _ (fun s hs e => by rw [e, mH s hs] at he; cases he) (s9 _ _ (B8 _ _ hc he))) ⟨dx, sn, mv, D, ma, mvs, b _ _ pm (s9 _ _ p8), hL', b _ _ msn (s9 _ _ sn8), b _ _ mmv (s9 _ _ mv8), b _ _ mD (s9 _ _ D8), hm⟩
end
/-! ### everywhere, some_at, all_at -/
/-- the frame of a system -/
def Sys.fr (S : Sys) (L : Lt) : Lt.Fr where
  st := S.st
  ma := fun m s => ((S.ms.find? fun r => r.1 == m && r.2.1 == s).map fun r => r.2.2).getD L.low
  sm := fun v s => (S.ar.filter fun a => a.1 == s).foldl (fun t a => L.jn t (L.mt a.2.2.1 (v a.2.1))) L.low
  al := fun v s => (S.ar.filter fun a => a.1 == s).foldl (fun t a => L.mt t (L.jn a.2.2.2 (v a.2.1))) L.high
structure Sys.In (S : Sys) (L : Lt) : Prop where
  ms : ∀ m ∈ S.ms, m.2.2 < L.n
  ar : ∀ a ∈ S.ar, a.2.2.1 < L.n ∧ a.2.2.2 < L.n
def entV (st : List Str) (v : Str → Nat) : List (L2.Key × V) := st.map fun s => (Sum.inr s, V.int (v s : Nat))
theorem entV_get {st : List Str} {v : Str → Nat} {s : Str} (h : s ∈ st) : L2.valV (entV st v) (Sum.inr s) = some (V.int (v s : Nat)) := by
  unfold entV
  rw [valV_strs (fun s => s) (fun s => V.int (v s : Nat))]
  have : st.find? (fun a => a == s) = some s := by
    cases e : st.find? (fun a => a == s) with
    | none => exact absurd (beq_self_eq_true s) (List.find?_eq_none.mp e s h)
    | some y => rw [show y = s from by have := List.find?_some e; simpa using this]
  rw [this]
  rfl
theorem entV_none {st : List Str} {v : Str → Nat} {s : Str} (h : s ∉ st) : L2.valV (entV st v) (Sum.inr s) = none := by
  unfold entV
  rw [valV_strs (fun s => s) (fun s => V.int (v s : Nat)), find_none fun a ha => beq_false_of_ne fun (e : a = s) => h (e ▸ ha)]
  rfl
namespace Lt.Reg
variable {L : Lt} (R : L.Reg)
include R
theorem sm_lt {v : Str → Nat} (hv : L.Vok v) : ∀ (as : List (Str × Str × Nat × Nat)) {t : Nat}, t < L.n → (∀ a ∈ as, a.2.2.1 < L.n ∧ a.2.2.2 < L.n) → as.foldl (fun t a => L.jn t (L.mt a.2.2.1 (v a.2.1))) t < L.n
  | [], _, h, _ => h
  | a :: as, _, h, ha => sm_lt hv as (R.jlt h (R.mlt (ha a (.head _)).1 (hv _))) fun b hb => ha b (.tail _ hb)
theorem al_lt {v : Str → Nat} (hv : L.Vok v) : ∀ (as : List (Str × Str × Nat × Nat)) {t : Nat}, t < L.n → (∀ a ∈ as, a.2.2.1 < L.n ∧ a.2.2.2 < L.n) → as.foldl (fun t a => L.mt t (L.jn a.2.2.2 (v a.2.1))) t < L.n
  | [], _, h, _ => h
  | a :: as, _, h, ha => al_lt hv as (R.mlt h (R.jlt (ha a (.head _)).2 (hv _))) fun b hb => ha b (.tail _ hb)
end Lt.Reg
section
open PyProof.Rows
variable {w : World} {K : PySem.W.Frag} {mg : Str → Option Value} {base : Heap} {mm : List (Str × Addr)} {H H' : Hp} {L : Lt}
theorem new_ent {H1 : Hp} {D : Addr} {st : List Str} {i : Nat} {v : Str → Nat} (nd : st.Nodup) (hi : i < st.length) : L2.putK (entV (st.take i) v) (Sum.inr st[i]) (V.int (v st[i] : Nat)) = entV (st.take (i + 1)) v := by
  rw [L2.putK_new _ (entV_none (nodup_take nd hi))]
  unfold entV
  rw [List.take_add_one, List.getElem?_eq_getElem hi, List.map_append]
  rfl
def sp_evw (K : PySem.W.Frag) (mm : List (Str × Addr)) (C : Addr) : Sp := fun vs H Q _ => ∃ (p z : Addr) (L : Lt) (S : Sys) (a : Nat), vs = [.ref p, .int (a : Nat)] ∧ IsEv K mm C H p z L S ∧ S.Ok ∧ ∀ d H', Same H H' → H' d = some (.dK (entV S.st fun _ => a)) → Q (.ref d) H'
theorem ok_evw {P : Program} (T : Tx K mg w) : FnOk P w K mg base CX0 1 T.a_Evaluation_everywhere T.d_Evaluation_everywhere ["self", "place"] (sp_evw K T.mm T.a_Evaluation) := by
  refine T.F_Evaluation_everywhere.ok sc_Evaluation_everywhere (fun vs H Q E h => ?_) (fun cdv A outer s H vs Q E hr h => ?_)
  · obtain ⟨p, z, L, S, a, rfl, _⟩ := h
    rfl
  obtain ⟨p, z, L, S, a, rfl, ⟨dx, sn, mv, mo, ma, mvs, a1, a2, a3, a4, a5, a6⟩, ok, q⟩ := h
  refine ⟨_, pss_one (ps_ret (pe_dc (own := [("state", 2)]) (g := gName 2) (tt := tYes) rfl sc_Evaluation_everywhere.nd (pi_list (pe_fld (pv 0) rfl)) (blkOk_by (N := N_Evaluation_everywhere) (sc := defScope St_Evaluation_everywhere) (by decide +kernel)) (fun _ _ _ _ _ => (pg_name (i := 2) sc_Evaluation_everywhere.nd rfl (Or.inl rfl))) (fun _ _ _ _ _ => pts_nil) (fun _ _ _ _ _ => (pv 2)) (fun _ _ _ _ _ => (pv 1)))), ?_⟩
  refine ⟨_, rfl, p, _, dx, _, _, rfl, a1, T.c_Evaluation, T.n_Evaluation_state_names, rfl, sn, rfl, ⟨_, SqL.of (K := K) a3⟩, fun D hD => ?_⟩
  refine dc_fold (walk_list (K := K) (a := sn) (xs := S.st.map V.str)) hD (fun i H' kvs => i ≤ S.st.length ∧ kvs = entV (S.st.take i) fun _ => a) (fun _ => ⟨Nat.zero_le _, rfl⟩) (fun i _ _ xs _ h => h) ?_ (fun H' s' => SqL.of (K := K) (s' _ _ a3)) ?_ (fun H' ys s' h' h => ?_)
  · rintro i _ ys ⟨hi, rfl⟩
    unfold entV
    have := ok.zs
    rw [List.length_map, List.length_take]
    omega
  · rintro i x H1 H2 ys Nx Ex hi s1 ⟨_, rfl⟩ ⟨e, hx⟩ k1 k2
    obtain rfl : H1 = H2 := e.symm
    have hi : i < S.st.length := by simpa using hi
    have hx : (S.st.map V.str)[i]? = some x := hx
    rw [List.getElem?_map, List.getElem?_eq_getElem hi] at hx
    cases hx
    refine ⟨rfl, ?_⟩
    refine lcY ?_
    exact ⟨_, rfl, _, rfl, k1 (Sum.inr S.st[i]) _ _ (Same.refl _) ⟨hi, new_ent (H1 := H1) (D := D) (v := fun _ => a) ok.nd hi⟩⟩
  · have el : S.st.take (S.st.map V.str).length = S.st := by rw [List.length_map, List.take_length]
    rw [h.2, el] at h'
    exact q D H' s' h'
def sp_at (K : PySem.W.Frag) (mm : List (Str × Addr)) (C : Addr) (f : Sys → Lt → (Str → Nat) → Str → Nat) : Sp := fun vs H Q _ => ∃ (p z d : Addr) (L : Lt) (S : Sys) (s : Str) (v : Str → Nat), vs = [.ref p, .str s, .ref d] ∧ IsEv K mm C H p z L S ∧ S.Ok ∧ S.In L ∧ L.Reg ∧ L.n ≤ 64 ∧ s ∈ S.st ∧ H d = some (.dK (entV S.st v)) ∧ L.Vok v ∧ ∀ H', Same H H' → Q (.int (f S L v s : Nat)) H'
theorem ok_some_at {P : Program} (T : Tx K mg w) : FnOk P w K mg base CX0 3 T.a_Evaluation_some_at T.d_Evaluation_some_at ["self", "state", "inner"] (sp_at K T.mm T.a_Evaluation fun S L v => (S.fr L).sm v) := by
  have G_Lattice_join_at := ok_join (P := P) (w := w) (base := base) T
  have G_Lattice_meet_at := ok_meet (P := P) (w := w) (base := base) T
  refine T.F_Evaluation_some_at.ok sc_Evaluation_some_at (fun vs H Q E h => ?_) (fun cdv A outer s H vs Q E hr h => ?_)
  · obtain ⟨p, z, d, L, S, s, v, rfl, _⟩ := h
    rfl
  obtain ⟨p, z, d, L, S, st, v, rfl, ⟨dx, sn, mv, mo, ma, mvs, a1, a2, a3, a4, a5, a6⟩, ok, hin, R, n64, hst, hd, hv, q⟩ := h
  have hu := hu_of hr
  refine ⟨_, pss_cons (ps_set (i := 3) sc_Evaluation_some_at.nd rfl (Or.inl rfl) (pe_fld (pe_fld (pv 0) rfl) rfl))
    (pss_cons (ps_for PassesOwn.never rfl (pi_list (pe_dget hu (pe_fld (pv 0) rfl) (pv 1) (fun _ _ => rfl))) (pg_tup rfl (pgs_cons (pg_name (i := 4) sc_Evaluation_some_at.nd rfl (Or.inl rfl)) (pgs_cons (pg_name (i := 5) sc_Evaluation_some_at.nd rfl (Or.inl rfl)) (pgs_cons (pg_name (i := 6) sc_Evaluation_some_at.nd rfl (Or.inl rfl)) pgs_nil)))) (pss_one (ps_set (i := 3) sc_Evaluation_some_at.nd rfl (Or.inl rfl) (pe_methG (pe_fld (pv 0) rfl) G_Lattice_join_at (hr.mono (by omega)) T.b_Lattice_join_at .nil pass0 (pa_cons (pv 3) (pa_cons (pe_methG (pe_fld (pv 0) rfl) G_Lattice_meet_at (hr.mono (by omega)) T.b_Lattice_meet_at .nil pass0 (pa_cons (pv 5) (pa_cons (pe_dget hu (pv 2) (pv 4) (fun _ _ => rfl)) pa_nil))) pa_nil))))))
    (pss_one (ps_ret (pv 3)))), ?_⟩
  obtain ⟨Cz, dz, fz, tn, td', tu, A0⟩ := id a2
  refine ⟨_, rfl, p, _, dx, _, _, rfl, a1, T.c_Evaluation, T.n_Evaluation_lattice, rfl, z, Cz, dz, fz, .int (L.low : Nat), rfl, A0.at_, A0.c.cl, A0.c.na _ (by decide), (by rw [A0.bot, R.isLow.1]; rfl), ?_⟩
  dsimp only [gName]
  show tSeq _ _ _ [some (.ref p), some (.str st), some (.ref d), some (.int (L.low : Nat)), none, none, none] H
  obtain ⟨m1, m2⟩ := a6 st hst
  have hg : DGet H mo (.str st) (some (.ref (ma st))) := by
    have := DGet.k (k := Sum.inr st) a5
    rw [stK_get, if_pos hst] at this
    exact this
  have hin' : ∀ a ∈ S.ar.filter fun a => a.1 == st, (a.2.2.1 < L.n ∧ a.2.2.2 < L.n) ∧ a.2.1 ∈ S.st := fun a ha => ⟨hin.ar a (List.mem_filter.mp ha).1, (ok.ast a (List.mem_filter.mp ha).1).2⟩
  have ef : (S.fr L).sm v st = (S.ar.filter fun a => a.1 == st).foldl (fun t a => L.jn t (L.mt a.2.2.1 (v a.2.1))) L.low := rfl
  dsimp only at q
  rw [ef] at q
  generalize hA : S.ar.filter (fun a => a.1 == st) = as at m2 hin' q
  refine ⟨_, rfl, p, _, dx, _, _, rfl, a1, T.c_Evaluation, T.n_Evaluation_moves, rfl, _, rfl, mo, _, rfl, hg, ma st, rfl, ⟨_, SqL.of (K := K) m1⟩, ?_⟩
  refine for_it (walk_list (K := K) (a := ma st) (xs := mvs st)) (fun i σ H' => ∃ (v4 v5 v6 : Option V), σ = [some (.ref p), some (.str st), some (.ref d), some (.int ((as.take i).foldl (fun t a => L.jn t (L.mt a.2.2.1 (v a.2.1))) L.low : Nat)), v4, v5, v6] ∧ Same H H') ⟨_, _, _, rfl, Same.refl _⟩ (fun i σ H' _ ⟨_, _, _, _, s⟩ => SqL.of (K := K) (s _ _ m1)) ?_ ?_
  · rintro i x σ H1 H2 hi ⟨v4, v5, v6, rfl, s1⟩ ⟨e, hx⟩
    obtain rfl : H1 = H2 := e.symm
    have hi : i < as.length := by rw [← m2.1]; exact hi
    have hxs : as[i]? = some as[i] := List.getElem?_eq_getElem hi
    obtain ⟨tt, b1, b2⟩ := m2.2 i _ hxs
    have hx : (mvs st)[i]? = some x := hx
    rw [b1] at hx
    have hm := hin' _ (List.getElem_mem hi)
    have et : as.take (i + 1) = as.take i ++ [as[i]] := by rw [List.take_add_one, hxs]; rfl
    rw [et]
    generalize as[i] = g at hx b2 hm
    obtain ⟨g1, g2, g3, g4⟩ := g
    cases hx
    have ht := R.sm_lt hv (as.take i) R.isLow.2.1 fun a ha => (hin' a (List.mem_of_mem_take ha)).1
    have A1 := A0.same s1
    have p1 := s1 _ _ a1
    have hgd : DGet H1 d (.str g2) (some (.int (v g2 : Nat))) := by
      have := DGet.k (k := Sum.inr g2) (s1 _ _ hd)
      rw [entV_get hm.2] at this
      exact this
    refine ⟨tt, _, rfl, s1.keeps.sqT b2, rfl, _, _, rfl, _, _, rfl, _, _, rfl, ⟨rfl, ?_⟩⟩
    refine ⟨_, rfl, p, _, dx, _, _, rfl, p1, T.c_Evaluation, T.n_Evaluation_lattice, rfl, z, Cz, dz, fz, rfl, A1.at_, A1.c.cl, A1.c.me _ T.in_join_at, A1.no _ T.in_join_at, _, rfl, _, rfl, p, _, dx, _, _, rfl, p1, T.c_Evaluation, T.n_Evaluation_lattice, rfl, z, Cz, dz, fz, rfl, A1.at_, A1.c.cl, A1.c.me _ T.in_meet_at, A1.no _ T.in_meet_at, _, rfl, _, rfl, _, rfl, d, _, rfl, hgd, z, L, g3, v g2, rfl, a2.same s1, by omega, hm.1.1, hv g2, fun H2 s2 => ?_⟩
    rw [(R.isM hm.1.1 (hv g2)).1]
    refine ⟨z, L, _, L.mt g3 (v g2), rfl, (a2.same s1).same s2, by omega, ht, R.mlt hm.1.1 (hv g2), fun H3 s3 => ?_⟩
    rw [(R.isJ ht (R.mlt hm.1.1 (hv g2))).1]
    refine ⟨some (.str g2), some (.int (g3 : Nat)), some (.int (g4 : Nat)), ?_, (s1.trans s2).trans s3⟩
    rw [List.foldl_append]
    rfl
  · rintro σ H1 ⟨v4, v5, v6, rfl, s1⟩
    have el : as.take (mvs st).length = as := by rw [m2.1, List.take_length]
    rw [el]
    exact ⟨_, rfl, q H1 s1⟩
theorem ok_all_at {P : Program} (T : Tx K mg w) : FnOk P w K mg base CX0 3 T.a_Evaluation_all_at T.d_Evaluation_all_at ["self", "state", "inner"] (sp_at K T.mm T.a_Evaluation fun S L v => (S.fr L).al v) := by
  have G_Lattice_join_at := ok_join (P := P) (w := w) (base := base) T
  have G_Lattice_meet_at := ok_meet (P := P) (w := w) (base := base) T
  refine T.F_Evaluation_all_at.ok sc_Evaluation_all_at (fun vs H Q E h => ?_) (fun cdv A outer s H vs Q E hr h => ?_)
  · obtain ⟨p, z, d, L, S, s, v, rfl, _⟩ := h
    rfl
  obtain ⟨p, z, d, L, S, st, v, rfl, ⟨dx, sn, mv, mo, ma, mvs, a1, a2, a3, a4, a5, a6⟩, ok, hin, R, n64, hst, hd, hv, q⟩ := h
  have hu := hu_of hr
  refine ⟨_, pss_cons (ps_set (i := 3) sc_Evaluation_all_at.nd rfl (Or.inl rfl) (pe_fld (pe_fld (pv 0) rfl) rfl))
    (pss_cons (ps_for PassesOwn.never rfl (pi_list (pe_dget hu (pe_fld (pv 0) rfl) (pv 1) (fun _ _ => rfl))) (pg_tup rfl (pgs_cons (pg_name (i := 4) sc_Evaluation_all_at.nd rfl (Or.inl rfl)) (pgs_cons (pg_name (i := 5) sc_Evaluation_all_at.nd rfl (Or.inl rfl)) (pgs_cons (pg_name (i := 6) sc_Evaluation_all_at.nd rfl (Or.inl rfl)) pgs_nil)))) (pss_one (ps_set (i := 3) sc_Evaluation_all_at.nd rfl (Or.inl rfl) (pe_methG (pe_fld (pv 0) rfl) G_Lattice_meet_at (hr.mono (by omega)) T.b_Lattice_meet_at .nil pass0 (pa_cons (pv 3) (pa_cons (pe_methG (pe_fld (pv 0) rfl) G_Lattice_join_at (hr.mono (by omega)) T.b_Lattice_join_at .nil pass0 (pa_cons (pv 6) (pa_cons (pe_dget hu (pv 2) (pv 4) (fun _ _ => rfl)) pa_nil))) pa_nil))))))
    (pss_one (ps_ret (pv 3)))), ?_⟩
  obtain ⟨Cz, dz, fz, tn, td', tu, A0⟩ := id a2
  refine ⟨_, rfl, p, _, dx, _, _, rfl, a1, T.c_Evaluation, T.n_Evaluation_lattice, rfl, z, Cz, dz, fz, .int (L.high : Nat), rfl, A0.at_, A0.c.cl, A0.c.na _ (by decide), (by rw [A0.top, R.isHigh.1]; rfl), ?_⟩
  dsimp only [gName]
  show tSeq _ _ _ [some (.ref p), some (.str st), some (.ref d), some (.int (L.high : Nat)), none, none, none] H
  obtain ⟨m1, m2⟩ := a6 st hst
  have hg : DGet H mo (.str st) (some (.ref (ma st))) := by
    have := DGet.k (k := Sum.inr st) a5
    rw [stK_get, if_pos hst] at this
    exact this
  have hin' : ∀ a ∈ S.ar.filter fun a => a.1 == st, (a.2.2.1 < L.n ∧ a.2.2.2 < L.n) ∧ a.2.1 ∈ S.st := fun a ha => ⟨hin.ar a (List.mem_filter.mp ha).1, (ok.ast a (List.mem_filter.mp ha).1).2⟩
  have ef : (S.fr L).al v st = (S.ar.filter fun a => a.1 == st).foldl (fun t a => L.mt t (L.jn a.2.2.2 (v a.2.1))) L.high := rfl
  dsimp only at q
  rw [ef] at q
  generalize hA : S.ar.filter (fun a => a.1 == st) = as at m2 hin' q
  refine ⟨_, rfl, p, _, dx, _, _, rfl, a1, T.c_Evaluation, T.n_Evaluation_moves, rfl, _, rfl, mo, _, rfl, hg, ma st, rfl, ⟨_, SqL.of (K := K) m1⟩, ?_⟩
  refine for_it (walk_list (K := K) (a := ma st) (xs := mvs st)) (fun i σ H' => ∃ (v4 v5 v6 : Option V), σ = [some (.ref p), some (.str st), some (.ref d), some (.int ((as.take i).foldl (fun t a => L.mt t (L.jn a.2.2.2 (v a.2.1))) L.high : Nat)), v4, v5, v6] ∧ Same H H') ⟨_, _, _, rfl, Same.refl _⟩ (fun i σ H' _ ⟨_, _, _, _, s⟩ => SqL.of (K := K) (s _ _ m1)) ?_ ?_
  · rintro i x σ H1 H2 hi ⟨v4, v5, v6, rfl, s1⟩ ⟨e, hx⟩
    obtain rfl : H1 = H2 := e.symm
    have hi : i < as.length := by rw [← m2.1]; exact hi
    have hxs : as[i]? = some as[i] := List.getElem?_eq_getElem hi
    obtain ⟨tt, b1, b2⟩ := m2.2 i _ hxs
    have hx : (mvs st)[i]? = some x := hx
    rw [b1] at hx
    have hm := hin' _ (List.getElem_mem hi)
    have et : as.take (i + 1) = as.take i ++ [as[i]] := by rw [List.take_add_one, hxs]; rfl
    rw [et]
    generalize as[i] = g at hx b2 hm
    obtain ⟨g1, g2, g3, g4⟩ := g
    cases hx
    have ht := R.al_lt hv (as.take i) R.isHigh.2.1 fun a ha => (hin' a (List.mem_of_mem_take ha)).1
    have A1 := A0.same s1
    have p1 := s1 _ _ a1
    have hgd : DGet H1 d (.str g2) (some (.int (v g2 : Nat))) := by
      have := DGet.k (k := Sum.inr g2) (s1 _ _ hd)
      rw [entV_get hm.2] at this
      exact this
    refine ⟨tt, _, rfl, s1.keeps.sqT b2, rfl, _, _, rfl, _, _, rfl, _, _, rfl, ⟨rfl, ?_⟩⟩
    refine ⟨_, rfl, p, _, dx, _, _, rfl, p1, T.c_Evaluation, T.n_Evaluation_lattice, rfl, z, Cz, dz, fz, rfl, A1.at_, A1.c.cl, A1.c.me _ T.in_meet_at, A1.no _ T.in_meet_at, _, rfl, _, rfl, p, _, dx, _, _, rfl, p1, T.c_Evaluation, T.n_Evaluation_lattice, rfl, z, Cz, dz, fz, rfl, A1.at_, A1.c.cl, A1.c.me _ T.in_join_at, A1.no _ T.in_join_at, _, rfl, _, rfl, _, rfl, d, _, rfl, hgd, z, L, g4, v g2, rfl, a2.same s1, by omega, hm.1.2, hv g2, fun H2 s2 => ?_⟩
    rw [(R.isJ hm.1.2 (hv g2)).1]
    refine ⟨z, L, _, L.jn g4 (v g2), rfl, (a2.same s1).same s2, by omega, ht, R.jlt hm.1.2 (hv g2), fun H3 s3 => ?_⟩
    rw [(R.isM ht (R.jlt hm.1.2 (hv g2))).1]
    refine ⟨some (.str g2), some (.int (g3 : Nat)), some (.int (g4 : Nat)), ?_, (s1.trans s2).trans s3⟩
    rw [List.foldl_append]
    rfl
  · rintro σ H1 ⟨v4, v5, v6, rfl, s1⟩
    have el : as.take (mvs st).length = as := by rw [m2.1, List.take_length]
    rw [el]
    exact ⟨_, rfl, q H1 s1⟩
end
/-! ### the evaluation's parts_of, check_formula -/
section
variable {P : Program} {w : World} {K : PySem.W.Frag} {mg : Str → Option Value} {base : Heap}
theorem te_no {s a : Str} {A B : Prop} (h : (s == a) = false) (b : B) : if decide (V.str s = V.str a) = true then A else B := by
  rw [eq_str, h]; exact iteF b
theorem te_yes {s a : Str} {A B : Prop} (h : (s == a) = true) (x : A) : if decide (V.str s = V.str a) = true then A else B := by
  rw [eq_str, h]; exact iteT x
theorem ti_no {s a b : Str} {A B : Prop} (h : (s == a || s == b) = false) (y : B) : if inV (.str s) [.str a, .str b] = true then A else B := by
  rw [inV_str, h]; exact iteF y
theorem ti_yes {s a b : Str} {A B : Prop} (h : (s == a || s == b) = true) (x : A) : if inV (.str s) [.str a, .str b] = true then A else B := by
  rw [inV_str, h]; exact iteT x
theorem Tx.evPlaces (T : Tx K mg w) (f : Fm) : ∃ t, KDct K w T.a_PARTS f.head (.ref t) ∧ ∀ H, SqT K H t (f.places.map V.int) := by
  have one : ∀ {x : Str} {zs : List Int}, (∃ t, PySem.W.nsIn K T.a_PARTS x = some (some (.ref t)) ∧ ∀ H, SqT K H t (zs.map V.int)) → ∃ t, KDct K w T.a_PARTS x (.ref t) ∧ ∀ H, SqT K H t (zs.map V.int) := fun {x zs} ⟨t, h, q⟩ => ⟨t, ⟨_, _, _, T.l_PARTS, T.y_PARTS, h, rfl⟩, q⟩
  cases f with
  | lit b => cases b; exact one T.k_PARTS_false; exact one T.k_PARTS_true
  | val _ => exact one T.k_PARTS_value
  | mark _ => exact one T.k_PARTS_mark
  | name _ => exact one T.k_PARTS_name
  | bin b _ _ => cases b; exact one T.k_PARTS_or; exact one T.k_PARTS_and
  | un b _ => cases b; exact one T.k_PARTS_all; exact one T.k_PARTS_some
  | fix b _ _ => cases b; exact one T.k_PARTS_most; exact one T.k_PARTS_least
def sp_evp (K : PySem.W.Frag) : Sp := fun vs H Q _ => ∃ (f : Fm) (v : V), vs = [v] ∧ Rf K H f v ∧
  ∀ (p : Addr) (xs : List V) (H' : Hp), Same H H' → H p = none → H' p = some (.lst xs) → xs.length = f.parts.length → (∀ (i : Nat) (x : V), xs[i]? = some x → ∃ g, f.parts[i]? = some g ∧ Rf K H' g x) → Q (.ref p) H'
theorem ok_evp (T : Tx K mg w) : FnOk P w K mg base CX0 1 T.a_parts_of T.d_parts_of ["formula"] (sp_evp K) := by
  refine T.F_parts_of.ok sc_parts_of (fun vs H Q E h => ?_) (fun cdv A outer s H vs Q E hr h => ?_)
  · obtain ⟨f, v, rfl, _⟩ := h
    rfl
  obtain ⟨f, v, rfl, hf, q⟩ := h
  refine ⟨_, pss_one (ps_ret (pe_lc (own := [("at", 1)]) (g := gName 1) (tt := tYes) rfl sc_parts_of.nd (pi_tup (pe_ix ix_kdict (pe_glob (v := .ref T.a_PARTS) (by rfl) T.g_PARTS rfl) (pe_ix ix_tup (pv 0) pe_int (fun _ _ => rfl)) (fun _ _ => rfl))) (blkOk_by (N := N_parts_of) (sc := defScope St_parts_of) (by decide +kernel)) (fun _ _ _ _ _ => (pg_name (i := 1) sc_parts_of.nd rfl (Or.inl rfl))) (fun _ _ _ _ _ => pts_nil) (fun _ _ _ _ _ => (pe_ix (kx_ix_tup K) (pv 0) (pv 1) (fun _ _ => rfl))))), ?_⟩
  obtain ⟨p, xs, rfl, hp, rs⟩ := hf.out
  obtain ⟨t, kt, ht⟩ := T.evPlaces f
  refine ⟨_, rfl, _, _, _, _, rfl, rfl, hp, atI_nat (j := 0) rfl, _, _, _, rfl, rfl, kt, t, rfl, ⟨_, ht H⟩, fun D hD => ?_⟩
  refine lc_fold (walk_tup (K := K) (a := t) (xs := f.places.map V.int)) hD (fun i H ys => ys.length = i ∧ i ≤ f.parts.length ∧ ∀ (j : Nat) (y : V), ys[j]? = some y → ∃ g, f.parts[j]? = some g ∧ Rf K H g y) ?_ ?_ ?_ (fun H _ => ht H) ?_ ?_
  · exact fun H => ⟨rfl, Nat.zero_le _, fun j y e => by simp at e⟩
  · exact fun i H H' ys k ⟨e, hi, h⟩ => ⟨e, hi, fun j y q => let ⟨g, h1, h2⟩ := h j y q; ⟨g, h1, h2.keep k⟩⟩
  · exact fun i H ys ⟨e, hi, _⟩ => by have := f.parts_two; omega
  · rintro i x H2 H3 ys Nx Ex hi s2 ⟨e, hil, hY⟩ ⟨rfl, hx⟩ k1 k2
    obtain ⟨z, hz, rfl⟩ := map_at hx
    obtain ⟨g, x, hg, hx, rg⟩ := rs.part hz
    refine ⟨rfl, ?_⟩
    refine lcY ?_
    refine ⟨_, rfl, _, rfl, _, _, _, _, rfl, rfl, s2.keeps.sqT hp, hx, ?_⟩
    refine k1 x H3 (Same.refl _) ⟨by rw [List.length_append, e]; rfl, (List.getElem?_eq_some_iff.mp hg).1, fun j y q => ?_⟩
    rcases snoc_at q with q | ⟨ej, ey⟩
    · exact hY j y q
    · subst ey
      rw [e] at ej
      subst ej
      exact ⟨g, hg, rg.same s2⟩
  · intro H' ys s' hD' ⟨e, hl, h⟩
    rw [List.length_map, f.places_length] at e
    exact q D ys H' s' hD hD' e h
/-- its names are bound, or among the told ones -/
def Fm.Bd : Fm → List Str → Prop
  | .lit _, _ | .val _, _ | .mark _, _ => True
  | .name x, xs => x ∈ xs
  | .bin _ l r, xs => l.Bd xs ∧ r.Bd xs
  | .un _ a, xs => a.Bd xs
  | .fix _ x a, xs => a.Bd (xs ++ [x])
/-- the names that are bound in its parts -/
def Fm.under : Fm → List Str → List Str
  | .fix _ x _, xs => xs ++ [x]
  | _, xs => xs
theorem Fm.under_len (f : Fm) (xs : List Str) : (f.under xs).length ≤ xs.length + 1 := by
  cases f <;> simp [Fm.under]
theorem Fm.Bd.part {f g : Fm} {xs : List Str} (h : f.Bd xs) (hg : g ∈ f.parts) : g.Bd (f.under xs) := by
  cases f with
  | lit _ | val _ | mark _ | name _ => simp [Fm.parts] at hg
  | bin b l r =>
    simp [Fm.parts] at hg
    rcases hg with rfl | rfl
    · exact h.1
    · exact h.2
  | un b a =>
    simp [Fm.parts] at hg
    subst hg
    exact h
  | fix b x a =>
    simp [Fm.parts] at hg
    subst hg
    exact h
theorem Fm.Vs.part {f g : Fm} {p : Str → Prop} (h : f.Vs p) (hg : g ∈ f.parts) : g.Vs p := by
  cases f with
  | lit _ | val _ | mark _ | name _ => simp [Fm.parts] at hg
  | bin b l r =>
    simp [Fm.parts] at hg
    rcases hg with rfl | rfl
    · exact h.1
    · exact h.2
  | un b a =>
    simp [Fm.parts] at hg
    subst hg
    exact h
  | fix b x a =>
    simp [Fm.parts] at hg
    subst hg
    exact h
open PyProof.Rows
def sp_chk (K : PySem.W.Frag) (mm : List (Str × Addr)) (n : Nat) : Sp := fun vs H Q _ => ∃ (z b : Addr) (v : V) (L : Lt) (f : Fm) (xs : List Str), vs = [.ref z, v, .ref b] ∧ IsLat K mm H z L ∧ L.names.Nodup ∧ Rf K H f v ∧ f.depth ≤ n ∧ f.Vs (· ∈ L.names) ∧ SqL K H b (xs.map V.str) ∧ f.Bd xs ∧ xs.length + f.depth ≤ 1000 ∧ ∀ H', Same H H' → Q .non H'
theorem ok_chk (T : Tx K mg w) : ∀ n, FnOk P w K mg base CX0 (n + 2) T.a_check_formula T.d_check_formula ["lattice", "formula", "bound"] (sp_chk K T.mm n)
  | 0 => by
    have no : ∀ vs H Q E, ¬ sp_chk K T.mm 0 vs H Q E := fun vs H Q E ⟨z, b, v, L, f, xs, _, _, _, _, hd, _⟩ => by have := f.depth_pos; omega
    exact ⟨fun vs H Q E h => absurd h (no vs H Q E), fun A outer s H args us vs Q E _ _ _ _ h => absurd h (no vs H Q E)⟩
  | n + 1 => by
    have G_check_formula := ok_chk T n
    have G_parts_of := ok_evp (P := P) (base := base) T
    have G_Lattice_at_name := ok_at_name (P := P) (w := w) (base := base) T
    refine T.F_check_formula.ok sc_check_formula (fun vs H Q E h => ?_) (fun cdv A outer s H vs Q E hr h => ?_)
    · obtain ⟨z, b, v, L, f, xs, rfl, _⟩ := h
      rfl
    obtain ⟨z, b, v, L, f, xs, rfl, hL, nd, hf, hd, hv, hb, hbd, hl, q⟩ := h
    refine ⟨_, pss_cons (ps_if (pt_cmpR op_eq (pe_ix ix_tup (pv 1) pe_int (fun _ _ => rfl)) pe_str (nomark _)) (pss_one (ps_expr (pe_methG (pv 0) G_Lattice_at_name (hr.mono (by omega)) T.b_Lattice_at_name .nil pass0 (pa_cons (pe_ix ix_tup (pv 1) pe_int (fun _ _ => rfl)) pa_nil)))) pss_nil)
    (pss_cons (ps_if (PW.pt (pw_and (pt_cmpR op_eq (pe_ix ix_tup (pv 1) pe_int (fun _ _ => rfl)) pe_str (nomark _)) (pw_and1 (pt_cmpR op_notIn_seq (pe_ix ix_tup (pv 1) pe_int (fun _ _ => rfl)) (pv 2) (by rfl))))) (pss_one ps_dead) pss_nil)
    (pss_cons (ps_if (pt_cmpR op_in_seq (pe_ix ix_tup (pv 1) pe_int (fun _ _ => rfl)) (pe_tup (pa_cons pe_str (pa_cons pe_str pa_nil))) (by rfl)) (pss_one (ps_set (i := 2) sc_check_formula.nd rfl (Or.inl rfl) (pe_lst (StX.pa_star (pv 2) (pa_cons (pe_ix ix_tup (pv 1) pe_int (fun _ _ => rfl)) pa_nil))))) pss_nil)
    (pss_one (ps_for PassesOwn.never rfl (pi_list (pe_call G_parts_of (hr.mono (by omega)) (by rfl) T.g_parts_of T.F_parts_of.kp T.b_parts_of .nil pass0 (pa_cons (pv 1) pa_nil))) (pg_name (i := 3) sc_check_formula.nd rfl (Or.inl rfl)) (pss_one (ps_expr (pe_call G_check_formula (hr.mono (by omega)) (by rfl) T.g_check_formula T.F_check_formula.kp T.b_check_formula .nil pass0 (pa_cons (pv 0) (pa_cons (pv 3) (pa_cons (pv 2) pa_nil)))))))))), ?_⟩
    obtain ⟨p, ys, rfl, hp, rs⟩ := hf.out
    refine st_run (fun σ H' => σ = [some (.ref z), some (.ref p), some (.ref b), none] ∧ Same H H') (fun D' hD q' => ?_) ?_
    · refine ⟨_, rfl, _, _, _, _, rfl, rfl, hp, atI_nat (j := 0) rfl, rfl, _, rfl, ?_⟩
      cases f with
      | val x =>
        refine te_yes (by dsimp only [Fm.head]; decide +kernel) ?_
        cases rs
        obtain ⟨a, ha, ea⟩ := List.getElem_of_mem (show x ∈ L.names from hv)
        obtain ⟨Cz, dz, fz, tn, td, tu, A0⟩ := id hL
        exact ⟨_, rfl, z, Cz, dz, fz, rfl, A0.at_, A0.c.cl, A0.c.me _ T.in_at_name, A0.no _ T.in_at_name, _, rfl, p, _, _, _, rfl, rfl, hp, atI_nat (j := 1) rfl, z, L, a, x, rfl, hL, nd, by rw [List.getElem?_eq_getElem ha, ea], fun H' s' => q' _ _ ⟨rfl, s'⟩⟩
      | lit b => cases b <;> exact te_no (by dsimp only [Fm.head]; decide +kernel) (q' _ _ ⟨rfl, Same.refl _⟩)
      | mark _ => exact te_no (by dsimp only [Fm.head]; decide +kernel) (q' _ _ ⟨rfl, Same.refl _⟩)
      | name _ => exact te_no (by dsimp only [Fm.head]; decide +kernel) (q' _ _ ⟨rfl, Same.refl _⟩)
      | bin b _ _ => cases b <;> exact te_no (by dsimp only [Fm.head]; decide +kernel) (q' _ _ ⟨rfl, Same.refl _⟩)
      | un b _ => cases b <;> exact te_no (by dsimp only [Fm.head]; decide +kernel) (q' _ _ ⟨rfl, Same.refl _⟩)
      | fix b _ _ => cases b <;> exact te_no (by dsimp only [Fm.head]; decide +kernel) (q' _ _ ⟨rfl, Same.refl _⟩)
    rintro _ H1 ⟨rfl, s1⟩
    have hp1 := s1.keeps.sqT hp
    have hb1 := s1.seq hb
    refine st_run (fun σ H' => σ = [some (.ref z), some (.ref p), some (.ref b), none] ∧ Same H1 H') (fun D' hD q' => ?_) ?_
    · refine ⟨_, rfl, _, _, _, _, rfl, rfl, hp1, atI_nat (j := 0) rfl, rfl, _, rfl, ?_⟩
      cases f with
      | name x =>
        refine te_yes (by dsimp only [Fm.head]; decide +kernel) ?_
        cases rs
        refine ⟨_, rfl, _, _, _, _, rfl, rfl, hp1, atI_nat (j := 1) rfl, _, rfl, b, _, rfl, .inl hb1, rfl, flat_strs _, _, rfl, ?_⟩
        show if (!inV (.str x) (xs.map V.str)) = true then _ else _
        rw [inV_strs, decide_eq_true (show x ∈ xs from hbd)]
        exact iteF (q' _ _ ⟨rfl, Same.refl _⟩)
      | lit b => cases b <;> exact te_no (by dsimp only [Fm.head]; decide +kernel) (q' _ _ ⟨rfl, Same.refl _⟩)
      | mark _ => exact te_no (by dsimp only [Fm.head]; decide +kernel) (q' _ _ ⟨rfl, Same.refl _⟩)
      | val _ => exact te_no (by dsimp only [Fm.head]; decide +kernel) (q' _ _ ⟨rfl, Same.refl _⟩)
      | bin b _ _ => cases b <;> exact te_no (by dsimp only [Fm.head]; decide +kernel) (q' _ _ ⟨rfl, Same.refl _⟩)
      | un b _ => cases b <;> exact te_no (by dsimp only [Fm.head]; decide +kernel) (q' _ _ ⟨rfl, Same.refl _⟩)
      | fix b _ _ => cases b <;> exact te_no (by dsimp only [Fm.head]; decide +kernel) (q' _ _ ⟨rfl, Same.refl _⟩)
    rintro _ H2 ⟨rfl, s2⟩
    have hp2 := s2.keeps.sqT hp1
    have hb2 := s2.seq hb1
    refine st_run (fun σ H' => ∃ b', σ = [some (.ref z), some (.ref p), some (.ref b'), none] ∧ Same H2 H' ∧ SqL K H' b' ((f.under xs).map V.str)) (fun D' hD q' => ?_) ?_
    · refine ⟨_, rfl, _, _, _, _, rfl, rfl, hp2, atI_nat (j := 0) rfl, (by show 2 ≤ sizeLine; decide), newQ (.tup [.str (("least" : Str)), .str (("most" : Str))]) fun t ht s3 e3 => ?_⟩
      generalize upd H2 t (.tup [.str (("least" : Str)), .str (("most" : Str))]) = H3 at s3 e3 ⊢
      refine ⟨t, _, rfl, .inr (SqT.of (K := K) e3), rfl, rfl, _, rfl, ?_⟩
      cases f with
      | fix b x a =>
        have hk : (Fm.hFix b == "least" || Fm.hFix b == "most") = true := by cases b <;> decide +kernel
        refine ti_yes hk ?_
        obtain ⟨y, rfl, _⟩ := rs
        refine ⟨_, rfl, _, _, rfl, .inr (s3.seq hb2), _, rfl, _, _, _, _, rfl, rfl, s3.keeps.sqT hp2, atI_nat (j := 1) rfl, ?_, newQ (.lst (xs.map V.str ++ [V.str x])) fun l hl s4 e4 => ?_⟩
        · show (xs.map V.str ++ [V.str x]).length ≤ sizeLine
          rw [List.length_append, List.length_map]
          exact Nat.le_trans (show xs.length + 1 ≤ 1001 by omega) (by decide)
        · generalize upd H3 l (.lst (xs.map V.str ++ [V.str x])) = H4 at s4 e4 ⊢
          exact q' _ _ ⟨l, rfl, s3.trans s4, by show SqL K H4 l ((xs ++ [x]).map V.str); rw [List.map_append]; exact SqL.of (K := K) e4⟩
      | lit b => cases b <;> exact ti_no (by dsimp only [Fm.head]; decide +kernel) (q' _ _ ⟨_, rfl, s3, s3.seq hb2⟩)
      | mark _ => exact ti_no (by dsimp only [Fm.head]; decide +kernel) (q' _ _ ⟨_, rfl, s3, s3.seq hb2⟩)
      | val _ => exact ti_no (by dsimp only [Fm.head]; decide +kernel) (q' _ _ ⟨_, rfl, s3, s3.seq hb2⟩)
      | name _ => exact ti_no (by dsimp only [Fm.head]; decide +kernel) (q' _ _ ⟨_, rfl, s3, s3.seq hb2⟩)
      | bin b _ _ => cases b <;> exact ti_no (by dsimp only [Fm.head]; decide +kernel) (q' _ _ ⟨_, rfl, s3, s3.seq hb2⟩)
      | un b _ => cases b <;> exact ti_no (by dsimp only [Fm.head]; decide +kernel) (q' _ _ ⟨_, rfl, s3, s3.seq hb2⟩)
    rintro _ H3 ⟨b', rfl, s3, hb3⟩
    have hs3 := (s1.trans s2).trans s3
    refine ⟨_, rfl, f, .ref p, rfl, hf.same hs3, fun l us H4 s4 _ e4 ul hu => ?_⟩
    refine ⟨l, rfl, ⟨_, SqL.of (K := K) e4⟩, for_list (K := K) (a := l) (xs := us) (fun i σ H' => ∃ v3, σ = [some (.ref z), some (.ref p), some (.ref b'), v3] ∧ Same H4 H') ⟨_, rfl, Same.refl _⟩ (fun i σ H' _ ⟨_, _, s⟩ => SqL.of (K := K) (s _ _ e4)) ?_ ?_⟩
    · rintro j x σ H5 hx ⟨v3, rfl, s5⟩
      obtain ⟨g, hg, rg⟩ := hu j x hx
      have gm := List.mem_of_getElem? hg
      have gd := Fm.parts_depth gm
      have gl := f.under_len xs
      exact ⟨_, rfl, _, rfl, _, rfl, z, b', x, L, g, _, rfl, ((hL.same hs3).same s4).same s5, nd, rg.same s5, by omega, hv.part gm, (s4.trans s5).seq hb3, hbd.part gm, by omega, fun H6 s6 => ⟨_, rfl, s5.trans s6⟩⟩
    · rintro σ H5 ⟨v3, rfl, s5⟩
      exact q H5 ((hs3.trans s4).trans s5)
end
/-! ### the frame of a system: the plain law -/
/-- two rows, item by item -/
inductive Two {α : Type} (F : α → α → Prop) : List α → List α → Prop
  | nil : Two F [] []
  | cons {a b : α} {as bs : List α} : F a b → Two F as bs → Two F (a :: as) (b :: bs)
section
open Lt
variable {L : Lt} {S S' : Sys}
theorem fr_ok (R : L.Reg) (hin : S.In L) : (S.fr L).Ok L := ⟨fun m s => by
    show ((S.ms.find? fun r => r.1 == m && r.2.1 == s).map fun r => r.2.2).getD L.low < L.n
    cases e : S.ms.find? fun r => r.1 == m && r.2.1 == s with
    | none => exact R.isLow.2.1
    | some r => exact hin.ms r (List.mem_of_find?_eq_some e),
  fun v hv s => R.sm_lt hv _ R.isLow.2.1 fun a ha => hin.ar a (List.mem_filter.mp ha).1,
  fun v hv s => R.al_lt hv _ R.isHigh.2.1 fun a ha => hin.ar a (List.mem_filter.mp ha).1⟩
theorem foldl_ends {f g : Nat → Str × Str × Nat × Nat → Nat} : ∀ (as : List (Str × Str × Nat × Nat)) (t : Nat), (∀ t, ∀ a ∈ as, f t a = g t a) → as.foldl f t = as.foldl g t
  | [], _, _ => rfl
  | a :: as, t, h => by
    rw [List.foldl_cons, List.foldl_cons, h t a (.head _)]
    exact foldl_ends as _ fun t b hb => h t b (.tail _ hb)
theorem fr_local (ok : S.Ok) : (S.fr L).Local L := fun v w h => by
  have e : ∀ s, ∀ a ∈ S.ar.filter (fun a => a.1 == s), v a.2.1 = w a.2.1 := fun s a ha => h _ (ok.ast a (List.mem_filter.mp ha).1).2
  exact ⟨fun s _ => foldl_ends _ _ fun t a ha => by rw [e s a ha], fun s _ => foldl_ends _ _ fun t a ha => by rw [e s a ha]⟩
/-- rows alike but for greater values -/
def MLe (L : Lt) (m m' : Str × Str × Nat) : Prop := m.1 = m'.1 ∧ m.2.1 = m'.2.1 ∧ L.le m.2.2 m'.2.2 = true ∧ m.2.2 < L.n ∧ m'.2.2 < L.n
def ALe (L : Lt) (a a' : Str × Str × Nat × Nat) : Prop := a.1 = a'.1 ∧ a.2.1 = a'.2.1 ∧ (L.le a.2.2.1 a'.2.2.1 = true ∧ L.le a.2.2.2 a'.2.2.2 = true) ∧ (a.2.2.1 < L.n ∧ a'.2.2.1 < L.n) ∧ a.2.2.2 < L.n ∧ a'.2.2.2 < L.n
theorem ma_le (R : L.Reg) (m s : Str) {ms ms' : List (Str × Str × Nat)} (h : Two (MLe L) ms ms') : L.le (((ms.find? fun r => r.1 == m && r.2.1 == s).map fun r => r.2.2).getD L.low) (((ms'.find? fun r => r.1 == m && r.2.1 == s).map fun r => r.2.2).getD L.low) = true := by
  induction h with
  | nil => exact R.refl R.isLow.2.1
  | @cons a b as bs h t ih =>
    obtain ⟨h1, h2, h3, h4, h5⟩ := h
    by_cases c : (a.1 == m && a.2.1 == s) = true
    · rw [List.find?_cons_of_pos (p := fun r : Str × Str × Nat => r.1 == m && r.2.1 == s) c, List.find?_cons_of_pos (p := fun r : Str × Str × Nat => r.1 == m && r.2.1 == s) (by rw [← h1, ← h2]; exact c)]
      exact h3
    · rw [List.find?_cons_of_neg (p := fun r : Str × Str × Nat => r.1 == m && r.2.1 == s) c, List.find?_cons_of_neg (p := fun r : Str × Str × Nat => r.1 == m && r.2.1 == s) (by rw [← h1, ← h2]; exact c)]
      exact ih
theorem filter_le2 {as as' : List (Str × Str × Nat × Nat)} (h : Two (ALe L) as as') (s : Str) : Two (ALe L) (as.filter fun a => a.1 == s) (as'.filter fun a => a.1 == s) := by
  induction h with
  | nil => exact .nil
  | @cons a b as bs h t ih =>
    by_cases c : (a.1 == s) = true
    · rw [List.filter_cons_of_pos (p := fun a : Str × Str × Nat × Nat => a.1 == s) c, List.filter_cons_of_pos (p := fun a : Str × Str × Nat × Nat => a.1 == s) (by rw [← h.1]; exact c)]
      exact .cons h ih
    · rw [List.filter_cons_of_neg (p := fun a : Str × Str × Nat × Nat => a.1 == s) c, List.filter_cons_of_neg (p := fun a : Str × Str × Nat × Nat => a.1 == s) (by rw [← h.1]; exact c)]
      exact ih
theorem sm_le (R : L.Reg) {st : List Str} {v w : Vl} (hv : Vok L v) (hw : Vok L w) (hl : Vle L st v w) {as as' : List (Str × Str × Nat × Nat)} (h : Two (ALe L) as as') (he : ∀ a ∈ as, a.2.1 ∈ st) : ∀ {t u : Nat}, t < L.n → u < L.n → L.le t u = true → L.le (as.foldl (fun t a => L.jn t (L.mt a.2.2.1 (v a.2.1))) t) (as'.foldl (fun t a => L.jn t (L.mt a.2.2.1 (w a.2.1))) u) = true := by
  induction h with
  | nil => exact fun _ _ h => h
  | @cons a b as bs h t ih =>
    intro x y hx hy hxy
    obtain ⟨h1, h2, h3, h4, h5⟩ := h
    rw [List.foldl_cons, List.foldl_cons]
    have m1 := R.mlt h4.1 (hv a.2.1)
    have m2 := R.mlt h4.2 (hw b.2.1)
    refine ih (fun a ha => he a (.tail _ ha)) (R.jlt hx m1) (R.jlt hy m2) (jn_mono R hx m1 hy m2 hxy (mt_mono R h4.1 (hv _) h4.2 (hw _) h3.1 ?_))
    rw [← h2]
    exact hl _ (he a (.head _))
theorem al_le (R : L.Reg) {st : List Str} {v w : Vl} (hv : Vok L v) (hw : Vok L w) (hl : Vle L st v w) {as as' : List (Str × Str × Nat × Nat)} (h : Two (ALe L) as as') (he : ∀ a ∈ as, a.2.1 ∈ st) : ∀ {t u : Nat}, t < L.n → u < L.n → L.le t u = true → L.le (as.foldl (fun t a => L.mt t (L.jn a.2.2.2 (v a.2.1))) t) (as'.foldl (fun t a => L.mt t (L.jn a.2.2.2 (w a.2.1))) u) = true := by
  induction h with
  | nil => exact fun _ _ h => h
  | @cons a b as bs h t ih =>
    intro x y hx hy hxy
    obtain ⟨h1, h2, h3, h4, h5⟩ := h
    rw [List.foldl_cons, List.foldl_cons]
    have m1 := R.jlt h5.1 (hv a.2.1)
    have m2 := R.jlt h5.2 (hw b.2.1)
    refine ih (fun a ha => he a (.tail _ ha)) (R.mlt hx m1) (R.mlt hy m2) (mt_mono R hx m1 hy m2 hxy (jn_mono R h5.1 (hv _) h5.2 (hw _) h3.2 ?_))
    rw [← h2]
    exact hl _ (he a (.head _))
theorem fr_le (R : L.Reg) (ok : S.Ok) (hs : S.st = S'.st) (hm : Two (MLe L) S.ms S'.ms) (ha : Two (ALe L) S.ar S'.ar) : (S.fr L).Le L (S'.fr L) := ⟨hs, fun m s _ => ma_le R m s hm,
  fun v w hv hw hl s _ => sm_le R hv hw hl (filter_le2 ha s) (fun a h => (ok.ast a (List.mem_filter.mp h).1).2) R.isLow.2.1 R.isLow.2.1 (R.refl R.isLow.2.1),
  fun v w hv hw hl s _ => al_le R hv hw hl (filter_le2 ha s) (fun a h => (ok.ast a (List.mem_filter.mp h).1).2) R.isHigh.2.1 R.isHigh.2.1 (R.refl R.isHigh.2.1)⟩
theorem paired_self {α : Type} {F : α → α → Prop} : ∀ (xs : List α), (∀ x ∈ xs, F x x) → Two F xs xs
  | [], _ => .nil
  | x :: xs, h => .cons (h x (.head _)) (paired_self xs fun y hy => h y (.tail _ hy))
theorem fr_mono (R : L.Reg) (ok : S.Ok) (hin : S.In L) : (S.fr L).Le L (S.fr L) :=
  fr_le R ok rfl (paired_self _ fun m hm => ⟨rfl, rfl, R.refl (hin.ms m hm), hin.ms m hm, hin.ms m hm⟩) (paired_self _ fun a ha => by
    obtain ⟨h1, h2⟩ := hin.ar a ha
    exact ⟨rfl, rfl, ⟨R.refl h1, R.refl h2⟩, ⟨h1, h1⟩, h2, h2⟩)
/-- the rounds of a binder: they end, at its value -/
def rnd (L : Lt) (S : Fr) (b : Bool) (x : Str) (f : Fm) (e : En) (k : Nat) : Vl := iter (fun v => den L S f (put e x v)) (fun _ => if b then L.low else L.high) k
theorem turn_low (R : L.Reg) (st : List Str) (v : Vl) (hv : Vok L v) : Vle (turnL L) st (fun _ => L.high) v := fun s _ => R.isHigh.2.2 _ (hv s)
theorem rnd_few (R : L.Reg) (ok : S.Ok) (hin : S.In L) {b : Bool} {x : Str} {f : Fm} {e : En} (hf : f.Vs (· ∈ L.names)) (he : Eok L e) {k : Nat} (hk : ∀ j, j < k → ¬ Agree S.st (rnd L (S.fr L) b x f e j) (rnd L (S.fr L) b x f e (j + 1))) : k ≤ S.st.length * L.n := by
  have fo := fr_ok R hin
  have fm := fr_mono R ok hin
  have hF : ∀ v, Vok L v → Vok L (den L (S.fr L) f (put e x v)) := fun v hv => den_ok R fo f hf (he.put hv x)
  have hM : ∀ v w, Vok L v → Vok L w → Vle L S.st v w → Vle L S.st (den L (S.fr L) f (put e x v)) (den L (S.fr L) f (put e x w)) := fun v w hv hw h => den_mono R fo fo fm f hf (he.put hv x) (he.put hw x) (Ele.put (fun y s _ => R.refl (he y s)) h x)
  cases b with
  | true =>
    exact Nat.le_trans (asc_total R hF hM (fun _ => R.isLow.2.1) (fun v hv s _ => R.isLow.2.2 _ (hv s)) k hk) (total_le _ _)
  | false =>
    exact Nat.le_trans (asc_total R.turn (L := turnL L) hF (fun v w hv hw h => hM w v hw hv h) (fun _ => R.isHigh.2.1) (fun v hv => turn_low R S.st v hv) k hk) (total_le (L := turnL L) _ _)
theorem rnd_end (ok : S.Ok) {b : Bool} {x : Str} {f : Fm} {e : En} {k : Nat} (hk : k ≤ S.st.length * L.n) (h : Agree S.st (rnd L (S.fr L) b x f e (k + 1)) (rnd L (S.fr L) b x f e k)) : Agree S.st (rnd L (S.fr L) b x f e k) (den L (S.fr L) (.fix b x f) e) := by
  obtain ⟨m, hm⟩ := Nat.exists_eq_add_of_le hk
  have lo := fr_local (L := L) ok
  intro s hs
  have := iter_agree (st := S.st) (F := fun v => den L (S.fr L) f (put e x v)) (fun v w hvw => den_agree lo f fun y => put_agree (fun _ _ _ => rfl) hvw x y) h m s hs
  show _ = iter _ _ (S.st.length * L.n) s
  rw [hm]
  exact this.symm
end
/-! ### places, by_rounds, counted_rounds -/
section
open L2
theorem valV_nokey {kvs : List (Key × V)} {k : Key} (h : k ∉ kvs.map Prod.fst) : valV kvs k = none := by
  induction kvs with
  | nil => rfl
  | cons p ps ih =>
    rw [valV_neg fun e => h (List.mem_map.mpr ⟨p, .head _, e⟩)]
    exact ih fun m => h (by rw [List.map_cons]; exact .tail _ m)
theorem mergeK_app : ∀ (more acc : List (Key × V)), ((acc ++ more).map Prod.fst).Nodup → mergeK acc more = acc ++ more
  | [], acc, _ => by rw [List.append_nil]; rfl
  | p :: more, acc, h => by
    have e : acc ++ p :: more = (acc ++ [p]) ++ more := by rw [List.append_assoc]; rfl
    have nk : p.1 ∉ acc.map Prod.fst := by
      rw [List.map_append, List.map_cons, List.nodup_append] at h
      exact fun m => h.2.2 p.1 m p.1 (.head _) rfl
    show mergeK (putK acc p.1 p.2) more = _
    rw [putK_new _ (valV_nokey nk), show acc ++ [(p.1, p.2)] = acc ++ [p] from rfl, e]
    exact mergeK_app more _ (by rw [← e]; exact h)
theorem mergeK_self {kvs : List (Key × V)} (h : (kvs.map Prod.fst).Nodup) : mergeK [] kvs = kvs := mergeK_app kvs [] h
theorem putK_nodup {kvs : List (Key × V)} {k : Key} {v : V} (h : (kvs.map Prod.fst).Nodup) : ((putK kvs k v).map Prod.fst).Nodup := by
  by_cases c : k ∈ kvs.map Prod.fst
  · have : (kvs.any fun kv => decide (kv.1 = k)) = true := by
      obtain ⟨p, hp, e⟩ := List.mem_map.mp c
      exact List.any_eq_true.mpr ⟨p, hp, decide_eq_true e⟩
    unfold putK
    rw [if_pos this, List.map_map]
    have : (Prod.fst ∘ fun kv : Key × V => if kv.1 = k then (kv.1, v) else kv) = Prod.fst := by
      funext kv
      show (if kv.1 = k then (kv.1, v) else kv).1 = kv.1
      split <;> rfl
    rw [this]
    exact h
  · rw [putK_new _ (valV_nokey c), List.map_append, List.nodup_append]
    refine ⟨h, by simp, fun a ha b hb e => c ?_⟩
    have : b = k := by simpa using hb
    rw [← this, ← e]
    exact ha
theorem dEq_ent {st : List Str} (nd : st.Nodup) (v u : Str → Nat) : dEq (entV st v) (entV st u) = decide (∀ s ∈ st, u s = v s) := by
  unfold dEq
  rw [show (entV st v).length = (entV st u).length by unfold entV; rw [List.length_map, List.length_map], beq_self_eq_true, Bool.true_and, Bool.eq_iff_iff, List.all_eq_true, decide_eq_true_eq]
  constructor
  · intro h s hs
    have := h (Sum.inr s, V.int (v s : Nat)) (List.mem_map.mpr ⟨s, hs, rfl⟩)
    rw [decide_eq_true_eq, entV_get hs] at this
    have h1 : V.int (u s : Nat) = V.int (v s : Nat) := Option.some.inj this
    have h2 := V.int.inj h1
    omega
  · intro h p hp
    obtain ⟨s, hs, rfl⟩ := List.mem_map.mp hp
    rw [decide_eq_true_eq, entV_get hs, h s hs]
theorem dflat_ent {st : List Str} (v u : Str → Nat) : DFlat (entV st v) (entV st u) := fun p hp w hw => by
  obtain ⟨s, hs, rfl⟩ := List.mem_map.mp hp
  rw [entV_get hs] at hw
  exact .inl ⟨_, _, rfl, (Option.some.inj hw).symm⟩
end
section
open PyProof.Rows
variable {w : World} {K : PySem.W.Frag} {mg : Str → Option Value} {base : Heap} {mm : List (Str × Addr)} {H H' : Hp} {L : Lt}
/-- the dicts of names -/
def NmAt (H : Hp) (nd : Addr) (S : Sys) (e : Lt.En) (xs : List Str) (m : Nat) : Prop := ∃ kvs : List (L2.Key × V), H nd = some (.dK kvs) ∧ (kvs.map Prod.fst).Nodup ∧ kvs.length ≤ m ∧ ∀ x ∈ xs, ∃ d, L2.valV kvs (Sum.inr x) = some (.ref d) ∧ H d = some (.dK (entV S.st (e x)))
theorem NmAt.same {nd : Addr} {S : Sys} {e : Lt.En} {xs : List Str} {m : Nat} (h : NmAt H nd S e xs m) (s : Same H H') : NmAt H' nd S e xs m := by
  obtain ⟨kvs, h1, h2, h3, h4⟩ := h
  exact ⟨kvs, s _ _ h1, h2, h3, fun x hx => by
    obtain ⟨d, a, b⟩ := h4 x hx
    exact ⟨d, a, s _ _ b⟩⟩
/-- {**names, x: d} -/
theorem NmAt.put {p d : Addr} {S : Sys} {e : Lt.En} {xs : List Str} {m : Nat} {x : Str} {v : Lt.Vl} {kvs : List (L2.Key × V)} (h2 : (kvs.map Prod.fst).Nodup) (h3 : kvs.length ≤ m) (h4 : ∀ x ∈ xs, ∃ d, L2.valV kvs (Sum.inr x) = some (.ref d) ∧ H d = some (.dK (entV S.st (e x)))) (hd : H d = some (.dK (entV S.st v))) (s : Same H H') (hp : H' p = some (.dK (L2.putK kvs (Sum.inr x) (.ref d)))) : NmAt H' p S (Lt.put e x v) (xs ++ [x]) (m + 1) := by
  refine ⟨_, hp, putK_nodup h2, Nat.le_trans (L2.length_putK _ _ _) (by omega), fun y hy => ?_⟩
  rw [L2.valV_put]
  unfold Lt.put
  by_cases c : y = x
  · subst c
    rw [if_pos rfl, if_pos rfl]
    exact ⟨d, rfl, s _ _ hd⟩
  · rw [if_neg (fun e => c (by injection e)), if_neg c]
    obtain ⟨d', a, b⟩ := h4 y (by
      rcases List.mem_append.mp hy with h | h
      · exact h
      · exact absurd (by simpa using h) c)
    exact ⟨d', a, s _ _ b⟩
def sp_pl (K : PySem.W.Frag) (mm : List (Str × Addr)) (C : Addr) (n : Nat) : Sp := fun vs H Q _ => ∃ (p z nd : Addr) (v : V) (L : Lt) (S : Sys) (f : Fm) (e : Lt.En) (xs : List Str), vs = [.ref p, v, .ref nd] ∧ IsEv K mm C H p z L S ∧ S.Ok ∧ S.In L ∧ L.Reg ∧ L.n ≤ 64 ∧ L.names.Nodup ∧ Rf K H f v ∧ f.depth ≤ n ∧ f.Vs (· ∈ L.names) ∧ f.Bd xs ∧ L.Eok e ∧ NmAt H nd S e xs (900 - f.depth) ∧ f.depth ≤ 800 ∧
  ∀ d H', Same H H' → H' d = some (.dK (entV S.st (L.den (S.fr L) f e))) → Q (.ref d) H'
def sp_cnt (K : PySem.W.Frag) (mm : List (Str × Addr)) (C : Addr) (n : Nat) : Sp := fun vs H Q _ => ∃ (p z nd : Addr) (v : V) (L : Lt) (S : Sys) (b : Bool) (x : Str) (f : Fm) (e : Lt.En) (xs : List Str), vs = [.ref p, v, .ref nd] ∧ IsEv K mm C H p z L S ∧ S.Ok ∧ S.In L ∧ L.Reg ∧ L.n ≤ 64 ∧ L.names.Nodup ∧ Rf K H (.fix b x f) v ∧ f.depth ≤ n ∧ f.Vs (· ∈ L.names) ∧ f.Bd (xs ++ [x]) ∧ L.Eok e ∧ NmAt H nd S e xs (900 - (f.depth + 1)) ∧ f.depth + 1 ≤ 800 ∧
  ∀ t d k H', Same H H' → H' t = some (.tup [.ref d, .int (k : Nat)]) → H' d = some (.dK (entV S.st (L.den (S.fr L) (.fix b x f) e))) →
    (∀ j, j < k → ¬ Lt.Agree S.st (rnd L (S.fr L) b x f e j) (rnd L (S.fr L) b x f e (j + 1))) → Lt.Agree S.st (rnd L (S.fr L) b x f e (k + 1)) (rnd L (S.fr L) b x f e k) → Q (.ref t) H'
theorem ok_cnt {P : Program} (T : Tx K mg w) (n : Nat) (G_Evaluation_places : FnOk P w K mg base CX0 (3 * n + 4) T.a_Evaluation_places T.d_Evaluation_places ["self", "formula", "names"] (sp_pl K T.mm T.a_Evaluation n)) : FnOk P w K mg base CX0 (3 * n + 5) T.a_Evaluation_counted_rounds T.d_Evaluation_counted_rounds ["self", "formula", "names"] (sp_cnt K T.mm T.a_Evaluation n) := by
  have G_Evaluation_everywhere := ok_evw (P := P) (base := base) T
  refine T.F_Evaluation_counted_rounds.ok sc_Evaluation_counted_rounds (fun vs H Q E h => ?_) (fun cdv A outer s H vs Q E hr h => ?_)
  · obtain ⟨p, z, nd, v, L, S, b, x, f, e, xs, rfl, _⟩ := h
    rfl
  obtain ⟨p, z, nd, v, L, S, b, x, f, e, xs, rfl, hE, ok, hin, R, n64, nnd, hf, hd, hvs, hbd, he, hn, d800, q⟩ := h
  have hu := hu_of hr
  refine ⟨_, pss_cons (ps_set (i := 3) sc_Evaluation_counted_rounds.nd rfl (Or.inl rfl) (pe_meth (pv 0) T.c_Evaluation T.m_Evaluation_everywhere G_Evaluation_everywhere (hr.mono (by omega)) T.b_Evaluation_everywhere .nil pass0 (pa_cons (pe_ifExp (pt_cmpR op_eq (pe_ix ix_tup (pv 1) pe_int (fun _ _ => rfl)) pe_str (nomark _)) (pe_fld (pe_fld (pv 0) rfl) rfl) (pe_fld (pe_fld (pv 0) rfl) rfl)) pa_nil)))
    (pss_cons (ps_set (i := 4) sc_Evaluation_counted_rounds.nd rfl (Or.inl rfl) (pe_meth (pv 0) T.c_Evaluation T.m_Evaluation_places G_Evaluation_places (hr.mono (by omega)) T.b_Evaluation_places .nil pass0 (pa_cons (pe_ix ix_tup (pv 1) pe_int (fun _ _ => rfl)) (pa_cons (pe_starD (pv 2) (pps_cons (pe_ix ix_tup (pv 1) pe_int (fun _ _ => rfl)) (pv 3) pps_nil)) pa_nil))))
    (pss_cons (ps_set (i := 5) sc_Evaluation_counted_rounds.nd rfl (Or.inl rfl) pe_int)
    (pss_cons (ps_while PassesOwn.never (pt_cmpR (op_neDD hr.un0) (pv 4) (pv 3) (nomark _)) (pss_cons (ps_aug (i := 5) sc_Evaluation_counted_rounds.nd rfl (Or.inl rfl) pe_int ip_add)
    (pss_cons (ps_set (i := 3) sc_Evaluation_counted_rounds.nd rfl (Or.inl rfl) (pv 4))
    (pss_one (ps_set (i := 4) sc_Evaluation_counted_rounds.nd rfl (Or.inl rfl) (pe_meth (pv 0) T.c_Evaluation T.m_Evaluation_places G_Evaluation_places (hr.mono (by omega)) T.b_Evaluation_places .nil pass0 (pa_cons (pe_ix ix_tup (pv 1) pe_int (fun _ _ => rfl)) (pa_cons (pe_starD (pv 2) (pps_cons (pe_ix ix_tup (pv 1) pe_int (fun _ _ => rfl)) (pv 3) pps_nil)) pa_nil))))))))
    (pss_one (ps_ret (pe_tup (pa_cons (pv 3) (pa_cons (pv 5) pa_nil)))))))), ?_⟩
  obtain ⟨pf, ys, rfl, hp, y, rfl, ra⟩ := hf.out
  have dlt : f.depth ≤ n := hd
  obtain ⟨kvs, hnd, knd, kl, kx⟩ := id hn
  have it : Lt.Vl := fun _ => 0
  have fo := fr_ok R hin
  have rok : ∀ k, L.Vok (rnd L (S.fr L) b x f e k) := Lt.iter_ok (fun v hv => Lt.den_ok R fo f hvs (he.put hv x)) (fun _ => Lt.ends_ok R b)
  clear it
  have again : ∀ {σ : L2.St} {H1 : Hp} {d1 : Addr} {v0 : Lt.Vl} {Q' : VK}, σ[0]? = some (some (.ref p)) → σ[1]? = some (some (.ref pf)) → σ[2]? = some (some (.ref nd)) → σ[3]? = some (some (.ref d1)) → Same H H1 → H1 d1 = some (.dK (entV S.st v0)) → L.Vok v0 →
      (∀ d H2, Same H1 H2 → H2 d = some (.dK (entV S.st (L.den (S.fr L) f (Lt.put e x v0)))) → Q' (.ref d) H2) →
      tMeth T.a_Evaluation (("places" : Str)) (sp_pl K T.mm T.a_Evaluation n) [] E0 (tVar 0) (tCons (tOp (rIxT K) (tVar 1) (tC (V.int 2))) (tCons (tStarD (tVar 2) (tOp (rIxT K) (tVar 1) (tC (V.int 1))) (tVar 3)) tNil)) σ H1 Q' := by
    intro σ H1 d1 v0 Q' g0 g1 g2 g3 s1 hd1 hv0 q'
    obtain ⟨dx, sn, mv, mo, ma, mvs, a1, a2⟩ := hE.same s1
    have hnd1 := s1 _ _ hnd
    have hp1 := s1.keeps.sqT hp
    refine ⟨_, g0, p, dx, _, rfl, a1, rfl, _, g1, pf, _, _, _, rfl, rfl, hp1, atI_nat (j := 2) rfl, fun pn hpn => ?_⟩
    have e1 : upd H1 pn (.dK []) pn = _ := upd_same
    have s2 : Same H1 (upd H1 pn (.dK [])) := Same.new hpn _
    generalize upd H1 pn (.dK []) = H2 at e1 s2 ⊢
    have npn : pn ≠ nd := fun z => by rw [z, hnd1] at hpn; cases hpn
    refine ⟨_, g2, nd, kvs, rfl, e1, s2 _ _ hnd1, npn, Nat.lt_of_le_of_lt kl (Nat.lt_of_lt_of_le (show _ < 1000 by omega) (by decide)), fun en hen => ?_⟩
    rw [mergeK_self knd] at hen ⊢
    have b3 : But pn H2 (upd H2 pn (.dK kvs)) := (But.refl pn H2).upd _
    have e3 : upd H2 pn (.dK kvs) pn = _ := upd_same
    generalize upd H2 pn (.dK kvs) = H3 at hen b3 e3 ⊢
    have e4 : upd H3 en (.dK []) en = _ := upd_same
    have s4 : Same H3 (upd H3 en (.dK [])) := Same.new hen _
    generalize upd H3 en (.dK []) = H4 at e4 s4 ⊢
    have s14 : Same H1 H4 := fun c o hc => s4 _ _ (b3 _ _ (fun z => by rw [z, hpn] at hc; cases hc) (s2 _ _ hc))
    have pe : pn ≠ en := fun z => by rw [z, hen] at e3; cases e3
    refine ⟨_, g1, pf, _, _, _, rfl, rfl, s14.keeps.sqT hp1, atI_nat (j := 1) rfl, _, g3, Sum.inr x, rfl, s4 _ _ e3, e4, pe, ?_⟩
    rw [show L2.mergeK kvs (L2.mergeK [] [((Sum.inr x : L2.Key), V.ref d1)]) = L2.putK kvs (Sum.inr x) (.ref d1) from rfl]
    have s46 : Same H1 (upd (upd H4 en (.dK (L2.mergeK [] [((Sum.inr x : L2.Key), V.ref d1)]))) pn (.dK (L2.putK kvs (Sum.inr x) (.ref d1)))) := fun c o hc => by
      rw [upd_ne (fun z => by rw [z, hpn] at hc; cases hc), upd_ne (fun z => by
        have : H3 c = some o := b3 _ _ (fun y => by rw [y, hpn] at hc; cases hc) (s2 _ _ hc)
        rw [z, hen] at this; cases this)]
      exact s14 _ _ hc
    have e6 : upd (upd H4 en (.dK (L2.mergeK [] [((Sum.inr x : L2.Key), V.ref d1)]))) pn (.dK (L2.putK kvs (Sum.inr x) (.ref d1))) pn = _ := upd_same
    generalize upd (upd H4 en (.dK (L2.mergeK [] [((Sum.inr x : L2.Key), V.ref d1)]))) pn (.dK (L2.putK kvs (Sum.inr x) (.ref d1))) = H6 at s46 e6 ⊢
    have nm : NmAt H6 pn S (Lt.put e x v0) (xs ++ [x]) (900 - (f.depth + 1) + 1) := NmAt.put (H := H1) knd kl (fun y hy => by
      obtain ⟨d', a, b'⟩ := kx y hy
      exact ⟨d', a, s1 _ _ b'⟩) hd1 s46 e6
    have em : 900 - (f.depth + 1) + 1 = 900 - f.depth := by omega
    rw [em] at nm
    exact ⟨p, z, pn, y, L, S, f, Lt.put e x v0, xs ++ [x], rfl, (hE.same s1).same s46, ok, hin, R, n64, nnd, ra.same (s1.trans s46), dlt, hvs, hbd, he.put hv0 x, nm, by omega, fun d H2 s2 h2 => q' d H2 (s46.trans s2) h2⟩
  obtain ⟨dx, sn, mv, mo, ma, mvs, a1, a2, a3, a4, a5, a6⟩ := id hE
  obtain ⟨Cz, dz, fz, tn, td, tu, A0⟩ := id a2
  refine set_run (fun v H1 => ∃ d1, v = .ref d1 ∧ Same H H1 ∧ H1 d1 = some (.dK (entV S.st (rnd L (S.fr L) b x f e 0)))) (fun Q' q' => ?_) ?_
  · refine ⟨_, rfl, p, dx, _, rfl, a1, rfl, _, rfl, pf, _, _, _, rfl, rfl, hp, atI_nat (j := 0) rfl, rfl, _, rfl, ?_⟩
    cases b with
    | true =>
      refine te_yes (by dsimp only [Fm.head]; decide +kernel) ?_
      exact ⟨_, rfl, p, _, dx, _, _, rfl, a1, T.c_Evaluation, T.n_Evaluation_lattice, rfl, z, Cz, dz, fz, .int (L.low : Nat), rfl, A0.at_, A0.c.cl, A0.c.na _ (by decide), (by rw [A0.bot, R.isLow.1]; rfl), p, z, L, S, L.low, rfl, hE, ok, fun d H1 s1 h1 => q' _ _ ⟨d, rfl, s1, h1⟩⟩
    | false =>
      refine te_no (by dsimp only [Fm.head]; decide +kernel) ?_
      exact ⟨_, rfl, p, _, dx, _, _, rfl, a1, T.c_Evaluation, T.n_Evaluation_lattice, rfl, z, Cz, dz, fz, .int (L.high : Nat), rfl, A0.at_, A0.c.cl, A0.c.na _ (by decide), (by rw [A0.top, R.isHigh.1]; rfl), p, z, L, S, L.high, rfl, hE, ok, fun d H1 s1 h1 => q' _ _ ⟨d, rfl, s1, h1⟩⟩
  rintro _ H1 ⟨d1, rfl, s1, h1⟩
  dsimp only [gName]
  show tSeq _ _ _ [some (.ref p), some (.ref pf), some (.ref nd), some (.ref d1), none, none] H1
  refine again (σ := [some (.ref p), some (.ref pf), some (.ref nd), some (.ref d1), none, none]) rfl rfl rfl rfl s1 h1 (rok 0) fun d2 H2 s2 h2 => ?_
  dsimp only [gName]
  show tSeq _ _ _ [some (.ref p), some (.ref pf), some (.ref nd), some (.ref d1), some (.ref d2), some (.int 0)] H2
  refine ⟨fun m σ H' => ∃ (d1 d2 : Addr) (k : Nat), m = S.st.length * L.n - k ∧ σ = [some (.ref p), some (.ref pf), some (.ref nd), some (.ref d1), some (.ref d2), some (.int (k : Nat))] ∧ Same H H' ∧ H' d1 = some (.dK (entV S.st (rnd L (S.fr L) b x f e k))) ∧ H' d2 = some (.dK (entV S.st (rnd L (S.fr L) b x f e (k + 1)))) ∧ ∀ j, j < k → ¬ Lt.Agree S.st (rnd L (S.fr L) b x f e j) (rnd L (S.fr L) b x f e (j + 1)), ⟨_, d1, d2, 0, rfl, rfl, s1.trans s2, s2 _ _ h1, h2, fun j hj => absurd hj (Nat.not_lt_zero _)⟩, ?_⟩
  rintro m σ H3 ⟨d1, d2, k, rfl, rfl, s3, h1, h2, hk⟩
  refine ⟨_, rfl, _, rfl, d2, d1, _, _, rfl, rfl, h2, h1, dflat_ent _ _, _, rfl, ?_⟩
  rw [dEq_ent ok.nd]
  by_cases c : ∀ s ∈ S.st, rnd L (S.fr L) b x f e k s = rnd L (S.fr L) b x f e (k + 1) s
  · rw [decide_eq_true c]
    refine iteF ?_
    have kb := rnd_few R ok hin hvs he hk
    have ag : Lt.Agree S.st (rnd L (S.fr L) b x f e (k + 1)) (rnd L (S.fr L) b x f e k) := fun s hs => (c s hs).symm
    have fin := rnd_end ok kb ag
    have ee : entV S.st (rnd L (S.fr L) b x f e k) = entV S.st (L.den (S.fr L) (.fix b x f) e) := List.map_congr_left fun s hs => by rw [fin s hs]
    rw [ee] at h1
    dsimp only
    refine ⟨_, rfl, _, rfl, (by show 2 ≤ sizeLine; decide), newQ (.tup [.ref d1, .int (k : Nat)]) fun t ht s4 e4 => ?_⟩
    generalize upd H3 t (.tup [.ref d1, .int (k : Nat)]) = H4 at s4 e4 ⊢
    exact q t d1 k H4 (s3.trans s4) e4 (s4 _ _ h1) hk ag
  · rw [decide_eq_false c]
    refine iteT ?_
    have hk1 : ∀ j, j < k + 1 → ¬ Lt.Agree S.st (rnd L (S.fr L) b x f e j) (rnd L (S.fr L) b x f e (j + 1)) := fun j hj => by
      rcases Nat.lt_or_ge j k with l | l
      · exact hk j l
      · have : j = k := by omega
        subst this
        exact fun ag => c ag
    have kb := rnd_few R ok hin hvs he hk1
    refine ⟨fun σ' H' => ∃ m', m' < S.st.length * L.n - k ∧ ∃ (d1 d2 : Addr) (k : Nat), m' = S.st.length * L.n - k ∧ σ' = [some (.ref p), some (.ref pf), some (.ref nd), some (.ref d1), some (.ref d2), some (.int (k : Nat))] ∧ Same H H' ∧ H' d1 = some (.dK (entV S.st (rnd L (S.fr L) b x f e k))) ∧ H' d2 = some (.dK (entV S.st (rnd L (S.fr L) b x f e (k + 1)))) ∧ ∀ j, j < k → ¬ Lt.Agree S.st (rnd L (S.fr L) b x f e j) (rnd L (S.fr L) b x f e (j + 1)), fun _ _ h => h, ?_⟩
    refine ⟨_, rfl, _, _, rfl, rfl, ?_⟩
    refine ⟨_, rfl, ?_⟩
    dsimp only [gName]
    refine again (σ := [some (.ref p), some (.ref pf), some (.ref nd), some (.ref d2), some (.ref d2), some (.int ((k : Int) + 1))]) rfl rfl rfl rfl s3 h2 (rok (k + 1)) fun d3 H4 s4 h4 => ?_
    refine ⟨S.st.length * L.n - (k + 1), by omega, d2, d3, k + 1, rfl, rfl, s3.trans s4, s4 _ _ h2, h4, hk1⟩
end
/-! ### by_rounds, places (printed by snip_ev5.py) -/
section
open PyProof.Rows
variable {w : World} {K : PySem.W.Frag} {mg : Str → Option Value} {base : Heap} {mm : List (Str × Addr)} {H H' : Hp} {L : Lt}
theorem idx_at {x : Str} (h : x ∈ L.names) : L.names[L.idx x]? = some x := by
  rw [List.getElem?_eq_getElem (Lt.idx_lt h)]
  exact congrArg some (List.getElem_idxOf (Lt.idx_lt h))
def sp_byr (K : PySem.W.Frag) (mm : List (Str × Addr)) (C : Addr) (n : Nat) : Sp := fun vs H Q _ => ∃ (p z nd : Addr) (v : V) (L : Lt) (S : Sys) (b : Bool) (x : Str) (f : Fm) (e : Lt.En) (xs : List Str), vs = [.ref p, v, .ref nd] ∧ IsEv K mm C H p z L S ∧ S.Ok ∧ S.In L ∧ L.Reg ∧ L.n ≤ 64 ∧ L.names.Nodup ∧ Rf K H (.fix b x f) v ∧ f.depth ≤ n ∧ f.Vs (· ∈ L.names) ∧ f.Bd (xs ++ [x]) ∧ L.Eok e ∧ NmAt H nd S e xs (900 - (f.depth + 1)) ∧ f.depth + 1 ≤ 800 ∧
  ∀ d H', Same H H' → H' d = some (.dK (entV S.st (L.den (S.fr L) (.fix b x f) e))) → Q (.ref d) H'
theorem ok_byr {P : Program} (T : Tx K mg w) (n : Nat) (G_Evaluation_places : FnOk P w K mg base CX0 (3 * n + 4) T.a_Evaluation_places T.d_Evaluation_places ["self", "formula", "names"] (sp_pl K T.mm T.a_Evaluation n)) : FnOk P w K mg base CX0 (3 * n + 6) T.a_Evaluation_by_rounds T.d_Evaluation_by_rounds ["self", "formula", "names"] (sp_byr K T.mm T.a_Evaluation n) := by
  have G_Evaluation_counted_rounds := ok_cnt T n G_Evaluation_places
  refine T.F_Evaluation_by_rounds.ok sc_Evaluation_by_rounds (fun vs H Q E h => ?_) (fun cdv A outer s H vs Q E hr h => ?_)
  · obtain ⟨p, z, nd, v, L, S, b, x, f, e, xs, rfl, _⟩ := h
    rfl
  obtain ⟨p, z, nd, v, L, S, b, x, f, e, xs, rfl, hE, h1, h2, h3, h4, h5, h6, h7, h8, h9, h10, h11, h12, q⟩ := h
  obtain ⟨dx, sn, mv, mo, ma, mvs, a1, a2⟩ := id hE
  refine ⟨_, pss_one (ps_ret (pe_ix ix_tup (pe_meth (pv 0) T.c_Evaluation T.m_Evaluation_counted_rounds G_Evaluation_counted_rounds (hr.mono (by omega)) T.b_Evaluation_counted_rounds .nil pass0 (pa_cons (pv 1) (pa_cons (pv 2) pa_nil))) pe_int (fun _ _ => rfl))), ?_⟩
  exact ⟨_, rfl, p, dx, _, rfl, a1, rfl, _, rfl, _, rfl, p, z, nd, v, L, S, b, x, f, e, xs, rfl, hE, h1, h2, h3, h4, h5, h6, h7, h8, h9, h10, h11, h12, fun t d k H' s' ht hd _ _ => ⟨t, _, _, _, rfl, rfl, SqT.of (K := K) ht, atI_nat (j := 0) rfl, q d H' s' hd⟩⟩
theorem ok_pl {P : Program} (T : Tx K mg w) : ∀ n, FnOk P w K mg base CX0 (3 * n + 4) T.a_Evaluation_places T.d_Evaluation_places ["self", "formula", "names"] (sp_pl K T.mm T.a_Evaluation n)
  | 0 => by
    have no : ∀ vs H Q E, ¬ sp_pl K T.mm T.a_Evaluation 0 vs H Q E := fun vs H Q E ⟨p, z, nd, v, L, S, f, e, xs, _, _, _, _, _, _, _, _, hd, _⟩ => by have := f.depth_pos; omega
    exact ⟨fun vs H Q E h => absurd h (no vs H Q E), fun A outer s H args us vs Q E _ _ _ _ h => absurd h (no vs H Q E)⟩
  | n + 1 => by
    have G_Evaluation_places := ok_pl (P := P) T n
    have G_Evaluation_by_rounds := ok_byr T n G_Evaluation_places
    have G_Evaluation_everywhere := ok_evw (P := P) (base := base) T
    have G_Evaluation_some_at := ok_some_at (P := P) (base := base) T
    have G_Evaluation_all_at := ok_all_at (P := P) (base := base) T
    have G_Lattice_at_name := ok_at_name (P := P) (w := w) (base := base) T
    have G_Lattice_join_at := ok_join (P := P) (w := w) (base := base) T
    have G_Lattice_meet_at := ok_meet (P := P) (w := w) (base := base) T
    refine T.F_Evaluation_places.ok sc_Evaluation_places (fun vs H Q E h => ?_) (fun cdv A outer s H vs Q E hr h => ?_)
    · obtain ⟨p, z, nd, v, L, S, f, e, xs, rfl, _⟩ := h
      rfl
    obtain ⟨p, z, nd, v, L, S, f, e, xs, rfl, hE, ok, hin, R, n64, nnd, hf, hd, hvs, hbd, he, hn, d8, q⟩ := h
    have hu := hu_of hr
    refine ⟨_, pss_cons (ps_set (i := 3) sc_Evaluation_places.nd rfl (Or.inl rfl) (pe_ix ix_tup (pv 1) pe_int (fun _ _ => rfl)))
    (pss_cons (ps_if (pt_cmpR op_in_seq (pv 3) (pe_tup (pa_cons pe_str (pa_cons pe_str pa_nil))) (by rfl)) (pss_one (ps_ret (pe_meth (pv 0) T.c_Evaluation T.m_Evaluation_everywhere G_Evaluation_everywhere (hr.mono (by omega)) T.b_Evaluation_everywhere .nil pass0 (pa_cons (pe_ifExp (pt_cmpR op_eq (pv 3) pe_str (nomark _)) (pe_fld (pe_fld (pv 0) rfl) rfl) (pe_fld (pe_fld (pv 0) rfl) rfl)) pa_nil)))) pss_nil)
    (pss_cons (ps_if (pt_cmpR op_eq (pv 3) pe_str (nomark _)) (pss_one (ps_ret (pe_meth (pv 0) T.c_Evaluation T.m_Evaluation_everywhere G_Evaluation_everywhere (hr.mono (by omega)) T.b_Evaluation_everywhere .nil pass0 (pa_cons (pe_methG (pe_fld (pv 0) rfl) G_Lattice_at_name (hr.mono (by omega)) T.b_Lattice_at_name .nil pass0 (pa_cons (pe_ix ix_tup (pv 1) pe_int (fun _ _ => rfl)) pa_nil)) pa_nil)))) pss_nil)
    (pss_cons (ps_if (pt_cmpR op_eq (pv 3) pe_str (nomark _)) (pss_cons (ps_set (i := 4) sc_Evaluation_places.nd rfl (Or.inr rfl) (pe_fld (pe_fld (pv 0) rfl) rfl))
    (pss_one (ps_ret (pe_dc (own := [("state", 5)]) (g := gName 5) (tt := tYes) rfl sc_Evaluation_places.nd (pi_list (pe_fld (pv 0) rfl)) (blkOk_by (N := N_Evaluation_places) (sc := defScope St_Evaluation_places) (by decide +kernel)) (fun _ _ _ _ _ => (pg_name (i := 5) sc_Evaluation_places.nd rfl (Or.inl rfl))) (fun _ _ _ _ _ => pts_nil) (fun _ _ _ _ _ => (pv 5)) (fun _ _ _ _ _ => (pe_dget2 hu (kx_pe_fld K (pe_fld (pv 0) rfl)) (pe_tup (pa_cons (pe_ix (kx_ix_tup K) (pv 1) pe_int (fun _ _ => rfl)) (pa_cons (pv 5) pa_nil))) (pv 4) ⟨by rfl, by rfl, by rfl, by rfl⟩)))))) pss_nil)
    (pss_cons (ps_if (pt_cmpR op_eq (pv 3) pe_str (nomark _)) (pss_one (ps_ret (pe_dget hu (pv 2) (pe_ix ix_tup (pv 1) pe_int (fun _ _ => rfl)) (fun _ _ => rfl)))) pss_nil)
    (pss_cons (ps_if (pt_cmpR op_in_seq (pv 3) (pe_tup (pa_cons pe_str (pa_cons pe_str pa_nil))) (by rfl)) (pss_one (ps_ret (pe_meth (pv 0) T.c_Evaluation T.m_Evaluation_by_rounds G_Evaluation_by_rounds (hr.mono (by omega)) T.b_Evaluation_by_rounds .nil pass0 (pa_cons (pv 1) (pa_cons (pv 2) pa_nil))))) pss_nil)
    (pss_cons (ps_set (i := 6) sc_Evaluation_places.nd rfl (Or.inr rfl) (pe_meth (pv 0) T.c_Evaluation T.m_Evaluation_places G_Evaluation_places (hr.mono (by omega)) T.b_Evaluation_places .nil pass0 (pa_cons (pe_ix ix_tup (pv 1) pe_int (fun _ _ => rfl)) (pa_cons (pv 2) pa_nil))))
    (pss_cons (ps_if (pt_cmpR op_eq (pv 3) pe_str (nomark _)) (pss_one (ps_ret (pe_dc (own := [("state", 5)]) (g := gName 5) (tt := tYes) rfl sc_Evaluation_places.nd (pi_list (pe_fld (pv 0) rfl)) (blkOk_by (N := N_Evaluation_places) (sc := defScope St_Evaluation_places) (by decide +kernel)) (fun _ _ _ _ _ => (pg_name (i := 5) sc_Evaluation_places.nd rfl (Or.inl rfl))) (fun _ _ _ _ _ => pts_nil) (fun _ _ _ _ _ => (pv 5)) (fun _ _ _ _ _ => (pe_meth (pv 0) T.c_Evaluation T.m_Evaluation_some_at G_Evaluation_some_at (hr.mono (by omega)) T.b_Evaluation_some_at .nil pass0 (pa_cons (pv 5) (pa_cons (pv 6) pa_nil))))))) pss_nil)
    (pss_cons (ps_if (pt_cmpR op_eq (pv 3) pe_str (nomark _)) (pss_one (ps_ret (pe_dc (own := [("state", 5)]) (g := gName 5) (tt := tYes) rfl sc_Evaluation_places.nd (pi_list (pe_fld (pv 0) rfl)) (blkOk_by (N := N_Evaluation_places) (sc := defScope St_Evaluation_places) (by decide +kernel)) (fun _ _ _ _ _ => (pg_name (i := 5) sc_Evaluation_places.nd rfl (Or.inl rfl))) (fun _ _ _ _ _ => pts_nil) (fun _ _ _ _ _ => (pv 5)) (fun _ _ _ _ _ => (pe_meth (pv 0) T.c_Evaluation T.m_Evaluation_all_at G_Evaluation_all_at (hr.mono (by omega)) T.b_Evaluation_all_at .nil pass0 (pa_cons (pv 5) (pa_cons (pv 6) pa_nil))))))) pss_nil)
    (pss_cons (ps_set (i := 7) sc_Evaluation_places.nd rfl (Or.inr rfl) (pe_meth (pv 0) T.c_Evaluation T.m_Evaluation_places G_Evaluation_places (hr.mono (by omega)) T.b_Evaluation_places .nil pass0 (pa_cons (pe_ix ix_tup (pv 1) pe_int (fun _ _ => rfl)) (pa_cons (pv 2) pa_nil))))
    (pss_cons (ps_if (pt_cmpR op_eq (pv 3) pe_str (nomark _)) (pss_one (ps_ret (pe_dc (own := [("state", 5)]) (g := gName 5) (tt := tYes) rfl sc_Evaluation_places.nd (pi_list (pe_fld (pv 0) rfl)) (blkOk_by (N := N_Evaluation_places) (sc := defScope St_Evaluation_places) (by decide +kernel)) (fun _ _ _ _ _ => (pg_name (i := 5) sc_Evaluation_places.nd rfl (Or.inl rfl))) (fun _ _ _ _ _ => pts_nil) (fun _ _ _ _ _ => (pv 5)) (fun _ _ _ _ _ => (kx_methG K (pe_methG (kx_pe_fld K (pe_fld (pv 0) rfl)) G_Lattice_meet_at (hr.mono (by omega)) T.b_Lattice_meet_at .nil pass0 (pa_cons (pe_dget hu (pv 6) (pv 5) (fun _ _ => rfl)) (pa_cons (pe_dget hu (pv 7) (pv 5) (fun _ _ => rfl)) pa_nil)))))))) pss_nil)
    (pss_one (ps_ret (pe_dc (own := [("state", 5)]) (g := gName 5) (tt := tYes) rfl sc_Evaluation_places.nd (pi_list (pe_fld (pv 0) rfl)) (blkOk_by (N := N_Evaluation_places) (sc := defScope St_Evaluation_places) (by decide +kernel)) (fun _ _ _ _ _ => (pg_name (i := 5) sc_Evaluation_places.nd rfl (Or.inl rfl))) (fun _ _ _ _ _ => pts_nil) (fun _ _ _ _ _ => (pv 5)) (fun _ _ _ _ _ => (kx_methG K (pe_methG (kx_pe_fld K (pe_fld (pv 0) rfl)) G_Lattice_join_at (hr.mono (by omega)) T.b_Lattice_join_at .nil pass0 (pa_cons (pe_dget hu (pv 6) (pv 5) (fun _ _ => rfl)) (pa_cons (pe_dget hu (pv 7) (pv 5) (fun _ _ => rfl)) pa_nil)))))))))))))))))), ?_⟩
    obtain ⟨dx, sn, mv, mo, ma, mvs, a1, a2, a3, a4, a5, a6⟩ := id hE
    obtain ⟨Cz, dz, fz, tn, td, tu, A0⟩ := id a2
    have fo := fr_ok R hin
    have dok := Lt.den_ok R fo f hvs he
    obtain ⟨pf, ys, rfl, hp, rs⟩ := hf.out
    refine ⟨_, rfl, pf, _, _, _, rfl, rfl, hp, atI_nat (j := 0) rfl, ?_⟩
    dsimp only [gName]
    show tSeq _ _ _ [some (.ref p), some (.ref pf), some (.ref nd), some (.str f.head), none, none, none, none] H
    have el : S.st.take (S.st.map V.str).length = S.st := by rw [List.length_map, List.take_length]
    have lenk : ∀ (i : Nat) (v : Str → Nat), (entV (S.st.take i) v).length ≤ 1000000 := fun i v => by
      unfold entV
      have := ok.zs
      rw [List.length_map, List.length_take]
      omega
    cases f with
    | lit b =>
      cases b with
      | true =>
        refine ⟨_, rfl, (by show 2 ≤ sizeLine; decide), newQ (.tup [.str (("true" : Str)), .str (("false" : Str))]) fun t1 ht1 s1 e1 => ?_⟩
        generalize upd H t1 (.tup [.str (("true" : Str)), .str (("false" : Str))]) = H1 at s1 e1 ⊢
        refine ⟨t1, _, rfl, .inr (SqT.of (K := K) e1), rfl, rfl, _, rfl, ?_⟩
        refine ti_yes (by dsimp only [Fm.head]; decide +kernel) ?_
        have A1 := A0.same s1
        refine ⟨_, rfl, p, dx, _, rfl, s1 _ _ a1, rfl, _, rfl, rfl, _, rfl, ?_⟩
        refine te_yes (by dsimp only [Fm.head]; decide +kernel) ?_
        exact ⟨_, rfl, p, _, dx, _, _, rfl, s1 _ _ a1, T.c_Evaluation, T.n_Evaluation_lattice, rfl, z, Cz, dz, fz, .int (L.high : Nat), rfl, A1.at_, A1.c.cl, A1.c.na _ (by decide), (by rw [A1.top, R.isHigh.1]; rfl), p, z, L, S, L.high, rfl, hE.same s1, ok, fun d H' s' h' => q d H' (s1.trans s') h'⟩
      | false =>
        refine ⟨_, rfl, (by show 2 ≤ sizeLine; decide), newQ (.tup [.str (("true" : Str)), .str (("false" : Str))]) fun t1 ht1 s1 e1 => ?_⟩
        generalize upd H t1 (.tup [.str (("true" : Str)), .str (("false" : Str))]) = H1 at s1 e1 ⊢
        refine ⟨t1, _, rfl, .inr (SqT.of (K := K) e1), rfl, rfl, _, rfl, ?_⟩
        refine ti_yes (by dsimp only [Fm.head]; decide +kernel) ?_
        have A1 := A0.same s1
        refine ⟨_, rfl, p, dx, _, rfl, s1 _ _ a1, rfl, _, rfl, rfl, _, rfl, ?_⟩
        refine te_no (by dsimp only [Fm.head]; decide +kernel) ?_
        exact ⟨_, rfl, p, _, dx, _, _, rfl, s1 _ _ a1, T.c_Evaluation, T.n_Evaluation_lattice, rfl, z, Cz, dz, fz, .int (L.low : Nat), rfl, A1.at_, A1.c.cl, A1.c.na _ (by decide), (by rw [A1.bot, R.isLow.1]; rfl), p, z, L, S, L.low, rfl, hE.same s1, ok, fun d H' s' h' => q d H' (s1.trans s') h'⟩
    | val x =>
      cases rs
      refine ⟨_, rfl, (by show 2 ≤ sizeLine; decide), newQ (.tup [.str (("true" : Str)), .str (("false" : Str))]) fun t1 ht1 s1 e1 => ?_⟩
      generalize upd H t1 (.tup [.str (("true" : Str)), .str (("false" : Str))]) = H1 at s1 e1 ⊢
      refine ⟨t1, _, rfl, .inr (SqT.of (K := K) e1), rfl, rfl, _, rfl, ?_⟩
      refine ti_no (by dsimp only [Fm.head]; decide +kernel) ?_
      refine nx_run ?_
      dsimp only
      refine ⟨_, rfl, rfl, _, rfl, ?_⟩
      refine te_yes (by dsimp only [Fm.head]; decide +kernel) ?_
      have A1 := A0.same s1
      exact ⟨_, rfl, p, dx, _, rfl, s1 _ _ a1, rfl, _, rfl, p, _, dx, _, _, rfl, s1 _ _ a1, T.c_Evaluation, T.n_Evaluation_lattice, rfl, z, Cz, dz, fz, rfl, A1.at_, A1.c.cl, A1.c.me _ T.in_at_name, A1.no _ T.in_at_name, _, rfl, pf, _, _, _, rfl, rfl, s1.keeps.sqT hp, atI_nat (j := 1) rfl, z, L, L.idx x, x, rfl, a2.same s1, nnd, idx_at hvs, fun H3 s3 => ⟨p, z, L, S, L.idx x, rfl, (hE.same s1).same s3, ok, fun d H' s' h' => q d H' ((s1.trans s3).trans s') h'⟩⟩
    | mark m =>
      cases rs
      refine ⟨_, rfl, (by show 2 ≤ sizeLine; decide), newQ (.tup [.str (("true" : Str)), .str (("false" : Str))]) fun t1 ht1 s1 e1 => ?_⟩
      generalize upd H t1 (.tup [.str (("true" : Str)), .str (("false" : Str))]) = H1 at s1 e1 ⊢
      refine ⟨t1, _, rfl, .inr (SqT.of (K := K) e1), rfl, rfl, _, rfl, ?_⟩
      refine ti_no (by dsimp only [Fm.head]; decide +kernel) ?_
      refine nx_run ?_
      dsimp only
      refine ⟨_, rfl, rfl, _, rfl, ?_⟩
      refine te_no (by dsimp only [Fm.head]; decide +kernel) ?_
      refine nx_run ?_
      dsimp only
      refine ⟨_, rfl, rfl, _, rfl, ?_⟩
      refine te_yes (by dsimp only [Fm.head]; decide +kernel) ?_
      have A1 := A0.same s1
      refine ⟨_, rfl, p, _, dx, _, _, rfl, s1 _ _ a1, T.c_Evaluation, T.n_Evaluation_lattice, rfl, z, Cz, dz, fz, .int (L.low : Nat), rfl, A1.at_, A1.c.cl, A1.c.na _ (by decide), (by rw [A1.bot, R.isLow.1]; rfl), ?_⟩
      dsimp only [gName]
      refine ⟨_, rfl, p, _, dx, _, _, rfl, s1 _ _ a1, T.c_Evaluation, T.n_Evaluation_state_names, rfl, sn, rfl, ⟨_, SqL.of (K := K) (s1 _ _ a3)⟩, fun D hD => ?_⟩
      refine dc_fold (walk_list (K := K) (a := sn) (xs := S.st.map V.str)) hD (fun i H' kvs => i ≤ S.st.length ∧ kvs = entV (S.st.take i) ((S.fr L).ma m)) (fun _ => ⟨Nat.zero_le _, rfl⟩) (fun i _ _ xs _ h => h) (fun i _ ys h => by rw [h.2]; exact lenk _ _) (fun H' s' => SqL.of (K := K) (s' _ _ (s1 _ _ a3))) ?_ (fun H' ys s' h' h => ?_)
      · rintro i x' H5 H6 ys' Nx Ex hi s5 ⟨_, rfl⟩ ⟨e6, hx⟩ k1 k2
        obtain rfl : H5 = H6 := e6.symm
        have hi : i < S.st.length := by simpa using hi
        have hx : (S.st.map V.str)[i]? = some x' := hx
        rw [List.getElem?_map, List.getElem?_eq_getElem hi] at hx
        cases hx
        have hm := List.getElem_mem hi
        have s05 := s1.trans s5
        have ne := fun u : Str → Nat => new_ent (H1 := H5) (D := D) (v := u) ok.nd hi
        generalize S.st[i] = st at hm ne
        have A5 := A0.same s05
        refine ⟨rfl, ?_⟩
        refine lcY ?_
        refine ⟨_, rfl, _, rfl, p, _, dx, _, _, rfl, s05 _ _ a1, T.c_Evaluation, T.n_Evaluation_mark_values, rfl, mv, rfl, .inr ⟨_, .inl (s05 _ _ a4)⟩, _, rfl, pf, _, _, _, rfl, rfl, s05.keeps.sqT hp, atI_nat (j := 1) rfl, _, rfl, (by show 2 ≤ sizeLine; decide), newQ (.tup [.str m, .str st]) fun t ht s6 e6 => ?_⟩
        generalize upd H5 t (.tup [.str m, .str st]) = H6 at s6 e6 ⊢
        refine ⟨_, rfl, _, DGet.t (k := [Sum.inr m, Sum.inr st]) (s6 _ _ (s05 _ _ a4)) e6, ?_⟩
        have ev : (L2.valV S.mkK [Sum.inr m, Sum.inr st]).getD (.int (L.low : Nat)) = V.int ((S.fr L).ma m st : Nat) := by
          rw [mkK_get]
          show _ = V.int (((S.ms.find? fun r => r.1 == m && r.2.1 == st).map fun r => r.2.2).getD L.low : Nat)
          cases S.ms.find? fun r => r.1 == m && r.2.1 == st <;> rfl
        rw [ev]
        exact k1 (Sum.inr st) _ _ s6 ⟨hi, ne ((S.fr L).ma m)⟩
      · rw [h.2, el] at h'
        exact q D H' (s1.trans s') h'
    | name x =>
      cases rs
      refine ⟨_, rfl, (by show 2 ≤ sizeLine; decide), newQ (.tup [.str (("true" : Str)), .str (("false" : Str))]) fun t1 ht1 s1 e1 => ?_⟩
      generalize upd H t1 (.tup [.str (("true" : Str)), .str (("false" : Str))]) = H1 at s1 e1 ⊢
      refine ⟨t1, _, rfl, .inr (SqT.of (K := K) e1), rfl, rfl, _, rfl, ?_⟩
      refine ti_no (by dsimp only [Fm.head]; decide +kernel) ?_
      refine nx_run ?_
      dsimp only
      refine ⟨_, rfl, rfl, _, rfl, ?_⟩
      refine te_no (by dsimp only [Fm.head]; decide +kernel) ?_
      refine nx_run ?_
      dsimp only
      refine ⟨_, rfl, rfl, _, rfl, ?_⟩
      refine te_no (by dsimp only [Fm.head]; decide +kernel) ?_
      refine nx_run ?_
      dsimp only
      refine ⟨_, rfl, rfl, _, rfl, ?_⟩
      refine te_yes (by dsimp only [Fm.head]; decide +kernel) ?_
      obtain ⟨kvs, k1, k2, k3, k4⟩ := hn.same s1
      obtain ⟨d, b1, b2⟩ := k4 x hbd
      exact ⟨_, rfl, _, rfl, pf, _, _, _, rfl, rfl, s1.keeps.sqT hp, atI_nat (j := 1) rfl, nd, _, rfl, (by have := DGet.k (k := Sum.inr x) k1; rw [b1] at this; exact this), q d H1 s1 b2⟩
    | un b a =>
      obtain ⟨x, rfl, h1⟩ := rs
      have aok := Lt.den_ok R fo a hvs he
      cases b with
      | true =>
        refine ⟨_, rfl, (by show 2 ≤ sizeLine; decide), newQ (.tup [.str (("true" : Str)), .str (("false" : Str))]) fun t1 ht1 s1 e1 => ?_⟩
        generalize upd H t1 (.tup [.str (("true" : Str)), .str (("false" : Str))]) = H1 at s1 e1 ⊢
        refine ⟨t1, _, rfl, .inr (SqT.of (K := K) e1), rfl, rfl, _, rfl, ?_⟩
        refine ti_no (by dsimp only [Fm.head]; decide +kernel) ?_
        refine nx_run ?_
        dsimp only
        refine ⟨_, rfl, rfl, _, rfl, ?_⟩
        refine te_no (by dsimp only [Fm.head]; decide +kernel) ?_
        refine nx_run ?_
        dsimp only
        refine ⟨_, rfl, rfl, _, rfl, ?_⟩
        refine te_no (by dsimp only [Fm.head]; decide +kernel) ?_
        refine nx_run ?_
        dsimp only
        refine ⟨_, rfl, rfl, _, rfl, ?_⟩
        refine te_no (by dsimp only [Fm.head]; decide +kernel) ?_
        refine nx_run ?_
        dsimp only
        refine ⟨_, rfl, (by show 2 ≤ sizeLine; decide), newQ (.tup [.str (("least" : Str)), .str (("most" : Str))]) fun t2 ht2 s2 e2 => ?_⟩
        generalize upd H1 t2 (.tup [.str (("least" : Str)), .str (("most" : Str))]) = H2 at s2 e2 ⊢
        refine ⟨t2, _, rfl, .inr (SqT.of (K := K) e2), rfl, rfl, _, rfl, ?_⟩
        refine ti_no (by dsimp only [Fm.head]; decide +kernel) ?_
        refine nx_run ?_
        dsimp only
        have s02 := s1.trans s2
        refine ⟨_, rfl, p, dx, _, rfl, s02 _ _ a1, rfl, _, rfl, pf, _, _, _, rfl, rfl, s02.keeps.sqT hp, atI_nat (j := 1) rfl, _, rfl, ?_⟩
        have hn2 : NmAt H2 nd S e xs (900 - a.depth) := by
          obtain ⟨kvs, k1, k2, k3, k4⟩ := hn.same s02
          exact ⟨kvs, k1, k2, by simp only [Fm.depth] at k3; omega, k4⟩
        simp only [Fm.depth] at hd d8
        refine ⟨p, z, nd, x, L, S, a, e, xs, rfl, hE.same s02, ok, hin, R, n64, nnd, h1.same s02, by omega, hvs, hbd, he, hn2, by omega, fun d1 H3 s3 h3 => ?_⟩
        have s03 := s02.trans s3
        dsimp only [gName]
        show tSeq _ _ _ [some (.ref p), some (.ref pf), some (.ref nd), some (.str _), none, none, some (.ref d1), none] H3
        refine ⟨_, rfl, rfl, _, rfl, ?_⟩
        refine te_yes (by dsimp only [Fm.head]; decide +kernel) ?_
        refine ⟨_, rfl, p, _, dx, _, _, rfl, s03 _ _ a1, T.c_Evaluation, T.n_Evaluation_state_names, rfl, sn, rfl, ⟨_, SqL.of (K := K) (s03 _ _ a3)⟩, fun D hD => ?_⟩
        refine dc_fold (walk_list (K := K) (a := sn) (xs := S.st.map V.str)) hD (fun i H' kvs => i ≤ S.st.length ∧ kvs = entV (S.st.take i) ((S.fr L).sm (L.den (S.fr L) a e))) (fun _ => ⟨Nat.zero_le _, rfl⟩) (fun i _ _ xs _ h => h) (fun i _ ys h => by rw [h.2]; exact lenk _ _) (fun H' s' => SqL.of (K := K) (s' _ _ (s03 _ _ a3))) ?_ (fun H' ys s' h' h => ?_)
        · rintro i x' H5 H6 ys' Nx Ex hi s5 ⟨_, rfl⟩ ⟨e6, hx⟩ k1 k2
          obtain rfl : H5 = H6 := e6.symm
          have hi : i < S.st.length := by simpa using hi
          have hx : (S.st.map V.str)[i]? = some x' := hx
          rw [List.getElem?_map, List.getElem?_eq_getElem hi] at hx
          cases hx
          have hm := List.getElem_mem hi
          have s05 := s03.trans s5
          have ne := fun u : Str → Nat => new_ent (H1 := H5) (D := D) (v := u) ok.nd hi
          generalize S.st[i] = st at hm ne
          have A5 := A0.same s05
          refine ⟨rfl, ?_⟩
          refine lcY ?_
          refine ⟨_, rfl, ?_⟩
          exact ⟨_, rfl, p, dx, _, rfl, s05 _ _ a1, rfl, _, rfl, _, rfl, p, z, d1, L, S, st, L.den (S.fr L) a e, rfl, hE.same s05, ok, hin, R, n64, hm, s5 _ _ h3, aok, fun H6 s6 => k1 (Sum.inr st) _ _ s6 ⟨hi, ne ((S.fr L).sm (L.den (S.fr L) a e))⟩⟩
        · rw [h.2, el] at h'
          exact q D H' (s03.trans s') h'
      | false =>
        refine ⟨_, rfl, (by show 2 ≤ sizeLine; decide), newQ (.tup [.str (("true" : Str)), .str (("false" : Str))]) fun t1 ht1 s1 e1 => ?_⟩
        generalize upd H t1 (.tup [.str (("true" : Str)), .str (("false" : Str))]) = H1 at s1 e1 ⊢
        refine ⟨t1, _, rfl, .inr (SqT.of (K := K) e1), rfl, rfl, _, rfl, ?_⟩
        refine ti_no (by dsimp only [Fm.head]; decide +kernel) ?_
        refine nx_run ?_
        dsimp only
        refine ⟨_, rfl, rfl, _, rfl, ?_⟩
        refine te_no (by dsimp only [Fm.head]; decide +kernel) ?_
        refine nx_run ?_
        dsimp only
        refine ⟨_, rfl, rfl, _, rfl, ?_⟩
        refine te_no (by dsimp only [Fm.head]; decide +kernel) ?_
        refine nx_run ?_
        dsimp only
        refine ⟨_, rfl, rfl, _, rfl, ?_⟩
        refine te_no (by dsimp only [Fm.head]; decide +kernel) ?_
        refine nx_run ?_
        dsimp only
        refine ⟨_, rfl, (by show 2 ≤ sizeLine; decide), newQ (.tup [.str (("least" : Str)), .str (("most" : Str))]) fun t2 ht2 s2 e2 => ?_⟩
        generalize upd H1 t2 (.tup [.str (("least" : Str)), .str (("most" : Str))]) = H2 at s2 e2 ⊢
        refine ⟨t2, _, rfl, .inr (SqT.of (K := K) e2), rfl, rfl, _, rfl, ?_⟩
        refine ti_no (by dsimp only [Fm.head]; decide +kernel) ?_
        refine nx_run ?_
        dsimp only
        have s02 := s1.trans s2
        refine ⟨_, rfl, p, dx, _, rfl, s02 _ _ a1, rfl, _, rfl, pf, _, _, _, rfl, rfl, s02.keeps.sqT hp, atI_nat (j := 1) rfl, _, rfl, ?_⟩
        have hn2 : NmAt H2 nd S e xs (900 - a.depth) := by
          obtain ⟨kvs, k1, k2, k3, k4⟩ := hn.same s02
          exact ⟨kvs, k1, k2, by simp only [Fm.depth] at k3; omega, k4⟩
        simp only [Fm.depth] at hd d8
        refine ⟨p, z, nd, x, L, S, a, e, xs, rfl, hE.same s02, ok, hin, R, n64, nnd, h1.same s02, by omega, hvs, hbd, he, hn2, by omega, fun d1 H3 s3 h3 => ?_⟩
        have s03 := s02.trans s3
        dsimp only [gName]
        show tSeq _ _ _ [some (.ref p), some (.ref pf), some (.ref nd), some (.str _), none, none, some (.ref d1), none] H3
        refine ⟨_, rfl, rfl, _, rfl, ?_⟩
        refine te_no (by dsimp only [Fm.head]; decide +kernel) ?_
        refine nx_run ?_
        dsimp only
        refine ⟨_, rfl, rfl, _, rfl, ?_⟩
        refine te_yes (by dsimp only [Fm.head]; decide +kernel) ?_
        refine ⟨_, rfl, p, _, dx, _, _, rfl, s03 _ _ a1, T.c_Evaluation, T.n_Evaluation_state_names, rfl, sn, rfl, ⟨_, SqL.of (K := K) (s03 _ _ a3)⟩, fun D hD => ?_⟩
        refine dc_fold (walk_list (K := K) (a := sn) (xs := S.st.map V.str)) hD (fun i H' kvs => i ≤ S.st.length ∧ kvs = entV (S.st.take i) ((S.fr L).al (L.den (S.fr L) a e))) (fun _ => ⟨Nat.zero_le _, rfl⟩) (fun i _ _ xs _ h => h) (fun i _ ys h => by rw [h.2]; exact lenk _ _) (fun H' s' => SqL.of (K := K) (s' _ _ (s03 _ _ a3))) ?_ (fun H' ys s' h' h => ?_)
        · rintro i x' H5 H6 ys' Nx Ex hi s5 ⟨_, rfl⟩ ⟨e6, hx⟩ k1 k2
          obtain rfl : H5 = H6 := e6.symm
          have hi : i < S.st.length := by simpa using hi
          have hx : (S.st.map V.str)[i]? = some x' := hx
          rw [List.getElem?_map, List.getElem?_eq_getElem hi] at hx
          cases hx
          have hm := List.getElem_mem hi
          have s05 := s03.trans s5
          have ne := fun u : Str → Nat => new_ent (H1 := H5) (D := D) (v := u) ok.nd hi
          generalize S.st[i] = st at hm ne
          have A5 := A0.same s05
          refine ⟨rfl, ?_⟩
          refine lcY ?_
          refine ⟨_, rfl, ?_⟩
          exact ⟨_, rfl, p, dx, _, rfl, s05 _ _ a1, rfl, _, rfl, _, rfl, p, z, d1, L, S, st, L.den (S.fr L) a e, rfl, hE.same s05, ok, hin, R, n64, hm, s5 _ _ h3, aok, fun H6 s6 => k1 (Sum.inr st) _ _ s6 ⟨hi, ne ((S.fr L).al (L.den (S.fr L) a e))⟩⟩
        · rw [h.2, el] at h'
          exact q D H' (s03.trans s') h'
    | fix b x a =>
      obtain ⟨y, rfl, h1⟩ := rs
      refine ⟨_, rfl, (by show 2 ≤ sizeLine; decide), newQ (.tup [.str (("true" : Str)), .str (("false" : Str))]) fun t1 ht1 s1 e1 => ?_⟩
      generalize upd H t1 (.tup [.str (("true" : Str)), .str (("false" : Str))]) = H1 at s1 e1 ⊢
      refine ⟨t1, _, rfl, .inr (SqT.of (K := K) e1), rfl, rfl, _, rfl, ?_⟩
      refine ti_no (by cases b <;> (dsimp only [Fm.head]; decide +kernel)) ?_
      refine nx_run ?_
      dsimp only
      refine ⟨_, rfl, rfl, _, rfl, ?_⟩
      refine te_no (by cases b <;> (dsimp only [Fm.head]; decide +kernel)) ?_
      refine nx_run ?_
      dsimp only
      refine ⟨_, rfl, rfl, _, rfl, ?_⟩
      refine te_no (by cases b <;> (dsimp only [Fm.head]; decide +kernel)) ?_
      refine nx_run ?_
      dsimp only
      refine ⟨_, rfl, rfl, _, rfl, ?_⟩
      refine te_no (by cases b <;> (dsimp only [Fm.head]; decide +kernel)) ?_
      refine nx_run ?_
      dsimp only
      refine ⟨_, rfl, (by show 2 ≤ sizeLine; decide), newQ (.tup [.str (("least" : Str)), .str (("most" : Str))]) fun t2 ht2 s2 e2 => ?_⟩
      generalize upd H1 t2 (.tup [.str (("least" : Str)), .str (("most" : Str))]) = H2 at s2 e2 ⊢
      refine ⟨t2, _, rfl, .inr (SqT.of (K := K) e2), rfl, rfl, _, rfl, ?_⟩
      refine ti_yes (by cases b <;> (dsimp only [Fm.head]; decide +kernel)) ?_
      have s02 := s1.trans s2
      simp only [Fm.depth] at hd d8
      exact ⟨_, rfl, p, dx, _, rfl, s02 _ _ a1, rfl, _, rfl, _, rfl, p, z, nd, _, L, S, b, x, a, e, xs, rfl, hE.same s02, ok, hin, R, n64, nnd, hf.same s02, by omega, hvs, hbd, he, hn.same s02, by omega, fun d H' s' h' => q d H' (s02.trans s') h'⟩
    | bin b l r =>
      obtain ⟨x, y, rfl, h1, h2⟩ := rs
      have lok := Lt.den_ok R fo l hvs.1 he
      have rok := Lt.den_ok R fo r hvs.2 he
      cases b with
      | true =>
        refine ⟨_, rfl, (by show 2 ≤ sizeLine; decide), newQ (.tup [.str (("true" : Str)), .str (("false" : Str))]) fun t1 ht1 s1 e1 => ?_⟩
        generalize upd H t1 (.tup [.str (("true" : Str)), .str (("false" : Str))]) = H1 at s1 e1 ⊢
        refine ⟨t1, _, rfl, .inr (SqT.of (K := K) e1), rfl, rfl, _, rfl, ?_⟩
        refine ti_no (by dsimp only [Fm.head]; decide +kernel) ?_
        refine nx_run ?_
        dsimp only
        refine ⟨_, rfl, rfl, _, rfl, ?_⟩
        refine te_no (by dsimp only [Fm.head]; decide +kernel) ?_
        refine nx_run ?_
        dsimp only
        refine ⟨_, rfl, rfl, _, rfl, ?_⟩
        refine te_no (by dsimp only [Fm.head]; decide +kernel) ?_
        refine nx_run ?_
        dsimp only
        refine ⟨_, rfl, rfl, _, rfl, ?_⟩
        refine te_no (by dsimp only [Fm.head]; decide +kernel) ?_
        refine nx_run ?_
        dsimp only
        refine ⟨_, rfl, (by show 2 ≤ sizeLine; decide), newQ (.tup [.str (("least" : Str)), .str (("most" : Str))]) fun t2 ht2 s2 e2 => ?_⟩
        generalize upd H1 t2 (.tup [.str (("least" : Str)), .str (("most" : Str))]) = H2 at s2 e2 ⊢
        refine ⟨t2, _, rfl, .inr (SqT.of (K := K) e2), rfl, rfl, _, rfl, ?_⟩
        refine ti_no (by dsimp only [Fm.head]; decide +kernel) ?_
        refine nx_run ?_
        dsimp only
        have s02 := s1.trans s2
        refine ⟨_, rfl, p, dx, _, rfl, s02 _ _ a1, rfl, _, rfl, pf, _, _, _, rfl, rfl, s02.keeps.sqT hp, atI_nat (j := 1) rfl, _, rfl, ?_⟩
        have hn2 : NmAt H2 nd S e xs (900 - l.depth) := by
          obtain ⟨kvs, k1, k2, k3, k4⟩ := hn.same s02
          exact ⟨kvs, k1, k2, by simp only [Fm.depth] at k3; omega, k4⟩
        simp only [Fm.depth] at hd d8
        refine ⟨p, z, nd, x, L, S, l, e, xs, rfl, hE.same s02, ok, hin, R, n64, nnd, h1.same s02, by omega, hvs.1, hbd.1, he, hn2, by omega, fun d1 H3 s3 h3 => ?_⟩
        have s03 := s02.trans s3
        dsimp only [gName]
        show tSeq _ _ _ [some (.ref p), some (.ref pf), some (.ref nd), some (.str _), none, none, some (.ref d1), none] H3
        refine ⟨_, rfl, rfl, _, rfl, ?_⟩
        refine te_no (by dsimp only [Fm.head]; decide +kernel) ?_
        refine nx_run ?_
        dsimp only
        refine ⟨_, rfl, rfl, _, rfl, ?_⟩
        refine te_no (by dsimp only [Fm.head]; decide +kernel) ?_
        refine nx_run ?_
        dsimp only
        refine ⟨_, rfl, p, dx, _, rfl, s03 _ _ a1, rfl, _, rfl, pf, _, _, _, rfl, rfl, s03.keeps.sqT hp, atI_nat (j := 2) rfl, _, rfl, ?_⟩
        have hn3 : NmAt H3 nd S e xs (900 - r.depth) := by
          obtain ⟨kvs, k1, k2, k3, k4⟩ := hn.same s03
          exact ⟨kvs, k1, k2, by simp only [Fm.depth] at k3; omega, k4⟩
        refine ⟨p, z, nd, y, L, S, r, e, xs, rfl, hE.same s03, ok, hin, R, n64, nnd, h2.same s03, by omega, hvs.2, hbd.2, he, hn3, by omega, fun d2 H4 s4 h4 => ?_⟩
        have s04 := s03.trans s4
        have h3 := s4 _ _ h3
        dsimp only [gName]
        show tSeq _ _ _ [some (.ref p), some (.ref pf), some (.ref nd), some (.str _), none, none, some (.ref d1), some (.ref d2)] H4
        refine ⟨_, rfl, rfl, _, rfl, ?_⟩
        refine te_yes (by dsimp only [Fm.head]; decide +kernel) ?_
        refine ⟨_, rfl, p, _, dx, _, _, rfl, s04 _ _ a1, T.c_Evaluation, T.n_Evaluation_state_names, rfl, sn, rfl, ⟨_, SqL.of (K := K) (s04 _ _ a3)⟩, fun D hD => ?_⟩
        refine dc_fold (walk_list (K := K) (a := sn) (xs := S.st.map V.str)) hD (fun i H' kvs => i ≤ S.st.length ∧ kvs = entV (S.st.take i) (fun s => L.mt (L.den (S.fr L) l e s) (L.den (S.fr L) r e s))) (fun _ => ⟨Nat.zero_le _, rfl⟩) (fun i _ _ xs _ h => h) (fun i _ ys h => by rw [h.2]; exact lenk _ _) (fun H' s' => SqL.of (K := K) (s' _ _ (s04 _ _ a3))) ?_ (fun H' ys s' h' h => ?_)
        · rintro i x' H5 H6 ys' Nx Ex hi s5 ⟨_, rfl⟩ ⟨e6, hx⟩ k1 k2
          obtain rfl : H5 = H6 := e6.symm
          have hi : i < S.st.length := by simpa using hi
          have hx : (S.st.map V.str)[i]? = some x' := hx
          rw [List.getElem?_map, List.getElem?_eq_getElem hi] at hx
          cases hx
          have hm := List.getElem_mem hi
          have s05 := s04.trans s5
          have ne := fun u : Str → Nat => new_ent (H1 := H5) (D := D) (v := u) ok.nd hi
          generalize S.st[i] = st at hm ne
          have A5 := A0.same s05
          refine ⟨rfl, ?_⟩
          refine lcY ?_
          have g1 : DGet H5 d1 (.str st) (some (.int (L.den (S.fr L) l e st : Nat))) := by
            have := DGet.k (k := Sum.inr st) (s5 _ _ h3)
            rw [entV_get hm] at this
            exact this
          have g2 : DGet H5 d2 (.str st) (some (.int (L.den (S.fr L) r e st : Nat))) := by
            have := DGet.k (k := Sum.inr st) (s5 _ _ h4)
            rw [entV_get hm] at this
            exact this
          refine ⟨_, rfl, _, rfl, p, _, dx, _, _, rfl, s05 _ _ a1, T.c_Evaluation, T.n_Evaluation_lattice, rfl, z, Cz, dz, fz, rfl, A5.at_, A5.c.cl, A5.c.me _ T.in_meet_at, A5.no _ T.in_meet_at, _, rfl, _, rfl, d1, _, rfl, g1, _, rfl, _, rfl, d2, _, rfl, g2, z, L, L.den (S.fr L) l e st, L.den (S.fr L) r e st, rfl, a2.same s05, by omega, lok st, rok st, fun H6 s6 => ?_⟩
          rw [(R.isM (lok st) (rok st)).1]
          exact k1 (Sum.inr st) _ _ s6 ⟨hi, ne fun s => L.mt (L.den (S.fr L) l e s) (L.den (S.fr L) r e s)⟩
        · rw [h.2, el] at h'
          exact q D H' (s04.trans s') h'
      | false =>
        refine ⟨_, rfl, (by show 2 ≤ sizeLine; decide), newQ (.tup [.str (("true" : Str)), .str (("false" : Str))]) fun t1 ht1 s1 e1 => ?_⟩
        generalize upd H t1 (.tup [.str (("true" : Str)), .str (("false" : Str))]) = H1 at s1 e1 ⊢
        refine ⟨t1, _, rfl, .inr (SqT.of (K := K) e1), rfl, rfl, _, rfl, ?_⟩
        refine ti_no (by dsimp only [Fm.head]; decide +kernel) ?_
        refine nx_run ?_
        dsimp only
        refine ⟨_, rfl, rfl, _, rfl, ?_⟩
        refine te_no (by dsimp only [Fm.head]; decide +kernel) ?_
        refine nx_run ?_
        dsimp only
        refine ⟨_, rfl, rfl, _, rfl, ?_⟩
        refine te_no (by dsimp only [Fm.head]; decide +kernel) ?_
        refine nx_run ?_
        dsimp only
        refine ⟨_, rfl, rfl, _, rfl, ?_⟩
        refine te_no (by dsimp only [Fm.head]; decide +kernel) ?_
        refine nx_run ?_
        dsimp only
        refine ⟨_, rfl, (by show 2 ≤ sizeLine; decide), newQ (.tup [.str (("least" : Str)), .str (("most" : Str))]) fun t2 ht2 s2 e2 => ?_⟩
        generalize upd H1 t2 (.tup [.str (("least" : Str)), .str (("most" : Str))]) = H2 at s2 e2 ⊢
        refine ⟨t2, _, rfl, .inr (SqT.of (K := K) e2), rfl, rfl, _, rfl, ?_⟩
        refine ti_no (by dsimp only [Fm.head]; decide +kernel) ?_
        refine nx_run ?_
        dsimp only
        have s02 := s1.trans s2
        refine ⟨_, rfl, p, dx, _, rfl, s02 _ _ a1, rfl, _, rfl, pf, _, _, _, rfl, rfl, s02.keeps.sqT hp, atI_nat (j := 1) rfl, _, rfl, ?_⟩
        have hn2 : NmAt H2 nd S e xs (900 - l.depth) := by
          obtain ⟨kvs, k1, k2, k3, k4⟩ := hn.same s02
          exact ⟨kvs, k1, k2, by simp only [Fm.depth] at k3; omega, k4⟩
        simp only [Fm.depth] at hd d8
        refine ⟨p, z, nd, x, L, S, l, e, xs, rfl, hE.same s02, ok, hin, R, n64, nnd, h1.same s02, by omega, hvs.1, hbd.1, he, hn2, by omega, fun d1 H3 s3 h3 => ?_⟩
        have s03 := s02.trans s3
        dsimp only [gName]
        show tSeq _ _ _ [some (.ref p), some (.ref pf), some (.ref nd), some (.str _), none, none, some (.ref d1), none] H3
        refine ⟨_, rfl, rfl, _, rfl, ?_⟩
        refine te_no (by dsimp only [Fm.head]; decide +kernel) ?_
        refine nx_run ?_
        dsimp only
        refine ⟨_, rfl, rfl, _, rfl, ?_⟩
        refine te_no (by dsimp only [Fm.head]; decide +kernel) ?_
        refine nx_run ?_
        dsimp only
        refine ⟨_, rfl, p, dx, _, rfl, s03 _ _ a1, rfl, _, rfl, pf, _, _, _, rfl, rfl, s03.keeps.sqT hp, atI_nat (j := 2) rfl, _, rfl, ?_⟩
        have hn3 : NmAt H3 nd S e xs (900 - r.depth) := by
          obtain ⟨kvs, k1, k2, k3, k4⟩ := hn.same s03
          exact ⟨kvs, k1, k2, by simp only [Fm.depth] at k3; omega, k4⟩
        refine ⟨p, z, nd, y, L, S, r, e, xs, rfl, hE.same s03, ok, hin, R, n64, nnd, h2.same s03, by omega, hvs.2, hbd.2, he, hn3, by omega, fun d2 H4 s4 h4 => ?_⟩
        have s04 := s03.trans s4
        have h3 := s4 _ _ h3
        dsimp only [gName]
        show tSeq _ _ _ [some (.ref p), some (.ref pf), some (.ref nd), some (.str _), none, none, some (.ref d1), some (.ref d2)] H4
        refine ⟨_, rfl, rfl, _, rfl, ?_⟩
        refine te_no (by dsimp only [Fm.head]; decide +kernel) ?_
        refine nx_run ?_
        dsimp only
        refine ⟨_, rfl, p, _, dx, _, _, rfl, s04 _ _ a1, T.c_Evaluation, T.n_Evaluation_state_names, rfl, sn, rfl, ⟨_, SqL.of (K := K) (s04 _ _ a3)⟩, fun D hD => ?_⟩
        refine dc_fold (walk_list (K := K) (a := sn) (xs := S.st.map V.str)) hD (fun i H' kvs => i ≤ S.st.length ∧ kvs = entV (S.st.take i) (fun s => L.jn (L.den (S.fr L) l e s) (L.den (S.fr L) r e s))) (fun _ => ⟨Nat.zero_le _, rfl⟩) (fun i _ _ xs _ h => h) (fun i _ ys h => by rw [h.2]; exact lenk _ _) (fun H' s' => SqL.of (K := K) (s' _ _ (s04 _ _ a3))) ?_ (fun H' ys s' h' h => ?_)
        · rintro i x' H5 H6 ys' Nx Ex hi s5 ⟨_, rfl⟩ ⟨e6, hx⟩ k1 k2
          obtain rfl : H5 = H6 := e6.symm
          have hi : i < S.st.length := by simpa using hi
          have hx : (S.st.map V.str)[i]? = some x' := hx
          rw [List.getElem?_map, List.getElem?_eq_getElem hi] at hx
          cases hx
          have hm := List.getElem_mem hi
          have s05 := s04.trans s5
          have ne := fun u : Str → Nat => new_ent (H1 := H5) (D := D) (v := u) ok.nd hi
          generalize S.st[i] = st at hm ne
          have A5 := A0.same s05
          refine ⟨rfl, ?_⟩
          refine lcY ?_
          have g1 : DGet H5 d1 (.str st) (some (.int (L.den (S.fr L) l e st : Nat))) := by
            have := DGet.k (k := Sum.inr st) (s5 _ _ h3)
            rw [entV_get hm] at this
            exact this
          have g2 : DGet H5 d2 (.str st) (some (.int (L.den (S.fr L) r e st : Nat))) := by
            have := DGet.k (k := Sum.inr st) (s5 _ _ h4)
            rw [entV_get hm] at this
            exact this
          refine ⟨_, rfl, _, rfl, p, _, dx, _, _, rfl, s05 _ _ a1, T.c_Evaluation, T.n_Evaluation_lattice, rfl, z, Cz, dz, fz, rfl, A5.at_, A5.c.cl, A5.c.me _ T.in_join_at, A5.no _ T.in_join_at, _, rfl, _, rfl, d1, _, rfl, g1, _, rfl, _, rfl, d2, _, rfl, g2, z, L, L.den (S.fr L) l e st, L.den (S.fr L) r e st, rfl, a2.same s05, by omega, lok st, rok st, fun H6 s6 => ?_⟩
          rw [(R.isJ (lok st) (rok st)).1]
          exact k1 (Sum.inr st) _ _ s6 ⟨hi, ne fun s => L.jn (L.den (S.fr L) l e s) (L.den (S.fr L) r e s)⟩
        · rw [h.2, el] at h'
          exact q D H' (s04.trans s') h'
end
/-! ### values -/
section
open PyProof.Rows
variable {w : World} {K : PySem.W.Frag} {mg : Str → Option Value} {base : Heap} {mm : List (Str × Addr)} {H H' : Hp} {L : Lt}
/-- the name of a place -/
def Lt.nm (L : Lt) (a : Nat) : Str := L.names.getD a Str.empty
theorem nm_at {a : Nat} (h : a < L.n) : L.names[a]? = some (L.nm a) := by
  unfold Lt.nm
  rw [List.getD_eq_getElem?_getD, List.getElem?_eq_getElem (show a < L.names.length from h)]
  rfl
/-- no names are free -/
def Lt.e0 (L : Lt) : Lt.En := fun _ _ => L.low
def valV' (L : Lt) (S : Sys) (f : Fm) : List (L2.Key × V) := S.st.map fun s => (Sum.inr s, V.str (L.nm (L.den (S.fr L) f L.e0 s)))
def sp_vals (K : PySem.W.Frag) (mm : List (Str × Addr)) (CS : Addr) : Sp := fun vs H Q _ => ∃ (y z : Addr) (v : V) (L : Lt) (S : Sys) (f : Fm), vs = [.ref y, v] ∧ IsSys K mm CS H y z L S ∧ S.Ok ∧ S.In L ∧ L.Reg ∧ L.n ≤ 64 ∧ L.names.Nodup ∧ Rf K H f v ∧ f.depth ≤ 40 ∧ f.Vs (· ∈ L.names) ∧ f.Bd [] ∧
  ∀ d H', Same H H' → H' d = some (.dK (valV' L S f)) → Q (.ref d) H'
theorem ok_vals {P : Program} (T : Tx K mg w) : FnOk P w K mg base CX0 126 T.a_values T.d_values ["system", "formula"] (sp_vals K T.mm T.a_System) := by
  have G_check_formula := ok_chk (P := P) (base := base) T 40
  have G_Evaluation_init := ok_evi (P := P) (base := base) T
  have G_Evaluation_places := ok_pl (P := P) (base := base) T 40
  have G_Lattice_name_at := ok_name_at (P := P) (w := w) (base := base) T
  refine T.F_values.ok sc_values (fun vs H Q E h => ?_) (fun cdv A outer s H vs Q E hr h => ?_)
  · obtain ⟨y, z, v, L, S, f, rfl, _⟩ := h
    rfl
  obtain ⟨y, z, v, L, S, f, rfl, hS, ok, hin, R, n64, nnd, hf, hd, hvs, hbd, q⟩ := h
  refine ⟨_, pss_cons (ps_expr (pe_call G_check_formula (hr.mono (by omega)) (by rfl) T.g_check_formula T.F_check_formula.kp T.b_check_formula .nil pass0 (pa_cons (pe_fld (pv 0) rfl) (pa_cons (pv 1) (pa_cons (pe_lst pa_nil) pa_nil)))))
    (pss_cons (ps_set (i := 2) sc_values.nd rfl (Or.inl rfl) (pe_meth (pe_make T.M_Evaluation G_Evaluation_init (hr.mono (by omega)) (by rfl) T.g_Evaluation T.b_Evaluation_init .nil pass0 (pa_cons (pv 0) pa_nil)) T.c_Evaluation T.m_Evaluation_places G_Evaluation_places (hr.mono (by omega)) T.b_Evaluation_places .nil pass0 (pa_cons (pv 1) (pa_cons pe_dnewK pa_nil))))
    (pss_one (ps_ret (pe_lock (pe_dc (own := [("state", 3), ("place", 4)]) (g := gTup K 2 (gCons (gName 3) (gCons (gName 4) gNil))) (tt := tYes) rfl sc_values.nd (pi_items (pv 2)) (blkOk_by (N := N_values) (sc := defScope St_values) (by decide +kernel)) (fun _ _ _ _ _ => (pg_tup rfl (pgs_cons (pg_name (i := 3) sc_values.nd rfl (Or.inl rfl)) (pgs_cons (pg_name (i := 4) sc_values.nd rfl (Or.inl rfl)) pgs_nil)))) (fun _ _ _ _ _ => pts_nil) (fun _ _ _ _ _ => (pv 3)) (fun _ _ _ _ _ => (kx_methG K (pe_methG (kx_pe_fld K (pe_fld (pv 0) rfl)) G_Lattice_name_at (hr.mono (by omega)) T.b_Lattice_name_at .nil pass0 (pa_cons (pv 4) pa_nil))))))))), ?_⟩
  obtain ⟨dy, sr, mr, ar, td, ld, da, ta, vs0, us0, y1, yL, y2⟩ := id hS
  refine ⟨_, rfl, y, _, dy, _, _, rfl, y1, T.c_System, T.n_System_lattice, rfl, _, rfl, (by show 0 ≤ sizeLine; decide), newQ (.lst []) fun l0 hl0 s1 e1 => ?_⟩
  generalize upd H l0 (.lst []) = H1 at s1 e1 ⊢
  refine ⟨z, l0, v, L, f, [], rfl, yL.same s1, nnd, hf.same s1, hd, hvs, SqL.of (K := K) e1, hbd, (by show 0 + f.depth ≤ 1000; omega), fun H2 s2 => ?_⟩
  have s02 := s1.trans s2
  refine ⟨_, rfl, fun o dx ho hdx ne => ?_⟩
  refine ⟨o, dx, y, z, L, S, rfl, upd_same, (hS.same s02).same (in_same2 ho hdx), ?_, ?_, nnd, ok, fun H3 b3 hE => ?_⟩
  · exact fun e => by have := s02 _ _ y1; rw [e, ho] at this; cases this
  · exact (yL.same s02).ne ho
  have s23 : Same H2 H3 := made_same2 ho hdx ne b3
  have s03 := s02.trans s23
  obtain ⟨dx', sn, mv, mo, ma, mvs, a1, a2⟩ := id hE
  refine ⟨rfl, o, dx', _, rfl, a1, rfl, _, rfl, newQ (.dK []) fun n0 hn0 s4 e4 => ?_⟩
  generalize upd H3 n0 (.dK []) = H4 at s4 e4 ⊢
  refine ⟨o, z, n0, v, L, S, f, L.e0, [], rfl, hE.same s4, ok, hin, R, n64, nnd, (hf.same s03).same s4, hd, hvs, hbd, fun _ _ => R.isLow.2.1, ⟨[], e4, List.nodup_nil, Nat.zero_le _, fun _ h => (nomatch h)⟩, by omega, fun d H5 s5 h5 => ?_⟩
  dsimp only [gName]
  have dok := Lt.den_ok R (fr_ok R hin) f hvs (e := L.e0) (fun _ _ => R.isLow.2.1)
  have s05 := (s03.trans s4).trans s5
  generalize hv : L.den (S.fr L) f L.e0 = vl at h5 dok
  have eqv : ∀ s, L.den (S.fr L) f L.e0 s = vl s := fun s => by rw [hv]
  refine ⟨d, _, h5, trivial, fun od => ?_⟩
  have b6 : But d H5 (upd H5 d (.frz od (.dK (entV S.st vl)))) := (But.refl d H5).upd _
  have e6 : upd H5 d (.frz od (.dK (entV S.st vl))) d = _ := upd_same
  generalize upd H5 d (.frz od (.dK (entV S.st vl))) = H6 at b6 e6 ⊢
  have y5 := s05 _ _ y1
  have yd : y ≠ d := ne_of y5 h5 (by intro z; cases z)
  have y6 := b6 _ _ yd y5
  have L6 := (yL.same s05).but b6 h5 trivial (fun e => by
    obtain ⟨C0, d0, f0, t0, t1, t2, A⟩ := yL.same s05
    have := A.at_
    rw [e, h5] at this; cases this)
  obtain ⟨Cz, dz, fz, tn, td', tu, A6⟩ := id L6
  refine ⟨_, rfl, d, od, _, rfl, e6, fun D hD => ?_⟩
  have zd := ok.zs
  refine dc_fold walk_items hD (fun i H' kvs => i ≤ S.st.length ∧ kvs = (S.st.take i).map fun s => ((Sum.inr s : L2.Key), V.str (L.nm (vl s)))) (fun _ => ⟨Nat.zero_le _, rfl⟩) (fun i _ _ xs _ h => h) ?_ (fun H' s' => s' _ _ e6) ?_ (fun H' ys s' h' h => ?_)
  · rintro i _ ys ⟨hi, rfl⟩
    rw [List.length_map, List.length_take]
    omega
  · rintro i x H7 H8 ys Nx Ex hi s7 ⟨_, rfl⟩ ⟨Tt, k, v, rfl, hT, rfl, hk, hvv⟩ k1 k2
    have hi : i < S.st.length := by
      have : (entV S.st vl).length = S.st.length := by unfold entV; rw [List.length_map]
      rw [← this]; exact hi
    have hxs : S.st[i]? = some S.st[i] := List.getElem?_eq_getElem hi
    have ge : (entV S.st vl)[i]? = some (Sum.inr S.st[i], V.int (vl S.st[i] : Nat)) := by
      unfold entV
      rw [List.getElem?_map, hxs]
      rfl
    have hk : (entV S.st vl)[i]?.map (fun kv => kV kv.1) = some k := hk
    have hvv : (entV S.st vl)[i]?.map Prod.snd = some v := hvv
    rw [ge] at hk hvv
    have hm := List.getElem_mem hi
    have nk : L2.valV ((S.st.take i).map fun s => ((Sum.inr s : L2.Key), V.str (L.nm (vl s)))) (Sum.inr S.st[i]) = none := by
      rw [valV_strs (fun s => s) (fun s => V.str (L.nm (vl s))), find_none fun a ha => beq_false_of_ne fun (e : a = S.st[i]) => nodup_take ok.nd hi (e ▸ ha)]
      rfl
    have et : S.st.take (i + 1) = S.st.take i ++ [S.st[i]] := by rw [List.take_add_one, hxs]; rfl
    rw [et] at k1
    generalize S.st[i] = st at hk hvv hm nk k1
    cases hk
    cases hvv
    have s8 : Same H7 (upd H7 Tt (.tup [kV (Sum.inr st), V.int (vl st : Nat)])) := Same.new hT _
    have e8 : upd H7 Tt (.tup [kV (Sum.inr st), V.int (vl st : Nat)]) Tt = _ := upd_same
    generalize upd H7 Tt (.tup [kV (Sum.inr st), V.int (vl st : Nat)]) = H8 at s8 e8 ⊢
    have s78 := s7.trans s8
    have A8 := A6.same s78
    refine ⟨Tt, _, rfl, SqT.of (K := K) e8, rfl, _, _, rfl, _, _, rfl, rfl, rfl, ?_⟩
    refine lcY ?_
    refine ⟨_, rfl, _, rfl, y, _, dy, _, _, rfl, s78 _ _ y6, T.c_System, T.n_System_lattice, rfl, z, Cz, dz, fz, rfl, A8.at_, A8.c.cl, A8.c.me _ T.in_name_at, A8.no _ T.in_name_at, _, rfl, z, L, vl st, L.nm (vl st), rfl, L6.same s78, nm_at (dok st), fun H9 s9 => ?_⟩
    refine k1 (Sum.inr st) _ _ (s8.trans s9) ⟨hi, ?_⟩
    rw [L2.putK_new _ nk, List.map_append]
    rfl
  · have el : S.st.take (entV S.st vl).length = S.st := by unfold entV; rw [List.length_map, List.take_length]
    rw [h.2, el] at h'
    refine ⟨s' _ _ e6, ?_⟩
    have Dd : D ≠ d := fun e => by rw [e, e6] at hD; cases hD
    refine q D _ (fun c o hc => ?_) ?_
    · by_cases cd : c = d
      · subst cd
        have := s05 _ _ hc
        rw [h5] at this
        rw [upd_same]
        exact this
      · rw [upd_ne cd]
        exact s' _ _ (b6 _ _ cd (s05 _ _ hc))
    · rw [upd_ne Dd, h']
      unfold valV'
      congr 2
      exact List.map_congr_left fun s _ => by rw [eqv s]
end
/-! ### rows in another order; _law_shuffled -/
inductive TwoH {α β : Type} (F : α → β → Prop) : List α → List β → Prop
  | nil : TwoH F [] []
  | cons {a : α} {b : β} {as : List α} {bs : List β} : F a b → TwoH F as bs → TwoH F (a :: as) (b :: bs)
theorem TwoH.perm {α β : Type} {F : α → β → Prop} {us vs : List α} (p : us.Perm vs) : ∀ {ms : List β}, TwoH F us ms → ∃ ms' : List β, ms'.Perm ms ∧ TwoH F vs ms' := by
  induction p with
  | nil => intro ms h; cases h; exact ⟨[], .nil, .nil⟩
  | cons a _ ih =>
    intro ms h
    cases h with
    | cons h t =>
      obtain ⟨ms', p', t'⟩ := ih t
      exact ⟨_, p'.cons _, .cons h t'⟩
  | swap a b l =>
    intro ms h
    cases h with
    | cons h t =>
      cases t with
      | cons h2 t2 => exact ⟨_, .swap _ _ _, .cons h2 (.cons h t2)⟩
  | trans _ _ ih1 ih2 =>
    intro ms h
    obtain ⟨m1, p1, t1⟩ := ih1 h
    obtain ⟨m2, p2, t2⟩ := ih2 t1
    exact ⟨m2, p2.trans p1, t2⟩
theorem seqIx {k n : Nat} (h : k < n) : seqIndex? (k : Int) n = some k := by
  have h1 : ¬ ((k : Int) < 0) := by omega
  have h2 : (decide (0 ≤ (k : Int)) && decide ((k : Int) < (n : Int))) = true := by
    rw [Bool.and_eq_true, decide_eq_true_eq, decide_eq_true_eq]
    omega
  show (if (decide (0 ≤ (if (k : Int) < 0 then (k : Int) + n else (k : Int))) && decide ((if (k : Int) < 0 then (k : Int) + n else (k : Int)) < (n : Int))) = true then some (if (k : Int) < 0 then (k : Int) + n else (k : Int)).toNat else none) = some k
  rw [if_neg h1, if_pos h2]
  rfl
theorem erase_perm {α : Type} : ∀ (ls : List α) (k : Nat) (h : k < ls.length), (ls[k] :: ls.eraseIdx k).Perm ls
  | [], _, h => absurd h (Nat.not_lt_zero _)
  | x :: ls, 0, _ => List.Perm.refl _
  | x :: ls, k + 1, h => (List.Perm.swap _ _ _).trans ((erase_perm ls k (Nat.lt_of_succ_lt_succ h)).cons x)
theorem twoH_at {β : Type} {F : V → β → Prop} : ∀ {vs : List V} {ms : List β}, TwoH F vs ms ↔ vs.length = ms.length ∧ ∀ (i : Nat) (m : β), ms[i]? = some m → ∃ v, vs[i]? = some v ∧ F v m
  | [], [] => ⟨fun _ => ⟨rfl, fun _ _ h => (nomatch h)⟩, fun _ => .nil⟩
  | [], m :: ms => ⟨fun h => (nomatch h), fun h => by have := h.1; simp at this⟩
  | v :: vs, [] => ⟨fun h => (nomatch h), fun h => by have := h.1; simp at this⟩
  | v :: vs, m :: ms => by
    constructor
    · intro h
      cases h with
      | cons h t =>
        obtain ⟨a, b⟩ := twoH_at.mp t
        refine ⟨by rw [List.length_cons, List.length_cons, a], fun i x hx => ?_⟩
        cases i with
        | zero => cases hx; exact ⟨v, rfl, h⟩
        | succ i => exact b i x hx
    · rintro ⟨a, b⟩
      obtain ⟨v', e, h⟩ := b 0 m rfl
      cases e
      exact .cons h (twoH_at.mpr ⟨by simpa using a, fun i x hx => b (i + 1) x hx⟩)
section
open PyProof.Rows
variable {w : World} {K : PySem.W.Frag} {mg : Str → Option Value} {base : Heap} {mm : List (Str × Addr)} {H H' : Hp} {L : Lt}
theorem mkAt_iff {vs : List V} {ms : List (Str × Str × Nat)} : MkAt K H L vs ms ↔ TwoH (fun v m => ∃ (t : Addr) (x : Str), v = .ref t ∧ SqT K H t [.str m.1, .str m.2.1, .str x] ∧ L.names[m.2.2]? = some x) vs ms := by
  rw [twoH_at]
  unfold MkAt
  refine and_congr_right fun _ => forall_congr' fun i => forall_congr' fun m => forall_congr' fun _ => ?_
  constructor
  · rintro ⟨t, x, a, b, c⟩
    exact ⟨_, a, t, x, rfl, b, c⟩
  · rintro ⟨v, a, t, x, rfl, b, c⟩
    exact ⟨t, x, a, b, c⟩
theorem arAt_iff {vs : List V} {ar : List (Str × Str × Nat × Nat)} : ArAt K H L vs ar ↔ TwoH (fun v a => ∃ (t : Addr) (x y : Str), v = .ref t ∧ SqT K H t [.str a.1, .str a.2.1, .str x, .str y] ∧ L.names[a.2.2.1]? = some x ∧ L.names[a.2.2.2]? = some y) vs ar := by
  rw [twoH_at]
  unfold ArAt
  refine and_congr_right fun _ => forall_congr' fun i => forall_congr' fun m => forall_congr' fun _ => ?_
  constructor
  · rintro ⟨t, x, y, a, b, c⟩
    exact ⟨_, a, t, x, y, rfl, b, c⟩
  · rintro ⟨v, a, t, x, y, rfl, b, c⟩
    exact ⟨t, x, y, a, b, c⟩
theorem MkAt.perm {us vs : List V} {ms : List (Str × Str × Nat)} (h : MkAt K H L vs ms) (p : us.Perm vs) : ∃ ms', ms'.Perm ms ∧ MkAt K H L us ms' := by
  obtain ⟨m, a, b⟩ := (mkAt_iff.mp h).perm p.symm
  exact ⟨m, a, mkAt_iff.mpr b⟩
theorem ArAt.perm {us vs : List V} {ms : List (Str × Str × Nat × Nat)} (h : ArAt K H L vs ms) (p : us.Perm vs) : ∃ ms', ms'.Perm ms ∧ ArAt K H L us ms' := by
  obtain ⟨m, a, b⟩ := (arAt_iff.mp h).perm p.symm
  exact ⟨m, a, arAt_iff.mpr b⟩
def sp_shuf (K : PySem.W.Frag) : Sp := fun vs H Q _ => ∃ (p ce a : Addr) (xs : List V), vs = [.ref p, .ref a] ∧ Src K ce H p ∧ (∃ o, H ce = some o) ∧ ce ≠ p ∧ a ≠ p ∧ SqL K H a xs ∧ xs.length ≤ 1000 ∧ ∀ (l : Addr) (us : List V) (H' : Hp), us.Perm xs → But p H H' → Src K ce H' p → H l = none → H' l = some (.lst us) → Q (.ref l) H'
end
/-! ### _law_system -/
section
open PyProof.Rows
def ordL : List (List Str) := [["s", "t1", "u", "v2x"], ["u", "s", "v2x", "t1"], ["v2x", "u", "t1", "s"], ["started", "p9", "a", "s"]]
def mkL : List Str := ["m", "x", "greenlights"]
theorem ordL_ok : ∀ i : Fin 4, (ordL.getD i.val []).Nodup ∧ (∀ x ∈ ordL.getD i.val [], nmB x = true) ∧ (ordL.getD i.val []).length = 4 := by decide +kernel
theorem mkL_ok : mkL.Nodup ∧ ∀ x ∈ mkL, nmB x = true := by decide +kernel
variable {w : World} {K : PySem.W.Frag} {mg : Str → Option Value} {base : Heap} {mm : List (Str × Addr)} {H H' : Hp} {L : Lt}
theorem MkAt.snoc {vs : List V} {ms : List (Str × Str × Nat)} {t : Addr} {x y v : Str} {a : Nat} (h : MkAt K H L vs ms) (ht : SqT K H t [.str x, .str y, .str v]) (ha : L.names[a]? = some v) : MkAt K H L (vs ++ [.ref t]) (ms ++ [(x, y, a)]) := by
  refine ⟨by rw [List.length_append, List.length_append, h.1]; rfl, fun i q hq => ?_⟩
  rcases Nat.lt_or_ge i ms.length with l | l
  · rw [List.getElem?_append_left l] at hq
    obtain ⟨t', x', a1, a2⟩ := h.2 i q hq
    exact ⟨t', x', by rw [List.getElem?_append_left (by rw [h.1]; exact l)]; exact a1, a2⟩
  · have il := (List.getElem?_eq_some_iff.mp hq).1
    rw [List.length_append] at il
    have : i = ms.length := by have : ([(x, y, a)] : List (Str × Str × Nat)).length = 1 := rfl; omega
    subst this
    rw [List.getElem?_append_right (Nat.le_refl _), Nat.sub_self] at hq
    cases hq
    exact ⟨t, v, by rw [← h.1, List.getElem?_append_right (Nat.le_refl _), Nat.sub_self]; rfl, ht, ha⟩
theorem ArAt.snoc {vs : List V} {ms : List (Str × Str × Nat × Nat)} {t : Addr} {x y v u : Str} {a b : Nat} (h : ArAt K H L vs ms) (ht : SqT K H t [.str x, .str y, .str v, .str u]) (ha : L.names[a]? = some v) (hb : L.names[b]? = some u) : ArAt K H L (vs ++ [.ref t]) (ms ++ [(x, y, a, b)]) := by
  refine ⟨by rw [List.length_append, List.length_append, h.1]; rfl, fun i q hq => ?_⟩
  rcases Nat.lt_or_ge i ms.length with l | l
  · rw [List.getElem?_append_left l] at hq
    obtain ⟨t', x', y', a1, a2⟩ := h.2 i q hq
    exact ⟨t', x', y', by rw [List.getElem?_append_left (by rw [h.1]; exact l)]; exact a1, a2⟩
  · have il := (List.getElem?_eq_some_iff.mp hq).1
    rw [List.length_append] at il
    have : i = ms.length := by have : ([(x, y, a, b)] : List (Str × Str × Nat × Nat)).length = 1 := rfl; omega
    subst this
    rw [List.getElem?_append_right (Nat.le_refl _), Nat.sub_self] at hq
    cases hq
    exact ⟨t, v, u, by rw [← h.1, List.getElem?_append_right (Nat.le_refl _), Nat.sub_self]; rfl, ht, ha, hb⟩
theorem nodup_snoc {α : Type} {l : List α} {x : α} (h : l.Nodup) (n : x ∉ l) : (l ++ [x]).Nodup := by
  rw [List.nodup_append]
  refine ⟨h, by simp, fun a ha b hb e => n ?_⟩
  have : b = x := by simpa using hb
  rw [← this, ← e]
  exact ha
theorem cut4 {ys : List Str} {n : Nat} (l : ys.length = 4) (h : n < 4) : cutV (ys.map V.str) none (some (1 + (n : Int))) = (ys.take (1 + n)).map V.str := by
  obtain ⟨y0, y1, y2, y3, rfl⟩ : ∃ a b c d, ys = [a, b, c, d] := by
    match ys, l with
    | [a, b, c, d], _ => exact ⟨a, b, c, d, rfl⟩
  match n, h with
  | 0, _ => rfl
  | 1, _ => rfl
  | 2, _ => rfl
  | 3, _ => rfl
  | n + 4, h => omega
def sp_lsys (K : PySem.W.Frag) (mm : List (Str × Addr)) : Sp := fun vs H Q _ => ∃ (p ce z : Addr) (L : Lt), vs = [.ref p, .ref z] ∧ Src K ce H p ∧ (∃ o, H ce = some o) ∧ ce ≠ p ∧ IsLat K mm H z L ∧ L.n ≤ 64 ∧ 1 ≤ L.n ∧
  ∀ (r sl ml al : Addr) (S : Sys) (xs us : List V) (H' : Hp), But p H H' → Src K ce H' p → IsLat K mm H' z L → H' r = some (.lst [.ref sl, .ref ml, .ref al]) → H' sl = some (.lst (S.st.map V.str)) → H' ml = some (.lst xs) → MkAt K H' L xs S.ms → H' al = some (.lst us) → ArAt K H' L us S.ar → S.Ok → S.In L → S.st.length ≤ 4 → 1 ≤ S.st.length → S.ar.length ≤ 16 → H r = none → H sl = none → H ml = none → H al = none → (∀ m ∈ S.ms, m.1 ∈ mkL) → (∃ i n : Nat, i < 4 ∧ S.st = (ordL.getD i []).take n) → Q (.ref r) H'
end
/-! ### _law_formula -/
section
open PyProof.Rows
variable {w : World} {K : PySem.W.Frag} {mg : Str → Option Value} {base : Heap} {mm : List (Str × Addr)} {H H' : Hp} {L : Lt}
theorem strAt {xs : List Str} {d : Int} (h0 : 0 ≤ d) (h1 : d < xs.length) : ∃ x, x ∈ xs ∧ atI (xs.map V.str) d = some (.str x) := by
  have hl : d.toNat < xs.length := by omega
  refine ⟨xs[d.toNat], List.getElem_mem hl, ?_⟩
  have e : d = (d.toNat : Int) := by omega
  have r : atI (xs.map V.str) (d.toNat : Int) = some (.str xs[d.toNat]) := atI_nat (by rw [List.getElem?_map, List.getElem?_eq_getElem hl]; rfl)
  rw [← e] at r
  exact r
/-- the marks and the names of drawn formulas -/
def mk4 : List Str := ["m", "x", "greenlights", "none"]
def xyL : List Str := ["x", "y"]
theorem xy_of {x : Str} (h : x ∈ (["x", "y", "x"] : List Str)) : x ∈ xyL := by
  simp only [xyL, List.mem_cons, List.not_mem_nil, or_false] at h ⊢
  rcases h with h | h | h
  · exact .inl h
  · exact .inr h
  · exact .inl h
theorem ns_up {f : Fm} {xs : List Str} {x : Str} (hx : x ∈ xyL) (h : f.Ns fun y => y ∈ xs ++ [x] ∨ y ∈ xyL) : f.Ns fun y => y ∈ xs ∨ y ∈ xyL :=
  Fm.Ns.mono (fun y hy => hy.elim (fun z => (List.mem_append.mp z).elim .inl fun z => .inr (by rw [List.mem_singleton.mp z]; exact hx)) .inr) h
def sp_lfor (K : PySem.W.Frag) (mm : List (Str × Addr)) (n : Nat) : Sp := fun vs H Q _ => ∃ (p ce z a : Addr) (d : Nat) (L : Lt) (xs : List Str), vs = [.ref p, .ref z, .ref a, .int d] ∧ Src K ce H p ∧ IsLat K mm H z L ∧ L.n ≤ 64 ∧ 1 ≤ L.n ∧ a ≠ p ∧ H a = some (.lst (xs.map V.str)) ∧ xs.length ≤ 100 ∧ d + 1 ≤ n ∧
  ∀ (f : Fm) (v : V) (H' : Hp), But p H H' → Src K ce H' p → Rf K H' f v → f.depth ≤ 2 * d + 1 → f.Vs (· ∈ L.names) → f.Bd xs → f.Ms (· ∈ mk4) → (f.Ns fun y => y ∈ xs ∨ y ∈ xyL) → Q v H'
theorem nm_mem {a : Nat} (h : a < L.n) : L.nm a ∈ L.names := List.mem_of_getElem? (nm_at h)
end
/-! ### frames that answer alike -/
section
open Lt
variable {L : Lt} {S S' : Sys}
theorem iter_congr {F G : Vl → Vl} {b : Vl} (h : ∀ k, F (iter F b k) = G (iter F b k)) : ∀ k, iter F b k = iter G b k
  | 0 => rfl
  | k + 1 => by
    show F (iter F b k) = G (iter G b k)
    rw [h k, iter_congr h k]
theorem den_frame (R : L.Reg) {F G : Fr} (ok : F.Ok L) (hs : F.st.length = G.st.length) (hm : F.ma = G.ma) (hd : ∀ v, Vok L v → F.sm v = G.sm v ∧ F.al v = G.al v) : ∀ (f : Fm) {e : En}, f.Vs (· ∈ L.names) → Eok L e → den L F f e = den L G f e
  | .lit _, _, _, _ | .val _, _, _, _ | .name _, _, _, _ => rfl
  | .mark m, _, _, _ => by show F.ma m = G.ma m; rw [hm]
  | .bin b f g, e, h, he => by
    have h1 := den_frame R ok hs hm hd f h.1 he
    have h2 := den_frame R ok hs hm hd g h.2 he
    funext s
    show (if b then L.mt (den L F f e s) (den L F g e s) else L.jn (den L F f e s) (den L F g e s)) = (if b then L.mt (den L G f e s) (den L G g e s) else L.jn (den L G f e s) (den L G g e s))
    rw [h1, h2]
  | .un b f, e, h, he => by
    have h1 := den_frame R ok hs hm hd f h he
    have h2 := hd _ (den_ok R ok f h he)
    show (if b then _ else _) = (if b then _ else _)
    rw [← h1, h2.1, h2.2]
  | .fix b x f, e, h, he => by
    show iter _ _ (F.st.length * L.n) = iter _ _ (G.st.length * L.n)
    rw [hs]
    have vo : ∀ k, Vok L (iter (fun v => den L F f (put e x v)) (fun _ => if b then L.low else L.high) k) := iter_ok (fun v hv => den_ok R ok f h (he.put hv x)) (fun _ => ends_ok R b)
    exact iter_congr (fun k => den_frame R ok hs hm hd f h (he.put (vo k) x)) _
theorem sm_neutral (R : L.Reg) {v : Vl} (hv : Vok L v) : ∀ (es : List (Str × Str × Nat × Nat)) {t : Nat}, t < L.n → (∀ a ∈ es, a.2.2.1 = L.low ∧ a.2.2.2 = L.high) → es.foldl (fun t a => L.jn t (L.mt a.2.2.1 (v a.2.1))) t = t ∧ es.foldl (fun t a => L.mt t (L.jn a.2.2.2 (v a.2.1))) t = t
  | [], _, _, _ => ⟨rfl, rfl⟩
  | a :: es, t, ht, h => by
    obtain ⟨h1, h2⟩ := h a (.head _)
    have vl := hv a.2.1
    have e1 : L.jn t (L.mt a.2.2.1 (v a.2.1)) = t := by rw [h1, R.mc R.isLow.2.1 vl, R.mlow vl, R.jlow ht]
    have e2 : L.mt t (L.jn a.2.2.2 (v a.2.1)) = t := by rw [h2, R.jc R.isHigh.2.1 vl, R.jhigh vl, R.mhigh ht]
    rw [List.foldl_cons, List.foldl_cons, e1, e2]
    exact sm_neutral R hv es ht fun b hb => h b (.tail _ hb)
theorem more_alike (R : L.Reg) (hin : S.In L) {es : List (Str × Str × Nat × Nat)} (h : ∀ a ∈ es, a.2.2.1 = L.low ∧ a.2.2.2 = L.high) {f : Fm} (hf : f.Vs (· ∈ L.names)) : den L (Sys.fr ⟨S.st, S.ms, S.ar ++ es⟩ L) f L.e0 = den L (S.fr L) f L.e0 := by
  refine (den_frame R (F := S.fr L) (G := Sys.fr ⟨S.st, S.ms, S.ar ++ es⟩ L) (fr_ok R hin) rfl rfl (fun v hv => ⟨funext fun s => ?_, funext fun s => ?_⟩) f hf fun _ _ => R.isLow.2.1).symm
  · show (S.ar.filter fun a => a.1 == s).foldl _ _ = ((S.ar ++ es).filter fun a => a.1 == s).foldl _ _
    rw [List.filter_append, List.foldl_append, (sm_neutral R hv _ (R.sm_lt hv _ R.isLow.2.1 fun a ha => hin.ar a (List.mem_filter.mp ha).1) fun a ha => h a (List.mem_filter.mp ha).1).1]
  · show (S.ar.filter fun a => a.1 == s).foldl _ _ = ((S.ar ++ es).filter fun a => a.1 == s).foldl _ _
    rw [List.filter_append, List.foldl_append, (sm_neutral R hv _ (R.al_lt hv _ R.isHigh.2.1 fun a ha => hin.ar a (List.mem_filter.mp ha).1) fun a ha => h a (List.mem_filter.mp ha).1).2]
theorem order_alike (R : L.Reg) (hin : S.In L) {st : List Str} (h : st.length = S.st.length) {f : Fm} (hf : f.Vs (· ∈ L.names)) : den L (Sys.fr ⟨st, S.ms, S.ar⟩ L) f L.e0 = den L (S.fr L) f L.e0 :=
  (den_frame R (F := S.fr L) (G := Sys.fr ⟨st, S.ms, S.ar⟩ L) (fr_ok R hin) h.symm rfl (fun _ _ => ⟨rfl, rfl⟩) f hf fun _ _ => R.isLow.2.1).symm
end
section
open L2
theorem strV_get {st : List Str} {g : Str → Str} {s : Str} (h : s ∈ st) : valV (st.map fun s => ((Sum.inr s : Key), V.str (g s))) (Sum.inr s) = some (V.str (g s)) := by
  rw [valV_strs (fun s => s) (fun s => V.str (g s))]
  have : st.find? (fun a => a == s) = some s := by
    cases e : st.find? (fun a => a == s) with
    | none => exact absurd (beq_self_eq_true s) (List.find?_eq_none.mp e s h)
    | some y => rw [show y = s from by have := List.find?_some e; simpa using this]
  rw [this]
  rfl
theorem dEq_str {st st' : List Str} {g : Str → Str} (hl : st.length = st'.length) (h : ∀ s ∈ st, s ∈ st') : dEq (st.map fun s => ((Sum.inr s : Key), V.str (g s))) (st'.map fun s => ((Sum.inr s : Key), V.str (g s))) = true := by
  unfold dEq
  rw [List.length_map, List.length_map, hl, beq_self_eq_true, Bool.true_and, List.all_eq_true]
  intro p hp
  obtain ⟨s, hs, rfl⟩ := List.mem_map.mp hp
  rw [decide_eq_true_eq, strV_get (h s hs)]
theorem dflat_str {st st' : List Str} {g g' : Str → Str} : DFlat (st.map fun s => ((Sum.inr s : Key), V.str (g s))) (st'.map fun s => ((Sum.inr s : Key), V.str (g' s))) := fun p hp w hw => by
  obtain ⟨s, hs, rfl⟩ := List.mem_map.mp hp
  by_cases c : s ∈ st'
  · rw [strV_get c] at hw
    exact .inr ⟨_, _, rfl, (Option.some.inj hw).symm⟩
  · rw [valV_strs (fun s => s) (fun s => V.str (g' s)), find_none fun a ha => beq_false_of_ne fun (e : a = s) => c (e ▸ ha)] at hw
    cases hw
end
/-! ### pairs and names as data -/
section
variable {K : PySem.W.Frag} {H H' : Hp}
theorem sign_small : ∀ c ∈ signS.cps.toList, c < 128 := by decide +kernel
theorem nmB_ok {x : Str} (h : nmB x = true) : PyData.strOk x = true := by
  have g := nmG h
  unfold PyData.strOk
  rw [Array.all_eq_true]
  intro i hi
  have := sign_small _ (g.all x.cps[i] (Array.getElem_mem_toList hi))
  exact decide_eq_true (by omega)
theorem dpAll_strG : ∀ xs : List Str, DpAll K H (xs.map V.str) (xs.map PyData.str)
  | [] => .nil
  | x :: xs => .cons (.str x) (dpAll_strG xs)
theorem dp_strG {a : Addr} {xs : List Str} (h : SqL K H a (xs.map V.str)) : Dp K H (.ref a) (.list (xs.map PyData.str)) := .lst h (dpAll_strG xs)
theorem eqvAll_strG : ∀ xs : List Str, PyData.eqvAll (xs.map PyData.str) (xs.map PyData.str) = true
  | [] => by simp [PyData.eqvAll]
  | x :: xs => by simp [PyData.eqvAll, PyData.eqv, eqvAll_strG xs]
theorem eqv_strG (xs : List Str) : PyData.eqv (.list (xs.map PyData.str)) (.list (xs.map PyData.str)) = true := by simp [PyData.eqv, eqvAll_strG xs]
theorem depth_strG : ∀ xs : List Str, PyData.depthAll (xs.map PyData.str) ≤ 1
  | [] => by simp [PyData.depthAll]
  | x :: xs => by have := depth_strG xs; simp [PyData.depthAll, PyData.depth]; omega
theorem lay_strG : ∀ xs : List Str, (∀ z ∈ xs, PyData.strOk z = true) → PyData.canLayAll0 (xs.map PyData.str) = true
  | [], _ => by simp [PyData.canLayAll0]
  | x :: xs, h => by simp [PyData.canLayAll0, PyData.canLay0, lay_strG xs (fun z hz => h z (.tail _ hz)), h x (.head _)]
theorem shp_strG {xs : List Str} (h : ∀ z ∈ xs, PyData.strOk z = true) : Shp 190 (.list (xs.map PyData.str)) :=
  ⟨by simp [PyData.canLay0, lay_strG xs h], by have := depth_strG xs; simp [PyData.depth]; omega⟩
/-- a pair of names -/
def prD (q : Str × Str) : PyData := .tuple [.str q.1, .str q.2]
theorem shp_prD {q : Str × Str} (h1 : PyData.strOk q.1 = true) (h2 : PyData.strOk q.2 = true) : Shp 190 (prD q) := by
  refine ⟨by simp [prD, PyData.canLay0, PyData.canLayAll0, h1, h2], by simp [prD, PyData.depth, PyData.depthAll]⟩
theorem lay_prD : ∀ qs : List (Str × Str), (∀ q ∈ qs, PyData.strOk q.1 = true ∧ PyData.strOk q.2 = true) → PyData.canLayAll0 (qs.map prD) = true
  | [], _ => by simp [PyData.canLayAll0]
  | q :: qs, h => by
    have h1 := (shp_prD (h q (.head _)).1 (h q (.head _)).2).1
    have h2 := lay_prD qs fun z hz => h z (.tail _ hz)
    rw [List.map_cons]
    simp only [PyData.canLayAll0, h1, h2, Bool.and_self]
theorem any_prD (q : Str × Str) : ∀ qs : List (Str × Str), ((qs.map prD).any fun z => PyData.eqv z (prD q)) = decide (q ∈ qs)
  | [] => by simp
  | r :: qs => by
    rw [List.map_cons, List.any_cons, any_prD q qs]
    have e : PyData.eqv (prD r) (prD q) = (r.1 == q.1 && r.2 == q.2) := by simp [prD, PyData.eqv, PyData.eqvAll]
    rw [e]
    obtain ⟨r1, r2⟩ := r
    obtain ⟨q1, q2⟩ := q
    by_cases h : (r1, r2) = (q1, q2)
    · cases h; simp
    · have h' : ¬ (q1, q2) = (r1, r2) := fun e => h e.symm
      have hb : (r1 == q1 && r2 == q2) = false := by
        rw [Bool.and_eq_false_iff, beq_eq_false_iff_ne, beq_eq_false_iff_ne]
        by_cases c : r1 = q1
        · exact .inr fun d => h (by rw [c, d])
        · exact .inl c
      have hm : ((q1, q2) ∈ (r1, r2) :: qs) ↔ (q1, q2) ∈ qs := by
        rw [List.mem_cons]
        exact ⟨fun g => g.resolve_left h', Or.inr⟩
      show ((r1 == q1 && r2 == q2) || _) = _
      rw [hb, Bool.false_or]
      exact (decide_eq_decide.mpr hm).symm
def PrV (K : PySem.W.Frag) (H : Hp) (v : V) (q : Str × Str) : Prop := ∃ t, v = .ref t ∧ SqT K H t [.str q.1, .str q.2]
theorem prV_keep {vs : List V} {qs : List (Str × Str)} (h : TwoH (PrV K H) vs qs) (k : Keeps H H') : TwoH (PrV K H') vs qs := by
  induction h with
  | nil => exact .nil
  | cons x _ ih =>
    obtain ⟨t, a, b⟩ := x
    exact .cons ⟨t, a, k.sqT b⟩ ih
theorem twoH_snoc {α β : Type} {F : α → β → Prop} {as : List α} {bs : List β} {a : α} {b : β} (h : TwoH F as bs) (x : F a b) : TwoH F (as ++ [a]) (bs ++ [b]) := by
  induction h with
  | nil => exact .cons x .nil
  | cons y _ ih => exact .cons y ih
theorem twoH_len {α β : Type} {F : α → β → Prop} {as : List α} {bs : List β} (h : TwoH F as bs) : as.length = bs.length := by
  induction h with
  | nil => rfl
  | cons _ _ ih => rw [List.length_cons, List.length_cons, ih]
theorem dpAll_pr {vs : List V} {qs : List (Str × Str)} (h : TwoH (PrV K H) vs qs) : DpAll K H vs (qs.map prD) := by
  induction h with
  | nil => exact .nil
  | @cons v q vs qs x _ ih =>
    obtain ⟨t, rfl, b⟩ := x
    exact .cons (.tup b (.cons (.str _) (.cons (.str _) .nil))) ih
end
/-! ### what a law holds while it draws -/
section
open PyProof.Rows
variable {w : World} {K : PySem.W.Frag} {mg : Str → Option Value} {base : Heap} {mm : List (Str × Addr)} {H H' : Hp} {L : Lt}
theorem mk_sys {C o dx z A B D : Addr} {S : Sys} {xs us : List V} {Q : VK} {E : XK} (hz : IsLat K mm H z L) (nd : L.names.Nodup) (hA : H A = some (.lst (S.st.map V.str))) (hB : H B = some (.lst xs)) (hm : MkAt K H L xs S.ms) (hD : H D = some (.lst us)) (ha : ArAt K H L us S.ar) (ok : S.Ok) (ho : H o = none) (hdx : H dx = none) (ne : dx ≠ o) (q : ∀ H2, Same H H2 → IsSys K mm C H2 o z L S → Q .non H2) :
    sp_sysi K mm C [.ref o, .ref z, .ref A, .ref B, .ref D] (upd (upd H dx (.own o)) o (.ins C dx [])) Q E := by
  have s := in_same2 (C := C) ho hdx
  have nn : ∀ {a : Addr} {u : HO}, H a = some u → a ≠ o := fun h e => by rw [e, ho] at h; cases h
  exact ⟨o, dx, z, A, B, D, L, S, xs, us, rfl, upd_same, hz.same s, hz.ne ho, nd, SqL.of (K := K) (s _ _ hA), SqL.of (K := K) (s _ _ hB), hm.keep s.keeps, SqL.of (K := K) (s _ _ hD), ha.keep s.keeps, nn hA, nn hB, nn hD, ok, fun H2 b hS => q H2 (made_same2 ho hdx ne b) hS⟩
/-- what the law holds while it draws -/
structure Bun (K : PySem.W.Frag) (mm : List (Str × Addr)) (H : Hp) (p c z r sl ml al : Addr) (oc : HO) (L : Lt) (S : Sys) (xs us : List V) (f : Fm) (fv : V) : Prop where
  src : Src K c H p
  c_ : H c = some oc
  lat : IsLat K mm H z L
  r_ : H r = some (.lst [.ref sl, .ref ml, .ref al])
  sl_ : H sl = some (.lst (S.st.map V.str))
  ml_ : H ml = some (.lst xs)
  ms : MkAt K H L xs S.ms
  al_ : H al = some (.lst us)
  ar : ArAt K H L us S.ar
  fm : Rf K H f fv
section
variable {p c z r sl ml al : Addr} {oc : HO} {S : Sys} {xs us : List V} {f : Fm} {fv : V}
theorem Bun.same (b : Bun K mm H p c z r sl ml al oc L S xs us f fv) (s : Same H H') : Bun K mm H' p c z r sl ml al oc L S xs us f fv :=
  ⟨b.src.same s, s _ _ b.c_, b.lat.same s, s _ _ b.r_, s _ _ b.sl_, s _ _ b.ml_, b.ms.keep s.keeps, s _ _ b.al_, b.ar.keep s.keeps, b.fm.same s⟩
theorem Bun.draw (b : Bun K mm H p c z r sl ml al oc L S xs us f fv) (cp : c ≠ p) (n : r ≠ p ∧ sl ≠ p ∧ ml ≠ p ∧ al ≠ p) (d : But p H H') (s : Src K c H' p) : Bun K mm H' p c z r sl ml al oc L S xs us f fv :=
  have k := b.src.keeps d
  ⟨s, d _ _ cp b.c_, b.lat.drawn b.src d, d _ _ n.1 b.r_, d _ _ n.2.1 b.sl_, d _ _ n.2.2.1 b.ml_, b.ms.keep k, d _ _ n.2.2.2 b.al_, b.ar.keep k, b.fm.keep k⟩
/-- a list of the law's own changes -/
theorem Bun.list {l : Addr} {ys : List V} (b : Bun K mm H p c z r sl ml al oc L S xs us f fv) (n1 : l ≠ p) (n2 : l ≠ c) (n : r ≠ l ∧ sl ≠ l ∧ ml ≠ l ∧ al ≠ l) (hl : H l = some (.lst ys)) (d : But l H H') : Bun K mm H' p c z r sl ml al oc L S xs us f fv :=
  have k := d.keeps hl trivial
  ⟨b.src.but n1 n2 d, d _ _ (fun e => n2 e.symm) b.c_, b.lat.app hl d, d _ _ n.1 b.r_, d _ _ n.2.1 b.sl_, d _ _ n.2.2.1 b.ml_, b.ms.keep k, d _ _ n.2.2.2 b.al_, b.ar.keep k, b.fm.keep k⟩
/-- a new object is none of them -/
theorem Bun.new {l : Addr} (b : Bun K mm H p c z r sl ml al oc L S xs us f fv) (h : H l = none) : l ≠ p ∧ l ≠ c ∧ (r ≠ l ∧ sl ≠ l ∧ ml ≠ l ∧ al ≠ l) := by
  have nn : ∀ {a : Addr} {u : HO}, H a = some u → a ≠ l := fun h' e => by rw [e, h] at h'; cases h'
  exact ⟨b.src.ne h, fun e => nn b.c_ e.symm, nn b.r_, nn b.sl_, nn b.ml_, nn b.al_⟩
end
theorem Two.length {α : Type} {F : α → α → Prop} {as bs : List α} (h : Two F as bs) : as.length = bs.length := by
  induction h with
  | nil => rfl
  | cons _ _ ih => rw [List.length_cons, List.length_cons, ih]
theorem Two.snoc {α : Type} {F : α → α → Prop} {as bs : List α} {a b : α} (h : Two F as bs) (x : F a b) : Two F (as ++ [a]) (bs ++ [b]) := by
  induction h with
  | nil => exact .cons x .nil
  | cons y _ ih => exact .cons y ih
theorem Two.maps {α β : Type} {F : α → α → Prop} {g : α → β} {as bs : List α} (h : Two F as bs) (e : ∀ a b, F a b → g a = g b) : as.map g = bs.map g := by
  induction h with
  | nil => rfl
  | cons x _ ih => rw [List.map_cons, List.map_cons, e _ _ x, ih]
theorem Two.right {α : Type} {F : α → α → Prop} {P : α → Prop} {as bs : List α} (h : Two F as bs) (e : ∀ a b, F a b → P b) : ∀ b ∈ bs, P b := by
  induction h with
  | nil => exact fun _ h => (nomatch h)
  | cons x _ ih =>
    intro b hb
    cases hb with
    | head => exact e _ _ x
    | tail _ h => exact ih b h
theorem ok_two {S : Sys} {ms' : List (Str × Str × Nat)} {ar' : List (Str × Str × Nat × Nat)} (ok : S.Ok) (hm : Two (MLe L) S.ms ms') (ha : Two (ALe L) S.ar ar') : Sys.Ok ⟨S.st, ms', ar'⟩ := by
  have em := hm.maps (g := fun m => (m.1, m.2.1)) fun a b h => by rw [h.1, h.2.1]
  have ea := ha.maps (g := fun m => (m.1, m.2.1)) fun a b h => by rw [h.1, h.2.1]
  refine ⟨ok.nm, ok.nd, fun m hm' => ?_, ?_, fun a ha' => ?_, ?_, ok.zs, by show ms'.length ≤ 900; rw [← hm.length]; exact ok.zm, by show ar'.length ≤ 900; rw [← ha.length]; exact ok.za⟩
  · have : (m.1, m.2.1) ∈ ms'.map fun m => (m.1, m.2.1) := List.mem_map.mpr ⟨m, hm', rfl⟩
    rw [← em] at this
    obtain ⟨m0, h0, e0⟩ := List.mem_map.mp this
    have := ok.mnm m0 h0
    injection e0 with e1 e2
    rw [← e1, ← e2]
    exact this
  · show (ms'.map fun m => (m.1, m.2.1)).Nodup
    rw [← em]
    exact ok.mnd
  · have : (a.1, a.2.1) ∈ ar'.map fun m => (m.1, m.2.1) := List.mem_map.mpr ⟨a, ha', rfl⟩
    rw [← ea] at this
    obtain ⟨m0, h0, e0⟩ := List.mem_map.mp this
    have := ok.ast m0 h0
    injection e0 with e1 e2
    rw [← e1, ← e2]
    exact this
  · show (ar'.map fun m => (m.1, m.2.1)).Nodup
    rw [← ea]
    exact ok.and
theorem in_two {S : Sys} {ms' : List (Str × Str × Nat)} {ar' : List (Str × Str × Nat × Nat)} (hm : Two (MLe L) S.ms ms') (ha : Two (ALe L) S.ar ar') : Sys.In ⟨S.st, ms', ar'⟩ L :=
  ⟨hm.right fun _ _ h => h.2.2.2.2, ha.right fun _ _ h => ⟨h.2.2.2.1.2, h.2.2.2.2.2⟩⟩
theorem dget_same {a : Addr} {y : V} {o : Option V} (s : Same H H') (h : DGet H a y o) : DGet H' a y o := by
  have rd : ∀ {u}, Rd H a u → Rd H' a u := fun h => h.imp (fun h => s _ _ h) fun ⟨o, h⟩ => ⟨o, s _ _ h⟩
  rcases h with ⟨kvs, k, h1, h2⟩ | ⟨kvs, k, b, h1, h2, h3, h4⟩
  · exact .inl ⟨kvs, k, rd h1, h2⟩
  · exact .inr ⟨kvs, k, b, rd h1, h2, s _ _ h3, h4⟩
end
/-! ### a piece's sets of states: the plain law -/
section
open Lt
variable {L : Lt} {S : Sys}
def cut (L : Lt) (st : List Str) (p : Nat) (v : Vl) : List Str := st.filter fun s => L.le p (v s)
def CAg (L : Lt) (st : List Str) (p : Nat) (v w : Vl) : Prop := ∀ s ∈ st, L.le p (v s) = L.le p (w s)
theorem cut_eq {st : List Str} {p : Nat} {v w : Vl} (h : CAg L st p v w) : cut L st p v = cut L st p w := List.filter_congr h
theorem cag_of {st : List Str} {p : Nat} {v w : Vl} (h : cut L st p v = cut L st p w) : CAg L st p v w := fun s hs => by
  rw [Bool.eq_iff_iff]
  have : s ∈ cut L st p v ↔ s ∈ cut L st p w := by rw [h]
  unfold cut at this
  rw [List.mem_filter, List.mem_filter] at this
  exact ⟨fun a => (this.mp ⟨hs, a⟩).2, fun a => (this.mpr ⟨hs, a⟩).2⟩
theorem any_same {α : Type} {P Q : α → Bool} : ∀ (as : List α), (∀ a ∈ as, P a = Q a) → as.any P = as.any Q
  | [], _ => rfl
  | a :: as, h => by rw [List.any_cons, List.any_cons, h a (.head _), any_same as fun b hb => h b (.tail _ hb)]
theorem all_same {α : Type} {P Q : α → Bool} : ∀ (as : List α), (∀ a ∈ as, P a = Q a) → as.all P = as.all Q
  | [], _ => rfl
  | a :: as, h => by rw [List.all_cons, List.all_cons, h a (.head _), all_same as fun b hb => h b (.tail _ hb)]
theorem any_flt {α : Type} {P Q : α → Bool} : ∀ (as : List α), (as.filter P).any Q = as.any fun a => P a && Q a
  | [] => rfl
  | a :: as => by
    rw [List.any_cons, List.filter_cons, ← any_flt as]
    cases P a <;> simp
theorem all_flt {α : Type} {P Q : α → Bool} : ∀ (as : List α), (as.filter P).all Q = as.all fun a => !P a || Q a
  | [] => rfl
  | a :: as => by
    rw [List.all_cons, List.filter_cons, ← all_flt as]
    cases P a <;> simp
theorem le_low (R : L.Reg) {p : Nat} (hp : p < L.n) (hi : L.irr p = true) : L.le p L.low = false := by
  cases h : L.le p L.low with
  | false => rfl
  | true =>
    have : p = L.low := R.ord.anti p L.low hp R.isLow.2.1 h (R.isLow.2.2 p hp)
    rw [this, R.irr_low] at hi
    cases hi
theorem sm_cut (R : L.Reg) {p : Nat} (hp : p < L.n) (hi : L.irr p = true) {v : Vl} (hv : Vok L v) : ∀ (as : List (Str × Str × Nat × Nat)) {t : Nat}, t < L.n → (∀ a ∈ as, a.2.2.1 < L.n ∧ a.2.2.2 < L.n) → L.le p (as.foldl (fun t a => L.jn t (L.mt a.2.2.1 (v a.2.1))) t) = (L.le p t || as.any fun a => L.le p a.2.2.1 && L.le p (v a.2.1))
  | [], t, _, _ => by simp
  | a :: as, t, ht, h => by
    have h1 := (h a (.head _)).1
    have hm := R.mlt h1 (hv a.2.1)
    rw [List.foldl_cons, sm_cut R hp hi hv as (R.jlt ht hm) fun b hb => h b (.tail _ hb), R.irr_prime hp ht hm hi, R.mle h1 (hv _) hp, List.any_cons, Bool.or_assoc]
theorem al_cut (R : L.Reg) {p : Nat} (hp : p < L.n) (hi : L.irr p = true) {v : Vl} (hv : Vok L v) : ∀ (as : List (Str × Str × Nat × Nat)) {t : Nat}, t < L.n → (∀ a ∈ as, a.2.2.1 < L.n ∧ a.2.2.2 < L.n) → L.le p (as.foldl (fun t a => L.mt t (L.jn a.2.2.2 (v a.2.1))) t) = (L.le p t && as.all fun a => L.le p a.2.2.2 || L.le p (v a.2.1))
  | [], t, _, _ => by simp
  | a :: as, t, ht, h => by
    have h1 := (h a (.head _)).2
    have hm := R.jlt h1 (hv a.2.1)
    rw [List.foldl_cons, al_cut R hp hi hv as (R.mlt ht hm) fun b hb => h b (.tail _ hb), R.mle ht hm hp, R.irr_prime hp h1 (hv _) hi, List.all_cons, Bool.and_assoc]
theorem fr_sm_cut (R : L.Reg) (hin : S.In L) {p : Nat} (hp : p < L.n) (hi : L.irr p = true) {v : Vl} (hv : Vok L v) (s : Str) : L.le p ((S.fr L).sm v s) = S.ar.any fun a => a.1 == s && (L.le p a.2.2.1 && L.le p (v a.2.1)) := by
  show L.le p ((S.ar.filter fun a => a.1 == s).foldl (fun t a => L.jn t (L.mt a.2.2.1 (v a.2.1))) L.low) = _
  rw [sm_cut R hp hi hv _ R.isLow.2.1 fun a ha => hin.ar a (List.mem_filter.mp ha).1, le_low R hp hi, Bool.false_or, any_flt]
theorem fr_al_cut (R : L.Reg) (hin : S.In L) {p : Nat} (hp : p < L.n) (hi : L.irr p = true) {v : Vl} (hv : Vok L v) (s : Str) : L.le p ((S.fr L).al v s) = S.ar.all fun a => !(a.1 == s) || (L.le p a.2.2.2 || L.le p (v a.2.1)) := by
  show L.le p ((S.ar.filter fun a => a.1 == s).foldl (fun t a => L.mt t (L.jn a.2.2.2 (v a.2.1))) L.high) = _
  rw [al_cut R hp hi hv _ R.isHigh.2.1 fun a ha => hin.ar a (List.mem_filter.mp ha).1, R.isHigh.2.2 p hp, Bool.true_and, all_flt]
theorem iter_cag {st : List Str} {p : Nat} {F : Vl → Vl} {b : Vl} (hok : ∀ v, Vok L v → Vok L (F v)) (hb : Vok L b) (hF : ∀ v w, Vok L v → Vok L w → CAg L st p v w → CAg L st p (F v) (F w)) {k : Nat} (h : CAg L st p (iter F b (k + 1)) (iter F b k)) : ∀ m, CAg L st p (iter F b (k + m)) (iter F b k)
  | 0 => fun _ _ => rfl
  | m + 1 => fun s hs => (hF _ _ (iter_ok hok hb _) (iter_ok hok hb _) (iter_cag hok hb hF h m) s hs).trans (h s hs)
theorem put_cag {st : List Str} {p : Nat} {e e' : En} (h : ∀ x, CAg L st p (e x) (e' x)) {v w : Vl} (hv : CAg L st p v w) (x y : Str) : CAg L st p (put e x v y) (put e' x w y) := by
  unfold Lt.put
  by_cases c : y = x
  · rw [if_pos c, if_pos c]; exact hv
  · rw [if_neg c, if_neg c]; exact h y
theorem den_cut (R : L.Reg) (ok : S.Ok) (hin : S.In L) {p : Nat} (hp : p < L.n) (hi : L.irr p = true) : ∀ (f : Fm) {e e' : En}, f.Vs (· ∈ L.names) → Eok L e → Eok L e' → (∀ x, CAg L S.st p (e x) (e' x)) → CAg L S.st p (den L (S.fr L) f e) (den L (S.fr L) f e')
  | .lit _, _, _, _, _, _, _ | .val _, _, _, _, _, _, _ | .mark _, _, _, _, _, _, _ => fun _ _ => rfl
  | .name x, _, _, _, _, _, h => h x
  | .bin b f g, e, e', hv, he, he', h => fun s hs => by
    have f1 := den_ok R (fr_ok R hin) f hv.1 he s
    have f2 := den_ok R (fr_ok R hin) f hv.1 he' s
    have g1 := den_ok R (fr_ok R hin) g hv.2 he s
    have g2 := den_ok R (fr_ok R hin) g hv.2 he' s
    have hf := den_cut R ok hin hp hi f hv.1 he he' h s hs
    have hg := den_cut R ok hin hp hi g hv.2 he he' h s hs
    cases b with
    | true =>
      show L.le p (L.mt _ _) = L.le p (L.mt _ _)
      rw [R.mle f1 g1 hp, R.mle f2 g2 hp, hf, hg]
    | false =>
      show L.le p (L.jn _ _) = L.le p (L.jn _ _)
      rw [R.irr_prime hp f1 g1 hi, R.irr_prime hp f2 g2 hi, hf, hg]
  | .un b f, e, e', hv, he, he', h => fun s hs => by
    have hf := den_cut R ok hin hp hi f hv he he' h
    have o1 := den_ok R (fr_ok R hin) f hv he
    have o2 := den_ok R (fr_ok R hin) f hv he'
    cases b with
    | true =>
      show L.le p ((S.fr L).sm _ s) = L.le p ((S.fr L).sm _ s)
      rw [fr_sm_cut R hin hp hi o1, fr_sm_cut R hin hp hi o2]
      exact any_same _ fun a ha => by rw [hf _ (ok.ast a ha).2]
    | false =>
      show L.le p ((S.fr L).al _ s) = L.le p ((S.fr L).al _ s)
      rw [fr_al_cut R hin hp hi o1, fr_al_cut R hin hp hi o2]
      exact all_same _ fun a ha => by rw [hf _ (ok.ast a ha).2]
  | .fix b x f, e, e', hv, he, he', h => by
    have o : ∀ {e : En}, Eok L e → ∀ v, Vok L v → Vok L (den L (S.fr L) f (put e x v)) := fun he v hv' => den_ok R (fr_ok R hin) f hv (he.put hv' x)
    have hb : Vok L (fun _ => if b then L.low else L.high) := fun _ => ends_ok R b
    show CAg L S.st p (iter _ _ _) (iter _ _ _)
    generalize (S.fr L).st.length * L.n = k
    induction k with
    | zero => exact fun _ _ => rfl
    | succ k ih => exact den_cut R ok hin hp hi f hv (he.put (iter_ok (o he) hb k) x) (he'.put (iter_ok (o he') hb k) x) fun y => put_cag h ih x y
theorem rnd_ok (R : L.Reg) (hin : S.In L) {b : Bool} {x : Str} {f : Fm} {e : En} (hf : f.Vs (· ∈ L.names)) (he : Eok L e) : ∀ k, Vok L (rnd L (S.fr L) b x f e k) :=
  iter_ok (fun v hv => den_ok R (fr_ok R hin) f hf (he.put hv x)) fun _ => ends_ok R b
theorem rnd_step (R : L.Reg) (ok : S.Ok) (hin : S.In L) {x : Str} {f : Fm} {e : En} (hf : f.Vs (· ∈ L.names)) (he : Eok L e) : ∀ k, Vle L S.st (rnd L (S.fr L) true x f e k) (rnd L (S.fr L) true x f e (k + 1)) ∧ Vle L S.st (rnd L (S.fr L) false x f e (k + 1)) (rnd L (S.fr L) false x f e k)
  | 0 => ⟨fun s _ => R.isLow.2.2 _ (rnd_ok R hin hf he 1 s), fun s _ => R.isHigh.2.2 _ (rnd_ok R hin hf he 1 s)⟩
  | k + 1 => by
    have hM : ∀ v w, Vok L v → Vok L w → Vle L S.st v w → Vle L S.st (den L (S.fr L) f (put e x v)) (den L (S.fr L) f (put e x w)) := fun v w hv hw h => den_mono R (fr_ok R hin) (fr_ok R hin) (fr_mono R ok hin) f hf (he.put hv x) (he.put hw x) (Ele.put (fun y s _ => R.refl (he y s)) h x)
    exact ⟨hM _ _ (rnd_ok R hin hf he k) (rnd_ok R hin hf he (k + 1)) (rnd_step R ok hin hf he k).1, hM _ _ (rnd_ok R hin hf he (k + 1)) (rnd_ok R hin hf he k) (rnd_step R ok hin hf he k).2⟩
theorem filter_lt {st : List Str} {P Q : Str → Bool} (h : ∀ s ∈ st, P s = true → Q s = true) (ne : st.filter P ≠ st.filter Q) : (st.filter P).length < (st.filter Q).length := by
  have e : st.filter P = (st.filter Q).filter P := by
    rw [List.filter_filter]
    exact List.filter_congr fun s hs => by
      cases c : P s with
      | false => rfl
      | true => rw [h s hs c]; rfl
  have sb : (st.filter P).Sublist (st.filter Q) := by rw [e]; exact List.filter_sublist
  rcases Nat.lt_or_ge (st.filter P).length (st.filter Q).length with l | l
  · exact l
  · exact absurd (sb.eq_of_length_le l) ne
/-- the rounds of a piece: they end soon -/
theorem cut_few (R : L.Reg) (ok : S.Ok) (hin : S.In L) {p : Nat} (hp : p < L.n) {b : Bool} {x : Str} {f : Fm} {e : En} (hf : f.Vs (· ∈ L.names)) (he : Eok L e) : ∀ {k : Nat}, (∀ j, j < k → cut L S.st p (rnd L (S.fr L) b x f e j) ≠ cut L S.st p (rnd L (S.fr L) b x f e (j + 1))) → k ≤ S.st.length := by
  have up : ∀ {v w : Vl}, Vok L v → Vok L w → Vle L S.st v w → cut L S.st p v ≠ cut L S.st p w → (cut L S.st p v).length < (cut L S.st p w).length := fun hv hw h ne =>
    filter_lt (fun s hs c => R.trans _ _ _ hp (hv s) (hw s) c (h s hs)) ne
  have le : ∀ v : Vl, (cut L S.st p v).length ≤ S.st.length := fun v => List.length_filter_le _ _
  intro k hk
  cases b with
  | true =>
    have : ∀ j, j ≤ k → j ≤ (cut L S.st p (rnd L (S.fr L) true x f e j)).length := fun j => by
      induction j with
      | zero => exact fun _ => Nat.zero_le _
      | succ j ih =>
        intro hj
        have := up (rnd_ok R hin hf he j) (rnd_ok R hin hf he (j + 1)) (rnd_step R ok hin hf he j).1 (hk j (by omega))
        have := ih (by omega)
        omega
    exact Nat.le_trans (this k (Nat.le_refl _)) (le _)
  | false =>
    have : ∀ j, j ≤ k → j + (cut L S.st p (rnd L (S.fr L) false x f e j)).length ≤ S.st.length := fun j => by
      induction j with
      | zero => exact fun _ => by rw [Nat.zero_add]; exact le _
      | succ j ih =>
        intro hj
        have := up (rnd_ok R hin hf he (j + 1)) (rnd_ok R hin hf he j) (rnd_step R ok hin hf he j).2 (fun z => hk j (by omega) z.symm)
        have := ih (by omega)
        omega
    have := this k (Nat.le_refl _)
    omega
theorem cut_end (R : L.Reg) (ok : S.Ok) (hin : S.In L) {p : Nat} (hp : p < L.n) (hi : L.irr p = true) {b : Bool} {x : Str} {f : Fm} {e : En} (hf : f.Vs (· ∈ L.names)) (he : Eok L e) {k : Nat} (hk : k ≤ S.st.length) (h : cut L S.st p (rnd L (S.fr L) b x f e (k + 1)) = cut L S.st p (rnd L (S.fr L) b x f e k)) : cut L S.st p (rnd L (S.fr L) b x f e k) = cut L S.st p (den L (S.fr L) (.fix b x f) e) := by
  have hk : k ≤ S.st.length * L.n := Nat.le_trans hk (Nat.le_mul_of_pos_right _ R.pos)
  obtain ⟨m, hm⟩ := Nat.exists_eq_add_of_le hk
  have := iter_cag (L := L) (st := S.st) (p := p) (F := fun v => den L (S.fr L) f (put e x v)) (b := fun _ => if b then L.low else L.high) (fun v hv => den_ok R (fr_ok R hin) f hf (he.put hv x)) (fun _ => ends_ok R b) (fun v w hv hw hvw => den_cut R ok hin hp hi f hf (he.put hv x) (he.put hw x) fun y => put_cag (fun _ _ _ => rfl) hvw x y) (cag_of h) m
  show _ = cut L S.st p (iter _ _ (S.st.length * L.n))
  rw [hm]
  exact (cut_eq this).symm
theorem entV_put {st : List Str} {v : Str → Nat} {s : Str} (h : s ∈ st) (n : Nat) : L2.putK (entV st v) (Sum.inr s) (V.int (n : Nat)) = entV st fun y => if y = s then n else v y := by
  have : ((entV st v).any fun kv => decide (kv.1 = Sum.inr s)) = true := List.any_eq_true.mpr ⟨_, List.mem_map.mpr ⟨s, h, rfl⟩, decide_eq_true rfl⟩
  unfold L2.putK
  rw [if_pos this]
  unfold entV
  rw [List.map_map]
  refine List.map_congr_left fun y _ => ?_
  show (if (Sum.inr y : L2.Key) = Sum.inr s then ((Sum.inr y : L2.Key), V.int (n : Nat)) else ((Sum.inr y : L2.Key), V.int (v y : Nat))) = (Sum.inr y, V.int ((if y = s then n else v y : Nat)))
  by_cases c : y = s
  · rw [if_pos (by rw [c]), if_pos c]
  · rw [if_neg (fun z => c (by injection z)), if_neg c]
end
/-! ### comprehensions over rows, with a test and a map -/
section
open PyProof.Rows
variable {w : World} {K : PySem.W.Frag} {mg : Str → Option Value} {base : Heap} {mm : List (Str × Addr)} {H H' : Hp} {L : Lt}
theorem twoH_imp {β : Type} {F G : V → β → Prop} {as : List V} {bs : List β} (h : TwoH F as bs) (i : ∀ v b, F v b → G v b) : TwoH G as bs := by
  induction h with
  | nil => exact .nil
  | cons x _ ih => exact .cons (i _ _ x) ih
def StrV (v : V) (s : Str) : Prop := v = .str s
theorem strV_keep {H H' : Hp} {v : V} {s : Str} (_ : Keeps H H') (h : StrV v s) : StrV v s := h
theorem twoH_strs : ∀ (ss : List Str), TwoH StrV (ss.map V.str) ss
  | [] => .nil
  | s :: ss => .cons rfl (twoH_strs ss)
theorem strs_twoH {vs : List V} {ss : List Str} (h : TwoH StrV vs ss) : vs = ss.map V.str := by
  induction h with
  | nil => rfl
  | cons x _ ih => rw [List.map_cons, ← ih, ← x]
def MkV (K : PySem.W.Frag) (L : Lt) (H : Hp) (v : V) (m : Str × Str × Nat) : Prop := ∃ (t : Addr) (x : Str), v = .ref t ∧ SqT K H t [.str m.1, .str m.2.1, .str x] ∧ L.names[m.2.2]? = some x
def ArV (K : PySem.W.Frag) (L : Lt) (H : Hp) (v : V) (a : Str × Str × Nat × Nat) : Prop := ∃ (t : Addr) (x y : Str), v = .ref t ∧ SqT K H t [.str a.1, .str a.2.1, .str x, .str y] ∧ L.names[a.2.2.1]? = some x ∧ L.names[a.2.2.2]? = some y
theorem mkV_keep {v : V} {m : Str × Str × Nat} (k : Keeps H H') : MkV K L H v m → MkV K L H' v m := fun ⟨t, x, a, b, c⟩ => ⟨t, x, a, k.sqT b, c⟩
theorem arV_keep {v : V} {m : Str × Str × Nat × Nat} (k : Keeps H H') : ArV K L H v m → ArV K L H' v m := fun ⟨t, x, y, a, b, c⟩ => ⟨t, x, y, a, k.sqT b, c⟩
theorem lc_gen {α β : Type} {F : Hp → V → α → Prop} {G : Hp → V → β → Prop} (kF : ∀ {H H' : Hp} {v : V} {m : α}, Keeps H H' → F H v m → F H' v m) (kG : ∀ {H H' : Hp} {v : V} {m : β}, Keeps H H' → G H v m → G H' v m) (P : α → Bool) (f : α → β)
    {a : Addr} {xs : List V} {as : List α} {g : TG} {tt : TT} {te : TE} {vs : List Nat} {σ : L2.St} {H1 : Hp} {D : Addr} {Qd : Hp → Prop} (hD : H1 D = none) (hl : ∀ H, Same H1 H → SqL K H a xs) (h2 : TwoH (F H1) xs as) (xz : as.length ≤ 1000)
    (hs : ∀ x m H (Nx : V → Hp → Prop) (Ex : Hp → Prop), m ∈ as → F H x m → Same H1 H → (P m = true → ∀ y H2, Same H H2 → G H2 y (f m) → Nx y H2) → (P m = false → ∀ H2, Same H H2 → Ex H2) →
      g x (wipe σ vs) H fun σ2 H2 => wipe σ2 vs = wipe σ vs ∧ tt σ2 H2 fun b H3 => if b = true then te σ2 H3 Nx else Ex H3)
    (hd : ∀ H ys, Same H1 H → H D = some (.lst ys) → TwoH (G H) ys ((as.filter P).map f) → Qd H) :
    ∃ W : Nat → Nat → Hp → Prop, (∃ m, W 0 m (upd H1 D (.lst []))) ∧ ∀ i m H, W i m H →
      ((Itl K a).stop i H ∧ Qd H) ∨ ((Itl K a).go i H ∧ ∃ Nx : Hp → Prop, (∀ H', Nx H' → ∃ m', m' < m ∧ W (i + 1) m' H') ∧ ∀ x H', (Itl K a).yld i H x H' → g x (wipe σ vs) H' fun σ2 H2 => wipe σ2 vs = wipe σ vs ∧ tt σ2 H2 fun b H3 =>
        if b = true then te σ2 H3 fun y H4 => ∃ acc, H4 D = some (.lst acc) ∧ acc.length < sizeLine ∧ Nx (upd H4 D (.lst (acc ++ [y]))) else Nx H3) := by
  have ln := twoH_len h2
  refine lc_fold (walk_list (K := K) (a := a) (xs := xs)) hD (fun i H ys => TwoH (G H) ys (((as.take i).filter P).map f)) (fun _ => .nil) (fun i H H' ys k r => twoH_imp r fun v b => kG k) (fun i H ys r => ?_) hl ?_ (fun H ys s hy r => ?_)
  · have := twoH_len r
    have h1 : ((as.take i).filter P).length ≤ (as.take i).length := List.length_filter_le _ _
    rw [List.length_take] at h1
    rw [this, List.length_map]
    omega
  · rintro i x H2 H3 ys Nx Ex hi s r ⟨e, hx⟩ k1 k2
    obtain rfl : H2 = H3 := e.symm
    have hi' : i < as.length := by rw [← ln]; exact hi
    have hx : xs[i]? = some x := hx
    have ha : as[i]? = some as[i] := List.getElem?_eq_getElem hi'
    obtain ⟨v, e1, fv⟩ := (twoH_at.mp h2).2 i _ ha
    rw [e1] at hx
    cases hx
    have et : as.take (i + 1) = as.take i ++ [as[i]] := by rw [List.take_add_one, ha]; rfl
    rw [et, List.filter_append, List.map_append] at k1 k2
    refine hs _ as[i] H2 Nx Ex (List.getElem_mem hi') (kF s.keeps fv) s (fun hp y H4 s4 gy => k1 y H4 s4 ?_) (fun hp H4 s4 => k2 H4 s4 ?_)
    · rw [show [as[i]].filter P = [as[i]] by rw [List.filter_cons, if_pos hp, List.filter_nil]]
      exact twoH_snoc (twoH_imp r fun v b => kG s4.keeps) gy
    · rw [show [as[i]].filter P = [] by rw [List.filter_cons, if_neg (by rw [hp]; decide), List.filter_nil], List.map_nil, List.append_nil]
      exact twoH_imp r fun v b => kG s4.keeps
  · rw [ln, List.take_length] at r
    exact hd H ys s hy r
theorem inT {g : Str} {ss : List Str} {A B : Prop} (yes : decide (g ∈ ss) = true → A) (no : decide (g ∈ ss) = false → B) : if (if false = true then !inV (V.str g) (ss.map V.str) else inV (V.str g) (ss.map V.str)) = true then A else B := by
  rw [show (if false = true then !inV (V.str g) (ss.map V.str) else inV (V.str g) (ss.map V.str)) = decide (g ∈ ss) from inV_strs g ss]
  cases c : decide (g ∈ ss) with
  | true => exact iteT (yes c)
  | false => exact iteF (no c)
theorem inF {g : Str} {ss : List Str} {A B : Prop} (yes : (!decide (g ∈ ss)) = true → A) (no : (!decide (g ∈ ss)) = false → B) : if (if true = true then !inV (V.str g) (ss.map V.str) else inV (V.str g) (ss.map V.str)) = true then A else B := by
  rw [show (if true = true then !inV (V.str g) (ss.map V.str) else inV (V.str g) (ss.map V.str)) = !decide (g ∈ ss) from congrArg not (inV_strs g ss)]
  cases c : !decide (g ∈ ss) with
  | true => exact iteT (yes c)
  | false => exact iteF (no c)
theorem eqvAll_strD : ∀ xs ys : List Str, PyData.eqvAll (xs.map PyData.str) (ys.map PyData.str) = decide (xs = ys)
  | [], [] => rfl
  | [], y :: ys => rfl
  | x :: xs, [] => rfl
  | x :: xs, y :: ys => by
    show (PyData.eqv (.str x) (.str y) && PyData.eqvAll (xs.map PyData.str) (ys.map PyData.str)) = _
    rw [eqvAll_strD xs ys, Bool.eq_iff_iff]
    simp [PyData.eqv]
theorem eqv_strD (xs ys : List Str) : PyData.eqv (.list (xs.map PyData.str)) (.list (ys.map PyData.str)) = decide (xs = ys) := by simp [PyData.eqv, eqvAll_strD]
end
section
variable {P : Program} {w W_ : World} {K : PySem.W.Frag} {mg : Str → Option Value} {base : Heap}
def sp_irr (K : PySem.W.Frag) (mm : List (Str × Addr)) : Sp := fun vs H Q _ => ∃ (p : Addr) (L : Lt), vs = [.ref p] ∧ IsLat K mm H p L ∧ L.n ≤ 1000 ∧ ∀ l H', Same H H' → H l = none → H' l = some (.lst (natV L.irrs)) → Q (.ref l) H'
theorem ok_irr (T : Tx K mg W_) : FnOk P w K mg base CX0 1 T.a_Lattice_irreducibles T.d_Lattice_irreducibles ["self"] (sp_irr K T.mm) := by
  refine T.F_Lattice_irreducibles.ok sc_Lattice_irreducibles (fun vs H Q E h => ?_) (fun cdv A outer s H vs Q E hr h => ?_)
  · obtain ⟨p, L, rfl, _⟩ := h
    rfl
  obtain ⟨p, L, rfl, ⟨C, dx, fs, tn, td, tu, A⟩, hn, q⟩ := h
  refine ⟨_, pss_one (ps_ret (pe_lc (own := [("place", 1)]) (g := gName 1) rfl sc_Lattice_irreducibles.nd (pi_range1 (by rfl) T.n_range (pa_cons (pe_fld (pv 0) rfl) pa_nil)) (blkOk_by (N := N_Lattice_irreducibles) (sc := defScope St_Lattice_irreducibles) (by decide +kernel)) (fun _ _ _ _ _ => (pg_name (i := 1) sc_Lattice_irreducibles.nd rfl (Or.inl rfl))) (fun _ _ _ _ _ => (pts_one (pt_cmpR (kx_op_in_seq K) (pe_op op_and (pe_ix (kx_ix_tup K) (kx_pe_fld K (pe_fld (pv 0) rfl)) (pv 1) (fun _ _ => rfl)) (pe_un un_inv (pe_op op_shl pe_int (pv 1)))) (kx_pe_fld K (pe_fld (pv 0) rfl)) (by rfl)))) (fun _ _ _ _ _ => (pv 1)))), ?_⟩
  refine ⟨_, rfl, p, C, dx, fs, _, rfl, A.at_, A.c.cl, A.c.na _ (by decide), A.size, _, rfl, by omega, by omega, fun D hD => ?_⟩
  refine lc_fold walk_range hD (fun i _ ys => i ≤ L.n ∧ ys = natV ((List.range i).filter L.irr)) (fun _ => ⟨Nat.zero_le _, rfl⟩) (fun i _ _ xs _ h => h) ?_ (fun _ _ => trivial) ?_ ?_
  · rintro i _ ys ⟨hi, rfl⟩
    rw [natV_length]
    have := filter_le L.irr i
    omega
  · rintro i x H2 H3 ys Nx Ex hi s2 ⟨_, rfl⟩ ⟨rfl, ex⟩ k1 k2
    have hi : i < L.n := hi
    obtain rfl := yfn0 ex
    have A2 := A.same s2
    refine ⟨rfl, ?_⟩
    refine ⟨_, rfl, p, C, dx, fs, _, rfl, A2.at_, A.c.cl, A.c.na _ (by decide), A.downs, _, rfl, td, _, _, _, rfl, rfl, A2.td.2, atI_nat (at_map hi), ?_⟩
    refine ⟨_, rfl, _, _, rfl, rfl, ⟨Int.natCast_nonneg _, by omega, by decide⟩, _, rfl, _, _, rfl, rfl, ?_⟩
    refine ⟨_, rfl, p, C, dx, fs, _, rfl, A2.at_, A.c.cl, A.c.na _ (by decide), A.downs, td, _, rfl, .inr A2.td.2, rfl, flat_ints _ _, _, rfl, ?_⟩
    have e : (if false = true then !inV (V.int (Builtin.bitAnd (L.down i : Int) (Builtin.bitNot (1 * 2 ^ ((i : Int)).toNat)))) (downsV L) else inV (V.int (Builtin.bitAnd (L.down i : Int) (Builtin.bitNot (1 * 2 ^ ((i : Int)).toNat)))) (downsV L)) = L.irr i := by
      show inV (V.int (Builtin.bitAnd (L.down i : Int) (Builtin.bitNot (1 * 2 ^ ((i : Int)).toNat)))) (downsV L) = L.irr i
      rw [one_shl, ← mask_one hi]
      show inV (V.int (Builtin.bitAnd (mask L.n (fun a => L.le a i) : Int) (Builtin.bitNot (mask L.n (fun j => j == i) : Int)))) (downsV L) = L.irr i
      rw [andnot_int]
      show inV _ ((List.range L.n).map fun b => V.int (L.down b : Nat)) = _
      rw [inV_map]
      exact (any_first _ _).symm
    rw [e]
    refine ite2 (fun c => ?_) (fun c => ?_)
    · refine ⟨_, rfl, k1 _ _ (Same.refl _) ⟨hi, ?_⟩⟩
      rw [filter_snoc, if_pos c, natV_append]
      rfl
    · refine k2 _ (Same.refl _) ⟨hi, ?_⟩
      rw [filter_snoc, if_neg c, List.append_nil]
  · rintro H2 ys s2 h2 ⟨_, rfl⟩
    exact q D H2 s2 hD h2
end
/-! ### calls and fields of a lattice, in one step each -/
section
variable {K : PySem.W.Frag} {mm : List (Str × Addr)} {H : Hp} {z : Addr} {L : Lt} {m : Str} {f : Addr} {k : Prop} {Q : VK} {E : XK}
theorem at_meth (hL : IsLat K mm H z L) (hm : (m, f) ∈ mm) (q : k) : ∃ a C dx fs, V.ref z = V.ref a ∧ H a = some (.ins C dx fs) ∧ Cls K C ∧ Meth K C m f ∧ fs.lookup m = none ∧ k := by
  obtain ⟨C, dx, fs, tn, td, tu, A⟩ := hL
  exact ⟨z, C, dx, fs, rfl, A.at_, A.c.cl, A.c.me _ hm, A.no _ hm, q⟩
theorem at_size (hL : IsLat K mm H z L) (q : Q (.int (L.n : Nat)) H) : ∃ a C dx fs v, V.ref z = V.ref a ∧ H a = some (.ins C dx fs) ∧ Cls K C ∧ NoAttr K C "size" ∧ fs.lookup ("size" : Str) = some v ∧ Q v H := by
  obtain ⟨C, dx, fs, tn, td, tu, A⟩ := hL
  exact ⟨z, C, dx, fs, _, rfl, A.at_, A.c.cl, A.c.na _ (by decide), A.size, q⟩
theorem at_label (hL : IsLat K mm H z L) (q : Q (.str L.label) H) : ∃ a C dx fs v, V.ref z = V.ref a ∧ H a = some (.ins C dx fs) ∧ Cls K C ∧ NoAttr K C "label" ∧ fs.lookup ("label" : Str) = some v ∧ Q v H := by
  obtain ⟨C, dx, fs, tn, td, tu, A⟩ := hL
  exact ⟨z, C, dx, fs, _, rfl, A.at_, A.c.cl, A.c.na _ (by decide), A.label, q⟩
theorem at_bot (hL : IsLat K mm H z L) (R : L.Reg) (q : Q (.int (L.low : Nat)) H) : ∃ a C dx fs v, V.ref z = V.ref a ∧ H a = some (.ins C dx fs) ∧ Cls K C ∧ NoAttr K C "bottom_at" ∧ fs.lookup ("bottom_at" : Str) = some v ∧ Q v H := by
  obtain ⟨C, dx, fs, tn, td, tu, A⟩ := hL
  exact ⟨z, C, dx, fs, .int (L.low : Nat), rfl, A.at_, A.c.cl, A.c.na _ (by decide), (by rw [A.bot, R.isLow.1]; rfl), q⟩
theorem at_top (hL : IsLat K mm H z L) (R : L.Reg) (q : Q (.int (L.high : Nat)) H) : ∃ a C dx fs v, V.ref z = V.ref a ∧ H a = some (.ins C dx fs) ∧ Cls K C ∧ NoAttr K C "top_at" ∧ fs.lookup ("top_at" : Str) = some v ∧ Q v H := by
  obtain ⟨C, dx, fs, tn, td, tu, A⟩ := hL
  exact ⟨z, C, dx, fs, .int (L.high : Nat), rfl, A.at_, A.c.cl, A.c.na _ (by decide), (by rw [A.top, R.isHigh.1]; rfl), q⟩
theorem do_name {a : Nat} {k : Str → Hp → Prop} (hL : IsLat K mm H z L) (ha : a < L.n) (q : ∀ H', Same H H' → k (L.nm a) H') : ∃ (p : Addr) (L' : Lt) (a' : Nat) (x : Str), [V.ref z, V.int (a : Nat)] = [V.ref p, V.int (a' : Nat)] ∧ IsLat K mm H p L' ∧ L'.names[a']? = some x ∧ ∀ H', Same H H' → k x H' := ⟨z, L, a, L.nm a, rfl, hL, nm_at ha, q⟩
theorem do_at {a : Nat} {k : Nat → Hp → Prop} (hL : IsLat K mm H z L) (nd : L.names.Nodup) (ha : a < L.n) (q : ∀ H', Same H H' → k a H') : ∃ (p : Addr) (L' : Lt) (a' : Nat) (x : Str), [V.ref z, V.str (L.nm a)] = [V.ref p, V.str x] ∧ IsLat K mm H p L' ∧ L'.names.Nodup ∧ L'.names[a']? = some x ∧ ∀ H', Same H H' → k a' H' := ⟨z, L, a, L.nm a, rfl, hL, nd, nm_at ha, q⟩
theorem do_atS {a : Nat} {x : Str} {k : Nat → Hp → Prop} (hL : IsLat K mm H z L) (nd : L.names.Nodup) (hx : L.names[a]? = some x) (q : ∀ H', Same H H' → k a H') : ∃ (p : Addr) (L' : Lt) (a' : Nat) (y : Str), [V.ref z, V.str x] = [V.ref p, V.str y] ∧ IsLat K mm H p L' ∧ L'.names.Nodup ∧ L'.names[a']? = some y ∧ ∀ H', Same H H' → k a' H' := ⟨z, L, a, x, rfl, hL, nd, hx, q⟩
theorem do_within {a b : Nat} {k : Lt → Nat → Nat → Hp → Prop} (hL : IsLat K mm H z L) (ha : a < L.n) (hb : b < L.n) (q : ∀ H', Same H H' → k L a b H') : ∃ (p : Addr) (L' : Lt) (a' b' : Nat), [V.ref z, V.int (a : Nat), V.int (b : Nat)] = [V.ref p, V.int (a' : Nat), V.int (b' : Nat)] ∧ IsLat K mm H p L' ∧ a' < L'.n ∧ b' < L'.n ∧ ∀ H', Same H H' → k L' a' b' H' := ⟨z, L, a, b, rfl, hL, ha, hb, q⟩
/-- join_at, meet_at of a regular lattice -/
def sp_joinR (K : PySem.W.Frag) (mm : List (Str × Addr)) (g : Lt → Nat → Nat → Nat) : Sp := fun vs H Q _ => ∃ (p : Addr) (L : Lt) (a b : Nat), vs = [.ref p, .int (a : Nat), .int (b : Nat)] ∧ IsLat K mm H p L ∧ L.Reg ∧ L.n ≤ 64 ∧ a < L.n ∧ b < L.n ∧ ∀ H', Same H H' → Q (.int (g L a b : Nat)) H'
theorem do_jm {a b : Nat} {k : Lt → Nat → Nat → Hp → Prop} (hL : IsLat K mm H z L) (R : L.Reg) (n : L.n ≤ 64) (ha : a < L.n) (hb : b < L.n) (q : ∀ H', Same H H' → k L a b H') : ∃ (p : Addr) (L' : Lt) (a' b' : Nat), [V.ref z, V.int (a : Nat), V.int (b : Nat)] = [V.ref p, V.int (a' : Nat), V.int (b' : Nat)] ∧ IsLat K mm H p L' ∧ L'.Reg ∧ L'.n ≤ 64 ∧ a' < L'.n ∧ b' < L'.n ∧ ∀ H', Same H H' → k L' a' b' H' := ⟨z, L, a, b, rfl, hL, R, n, ha, hb, q⟩
theorem fn_imp {P : Program} {w : World} {mg : Str → Option Value} {base : Heap} {CX : CXT} {n : Nat} {f : Addr} {fd : FuncData} {ps : List Str} {sp sp' : Sp} (F : FnOk P w K mg base CX n f fd ps sp) (h : ∀ vs H Q E, sp' vs H Q E → sp vs H Q E) : FnOk P w K mg base CX n f fd ps sp' :=
  ⟨fun vs H Q E x => F.len vs H Q E (h vs H Q E x), fun A outer s H args us vs Q E a b c d x => F.run A outer s H args us vs Q E a b c d (h vs H Q E x)⟩
theorem ok_joinR {P : Program} {w : World} {mg : Str → Option Value} {base : Heap} (T : Tx K mg w) : FnOk P w K mg base CX0 2 T.a_Lattice_join_at T.d_Lattice_join_at ["self", "first", "second"] (sp_joinR K T.mm Lt.jn) :=
  fn_imp (ok_join T) fun vs H Q E ⟨p, L, a, b, e, hL, R, n, ha, hb, q⟩ => ⟨p, L, a, b, e, hL, by omega, ha, hb, fun H' s => by rw [(R.isJ ha hb).1]; exact q H' s⟩
theorem ok_meetR {P : Program} {w : World} {mg : Str → Option Value} {base : Heap} (T : Tx K mg w) : FnOk P w K mg base CX0 2 T.a_Lattice_meet_at T.d_Lattice_meet_at ["self", "first", "second"] (sp_joinR K T.mm Lt.mt) :=
  fn_imp (ok_meet T) fun vs H Q E ⟨p, L, a, b, e, hL, R, n, ha, hb, q⟩ => ⟨p, L, a, b, e, hL, by omega, ha, hb, fun H' s => by rw [(R.isM ha hb).1]; exact q H' s⟩
/-- a locked dict, walked and unlocked -/
theorem lock_same {H' : Hp} {d : Addr} {od : Obj} {u : HO} (h : H d = some u) (s : Same (upd H d (.frz od u)) H') : Same H (upd H' d u) := fun b o hb => by
  by_cases e : b = d
  · subst e
    rw [upd_same, ← h, hb]
  · rw [upd_ne e]
    exact s b o (by rw [upd_ne e]; exact hb)
theorem IsLat.ne_dk {d : Addr} {kvs : List (L2.Key × V)} (h : IsLat K mm H z L) (hd : H d = some (.dK kvs)) : z ≠ d := fun e => by
  obtain ⟨C, dx, fs, tn, td, tu, A⟩ := h
  have := A.at_
  rw [e, hd] at this
  cases this
theorem IsLat.lock {d : Addr} {kvs : List (L2.Key × V)} {od : Obj} (h : IsLat K mm H z L) (hd : H d = some (.dK kvs)) : IsLat K mm (upd H d (.frz od (.dK kvs))) z L := h.but ((But.refl d H).upd _) hd trivial (h.ne_dk hd)
theorem Rd.lock {H : Hp} {a d : Addr} {kvs ls : List (L2.Key × V)} {od : Obj} (h : H a = some (.dK ls)) (hd : H d = some (.dK kvs)) : Rd (upd H d (.frz od (.dK kvs))) a (.dK ls) := by
  by_cases e : a = d
  · subst e
    rw [h] at hd
    cases hd
    exact .inr ⟨od, upd_same⟩
  · exact .inl (by rw [upd_ne e]; exact h)
theorem Rd.same {H H' : Hp} {a : Addr} {u : HO} (s : Same H H') (h : Rd H a u) : Rd H' a u := by
  rcases h with h | ⟨o, h⟩
  · exact .inl (s _ _ h)
  · exact .inr ⟨o, s _ _ h⟩
theorem DGet.rd {H : Hp} {a : Addr} {kvs : List (L2.Key × V)} {k : L2.Key} (e : Rd H a (.dK kvs)) : DGet H a (kV k) (valV kvs k) := .inl ⟨kvs, k, e, rfl, rfl⟩
end
/-! ### small facts of drawn systems and formulas -/
section
theorem mk4_ok : ∀ x, x ∈ mk4 → PyData.strOk x = true := by decide +kernel
theorem mk4_nm4 : ∀ x ∈ mk4, nmB x = true := by decide +kernel
theorem mk4_zx : ∀ x, x ∈ mk4 → x ≠ "zx" := by decide +kernel
theorem mkL_zx : ∀ x, x ∈ mkL → x ≠ "zx" := by decide +kernel
theorem xy_ok {x : Str} (h : x ∈ xyL) : PyData.strOk x = true := by
  have : ∀ x, x ∈ xyL → PyData.strOk x = true := by decide +kernel
  exact this x h
theorem twoH_app {α β : Type} {F : α → β → Prop} {as as' : List α} {bs bs' : List β} (h : TwoH F as bs) (h' : TwoH F as' bs') : TwoH F (as ++ as') (bs ++ bs') := by
  induction h with
  | nil => exact h'
  | cons x _ ih => exact .cons x ih
theorem sub_len {α : Type} [DecidableEq α] : ∀ {xs ys : List α}, xs.Nodup → xs ⊆ ys → xs.length ≤ ys.length
  | [], _, _, _ => Nat.zero_le _
  | x :: xs, ys, nd, h => by
    have hx : x ∈ ys := h (.head _)
    have n := List.nodup_cons.mp nd
    have := sub_len (ys := ys.erase x) n.2 fun y hy => (List.mem_erase_of_ne fun e => n.1 (by rw [← e]; exact hy)).mpr (h (.tail _ hy))
    rw [List.length_erase_of_mem hx] at this
    have := List.length_pos_of_mem hx
    rw [List.length_cons]
    omega
/-- the marks are few -/
theorem ms_few {S : Sys} (ok : S.Ok) (mkn : ∀ m ∈ S.ms, m.1 ∈ mkL) (st4 : S.st.length ≤ 4) : S.ms.length ≤ 12 := by
  have sub : (S.ms.map fun m => (m.1, m.2.1)) ⊆ (mkL.flatMap fun a => S.st.map fun s => (a, s)) := by
    intro q hq
    obtain ⟨m, hm, rfl⟩ := List.mem_map.mp hq
    exact List.mem_flatMap.mpr ⟨m.1, mkn m hm, List.mem_map.mpr ⟨m.2.1, (ok.mnm m hm).2, rfl⟩⟩
  have := sub_len ok.mnd sub
  rw [List.length_map] at this
  have e : (mkL.flatMap fun a => S.st.map fun s => (a, s)).length = 3 * S.st.length := by
    simp [mkL, List.flatMap]
    omega
  omega
end
/-! ### lists of one's own: cells; comprehensions whose items are objects -/
section
open PyProof.Rows
variable {K : PySem.W.Frag} {H0 H H' : Hp}
/-- m lists of one's own, made behind H0 -/
structure Cells (H0 H : Hp) (c : Nat → Addr) (m : Nat) (cont : Nat → List V) : Prop where
  same : Same H0 H
  at_ : ∀ i, i < m → H (c i) = some (.lst (cont i))
  inj : ∀ i j, i < m → j < m → c i = c j → i = j
  new : ∀ i, i < m → H0 (c i) = none
theorem Cells.nil {c : Nat → Addr} {cont : Nat → List V} (s : Same H0 H) : Cells H0 H c 0 cont := ⟨s, fun _ h => absurd h (Nat.not_lt_zero _), fun _ _ h => absurd h (Nat.not_lt_zero _), fun _ h => absurd h (Nat.not_lt_zero _)⟩
theorem Cells.keep {c : Nat → Addr} {m : Nat} {cont : Nat → List V} (b : Cells H0 H c m cont) (s : Same H H') : Cells H0 H' c m cont := ⟨b.same.trans s, fun i hi => s _ _ (b.at_ i hi), b.inj, b.new⟩
theorem none_of_same {a : Addr} (s : Same H H') (h : H' a = none) : H a = none := by
  cases e : H a with
  | none => rfl
  | some o => rw [s _ _ e] at h; cases h
theorem Cells.add {c : Nat → Addr} {m : Nat} {cont : Nat → List V} (b : Cells H0 H c m cont) {x : Addr} (hx : H x = none) (xs : List V) : Cells H0 (upd H x (.lst xs)) (fun i => if i = m then x else c i) (m + 1) (fun i => if i = m then xs else cont i) where
  same := b.same.trans (Same.new hx _)
  at_ := fun i hi => by
    by_cases e : i = m
    · simp only [if_pos e]; exact upd_same
    · simp only [if_neg e]
      have h := b.at_ i (by omega)
      rw [upd_ne (fun z => by rw [z, hx] at h; cases h)]
      exact h
  inj := fun i j hi hj e => by
    have ne : ∀ k, k < m → c k ≠ x := fun k hk z => by have h := b.at_ k hk; rw [z, hx] at h; cases h
    by_cases e1 : i = m
    · by_cases e2 : j = m
      · rw [e1, e2]
      · simp only [if_pos e1, if_neg e2] at e; exact absurd e.symm (ne j (by omega))
    · by_cases e2 : j = m
      · simp only [if_neg e1, if_pos e2] at e; exact absurd e (ne i (by omega))
      · simp only [if_neg e1, if_neg e2] at e; exact b.inj i j (by omega) (by omega) e
  new := fun i hi => by
    by_cases e : i = m
    · simp only [if_pos e]; exact none_of_same b.same hx
    · simp only [if_neg e]; exact b.new i (by omega)
theorem Cells.put {c : Nat → Addr} {m : Nat} {cont : Nat → List V} (b : Cells H0 H c m cont) {i : Nat} (hi : i < m) (xs : List V) : Cells H0 (upd H (c i) (.lst xs)) c m (fun j => if j = i then xs else cont j) where
  same := b.same.mut (b.new i hi) _
  at_ := fun j hj => by
    by_cases e : j = i
    · simp only [if_pos e]; rw [e]; exact upd_same
    · simp only [if_neg e]
      rw [upd_ne (fun z => e (b.inj j i hj hi z))]
      exact b.at_ j hj
  inj := b.inj
  new := b.new
theorem Cells.ext {c c' : Nat → Addr} {m : Nat} {cont cont' : Nat → List V} (b : Cells H0 H c m cont) (h : ∀ i, i < m → cont i = cont' i) (h' : ∀ i, i < m → c i = c' i) : Cells H0 H c' m cont' :=
  ⟨b.same, fun i hi => by rw [← h i hi, ← h' i hi]; exact b.at_ i hi, fun i j hi hj e => b.inj i j hi hj (by rw [h' i hi, h' j hj]; exact e), fun i hi => by rw [← h' i hi]; exact b.new i hi⟩
/-- a comprehension whose items are objects: what is known of an item stays where the new list D alone changes -/
theorem lc_genD {α β : Type} {F : Hp → V → α → Prop} {G : Hp → V → β → Prop} (P : α → Bool) (f : α → β) {a : Addr} {xs : List V} {as : List α} {g : TG} {tt : TT} {te : TE} {vs : List Nat} {σ : L2.St} {H1 : Hp} {D : Addr} {Qd : Hp → Prop} (hD : H1 D = none)
    (kF : ∀ {H : Hp} {v : V} {m : α}, Same H1 H → F H1 v m → F H v m) (kG : ∀ {H H' : Hp} {v : V} {m : β}, Same H H' → G H v m → G H' v m) (kD : ∀ {H : Hp} {v : V} {m : β} {zs : List V}, G H v m → G (upd H D (.lst zs)) v m) (hl : ∀ H, Same H1 H → SqL K H a xs) (h2 : TwoH (F H1) xs as) (xz : as.length ≤ 1000)
    (hs : ∀ x m H (Nx : V → Hp → Prop) (Ex : Hp → Prop), m ∈ as → F H x m → Same H1 H → (∃ ys, H D = some (.lst ys)) → (P m = true → ∀ y H2, Same H H2 → G H2 y (f m) → Nx y H2) → (P m = false → ∀ H2, Same H H2 → Ex H2) →
      g x (wipe σ vs) H fun σ2 H2 => wipe σ2 vs = wipe σ vs ∧ tt σ2 H2 fun b H3 => if b = true then te σ2 H3 Nx else Ex H3)
    (hd : ∀ H ys, Same H1 H → H D = some (.lst ys) → TwoH (G H) ys ((as.filter P).map f) → Qd H) :
    ∃ W : Nat → Nat → Hp → Prop, (∃ m, W 0 m (upd H1 D (.lst []))) ∧ ∀ i m H, W i m H →
      ((Itl K a).stop i H ∧ Qd H) ∨ ((Itl K a).go i H ∧ ∃ Nx : Hp → Prop, (∀ H', Nx H' → ∃ m', m' < m ∧ W (i + 1) m' H') ∧ ∀ x H', (Itl K a).yld i H x H' → g x (wipe σ vs) H' fun σ2 H2 => wipe σ2 vs = wipe σ vs ∧ tt σ2 H2 fun b H3 =>
        if b = true then te σ2 H3 fun y H4 => ∃ acc, H4 D = some (.lst acc) ∧ acc.length < sizeLine ∧ Nx (upd H4 D (.lst (acc ++ [y]))) else Nx H3) := by
  have ln := twoH_len h2
  refine lc_foldF (walk_list (K := K) (a := a) (xs := xs)) (fun H => Same H1 H) (fun i H ys => TwoH (G H) ys (((as.take i).filter P).map f)) (Same.new hD _) (fun H ys zs s _ => s.mut hD _) .nil (fun i H ys zs xs r _ => twoH_imp r fun v b => kD) (fun i H ys r => ?_) hl ?_ (fun H ys s hy r => ?_)
  · have := twoH_len r
    have h1 : ((as.take i).filter P).length ≤ (as.take i).length := List.length_filter_le _ _
    rw [List.length_take] at h1
    rw [this, List.length_map]
    omega
  · rintro i x H2 H3 ys Nx Ex hi s hy r ⟨e, hx⟩ k1 k2
    obtain rfl : H2 = H3 := e.symm
    have hi' : i < as.length := by rw [← ln]; exact hi
    have hx : xs[i]? = some x := hx
    have ha : as[i]? = some as[i] := List.getElem?_eq_getElem hi'
    obtain ⟨v, e1, fv⟩ := (twoH_at.mp h2).2 i _ ha
    rw [e1] at hx
    cases hx
    have et : as.take (i + 1) = as.take i ++ [as[i]] := by rw [List.take_add_one, ha]; rfl
    rw [et, List.filter_append, List.map_append] at k1 k2
    refine hs _ as[i] H2 Nx Ex (List.getElem_mem hi') (kF s fv) s ⟨_, hy⟩ (fun hp y H4 s4 gy => k1 y H4 (s.trans s4) (s4 _ _ hy) ?_) (fun hp H4 s4 => k2 H4 (s.trans s4) (s4 _ _ hy) ?_)
    · rw [show [as[i]].filter P = [as[i]] by rw [List.filter_cons, if_pos hp, List.filter_nil]]
      exact twoH_snoc (twoH_imp r fun v b => kG s4) gy
    · rw [show [as[i]].filter P = [] by rw [List.filter_cons, if_neg (by rw [hp]; decide), List.filter_nil], List.map_nil, List.append_nil]
      exact twoH_imp r fun v b => kG s4
  · rw [ln, List.take_length] at r
    exact hd H ys s hy r
theorem flt_idL {α : Type} (xs : List α) : xs.filter (fun _ => true) = xs := List.filter_eq_self.mpr fun _ _ => rfl
def NatV (v : V) (k : Nat) : Prop := v = .int (k : Nat)
theorem natV_keep {H H' : Hp} {v : V} {k : Nat} (_ : Keeps H H') (h : NatV v k) : NatV v k := h
theorem twoH_nats : ∀ (ks : List Nat), TwoH NatV (natV ks) ks
  | [] => .nil
  | k :: ks => .cons rfl (twoH_nats ks)
theorem nats_twoH {vs : List V} {ks : List Nat} (h : TwoH NatV vs ks) : vs = natV ks := by
  induction h with
  | nil => rfl
  | cons a _ ih => rw [ih, show _ = V.int _ from a]; rfl
def BlV (v : V) (k : Bool) : Prop := v = .bl k
theorem blV_keep {H H' : Hp} {v : V} {k : Bool} (_ : Keeps H H') (h : BlV v k) : BlV v k := h
theorem bls_twoH {vs : List V} {ks : List Bool} (h : TwoH BlV vs ks) : vs = ks.map V.bl := by
  induction h with
  | nil => rfl
  | cons a _ ih => rw [ih, show _ = V.bl _ from a]; rfl
theorem eqV_bl (a b : Bool) : eqV (.bl a) (.bl b) = (a == b) := by cases a <;> cases b <;> rfl
theorem inV_bls : ∀ bs : List Bool, inV (.bl false) (bs.map V.bl) = !(bs.all id)
  | [] => rfl
  | b :: bs => by
    have ih := inV_bls bs
    show (eqV (.bl b) (.bl false) || inV (.bl false) (bs.map V.bl)) = _
    rw [ih, eqV_bl]
    cases b <;> rfl
theorem flat_bls : ∀ bs : List Bool, (bs.map V.bl).all flatV = true
  | [] => rfl
  | _ :: bs => flat_bls bs
/-- False not in [..] -/
theorem noF {bs : List Bool} {A B : Prop} (yes : bs.all id = true → A) (no : bs.all id = false → B) : if (if true = true then !inV (V.bl false) (bs.map V.bl) else inV (V.bl false) (bs.map V.bl)) = true then A else B := by
  rw [show (if true = true then !inV (V.bl false) (bs.map V.bl) else inV (V.bl false) (bs.map V.bl)) = bs.all id from by rw [if_pos rfl, inV_bls, Bool.not_not]]
  cases c : bs.all id with
  | true => exact iteT (yes c)
  | false => exact iteF (no c)
theorem map_at1 {α β : Type} {l : List α} {f : α → β} {i : Nat} (h : i < l.length) : (l.map f)[i]? = some (f l[i]) := by rw [List.getElem?_map, List.getElem?_eq_getElem h]; rfl
theorem rg_at {n i : Nat} {f : Nat → V} (h : i < n) : ((List.range n).map f)[i]? = some (f i) := by rw [List.getElem?_map, List.getElem?_range h]; rfl
theorem twoH_refs {β : Type} {G : Addr → β → Prop} {vs : List V} {ms : List β} (h : TwoH (fun v m => ∃ l, v = V.ref l ∧ G l m) vs ms) : ∃ ls : List Addr, vs = ls.map V.ref ∧ TwoH G ls ms := by
  induction h with
  | nil => exact ⟨[], rfl, .nil⟩
  | cons a _ ih =>
    obtain ⟨l, rfl, g⟩ := a
    obtain ⟨ls, rfl, gs⟩ := ih
    exact ⟨l :: ls, rfl, .cons g gs⟩
theorem twoH_len2 {α β : Type} {F : α → β → Prop} {as : List α} {bs : List β} (h : TwoH F as bs) : as.length = bs.length := by
  induction h with
  | nil => rfl
  | cons _ _ ih => rw [List.length_cons, List.length_cons, ih]
theorem twoH_get {α β : Type} {F : α → β → Prop} {as : List α} {bs : List β} (h : TwoH F as bs) : ∀ {i : Nat} {a : α}, as[i]? = some a → ∃ b, bs[i]? = some b ∧ F a b := by
  induction h with
  | nil => exact fun h => nomatch h
  | cons x _ ih =>
    intro i a hi
    cases i with
    | zero => cases hi; exact ⟨_, rfl, x⟩
    | succ i => exact ih (by simpa using hi)
/-- two tables under way: m rows, the last one b long, the others n -/
def tabC (n : Nat) (f g : Nat → Nat → Nat) (c : Nat → Addr) (m b : Nat) : Nat → List V := fun i =>
  if i = 0 then (List.range m).map fun r => V.ref (c (2 * r + 2))
  else if i = 1 then (List.range m).map fun r => V.ref (c (2 * r + 3))
  else if i % 2 = 0 then (List.range (if (i - 2) / 2 + 1 = m then b else n)).map fun k => V.int (f ((i - 2) / 2) k : Nat)
  else (List.range (if (i - 3) / 2 + 1 = m then b else n)).map fun k => V.int (g ((i - 3) / 2) k : Nat)
theorem tab_next {n m : Nat} {f g : Nat → Nat → Nat} {c : Nat → Addr} (b : Cells H0 H c (2 * m + 2) (tabC n f g c m n)) {x1 x2 : Addr} (h1 : H x1 = none) (h2 : upd (upd H x1 (.lst [])) (c 0) (.lst (((List.range m).map fun r => V.ref (c (2 * r + 2))) ++ [V.ref x1])) x2 = none) :
    Cells H0 (upd (upd (upd (upd H x1 (.lst [])) (c 0) (.lst (((List.range m).map fun r => V.ref (c (2 * r + 2))) ++ [V.ref x1]))) x2 (.lst [])) (c 1) (.lst (((List.range m).map fun r => V.ref (c (2 * r + 3))) ++ [V.ref x2]))) (fun i => if i = 2 * m + 3 then x2 else if i = 2 * m + 2 then x1 else c i) (2 * (m + 1) + 2) (tabC n f g (fun i => if i = 2 * m + 3 then x2 else if i = 2 * m + 2 then x1 else c i) (m + 1) 0) := by
  have b1 := b.add h1 []
  have b2 := b1.put (i := 0) (by omega) (((List.range m).map fun r => V.ref (c (2 * r + 2))) ++ [V.ref x1])
  rw [if_neg (by omega : ¬ 0 = 2 * m + 2)] at b2
  have b3 := b2.add h2 []
  have b4 := b3.put (i := 1) (by omega) (((List.range m).map fun r => V.ref (c (2 * r + 3))) ++ [V.ref x2])
  rw [if_neg (by omega : ¬ 1 = 2 * m + 2 + 1), if_neg (by omega : ¬ 1 = 2 * m + 2)] at b4
  refine Cells.ext b4 (fun i hi => ?_) (fun i hi => ?_)
  · have rm : ∀ (k : Nat) (h : k = 2 ∨ k = 3), ((List.range m).map fun r => V.ref ((fun i => if i = 2 * m + 3 then x2 else if i = 2 * m + 2 then x1 else c i) (2 * r + k))) = (List.range m).map fun r => V.ref (c (2 * r + k)) := fun k hk => by
      refine List.map_congr_left fun r hr => ?_
      have := List.mem_range.mp hr
      dsimp only
      rw [if_neg (by omega), if_neg (by omega)]
    unfold tabC
    by_cases e0 : i = 0
    · subst e0
      simp only [if_pos, if_neg (show ¬ 0 = 1 by omega), if_neg (show ¬ 0 = 2 * m + 2 + 1 by omega)]
      rw [List.range_succ, List.map_append]
      congr 1
      · exact (rm 2 (.inl rfl)).symm
      · simp
    · by_cases e1 : i = 1
      · subst e1
        simp only [if_pos, if_neg (show ¬ 1 = 0 by omega)]
        rw [List.range_succ, List.map_append]
        congr 1
        · exact (rm 3 (.inr rfl)).symm
        · simp
      · simp only [if_neg e0, if_neg e1]
        by_cases ea : i = 2 * m + 2 + 1
        · rw [if_pos ea, if_neg (by omega), if_pos (by omega)]; rfl
        · rw [if_neg ea]
          by_cases eb : i = 2 * m + 2
          · rw [if_pos eb, if_pos (by omega), if_pos (by omega)]; rfl
          · rw [if_neg eb]
            have n1 : ¬ ((i - 2) / 2 + 1 = m + 1) := by omega
            have n2 : ¬ ((i - 3) / 2 + 1 = m + 1) := by omega
            rw [if_neg n1, if_neg n2]
            split <;> split <;> rfl
  · rfl
theorem tab_put {n a k : Nat} {f g : Nat → Nat → Nat} {c : Nat → Addr} (b : Cells H0 H c (2 * (a + 1) + 2) (tabC n f g c (a + 1) k)) :
    Cells H0 (upd (upd H (c (2 * a + 2)) (.lst (((List.range k).map fun j => V.int (f a j : Nat)) ++ [V.int (f a k : Nat)]))) (c (2 * a + 3)) (.lst (((List.range k).map fun j => V.int (g a j : Nat)) ++ [V.int (g a k : Nat)]))) c (2 * (a + 1) + 2) (tabC n f g c (a + 1) (k + 1)) := by
  have b1 := (b.put (i := 2 * a + 2) (by omega) (((List.range k).map fun j => V.int (f a j : Nat)) ++ [V.int (f a k : Nat)])).put (i := 2 * a + 3) (by omega) (((List.range k).map fun j => V.int (g a j : Nat)) ++ [V.int (g a k : Nat)])
  refine Cells.ext b1 (fun i hi => ?_) (fun _ _ => rfl)
  unfold tabC
  by_cases ea : i = 2 * a + 3
  · rw [if_pos ea, if_neg (by omega), if_neg (by omega), if_neg (by omega), if_pos (by omega), List.range_succ, List.map_append, show (i - 3) / 2 = a by omega]
    rfl
  · rw [if_neg ea]
    by_cases eb : i = 2 * a + 2
    · rw [if_pos eb, if_neg (by omega), if_neg (by omega), if_pos (by omega), if_pos (by omega), List.range_succ, List.map_append, show (i - 2) / 2 = a by omega]
      rfl
    · rw [if_neg eb]
      by_cases e0 : i = 0
      · rw [if_pos e0, if_pos e0]
      · rw [if_neg e0, if_neg e0]
        by_cases e1 : i = 1
        · rw [if_pos e1, if_pos e1]
        · rw [if_neg e1, if_neg e1, if_neg (by omega : ¬ (i - 2) / 2 + 1 = a + 1), if_neg (by omega : ¬ (i - 3) / 2 + 1 = a + 1), if_neg (by omega : ¬ (i - 2) / 2 + 1 = a + 1), if_neg (by omega : ¬ (i - 3) / 2 + 1 = a + 1)]
end
/-! ### rounds: the plain counts, and rounds itself -/
section
open PyProof.Rows
open Lt (Agree)
variable {w : World} {K : PySem.W.Frag} {mg : Str → Option Value} {base : Heap} {mm : List (Str × Addr)} {H H' : Hp} {L : Lt}
/-- the number of rounds that change something -/
structure Cnt (L : Lt) (S : Sys) (b : Bool) (x : Str) (f : Fm) (e : Lt.En) (k : Nat) : Prop where
  lo : ∀ j, j < k → ¬ Agree S.st (rnd L (S.fr L) b x f e j) (rnd L (S.fr L) b x f e (j + 1))
  hi : Agree S.st (rnd L (S.fr L) b x f e (k + 1)) (rnd L (S.fr L) b x f e k)
theorem Cnt.one {S : Sys} {b : Bool} {x : Str} {f : Fm} {e : Lt.En} {j k : Nat} (h : Cnt L S b x f e j) (g : Cnt L S b x f e k) : j = k := by
  rcases Nat.lt_trichotomy j k with c | c | c
  · exact absurd (fun s hs => (h.hi s hs).symm) (g.lo j c)
  · exact c
  · exact absurd (fun s hs => (g.hi s hs).symm) (h.lo k c)
end
section
open PyProof.Rows
open Lt (Agree)
variable {w : World} {K : PySem.W.Frag} {mg : Str → Option Value} {base : Heap} {mm : List (Str × Addr)} {H H' : Hp} {L : Lt}
/-- the same for one piece -/
structure CutCnt (L : Lt) (S : Sys) (p : Nat) (b : Bool) (x : Str) (f : Fm) (e : Lt.En) (k : Nat) : Prop where
  lo : ∀ j, j < k → cut L S.st p (rnd L (S.fr L) b x f e j) ≠ cut L S.st p (rnd L (S.fr L) b x f e (j + 1))
  hi : cut L S.st p (rnd L (S.fr L) b x f e (k + 1)) = cut L S.st p (rnd L (S.fr L) b x f e k)
theorem CutCnt.le {S : Sys} {p k j : Nat} {b : Bool} {x : Str} {f : Fm} {e : Lt.En} (h : CutCnt L S p b x f e j) (g : Cnt L S b x f e k) : j ≤ k := by
  rcases Nat.lt_or_ge k j with c | c
  · exact absurd (cut_eq fun s hs => by rw [g.hi s hs]) (h.lo k c)
  · exact c
theorem CutCnt.stay (R : L.Reg) {S : Sys} (ok : S.Ok) (hin : S.In L) {p j : Nat} (hp : p < L.n) (hi : L.irr p = true) {b : Bool} {x : Str} {f : Fm} {e : Lt.En} (hf : f.Vs (· ∈ L.names)) (he : L.Eok e) (h : CutCnt L S p b x f e j) (m : Nat) :
    CAg L S.st p (rnd L (S.fr L) b x f e (j + m)) (rnd L (S.fr L) b x f e j) :=
  iter_cag (L := L) (st := S.st) (p := p) (F := fun v => L.den (S.fr L) f (Lt.put e x v)) (b := fun _ => if b then L.low else L.high) (fun v hv => Lt.den_ok R (fr_ok R hin) f hf (he.put hv x)) (fun _ => Lt.ends_ok R b) (fun v w hv hw hvw => den_cut R ok hin hp hi f hf (he.put hv x) (he.put hw x) fun y => put_cag (fun _ _ _ => rfl) hvw x y) (cag_of h.hi) m
/-- the greatest number of all pieces is the number -/
theorem cnt_max (R : L.Reg) {S : Sys} (ok : S.Ok) (hin : S.In L) {b : Bool} {x : Str} {f : Fm} {e : Lt.En} (hf : f.Vs (· ∈ L.names)) (he : L.Eok e) {k M : Nat} (g : Cnt L S b x f e k) (ks : Nat → Nat) (h : ∀ p ∈ L.irrs, CutCnt L S p b x f e (ks p)) (hM : ∀ p ∈ L.irrs, ks p ≤ M) : k ≤ M := by
  rcases Nat.lt_or_ge M k with c | c
  · refine absurd (fun s hs => ?_) (g.lo M c)
    have rok := rnd_ok R (b := b) (x := x) hin hf he
    refine R.irrs_inj (rok M s) (rok (M + 1) s) (List.filter_congr fun p hp => ?_)
    obtain ⟨pn, pi⟩ := R.mem_irrs.mp hp
    have C := h p hp
    obtain ⟨m, hm⟩ := Nat.exists_eq_add_of_le (hM p hp)
    have a1 := C.stay R ok hin pn pi hf he m s hs
    have a2 := C.stay R ok hin pn pi hf he (m + 1) s hs
    rw [← hm] at a1
    rw [← Nat.add_assoc, ← hm] at a2
    rw [a1, a2]
  · exact c
end
section
open PyProof.Rows
variable {w : World} {K : PySem.W.Frag} {mg : Str → Option Value} {base : Heap} {mm : List (Str × Addr)} {H H' : Hp} {L : Lt}
theorem nti_no {s a b : Str} {A B : Prop} (h : (s == a || s == b) = false) (x : A) : if (!inV (.str s) [.str a, .str b]) = true then A else B := by
  rw [inV_str, h]
  exact iteT x
/-- the number that rounds is to be -/
def RndIs (L : Lt) (S : Sys) : Fm → Nat → Prop
  | .fix b x f, k => Cnt L S b x f L.e0 k
  | _, k => k = 0
def sp_rnd (K : PySem.W.Frag) (mm : List (Str × Addr)) (CS : Addr) : Sp := fun vs H Q _ => ∃ (y z : Addr) (v : V) (L : Lt) (S : Sys) (f : Fm), vs = [.ref y, v] ∧ IsSys K mm CS H y z L S ∧ S.Ok ∧ S.In L ∧ L.Reg ∧ L.n ≤ 64 ∧ L.names.Nodup ∧ Rf K H f v ∧ f.depth ≤ 40 ∧ f.Vs (· ∈ L.names) ∧ f.Bd [] ∧
  (∀ (k : Nat) H', Same H H' → RndIs L S f k → Q (.int k) H')
theorem ok_rnd (T : Tx K mg w) : FnOk PL w K mg base CX0 127 T.a_rounds T.d_rounds ["system", "formula"] (sp_rnd K T.mm T.a_System) := by
  have G_check_formula := ok_chk (P := PL) (base := base) T 40
  have G_Evaluation_init := ok_evi (P := PL) (base := base) T
  have G_Evaluation_counted_rounds := ok_cnt (P := PL) (base := base) T 40 (ok_pl (P := PL) (base := base) T 40)
  refine T.F_rounds.ok sc_rounds (fun vs H Q E h => ?_) (fun cdv A outer s H vs Q E hr h => ?_)
  · obtain ⟨y, z, v, L, S, f, rfl, _⟩ := h
    rfl
  obtain ⟨y, z, v, L, S, f, rfl, hS, ok, hin, R, n64, nnd, hf, hd, hvs, hbd, q⟩ := h
  have hu := hu_of hr
  refine ⟨_, pss_cons (ps_expr (pe_call G_check_formula (hr.mono (by omega)) (by rfl) T.g_check_formula T.F_check_formula.kp T.b_check_formula .nil pass0 (pa_cons (pe_fld (pv 0) rfl) (pa_cons (pv 1) (pa_cons (pe_lst pa_nil) pa_nil)))))
    (pss_cons (ps_if (pt_cmpR op_notIn_seq (pe_ix ix_tup (pv 1) pe_int (fun _ _ => rfl)) (pe_tup (pa_cons pe_str (pa_cons pe_str pa_nil))) (by rfl)) (pss_one (ps_ret pe_int)) pss_nil)
    (pss_one (ps_ret (pe_ix ix_tup (pe_meth (pe_make T.M_Evaluation G_Evaluation_init (hr.mono (by omega)) (by rfl) T.g_Evaluation T.b_Evaluation_init .nil pass0 (pa_cons (pv 0) pa_nil)) T.c_Evaluation T.m_Evaluation_counted_rounds G_Evaluation_counted_rounds (hr.mono (by omega)) T.b_Evaluation_counted_rounds .nil pass0 (pa_cons (pv 1) (pa_cons pe_dnewK pa_nil))) pe_int (fun _ _ => rfl))))), ?_⟩
  obtain ⟨dy, sr, mr, ar, td, ld, da, ta, vs0, us0, y1, yL, y2⟩ := id hS
  refine ⟨_, rfl, y, _, dy, _, _, rfl, y1, T.c_System, T.n_System_lattice, rfl, _, rfl, (by show 0 ≤ sizeLine; decide), newQ (.lst []) fun l0 hl0 s1 e1 => ?_⟩
  generalize upd H l0 (.lst []) = H1 at s1 e1 ⊢
  refine ⟨z, l0, v, L, f, [], rfl, yL.same s1, nnd, hf.same s1, hd, hvs, SqL.of (K := K) e1, hbd, (by show 0 + f.depth ≤ 1000; omega), fun H2 s2 => ?_⟩
  have s02 := s1.trans s2
  obtain ⟨pf, xs, rfl, hp, rs⟩ := hf.out
  have hp2 := s02.keeps.sqT hp
  dsimp only
  refine ⟨_, rfl, _, _, _, _, rfl, rfl, hp2, atI_nat (j := 0) rfl, (by show 2 ≤ sizeLine; decide), newQ (.tup [.str "least", .str "most"]) fun t ht s3 e3 => ?_⟩
  generalize upd H2 t (.tup [.str "least", .str "most"]) = H3 at s3 e3 ⊢
  refine ⟨t, _, rfl, .inr (SqT.of (K := K) e3), rfl, rfl, _, rfl, ?_⟩
  have s03 := s02.trans s3
  cases f with
  | fix b x a =>
    show if (!inV (.str (Fm.fix b x a).head) [.str "least", .str "most"]) = true then _ else _
    rw [show inV (.str (Fm.fix b x a).head) [.str "least", .str "most"] = true from by cases b <;> (dsimp only [Fm.head]; decide +kernel)]
    refine iteF ?_
    refine nx_run ?_
    dsimp only
    refine ⟨_, rfl, fun o dx ho hdx ne => ?_⟩
    refine ⟨o, dx, y, z, L, S, rfl, upd_same, (hS.same s03).same (in_same2 ho hdx), ?_, ?_, nnd, ok, fun H4 b4 hE => ?_⟩
    · exact fun e => by have := s03 _ _ y1; rw [e, ho] at this; cases this
    · exact (yL.same s03).ne ho
    have s34 : Same H3 H4 := made_same2 ho hdx ne b4
    have s04 := s03.trans s34
    obtain ⟨dx', sn, mv, mo, ma, mvs, a1, a2⟩ := id hE
    refine ⟨rfl, o, dx', _, rfl, a1, rfl, _, rfl, newQ (.dK []) fun n0 hn0 s5 e5 => ?_⟩
    generalize upd H4 n0 (.dK []) = H5 at s5 e5 ⊢
    have hd' : a.depth + 1 ≤ 40 := hd
    refine ⟨o, z, n0, .ref pf, L, S, b, x, a, L.e0, [], rfl, hE.same s5, ok, hin, R, n64, nnd, (hf.same s04).same s5, (by omega), hvs, hbd, fun _ _ => R.isLow.2.1, ⟨[], e5, List.nodup_nil, Nat.zero_le _, fun _ h => (nomatch h)⟩, by omega, fun t' d k H6 s6 ht' hd' lo hi => ?_⟩
    exact ⟨t', _, _, _, rfl, rfl, SqT.of (K := K) ht', atI_nat (j := 1) rfl, q k H6 ((s04.trans s5).trans s6) ⟨lo, hi⟩⟩
  | lit b => exact nti_no (by cases b <;> (dsimp only [Fm.head]; decide +kernel)) (q 0 H3 s03 rfl)
  | val s => exact nti_no (s := "value") (a := "least") (b := "most") (by decide +kernel) (q 0 H3 s03 rfl)
  | mark s => exact nti_no (s := "mark") (a := "least") (b := "most") (by decide +kernel) (q 0 H3 s03 rfl)
  | name s => exact nti_no (s := "name") (a := "least") (b := "most") (by decide +kernel) (q 0 H3 s03 rfl)
  | bin b l r => exact nti_no (by cases b <;> (dsimp only [Fm.head]; decide +kernel)) (q 0 H3 s03 rfl)
  | un b a => exact nti_no (by cases b <;> (dsimp only [Fm.head]; decide +kernel)) (q 0 H3 s03 rfl)
end
/-! ### list(d.values()); one of two readings -/
section
open PySem.Spec PyProof.Rows
variable {X : Cx} {e : Expr} {te : TE} {p apos cpos pos : Pos}
def tListVals (te : TE) : TE := fun σ H Q => te σ H fun x H1 => ∃ (d : Addr) (kvs : List (L2.Key × V)), x = .ref d ∧ H1 d = some (.dK kvs) ∧ ∀ q, H1 q = none → Q (.ref q) (upd H1 q (.lst (kvs.map Prod.snd)))
theorem vals_of_at' {xs : List V} {us : List Value} (h : xs.length = us.length) (f : ∀ (j : Nat) (x : V) (u : Value), xs[j]? = some x → us[j]? = some u → RelV x u) : Vals xs us := by
  induction xs generalizing us with
  | nil => cases us with
    | nil => exact .nil
    | cons _ _ => simp at h
  | cons x xs ih => cases us with
    | nil => simp at h
    | cons u us => exact .cons (f 0 x u rfl rfl) (ih (by simpa using h) fun j y w h1 h2 => f (j + 1) y w (by simpa using h1) (by simpa using h2))
/-- list(e.values()) -/
theorem pe_listVals (hc : X.calm = true) (he : PE X e te) (hg : Gl X "list") (hm : X.mg "list" = none) (hv : bootBuiltins "list" = some (.type "list")) (hbase : attributeBase e "values" X.env (eval e X.env) = eval e X.env := by rfl) (hline : (apos.endLine == cpos.line) = true := by rfl)
    (hs : starEach [.Call (.Attribute e "values" apos) [] [] cpos] X.env = (false, eval (.Call (.Attribute e "values" apos) [] [] cpos) X.env) :: starEach [] X.env := by rfl) :
    PE X (.Call (.Name "list" p) [.Call (.Attribute e "values" apos) [] [] cpos] [] pos) (tListVals te) := by
  refine ⟨fun pins s σ H Q I hq => ?_⟩
  refine wpAny_Call_Name_kw (ld_blt I hg hm hv ?_)
  refine PyProof.Rows.callWith_type1 ?_ hs rfl
  rw [hs]
  show wpAny _ _ (spliced ((false, eval (.Call (.Attribute e "values" apos) [] [] cpos) X.env) :: backTo pos (starEach [] X.env))) _ _ s
  refine Calls.spliced_cons ?_
  refine wpAny_Call_method (T := "dict") (id := "dict.values") hbase rfl hline F.plainAttrs_dict F.slot_dict_values F.type_dict_values (thn (he.run pins s σ H _ I hq) fun u s1 ⟨x, H1, I1, rx, d, kvs, ex, hd, q⟩ => ?_)
  subst ex
  obtain rfl : u = Value.ref d := rx
  obtain ⟨hz, hs0, vs, kv, hdo⟩ := I1.hok d _ hd
  obtain ⟨ep, hat⟩ := hdo.dictAt
  have lk : kvs.length = vs.length := Paired.length kv
  have I2 : Inv X pins σ H1 { s1 with heap := s1.heap.push { cls := .type "dict_values", data := .fields #[.ref d] } } := I1.kept (t' := s1.toks) fun b ob q => Heap.get?_push_of_some _ q
  refine ⟨hdo.typeIs, hdo.mapOf.noDict, ?_⟩
  show wpAny _ _ (callWith cpos (.builtin "dict.values") [.ref d] [] []) _ X.xe s1
  refine method_meetsIn F.slot_dict_values F.entry_dict_values rfl (PySem.evalArgs_none ⟨rfl, hdo.typeIs, F.args_dict_values_1 _, _, meets_dict_values (mixKind X.prog X.w) d hs0, ⟨vs, hdo⟩, ?_⟩)
  refine Calls.spliced_nil ?_
  refine PySem.W.kdl_call (PySem.W.kdl_values (knd := mixKind X.prog X.w) (kvs := vs) (ep := ep)) (I1.ok.hd hc) ⟨⟨_, Heap.get?_push_size _ rfl, rfl, rfl⟩, hat.push _⟩ (by omega) fun h' tk acc' c' hkeep hS hacc => ?_
  refine ⟨.ref _, upd H1 _ (.lst (kvs.map Prod.snd)), I2.laid hkeep (Nat.le_refl _) (show ObjOk X.prog X.w _ _ _ (.lst (kvs.map Prod.snd)) from ⟨?_, acc'.toList, c', ?_, ?_⟩), rfl, q _ (I2.hok.fresh (Nat.le_refl _))⟩
  · rw [List.length_map]; exact hz
  · have el : acc'.toList.length = acc'.size := by simp
    refine vals_of_at' (by rw [List.length_map, el, hacc.1, lk]) fun j x w h1 h2 => ?_
    obtain ⟨k, hky⟩ := hacc.2 j w (by rw [← Array.getElem?_toList]; exact h2)
    rw [List.getElem?_map] at h1
    obtain ⟨kx, hkx, rfl⟩ := Option.map_eq_some_iff.mp h1
    obtain ⟨y, g1, g2, g3⟩ := LiI.paired_get kv hkx
    rw [hky] at g1
    cases g1
    exact g3
  · rw [Array.toArray_toList]; exact hS
theorem pe_either {t u : TE} (h1 : PE X e t) (h2 : PE X e u) : PE X e fun σ H Q => t σ H Q ∨ u σ H Q :=
  ⟨fun pins s σ H Q I h => h.elim (fun h => h1.run pins s σ H Q I h) (fun h => h2.run pins s σ H Q I h)⟩
theorem _root_.L2.FnOk.either {P : Program} {w : World} {K : PySem.W.Frag} {mg : Str → Option Value} {base : Heap} {CX : CXT} {k : Nat} {f : Addr} {fd : FuncData} {ps : List Str} {sp sp' : Sp}
    (a : FnOk P w K mg base CX k f fd ps sp) (b : FnOk P w K mg base CX k f fd ps sp') : FnOk P w K mg base CX k f fd ps fun vs H Q E => sp vs H Q E ∨ sp' vs H Q E :=
  ⟨fun vs H Q E h => h.elim (a.len vs H Q E) (b.len vs H Q E), fun A outer s H args us vs Q E hr e hb hv h => h.elim (a.run A outer s H args us vs Q E hr e hb hv) (b.run A outer s H args us vs Q E hr e hb hv)⟩
end
/-! ### a long row of states: the plain law -/
namespace Row
open Lt
def nm (i : Nat) : Str := ("s" : Str) ++ natS i
theorem nm_all : ((List.range 72).map nm).Nodup ∧ ∀ i, i < 72 → nmB (nm i) = true := by
  constructor
  · decide +kernel
  · have h : ((List.range 72).all fun i => nmB (nm i)) = true := by decide +kernel
    exact fun i hi => List.all_eq_true.mp h i (List.mem_range.mpr hi)
theorem nm_inj {i j : Nat} (hi : i < 72) (hj : j < 72) (h : nm i = nm j) : i = j := by
  rcases Nat.lt_trichotomy i j with c | c | c
  · refine absurd ?_ (List.pairwise_iff_getElem.mp nm_all.1 i j (by simpa using hi) (by simpa using hj) c)
    rw [List.getElem_map, List.getElem_map, List.getElem_range, List.getElem_range]
    exact h
  · exact c
  · refine absurd ?_ (List.pairwise_iff_getElem.mp nm_all.1 j i (by simpa using hj) (by simpa using hi) c)
    rw [List.getElem_map, List.getElem_map, List.getElem_range, List.getElem_range]
    exact h.symm
/-- the system of a row -/
def sys (n : Nat) (h l : Nat → Nat) (k : Nat) : Sys := ⟨(List.range n).map nm, [("m", nm (n - 1), k)], (List.range (n - 1)).map fun i => (nm i, nm (i + 1), h i, l i)⟩
variable {L : Lt} {n k : Nat} {h l : Nat → Nat}
theorem sys_ok (h1 : 1 ≤ n) (h2 : n ≤ 72) : (sys n h l k).Ok where
  nm := fun s hs => by
    obtain ⟨i, hi, rfl⟩ := List.mem_map.mp hs
    exact nm_all.2 i (by have := List.mem_range.mp hi; omega)
  nd := by
    show ((List.range n).map nm).Nodup
    refine List.pairwise_iff_getElem.mpr fun i j hi hj hij => ?_
    rw [List.length_map, List.length_range] at hi hj
    rw [List.getElem_map, List.getElem_map, List.getElem_range, List.getElem_range]
    exact fun e => by have := nm_inj (by omega) (by omega) e; omega
  mnm := fun m hm => by
    obtain rfl := List.mem_singleton.mp hm
    exact ⟨by dsimp only; decide +kernel, List.mem_map.mpr ⟨n - 1, List.mem_range.mpr (by omega), rfl⟩⟩
  mnd := by
    show (List.map _ [_]).Nodup
    rw [List.map_cons, List.map_nil]
    exact List.nodup_cons.mpr ⟨fun h => by simp at h, List.nodup_nil⟩
  ast := fun a ha => by
    obtain ⟨i, hi, rfl⟩ := List.mem_map.mp ha
    have := List.mem_range.mp hi
    exact ⟨List.mem_map.mpr ⟨i, List.mem_range.mpr (by omega), rfl⟩, List.mem_map.mpr ⟨i + 1, List.mem_range.mpr (by omega), rfl⟩⟩
  and := by
    show (List.map _ ((List.range (n - 1)).map _)).Nodup
    rw [List.map_map]
    refine List.pairwise_iff_getElem.mpr fun i j hi hj hij => ?_
    rw [List.length_map, List.length_range] at hi hj
    rw [List.getElem_map, List.getElem_map, List.getElem_range, List.getElem_range]
    exact fun e => by
      have e1 : nm i = nm j := (Prod.mk.inj e).1
      have := nm_inj (by omega) (by omega) e1
      omega
  zs := by
    show ((List.range n).map nm).length ≤ 900
    rw [List.length_map, List.length_range]; omega
  zm := by show 1 ≤ 900; decide
  za := by
    show ((List.range (n - 1)).map _).length ≤ 900
    rw [List.length_map, List.length_range]; omega
theorem sys_in (hk : k < L.n) (hh : ∀ i, i + 1 < n → h i < L.n ∧ l i < L.n) : (sys n h l k).In L where
  ms := fun m hm => by
    obtain rfl := List.mem_singleton.mp hm
    exact hk
  ar := fun a ha => by
    obtain ⟨i, hi, rfl⟩ := List.mem_map.mp ha
    exact hh i (by have := List.mem_range.mp hi; omega)
theorem flt_row {β : Type} (g : Nat → Str × β) (hg : ∀ i, (g i).1 = nm i) {i : Nat} (hi : i < 72) : ∀ m, m ≤ 72 → ((List.range m).map g).filter (fun a => a.1 == nm i) = if i < m then [g i] else []
  | 0, _ => by rw [if_neg (by omega)]; rfl
  | m + 1, hm => by
    rw [List.range_succ, List.map_append, List.filter_append, flt_row g hg hi m (by omega), List.map_cons, List.map_nil, List.filter_cons, List.filter_nil, hg m]
    by_cases c : m = i
    · subst c
      rw [if_neg (by omega), if_pos (beq_self_eq_true _), if_pos (by omega)]
      rfl
    · rw [if_neg (fun e => c (nm_inj (by omega) hi (beq_iff_eq.mp e)))]
      by_cases c2 : i < m
      · rw [if_pos c2, if_pos (by omega)]; rfl
      · rw [if_neg c2, if_neg (by omega)]; rfl
theorem fr_sm (h2 : n ≤ 72) (v : Vl) {i : Nat} (hi : i < n) : ((sys n h l k).fr L).sm v (nm i) = if i + 1 < n then L.jn L.low (L.mt (h i) (v (nm (i + 1)))) else L.low := by
  show List.foldl _ L.low (((List.range (n - 1)).map fun i => (nm i, nm (i + 1), h i, l i)).filter fun a => a.1 == nm i) = _
  rw [flt_row (fun i => (nm i, nm (i + 1), h i, l i)) (fun _ => rfl) (by omega) (n - 1) (by omega)]
  by_cases c : i + 1 < n
  · rw [if_pos (by omega), if_pos c]; rfl
  · rw [if_neg (by omega), if_neg c]; rfl
theorem fr_al (h2 : n ≤ 72) (v : Vl) {i : Nat} (hi : i < n) : ((sys n h l k).fr L).al v (nm i) = if i + 1 < n then L.mt L.high (L.jn (l i) (v (nm (i + 1)))) else L.high := by
  show List.foldl _ L.high (((List.range (n - 1)).map fun i => (nm i, nm (i + 1), h i, l i)).filter fun a => a.1 == nm i) = _
  rw [flt_row (fun i => (nm i, nm (i + 1), h i, l i)) (fun _ => rfl) (by omega) (n - 1) (by omega)]
  by_cases c : i + 1 < n
  · rw [if_pos (by omega), if_pos c]; rfl
  · rw [if_neg (by omega), if_neg c]; rfl
theorem fr_ma (h2 : n ≤ 72) {i : Nat} (hi : i < n) : ((sys n h l k).fr L).ma "m" (nm i) = if i + 1 < n then L.low else k := by
  show ((List.find? (fun r : Str × Str × Nat => r.1 == "m" && r.2.1 == nm i) [("m", nm (n - 1), k)]).map fun r => r.2.2).getD L.low = _
  by_cases c : i + 1 < n
  · rw [if_pos c, List.find?_cons_of_neg (by
      dsimp only
      rw [Bool.and_eq_true, beq_iff_eq, beq_iff_eq]
      exact fun e => by have := nm_inj (by omega) (by omega) e.2; omega)]
    rfl
  · obtain rfl : i = n - 1 := by omega
    rw [if_neg c, List.find?_cons_of_pos (by
      dsimp only
      rw [Bool.and_eq_true, beq_iff_eq, beq_iff_eq]
      exact ⟨rfl, rfl⟩)]
    rfl
/-- along the row from its end -/
def alg (L : Lt) (n : Nat) (h : Nat → Nat) (k : Nat) : Nat → Nat
  | 0 => k
  | d + 1 => L.mt (h (n - 2 - d)) (alg L n h k d)
def bhd (L : Lt) (n : Nat) (h l : Nat → Nat) (k : Nat) : Nat → Nat
  | 0 => k
  | d + 1 => L.mt (h (n - 2 - d)) (L.jn (l (n - 2 - d)) (bhd L n h l k d))
variable (R : L.Reg) (h1 : 1 ≤ n) (h2 : n ≤ 72) (hk : k < L.n) (hh : ∀ i, i + 1 < n → h i < L.n ∧ l i < L.n)
section
include R hk hh
theorem alg_lt : ∀ d, d < n → alg L n h k d < L.n
  | 0, _ => hk
  | d + 1, hd => R.mlt (hh _ (by omega)).1 (alg_lt d (by omega))
theorem bhd_lt : ∀ d, d < n → bhd L n h l k d < L.n
  | 0, _ => hk
  | d + 1, hd => R.mlt (hh _ (by omega)).1 (R.jlt (hh _ (by omega)).2 (bhd_lt d (by omega)))
end
theorem it_in {F : Vl → Vl} {b : Vl} {A : Nat → Nat} (a0 : ∀ v, F v (nm (n - 1)) = A 0) (a1 : ∀ v d, d + 1 < n → v (nm (n - 1 - d)) = A d → F v (nm (n - 2 - d)) = A (d + 1)) : ∀ K d, d < n → d < K → iter F b K (nm (n - 1 - d)) = A d
  | 0, _, _, h => absurd h (Nat.not_lt_zero _)
  | K + 1, 0, _, _ => a0 _
  | K + 1, d + 1, hd, hK => by
    have := a1 (iter F b K) d hd (it_in a0 a1 K d (by omega) (by omega))
    rw [show n - 1 - (d + 1) = n - 2 - d by omega]
    exact this
theorem it_out {F : Vl → Vl} {z : Nat} (a1 : ∀ v d, d + 1 < n → v (nm (n - 1 - d)) = z → F v (nm (n - 2 - d)) = z) : ∀ K d, d < n → K ≤ d → iter F (fun _ => z) K (nm (n - 1 - d)) = z
  | 0, _, _, _ => rfl
  | K + 1, 0, _, h => absurd h (by omega)
  | K + 1, d + 1, hd, hK => by
    have := a1 (iter F (fun _ => z) K) d hd (it_out a1 K d (by omega) (by omega))
    rw [show n - 1 - (d + 1) = n - 2 - d by omega]
    exact this
/-- the formulas -/
def body0 : Fm := .bin false (.mark "m") (.un true (.name "x"))
def f0 : Fm := .fix true "x" body0
def f1 : Fm := .fix false "x" (.un false (.name "x"))
def f2 : Fm := .fix false "x" (.un true (.name "x"))
def f3 : Fm := .fix true "x" (.bin false (.mark "m") (.bin true (.un true (.lit true)) (.un false (.name "x"))))
def smk : Nat → Fm
  | 0 => .mark "m"
  | d + 1 => .un true (smk d)
section
include R h2 hk hh
theorem F0_0 (e : En) (v : Vl) (h1 : 1 ≤ n) : L.den ((sys n h l k).fr L) body0 (put e "x" v) (nm (n - 1)) = alg L n h k 0 := by
  show L.jn (((sys n h l k).fr L).ma "m" (nm (n - 1))) (((sys n h l k).fr L).sm v (nm (n - 1))) = k
  rw [fr_ma h2 (by omega), fr_sm h2 v (by omega), if_neg (by omega), if_neg (by omega), R.jlow hk]
theorem F0_1 (e : En) (v : Vl) {d : Nat} (hd : d + 1 < n) (y : Nat) (hy : y < L.n) (hv : v (nm (n - 1 - d)) = y) : L.den ((sys n h l k).fr L) body0 (put e "x" v) (nm (n - 2 - d)) = L.mt (h (n - 2 - d)) y := by
  show L.jn (((sys n h l k).fr L).ma "m" (nm (n - 2 - d))) (((sys n h l k).fr L).sm v (nm (n - 2 - d))) = _
  have hb := R.mlt (hh (n - 2 - d) (by omega)).1 hy
  have lo := R.isLow.2.1
  rw [fr_ma h2 (by omega), fr_sm h2 v (by omega), if_pos (by omega), if_pos (by omega), show n - 2 - d + 1 = n - 1 - d by omega, hv, R.jc lo hb, R.jlow hb, R.jc lo hb, R.jlow hb]
theorem rnd0_in (e : En) {K d : Nat} (hd : d < n) (hK : d < K) : rnd L ((sys n h l k).fr L) true "x" body0 e K (nm (n - 1 - d)) = alg L n h k d :=
  it_in (fun v => F0_0 R h2 hk hh e v (by omega)) (fun v d hd hv => F0_1 R h2 hk hh e v hd _ (alg_lt R hk hh d (by omega)) hv) K d hd hK
theorem rnd0_out (e : En) {K d : Nat} (hd : d < n) (hK : K ≤ d) : rnd L ((sys n h l k).fr L) true "x" body0 e K (nm (n - 1 - d)) = L.low :=
  it_out (fun v d hd hv => by rw [F0_1 R h2 hk hh e v hd _ R.isLow.2.1 hv]; exact R.mlow (hh _ (by omega)).1) K d hd hK
theorem den0 (e : En) {d : Nat} (hd : d < n) : L.den ((sys n h l k).fr L) f0 e (nm (n - 1 - d)) = alg L n h k d := by
  have p := R.pos
  refine rnd0_in R h2 hk hh e hd ?_
  show d < ((List.range n).map nm).length * L.n
  rw [List.length_map, List.length_range]
  exact Nat.lt_of_lt_of_le hd (Nat.le_mul_of_pos_right n p)
theorem big {d : Nat} (hd : d < n) : d < ((sys n h l k).fr L).st.length * L.n := by
  have p := R.pos
  show d < ((List.range n).map nm).length * L.n
  rw [List.length_map, List.length_range]
  exact Nat.lt_of_lt_of_le hd (Nat.le_mul_of_pos_right n p)
theorem den1 (e : En) {d : Nat} (hd : d < n) : L.den ((sys n h l k).fr L) f1 e (nm (n - 1 - d)) = L.high := by
  have hi := R.isHigh.2.1
  refine it_in (A := fun _ => L.high) (fun v => ?_) (fun v d hd hv => ?_) _ d hd (big R h2 hk hh hd)
  · show ((sys n h l k).fr L).al v (nm (n - 1)) = _
    rw [fr_al h2 v (by omega), if_neg (by omega)]
  · show ((sys n h l k).fr L).al v (nm (n - 2 - d)) = _
    rw [fr_al h2 v (by omega), if_pos (by omega), show n - 2 - d + 1 = n - 1 - d by omega, hv, R.jhigh (hh _ (by omega)).2, R.mm hi]
theorem den2 (e : En) {d : Nat} (hd : d < n) : L.den ((sys n h l k).fr L) f2 e (nm (n - 1 - d)) = L.low := by
  have lo := R.isLow.2.1
  refine it_in (A := fun _ => L.low) (fun v => ?_) (fun v d hd hv => ?_) _ d hd (big R h2 hk hh hd)
  · show ((sys n h l k).fr L).sm v (nm (n - 1)) = _
    rw [fr_sm h2 v (by omega), if_neg (by omega)]
  · show ((sys n h l k).fr L).sm v (nm (n - 2 - d)) = _
    rw [fr_sm h2 v (by omega), if_pos (by omega), show n - 2 - d + 1 = n - 1 - d by omega, hv, R.mlow (hh _ (by omega)).1, R.jj lo]
theorem den3 (e : En) {d : Nat} (hd : d < n) : L.den ((sys n h l k).fr L) f3 e (nm (n - 1 - d)) = bhd L n h l k d := by
  have lo := R.isLow.2.1
  have hi := R.isHigh.2.1
  refine it_in (A := bhd L n h l k) (fun v => ?_) (fun v d hd hv => ?_) _ d hd (big R h2 hk hh hd)
  · show L.jn (((sys n h l k).fr L).ma "m" (nm (n - 1))) (L.mt (((sys n h l k).fr L).sm (fun _ => L.high) (nm (n - 1))) (((sys n h l k).fr L).al v (nm (n - 1)))) = k
    rw [fr_ma h2 (by omega), fr_sm h2 _ (by omega), fr_al h2 v (by omega), if_neg (by omega), if_neg (by omega), if_neg (by omega), R.mhigh lo, R.jlow hk]
  · show L.jn (((sys n h l k).fr L).ma "m" (nm (n - 2 - d))) (L.mt (((sys n h l k).fr L).sm (fun _ => L.high) (nm (n - 2 - d))) (((sys n h l k).fr L).al v (nm (n - 2 - d)))) = L.mt (h (n - 2 - d)) (L.jn (l (n - 2 - d)) (bhd L n h l k d))
    have a := hh (n - 2 - d) (by omega)
    have b := bhd_lt R hk hh d (by omega)
    have c := R.jlt a.2 b
    have g := R.mlt a.1 c
    rw [fr_ma h2 (by omega), fr_sm h2 _ (by omega), fr_al h2 v (by omega), if_pos (by omega), if_pos (by omega), if_pos (by omega), show n - 2 - d + 1 = n - 1 - d by omega, hv, R.mhigh a.1, R.jc lo a.1, R.jlow a.1, R.mc hi c, R.mhigh c, R.jc lo g, R.jlow g]
theorem den4 (e : En) : ∀ (m : Nat) {d : Nat}, d < n → L.den ((sys n h l k).fr L) (smk m) e (nm (n - 1 - d)) = if d = m then alg L n h k m else L.low
  | 0, d, hd => by
    show ((sys n h l k).fr L).ma "m" (nm (n - 1 - d)) = _
    rw [fr_ma h2 (by omega)]
    by_cases c : d = 0
    · rw [if_neg (by omega), if_pos c]; rfl
    · rw [if_pos (by omega), if_neg c]
  | m + 1, 0, hd => by
    show ((sys n h l k).fr L).sm _ (nm (n - 1 - 0)) = _
    rw [fr_sm h2 _ (by omega), if_neg (by omega), if_neg (by omega)]
  | m + 1, d + 1, hd => by
    show ((sys n h l k).fr L).sm _ (nm (n - 1 - (d + 1))) = _
    have lo := R.isLow.2.1
    have a := (hh (n - 2 - d) (by omega)).1
    rw [fr_sm h2 _ (by omega), if_pos (by omega), show n - 1 - (d + 1) + 1 = n - 1 - d by omega, show n - 1 - (d + 1) = n - 2 - d by omega, den4 e m (by omega)]
    by_cases c : d = m
    · have b := alg_lt R hk hh m (by omega)
      have g := R.mlt a b
      rw [if_pos c, if_pos (by omega), R.jc lo g, R.jlow g, c]
      rfl
    · rw [if_neg c, if_neg (by omega), R.mlow a, R.jj lo]
/-- a piece's states stand at the end -/
theorem seg {p : Nat} (hp : p < L.n) : ∀ m, m ≤ n → ∃ c, c ≤ m ∧ ∀ d, d < m → (L.le p (alg L n h k d) = true ↔ d < c)
  | 0, _ => ⟨0, Nat.le_refl _, fun _ h => absurd h (Nat.not_lt_zero _)⟩
  | m + 1, hm => by
    obtain ⟨c, hc, H⟩ := seg hp m (by omega)
    by_cases e : L.le p (alg L n h k m) = true
    · refine ⟨m + 1, Nat.le_refl _, fun d hd => ⟨fun _ => hd, fun _ => ?_⟩⟩
      have : ∀ j, j ≤ m → L.le p (alg L n h k (m - j)) = true := by
        intro j
        induction j with
        | zero => exact fun _ => e
        | succ j ih =>
          intro hj
          have i := ih (by omega)
          rw [show m - j = (m - (j + 1)) + 1 by omega] at i
          have b := alg_lt R hk hh (m - (j + 1)) (by omega)
          have a := (hh (n - 2 - (m - (j + 1))) (by omega)).1
          have i' : L.le p (L.mt (h (n - 2 - (m - (j + 1)))) (alg L n h k (m - (j + 1)))) = true := i
          rw [R.mle a b hp, Bool.and_eq_true] at i'
          exact i'.2
      have := this (m - d) (by omega)
      rwa [show m - (m - d) = d by omega] at this
    · refine ⟨c, by omega, fun d hd => ?_⟩
      by_cases q : d = m
      · subst q
        exact ⟨fun z => absurd z e, fun z => by omega⟩
      · exact H d (by omega)
theorem seg_len {c : Nat} : ∀ m, ((List.range m).filter fun d => decide (d < c)).length = min m c
  | 0 => by rw [Nat.zero_min]; rfl
  | m + 1 => by
    rw [List.range_succ, List.filter_append, List.length_append, seg_len m, List.filter_cons, List.filter_nil]
    by_cases e : m < c
    · rw [decide_eq_true e, if_pos rfl, List.length_singleton]; omega
    · rw [decide_eq_false e, if_neg Bool.false_ne_true, List.length_nil]; omega
end
/-- the row in the order of its states -/
def row (n : Nat) (A : Nat → Nat) : List Nat := (List.range n).map fun i => A (n - 1 - i)
theorem row_rev (A : Nat → Nat) : row n A = ((List.range n).map A).reverse := by
  show (List.range n).map (fun i => A (n - 1 - i)) = _
  refine List.ext_getElem (by simp) fun i hi hj => ?_
  rw [List.getElem_map, List.getElem_range, List.getElem_reverse, List.getElem_map, List.getElem_range, List.length_map, List.length_range]
theorem row_den {F : Vl} {A : Nat → Nat} (hF : ∀ d, d < n → F (nm (n - 1 - d)) = A d) : (sys n h l k).st.map F = row n A := by
  show ((List.range n).map nm).map F = _
  rw [List.map_map]
  refine List.map_congr_left fun i hi => ?_
  have := List.mem_range.mp hi
  show F (nm i) = A (n - 1 - i)
  rw [← hF (n - 1 - i) (by omega), show n - 1 - (n - 1 - i) = i by omega]
/-- the number of states that a piece comes to -/
def many (L : Lt) (p : Nat) (xs : List Nat) : Nat := (xs.filter fun y => L.le p y).length
section
include R h1 h2 hk hh
theorem cutcnt {p : Nat} (hp : p < L.n) (hi : L.irr p = true) (e : En) : CutCnt L (sys n h l k) p true "x" body0 e (many L p (row n (alg L n h k))) := by
  obtain ⟨c, hc, H⟩ := seg R h2 hk hh hp n (Nat.le_refl _)
  have em : many L p (row n (alg L n h k)) = c := by
    unfold many
    rw [row_rev, List.filter_reverse, List.length_reverse, List.filter_map, List.length_map]
    rw [show (List.range n).filter ((fun y => L.le p y) ∘ alg L n h k) = (List.range n).filter fun d => decide (d < c) from List.filter_congr fun d hd => by
      have := H d (List.mem_range.mp hd)
      show L.le p (alg L n h k d) = decide (d < c)
      by_cases q : d < c
      · rw [decide_eq_true q]; exact this.mpr q
      · rw [decide_eq_false q]; exact Bool.eq_false_iff.mpr fun z => q (this.mp z)]
    rw [seg_len R h2 hk hh n]
    omega
  rw [em]
  constructor
  · intro j hj eq
    have := cag_of eq (nm (n - 1 - j)) (List.mem_map.mpr ⟨n - 1 - j, List.mem_range.mpr (by omega), rfl⟩)
    rw [rnd0_out R h2 hk hh e (by omega) (Nat.le_refl j), rnd0_in R h2 hk hh e (by omega) (Nat.lt_succ_self j), (H j (by omega)).mpr hj, le_low R hp hi] at this
    cases this
  · refine cut_eq fun s hs => ?_
    obtain ⟨i, hi', rfl⟩ := List.mem_map.mp hs
    have hn := List.mem_range.mp hi'
    rw [show i = n - 1 - (n - 1 - i) by omega]
    generalize hd : n - 1 - i = d
    have dn : d < n := by omega
    rcases Nat.lt_trichotomy d c with q | q | q
    · rw [rnd0_in R h2 hk hh e dn (by omega), rnd0_in R h2 hk hh e dn q]
    · rw [rnd0_in R h2 hk hh e dn (by omega), rnd0_out R h2 hk hh e dn (by omega), le_low R hp hi]
      exact Bool.eq_false_iff.mpr fun z => by have := (H d dn).mp z; omega
    · rw [rnd0_out R h2 hk hh e dn (by omega), rnd0_out R h2 hk hh e dn (by omega)]
end
end Row
/-! ### _law_formulas, _law_along -/
section
open PyProof.Rows
variable {w : World} {K : PySem.W.Frag} {mg : Str → Option Value} {base : Heap} {mm : List (Str × Addr)} {H H' : Hp} {L : Lt}
def sp_fms (K : PySem.W.Frag) : Sp := fun vs H Q _ => ∃ (d : Nat), vs = [.int (d : Nat)] ∧ d ≤ 37 ∧ ∀ (l : Addr) (v0 v1 v2 v3 v4 : V) (H' : Hp), Same H H' → H' l = some (.lst [v0, v1, v2, v3, v4]) → Rf K H' Row.f0 v0 → Rf K H' Row.f1 v1 → Rf K H' Row.f2 v2 → Rf K H' Row.f3 v3 → Rf K H' (Row.smk d) v4 → Q (.ref l) H'
theorem ok_fms {P : Program} (T : Tx K mg w) : FnOk P w K mg base CX0 1 T.a__law_formulas T.d__law_formulas ["deep"] (sp_fms K) := by
  refine T.F__law_formulas.ok sc__law_formulas (fun vs H Q E h => ?_) (fun cdv A outer s H vs Q E hr h => ?_)
  · obtain ⟨d, rfl, _⟩ := h
    rfl
  obtain ⟨d, rfl, hd, q⟩ := h
  refine ⟨_, pss_cons (ps_set (i := 1) sc__law_formulas.nd rfl (Or.inl rfl) (pe_tup (pa_cons pe_str (pa_cons pe_str pa_nil))))
    (pss_cons (ps_set (i := 2) sc__law_formulas.nd rfl (Or.inl rfl) (pe_tup (pa_cons pe_str (pa_cons (pe_tup (pa_cons pe_str (pa_cons (pe_tup (pa_cons pe_str pa_nil)) pa_nil))) (pa_cons (pe_tup (pa_cons pe_str (pa_cons (pv 1) pa_nil))) pa_nil)))))
    (pss_cons (ps_set (i := 3) sc__law_formulas.nd rfl (Or.inl rfl) (pe_lst (pa_cons (pe_tup (pa_cons pe_str (pa_cons pe_str (pa_cons (pe_tup (pa_cons pe_str (pa_cons (pe_tup (pa_cons pe_str (pa_cons pe_str pa_nil))) (pa_cons (pe_tup (pa_cons pe_str (pa_cons (pv 1) pa_nil))) pa_nil)))) pa_nil)))) (pa_cons (pe_tup (pa_cons pe_str (pa_cons pe_str (pa_cons (pe_tup (pa_cons pe_str (pa_cons (pv 1) pa_nil))) pa_nil)))) pa_nil))))
    (pss_cons (ps_expr (pe_bm PySem.F.plainAttrs_list PySem.F.slot_list_append PySem.F.type_list_append mt_append (pv 3) (pa_cons (pe_tup (pa_cons pe_str (pa_cons pe_str (pa_cons (pe_tup (pa_cons pe_str (pa_cons (pv 1) pa_nil))) pa_nil)))) pa_nil)))
    (pss_cons (ps_set (i := 4) sc__law_formulas.nd rfl (Or.inl rfl) (pe_tup (pa_cons pe_str (pa_cons pe_str pa_nil))))
    (pss_cons (ps_for PassesOwn.never rfl (pi_range1 (by rfl) T.n_range (pa_cons (pv 0) pa_nil)) (pg_name (i := 5) sc__law_formulas.nd rfl (Or.inl rfl)) (pss_one (ps_set (i := 4) sc__law_formulas.nd rfl (Or.inl rfl) (pe_tup (pa_cons pe_str (pa_cons (pv 4) pa_nil))))))
    (pss_one (ps_ret (pe_op op_cat (pv 3) (pe_lst (pa_cons (pe_tup (pa_cons pe_str (pa_cons pe_str (pa_cons (pe_tup (pa_cons pe_str (pa_cons (pe_tup (pa_cons pe_str (pa_cons pe_str pa_nil))) (pa_cons (pv 2) pa_nil)))) pa_nil)))) (pa_cons (pv 4) pa_nil))))))))))), ?_⟩
  refine ⟨(by show 2 ≤ sizeLine; decide), newQ (.tup [.str "name", .str "x"]) fun x hx s1 ex => ?_⟩
  generalize upd H x (.tup [.str "name", .str "x"]) = H1 at s1 ex ⊢
  have rx : Rf K H1 (.name "x") (.ref x) := ⟨_, rfl, .of ex⟩
  dsimp only [gName]
  refine ⟨(by show 1 ≤ sizeLine; decide), newQ (.tup [.str "true"]) fun t1 ht1 s2 et1 => ?_⟩
  generalize upd H1 t1 (.tup [.str "true"]) = H2 at s2 et1 ⊢
  refine ⟨(by show 2 ≤ sizeLine; decide), newQ (.tup [.str "some", .ref t1]) fun t2 ht2 s3 et2 => ?_⟩
  generalize upd H2 t2 (.tup [.str "some", .ref t1]) = H3 at s3 et2 ⊢
  refine ⟨_, rfl, (by show 2 ≤ sizeLine; decide), newQ (.tup [.str "all", .ref x]) fun t3 ht3 s4 et3 => ?_⟩
  generalize upd H3 t3 (.tup [.str "all", .ref x]) = H4 at s4 et3 ⊢
  refine ⟨(by show 3 ≤ sizeLine; decide), newQ (.tup [.str "and", .ref t2, .ref t3]) fun t4 ht4 s5 et4 => ?_⟩
  generalize upd H4 t4 (.tup [.str "and", .ref t2, .ref t3]) = H5 at s5 et4 ⊢
  have r4 : Rf K H5 (.bin true (.un true (.lit true)) (.un false (.name "x"))) (.ref t4) := ⟨_, _, _, rfl, .of et4, ⟨_, _, rfl, .of ((s4.trans s5) _ _ et2), _, rfl, .of (((s3.trans s4).trans s5) _ _ et1)⟩, ⟨_, _, rfl, .of (s5 _ _ et3), rx.same (((s2.trans s3).trans s4).trans s5)⟩⟩
  have rx5 := rx.same (((s2.trans s3).trans s4).trans s5)
  have s05 := (((s1.trans s2).trans s3).trans s4).trans s5
  clear s1 s2 s3 s4 s5 rx ex et1 et2 et3 et4 hx ht1 ht2 ht3 ht4
  dsimp only [gName]
  refine ⟨(by show 2 ≤ sizeLine; decide), newQ (.tup [.str "mark", .str "m"]) fun a1 ha1 s6 ea1 => ?_⟩
  generalize upd H5 a1 (.tup [.str "mark", .str "m"]) = H6 at s6 ea1 ⊢
  refine ⟨_, rfl, (by show 2 ≤ sizeLine; decide), newQ (.tup [.str "some", .ref x]) fun a2 ha2 s7 ea2 => ?_⟩
  generalize upd H6 a2 (.tup [.str "some", .ref x]) = H7 at s7 ea2 ⊢
  refine ⟨(by show 3 ≤ sizeLine; decide), newQ (.tup [.str "or", .ref a1, .ref a2]) fun a3 ha3 s8 ea3 => ?_⟩
  generalize upd H7 a3 (.tup [.str "or", .ref a1, .ref a2]) = H8 at s8 ea3 ⊢
  refine ⟨(by show 3 ≤ sizeLine; decide), newQ (.tup [.str "least", .str "x", .ref a3]) fun a4 ha4 s9 ea4 => ?_⟩
  generalize upd H8 a4 (.tup [.str "least", .str "x", .ref a3]) = H9 at s9 ea4 ⊢
  have s59 := ((s6.trans s7).trans s8).trans s9
  have f0 : Rf K H9 Row.f0 (.ref a4) := ⟨_, _, rfl, .of ea4, _, _, _, rfl, .of (s9 _ _ ea3), ⟨_, rfl, .of (((s7.trans s8).trans s9) _ _ ea1)⟩, ⟨_, _, rfl, .of ((s8.trans s9) _ _ ea2), rx5.same s59⟩⟩
  refine ⟨_, rfl, (by show 2 ≤ sizeLine; decide), newQ (.tup [.str "all", .ref x]) fun b1 hb1 s10 eb1 => ?_⟩
  generalize upd H9 b1 (.tup [.str "all", .ref x]) = H10 at s10 eb1 ⊢
  refine ⟨(by show 3 ≤ sizeLine; decide), newQ (.tup [.str "most", .str "x", .ref b1]) fun b2 hb2 s11 eb2 => ?_⟩
  generalize upd H10 b2 (.tup [.str "most", .str "x", .ref b1]) = H11 at s11 eb2 ⊢
  have f1 : Rf K H11 Row.f1 (.ref b2) := ⟨_, _, rfl, .of eb2, _, _, rfl, .of (s11 _ _ eb1), rx5.same (s59.trans (s10.trans s11))⟩
  refine ⟨(by show 2 ≤ sizeLine; decide), newQ (.lst [.ref a4, .ref b2]) fun l hl s12 el => ?_⟩
  generalize upd H11 l (.lst [.ref a4, .ref b2]) = H12 at s12 el ⊢
  dsimp only [gName]
  refine ⟨_, rfl, .inl ⟨rfl, _, SqL.of (K := K) el⟩, _, rfl, (by show 2 ≤ sizeLine; decide), newQ (.tup [.str "some", .ref x]) fun c1 hc1 s13 ec1 => ?_⟩
  generalize upd H12 c1 (.tup [.str "some", .ref x]) = H13 at s13 ec1 ⊢
  refine ⟨(by show 3 ≤ sizeLine; decide), newQ (.tup [.str "most", .str "x", .ref c1]) fun c2 hc2 s14 ec2 => ?_⟩
  generalize upd H13 c2 (.tup [.str "most", .str "x", .ref c1]) = H14 at s14 ec2 ⊢
  have s9C := s10.trans (s11.trans (s12.trans (s13.trans s14)))
  have f2 : Rf K H14 Row.f2 (.ref c2) := ⟨_, _, rfl, .of ec2, _, _, rfl, .of (s14 _ _ ec1), rx5.same (s59.trans s9C)⟩
  have el14 := (s13.trans s14) _ _ el
  refine ⟨l, _, _, rfl, rfl, el14, (by show 2 < sizeLine; decide), ?_⟩
  have hl11 : H l = none := none_of_same (s05.trans (s59.trans (s10.trans s11))) hl
  have s015 : Same H (upd H14 l (.lst ([.ref a4, .ref b2] ++ [.ref c2]))) := ((s05.trans s59).trans s9C).mut hl11 _
  have kk : Keeps H14 (upd H14 l (.lst ([.ref a4, .ref b2] ++ [.ref c2]))) := (Keeps.refl H14).mut el14 trivial
  have el15 : upd H14 l (.lst ([.ref a4, .ref b2] ++ [.ref c2])) l = some (.lst [.ref a4, .ref b2, .ref c2]) := upd_same
  have f0 := (f0.same s9C).keep kk
  have f1 := (f1.same ((s12.trans s13).trans s14)).keep kk
  have f2 := f2.keep kk
  have r4 := (r4.same (s59.trans s9C)).keep kk
  generalize upd H14 l (.lst ([.ref a4, .ref b2] ++ [.ref c2])) = H15 at s015 el15 f0 f1 f2 r4 ⊢
  clear kk el14 el ec1 ec2 s13 s14 s9C hc1 hc2 s12 s11 s10 s9 s8 s7 s6 s59 s05 rx5 hl11 eb1 eb2 ea1 ea2 ea3 ea4
  refine ⟨(by show 2 ≤ sizeLine; decide), newQ (.tup [.str "mark", .str "m"]) fun g0 hg0 s16 eg0 => ?_⟩
  generalize upd H15 g0 (.tup [.str "mark", .str "m"]) = H16 at s16 eg0 ⊢
  dsimp only [gName]
  show tSeq _ _ _ [some (.int (d : Nat)), some (.ref x), some (.ref t4), some (.ref l), some (.ref g0), none] H16
  refine st_run (fun σ H' => ∃ (v : V) (v5 : Option V), σ = [some (.int (d : Nat)), some (.ref x), some (.ref t4), some (.ref l), some v, v5] ∧ Same H15 H' ∧ Rf K H' (Row.smk d) v) (fun D' hD q' => ?_) ?_
  · refine ⟨_, rfl, _, rfl, by omega, by omega, for_range (lo := 0) (fun i σ H' => ∃ (v : V) (v5 : Option V), σ = [some (.int (d : Nat)), some (.ref x), some (.ref t4), some (.ref l), some v, v5] ∧ Same H15 H' ∧ Rf K H' (Row.smk i) v) ⟨_, _, rfl, s16, _, rfl, .of eg0⟩ ?_ ?_⟩
    · rintro i σ H17 hi ⟨v, v5, rfl, s17, rv⟩
      refine ⟨_, rfl, (by show 2 ≤ sizeLine; decide), newQ (.tup [.str "some", v]) fun y hy s18 ey => ?_⟩
      exact ⟨_, _, rfl, s17.trans s18, _, _, rfl, .of ey, rv.same s18⟩
    · rintro σ H17 ⟨v, v5, rfl, s17, rv⟩
      exact q' _ _ ⟨v, v5, rfl, s17, rv⟩
  rintro _ H17 ⟨v, v5, rfl, s17, rv⟩
  refine ⟨_, rfl, (by show 2 ≤ sizeLine; decide), newQ (.tup [.str "mark", .str "m"]) fun k1 hk1 s18 ek1 => ?_⟩
  generalize upd H17 k1 (.tup [.str "mark", .str "m"]) = H18 at s18 ek1 ⊢
  refine ⟨_, rfl, (by show 3 ≤ sizeLine; decide), newQ (.tup [.str "or", .ref k1, .ref t4]) fun k2 hk2 s19 ek2 => ?_⟩
  generalize upd H18 k2 (.tup [.str "or", .ref k1, .ref t4]) = H19 at s19 ek2 ⊢
  refine ⟨(by show 3 ≤ sizeLine; decide), newQ (.tup [.str "least", .str "x", .ref k2]) fun k3 hk3 s20 ek3 => ?_⟩
  generalize upd H19 k3 (.tup [.str "least", .str "x", .ref k2]) = H20 at s20 ek3 ⊢
  refine ⟨_, rfl, (by show 2 ≤ sizeLine; decide), newQ (.lst [.ref k3, v]) fun k4 hk4 s21 ek4 => ?_⟩
  generalize upd H20 k4 (.lst [.ref k3, v]) = H21 at s21 ek4 ⊢
  have s1520 := s17.trans ((s18.trans s19).trans s20)
  have s1521 := s1520.trans s21
  have f3 : Rf K H20 Row.f3 (.ref k3) := ⟨_, _, rfl, .of ek3, _, _, _, rfl, .of (s20 _ _ ek2), ⟨_, rfl, .of ((s19.trans s20) _ _ ek1)⟩, r4.same s1520⟩
  refine ⟨_, _, _, _, rfl, rfl, s1521 _ _ el15, ek4, (by show 5 ≤ sizeLine; decide), newQ (.lst [.ref a4, .ref b2, .ref c2, .ref k3, v]) fun z hz s22 ez => ?_⟩
  exact q z _ _ _ _ _ _ ((s015.trans s1521).trans s22) ez (f0.same (s1521.trans s22)) (f1.same (s1521.trans s22)) (f2.same (s1521.trans s22)) (f3.same (s21.trans s22)) (rv.same (((s18.trans s19).trans s20).trans (s21.trans s22)))
end
section
open PyProof.Rows
variable {w : World} {K : PySem.W.Frag} {mg : Str → Option Value} {base : Heap} {mm : List (Str × Addr)} {H H' : Hp} {L : Lt}
/-- the arrows' rows -/
structure Ars (H : Hp) (al : Addr) (c : Nat → Addr) (m : Nat) (h l : Nat → Nat) : Prop where
  at_ : H al = some (.lst ((List.range m).map fun i => V.ref (c i)))
  row : ∀ i, i < m → H (c i) = some (.lst [.int (h i : Nat), .int (l i : Nat)])
theorem Ars.same {al : Addr} {c : Nat → Addr} {m : Nat} {h l : Nat → Nat} (a : Ars H al c m h l) (s : Same H H') : Ars H' al c m h l := ⟨s _ _ a.at_, fun i hi => s _ _ (a.row i hi)⟩
theorem Ars.but {al p : Addr} {c : Nat → Addr} {m : Nat} {h l : Nat → Nat} (a : Ars H al c m h l) (b : But p H H') (na : al ≠ p) (nc : ∀ i, i < m → c i ≠ p) : Ars H' al c m h l := ⟨b _ _ na a.at_, fun i hi => b _ _ (nc i hi) (a.row i hi)⟩
theorem Ars.ix {al : Addr} {c : Nat → Addr} {m : Nat} {h l : Nat → Nat} (_ : Ars H al c m h l) {i : Nat} (hi : i < m) : ((List.range m).map fun i => V.ref (c i))[i]? = some (.ref (c i)) := rg_at hi
theorem row_len (n : Nat) (A : Nat → Nat) : (Row.row n A).length = n := by unfold Row.row; rw [List.length_map, List.length_range]
def sp_along (K : PySem.W.Frag) (mm : List (Str × Addr)) : Sp := fun vs H Q _ => ∃ (z al : Addr) (c : Nat → Addr) (L : Lt) (n k0 : Nat) (h l : Nat → Nat), vs = [.ref z, .ref al, .int (k0 : Nat)] ∧ IsLat K mm H z L ∧ L.Reg ∧ L.n ≤ 64 ∧ Ars H al c (n - 1) h l ∧ 1 ≤ n ∧ n ≤ 72 ∧ k0 < L.n ∧ (∀ i, i + 1 < n → h i < L.n ∧ l i < L.n) ∧
  ∀ (d : Addr) (H' : Hp), Same H H' → H' d = some (.lst (natV (Row.row n (Row.alg L n h k0)))) → Q (.ref d) H'
theorem ok_along {P : Program} (T : Tx K mg w) : FnOk P w K mg base CX0 3 T.a__law_along T.d__law_along ["lattice", "arrows", "last"] (sp_along K T.mm) := by
  have G_Lattice_meet_at := ok_meetR (P := P) (w := w) (base := base) T
  refine T.F__law_along.ok sc__law_along (fun vs H Q E h => ?_) (fun cdv A outer s H vs Q E hr h => ?_)
  · obtain ⟨z, al, c, L, n, k0, h, l, rfl, _⟩ := h
    rfl
  obtain ⟨z, al, c, L, n, k0, h, l, rfl, hL, R, n64, hA, h1, h2, hk, hh, q⟩ := h
  refine ⟨_, pss_cons (ps_set (i := 3) sc__law_along.nd rfl (Or.inr rfl) (pe_lst (pa_cons (pv 2) pa_nil)))
    (pss_cons (ps_for PassesOwn.never rfl (pi_range1 (by rfl) T.n_range (pa_cons (pe_callB call_len_seq (by rfl) T.n_len (by decide +kernel) (pa_cons (pv 1) pa_nil)) pa_nil)) (pg_name (i := 4) sc__law_along.nd rfl (Or.inl rfl)) (pss_cons (ps_set (i := 5) sc__law_along.nd rfl (Or.inl rfl) (pe_ix ix_list (pv 1) (pe_op op_sub (pe_op op_sub (pe_callB call_len_seq (by rfl) T.n_len (by decide +kernel) (pa_cons (pv 1) pa_nil)) pe_int) (pv 4)) (fun _ _ => rfl)))
    (pss_one (ps_expr (pe_bm PySem.F.plainAttrs_list PySem.F.slot_list_append PySem.F.type_list_append mt_append (pv 3) (pa_cons (pe_methG (pv 0) G_Lattice_meet_at (hr.mono (by omega)) T.b_Lattice_meet_at .nil pass0 (pa_cons (pe_ix ix_list (pv 5) pe_int (fun _ _ => rfl)) (pa_cons (pe_ix ix_list (pv 3) (pe_un un_neg pe_int) (fun _ _ => rfl)) pa_nil))) pa_nil))))))
    (pss_one (ps_ret (pe_lc (own := [("k", 4)]) (g := gName 4) (tt := tYes) rfl sc__law_along.nd (pi_range1 (by rfl) T.n_range (pa_cons (pe_callB call_len_seq (by rfl) T.n_len (by decide +kernel) (pa_cons (pv 3) pa_nil)) pa_nil)) (blkOk_by (N := N__law_along) (sc := defScope St__law_along) (by decide +kernel)) (fun _ _ _ _ _ => (pg_name (i := 4) sc__law_along.nd rfl (Or.inl rfl))) (fun _ _ _ _ _ => pts_nil) (fun _ _ _ _ _ => (pe_ix (kx_ix_list K) (pv 3) (pe_op op_sub (pe_op op_sub (pe_callB (kx_call_len_seq K) (by rfl) T.n_len (by decide +kernel) (pa_cons (pv 3) pa_nil)) pe_int) (pv 4)) (fun _ _ => rfl))))))), ?_⟩
  refine ⟨_, rfl, (by show 1 ≤ sizeLine; decide), newQ (.lst [.int (k0 : Nat)]) fun f hf s1 e1 => ?_⟩
  generalize upd H f (.lst [.int (k0 : Nat)]) = H1 at s1 e1 ⊢
  dsimp only [gName]
  show tSeq _ _ _ [some (.ref z), some (.ref al), some (.int (k0 : Nat)), some (.ref f), none, none] H1
  refine st_run (fun σ H' => ∃ v4 v5 : Option V, σ = [some (.ref z), some (.ref al), some (.int (k0 : Nat)), some (.ref f), v4, v5] ∧ Same H H' ∧ H' f = some (.lst (natV ((List.range n).map (Row.alg L n h k0))))) (fun D' hD q' => ?_) ?_
  · refine ⟨_, rfl, al, _, rfl, .inl (SqL.of (K := K) (s1 _ _ hA.at_)), ?_⟩
    have ln : ((List.range (n - 1)).map fun i => V.ref (c i)).length = n - 1 := by rw [List.length_map, List.length_range]
    rw [ln]
    refine ⟨_, rfl, by omega, by omega, for_range (lo := 0) (fun i σ H' => i ≤ n - 1 ∧ ∃ v4 v5 : Option V, σ = [some (.ref z), some (.ref al), some (.int (k0 : Nat)), some (.ref f), v4, v5] ∧ Same H H' ∧ H' f = some (.lst (natV ((List.range (i + 1)).map (Row.alg L n h k0))))) ⟨Nat.zero_le _, none, none, rfl, s1, e1⟩ ?_ ?_⟩
    · rintro i σ H2 hi ⟨_, v4, v5, rfl, s2, e2⟩
      have hi : i < n - 1 := hi
      have A2 := hA.same s2
      dsimp only [gName]
      have ix : atI ((List.range (n - 1)).map fun i => V.ref (c i)) (((n - 1 : Nat) : Int) - 1 - (0 + (i : Int))) = some (.ref (c (n - 2 - i))) := by
        rw [show ((n - 1 : Nat) : Int) - 1 - (0 + (i : Int)) = ((n - 2 - i : Nat) : Int) by omega]
        exact atI_nat (rg_at (by omega))
      have hr := A2.row (n - 2 - i) (by omega)
      have hb := hh (n - 2 - i) (by omega)
      refine ⟨_, rfl, _, rfl, al, _, rfl, .inl (SqL.of (K := K) A2.at_), ?_⟩
      rw [ln]
      refine ⟨_, _, rfl, rfl, _, rfl, _, _, rfl, rfl, al, _, _, _, rfl, rfl, SqL.of (K := K) A2.at_, ix, ?_⟩
      have e2' : H2 f = some (.lst (natV ((List.range i).map (Row.alg L n h k0)) ++ [.int ((Row.alg L n h k0 i : Nat))])) := by
        rw [e2, List.range_succ, List.map_append]
        unfold natV
        rw [List.map_append]
        rfl
      have ab := Row.alg_lt R hk hh i (by omega)
      refine ⟨_, rfl, .inl ⟨rfl, _, SqL.of (K := K) e2⟩, _, rfl, at_meth (hL.same s2) T.in_meet_at ⟨_, rfl, c (n - 2 - i), _, _, _, rfl, rfl, SqL.of (K := K) hr, atI_nat (j := 0) rfl, _, rfl, 1, rfl, f, _, _, _, rfl, rfl, SqL.of (K := K) e2', atI_last _ _, do_jm (hL.same s2) R n64 hb.1 ab fun H3 s3 => ?_⟩⟩
      have e3 := s3 _ _ e2
      refine ⟨f, _, _, rfl, rfl, e3, ?_, ?_⟩
      · unfold natV
        rw [List.length_map, List.length_map, List.length_range]
        exact Nat.lt_of_le_of_lt (show i + 1 ≤ 100 by omega) (by decide)
      · refine ⟨hi, _, _, rfl, (s2.trans s3).mut hf _, upd_same.trans ?_⟩
        rw [List.range_succ (n := i + 1), List.map_append]
        unfold natV
        rw [List.map_append]
        rfl
    · rintro σ H2 ⟨_, v4, v5, rfl, s2, e2⟩
      refine q' _ _ ⟨v4, v5, rfl, s2, ?_⟩
      have : (((n - 1 : Nat) : Int).toNat) + 1 = n := by omega
      rw [this] at e2
      exact e2
  rintro _ H2 ⟨v4, v5, rfl, s2, e2⟩
  refine ⟨_, rfl, f, _, rfl, .inl (SqL.of (K := K) e2), ?_⟩
  have ln : (natV ((List.range n).map (Row.alg L n h k0))).length = n := by
    unfold natV
    rw [List.length_map, List.length_map, List.length_range]
  rw [ln]
  refine ⟨_, rfl, by omega, by omega, fun D hD => ?_⟩
  refine lc_fold walk_range hD (fun i _ ys => i ≤ n ∧ ys = natV ((List.range i).map fun j => Row.alg L n h k0 (n - 1 - j))) (fun _ => ⟨Nat.zero_le _, rfl⟩) (fun i _ _ xs _ h => h) ?_ (fun _ _ => trivial) ?_ ?_
  · rintro i _ ys ⟨hi, rfl⟩
    unfold natV
    rw [List.length_map, List.length_map, List.length_range]; omega
  · rintro i x H3 H4 ys Nx Ex hi s3 ⟨_, rfl⟩ ⟨rfl, ex⟩ k1 k2
    have hi : i < n := hi
    obtain rfl := yfn0 ex
    refine ⟨rfl, ?_⟩
    refine lcY ?_
    have e3 := s3 _ _ e2
    have ix : atI (natV ((List.range n).map (Row.alg L n h k0))) ((n : Int) - 1 - (i : Int)) = some (.int (Row.alg L n h k0 (n - 1 - i) : Nat)) := by
      rw [show (n : Int) - 1 - (i : Int) = ((n - 1 - i : Nat) : Int) by omega]
      refine atI_nat ?_
      unfold natV
      rw [List.getElem?_map, List.getElem?_map, List.getElem?_range (by omega)]
      rfl
    refine ⟨_, rfl, _, rfl, f, _, rfl, .inl (SqL.of (K := K) e3), ?_⟩
    rw [ln]
    refine ⟨_, _, rfl, rfl, _, rfl, _, _, rfl, rfl, f, _, _, _, rfl, rfl, SqL.of (K := K) e3, ix, k1 _ _ (Same.refl _) ⟨hi, ?_⟩⟩
    rw [List.range_succ, List.map_append]
    unfold natV
    rw [List.map_append]
    rfl
  rintro H3 ys s3 h3 ⟨_, rfl⟩
  exact q D _ (s2.trans s3) h3
end
/-! ### the law k47 -/
section
open PyProof.Rows
variable {w : World} {K : PySem.W.Frag} {mg : Str → Option Value} {base : Heap} {mm : List (Str × Addr)} {H H' : Hp} {L : Lt}
theorem IsSys.drawS {C y z p ce : Addr} {S : Sys} (h : IsSys K mm C H y z L S) (s : Src K ce H p) (b : But p H H') : IsSys K mm C H' y z L S := by
  obtain ⟨dx, sr, mr, ar, td, ld, da, ta, vs, us, h1, h2, h3, h4, h5, h6, h7, t⟩ := h
  have k := s.keeps b
  obtain ⟨_, _, _, _, S0⟩ := id s
  have up : ∀ {a : Addr} {o : HO}, H a = some o → (∀ l, o ≠ .lst l) → H' a = some o := fun {a o} h n => b _ _ (fun e => by rw [e, S0.at_] at h; exact n _ (Option.some.inj h).symm) h
  refine ⟨dx, sr, mr, ar, td, ld, da, ta, vs, us, up h1 (fun l e => by cases e), h2.drawn s b, k.sqT h3, k.sqT h4, h5.keep k, k.sqT h6, h7.keep k, up t.tdE (fun l e => by cases e), up t.ldE (fun l e => by cases e), fun s hs => ⟨up (t.at_ s hs).1 (fun l e => by cases e), (t.at_ s hs).2⟩, t.inj, fun a ha => k.sqT (t.tup a ha), t.ends⟩
/-- the lattices of long rows -/
structure Plain (L : Lt) : Prop where
  reg : L.Reg
  n64 : L.n ≤ 64
  nd : L.names.Nodup
  ok : ∀ x ∈ L.names, PyData.strOk x = true
theorem chain_plain : ∀ i : Fin 4, Plain (chainL (2 + i.val)) := fun i => ⟨chain_reg (by omega), by rw [chainL_n]; omega, (by
    have : ∀ i : Fin 4, (chainL (2 + i.val)).names.Nodup := by decide +kernel
    exact this i), (by
    have : ∀ i : Fin 4, ∀ x ∈ (chainL (2 + i.val)).names, PyData.strOk x = true := by decide +kernel
    exact this i)⟩
theorem sets_plain : ∀ i : Fin 3, Plain (setsL (1 + i.val)) := fun i => ⟨sets_reg _, (by
    have : ∀ i : Fin 3, (setsL (1 + i.val)).n ≤ 64 := by decide +kernel
    exact this i), (by
    have : ∀ i : Fin 3, (setsL (1 + i.val)).names.Nodup := by decide +kernel
    exact this i), (by
    have : ∀ i : Fin 3, ∀ x ∈ (setsL (1 + i.val)).names, PyData.strOk x = true := by decide +kernel
    exact this i)⟩
theorem nm_len {i : Nat} (h : i < 72) : ("s" : Str).length + (natS i).length ≤ sizeLine := by
  have a : ∀ i : Fin 72, ("s" : Str).length + (natS i.val).length ≤ 10 := by decide +kernel
  exact Nat.le_trans (a ⟨i, h⟩) (by decide)
/-- what stands while the rows are drawn -/
structure Rw (K : PySem.W.Frag) (mm : List (Str × Addr)) (H : Hp) (p ce z st ar : Addr) (L : Lt) (n : Nat) (c : Nat → Addr) (h l : Nat → Nat) : Prop where
  src : Src K ce H p
  cu : ∃ u, H ce = some u
  lat : IsLat K mm H z L
  st_ : H st = some (.lst (((List.range n).map Row.nm).map V.str))
  ars : Ars H ar c (n - 1) h l
  inj : ∀ i j, i < n - 1 → j < n - 1 → c i = c j → i = j
  ne : ∀ i, i < n - 1 → c i ≠ p ∧ c i ≠ ce ∧ c i ≠ st ∧ c i ≠ ar
  np : st ≠ p ∧ ar ≠ p ∧ ce ≠ p
  hh : ∀ i, i + 1 < n → h i < L.n ∧ l i < L.n
theorem Rw.same {p ce z st ar : Addr} {n : Nat} {c : Nat → Addr} {h l : Nat → Nat} (b : Rw K mm H p ce z st ar L n c h l) (s : Same H H') : Rw K mm H' p ce z st ar L n c h l :=
  ⟨b.src.same s, b.cu.imp fun _ h => s _ _ h, b.lat.same s, s _ _ b.st_, b.ars.same s, b.inj, b.ne, b.np, b.hh⟩
theorem Rw.draw {p ce z st ar : Addr} {n : Nat} {c : Nat → Addr} {h l : Nat → Nat} (b : Rw K mm H p ce z st ar L n c h l) (e : But p H H') (s : Src K ce H' p) : Rw K mm H' p ce z st ar L n c h l :=
  ⟨s, b.cu.imp fun _ h => e _ _ b.np.2.2 h, b.lat.drawn b.src e, e _ _ b.np.1 b.st_, b.ars.but e b.np.2.1 fun i hi => (b.ne i hi).1, b.inj, b.ne, b.np, b.hh⟩
theorem Rw.put {p ce z st ar : Addr} {n : Nat} {c : Nat → Addr} {h l : Nat → Nat} (b : Rw K mm H p ce z st ar L n c h l) {i : Nat} (hi : i < n - 1) {u v : Nat} (hu : u < L.n) (hv : v < L.n) :
    Rw K mm (upd H (c i) (.lst [.int (u : Nat), .int (v : Nat)])) p ce z st ar L n c (fun j => if j = i then u else h j) (fun j => if j = i then v else l j) := by
  have e : But (c i) H (upd H (c i) (.lst [.int (u : Nat), .int (v : Nat)])) := (But.refl _ _).upd _
  obtain ⟨n1, n2, n3, n4⟩ := b.ne i hi
  refine ⟨b.src.upd n1 n2 _, b.cu.imp fun _ h => e _ _ n2.symm h, b.lat.app (b.ars.row i hi) e, e _ _ n3.symm b.st_, ⟨e _ _ n4.symm b.ars.at_, fun j hj => ?_⟩, b.inj, b.ne, b.np, fun j hj => ?_⟩
  · by_cases q : j = i
    · subst q
      simp only [if_true]
      exact upd_same
    · simp only [if_neg q]
      exact e _ _ (fun z => q (b.inj j i hj hi z)) (b.ars.row j hj)
  · by_cases q : j = i
    · simp only [if_pos q]
      exact ⟨hu, hv⟩
    · simp only [if_neg q]
      exact b.hh j hj
theorem ends_at {z : Addr} (hL : IsLat K mm H z L) (R : L.Reg) : ∃ C dx fs, H z = some (.ins C dx fs) ∧ Cls K C ∧ NoAttr K C "top_at" ∧ fs.lookup ("top_at" : Str) = some (.int (L.high : Nat)) ∧ NoAttr K C "bottom_at" ∧ fs.lookup ("bottom_at" : Str) = some (.int (L.low : Nat)) := by
  obtain ⟨C, dx, fs, tn, td, tu, A⟩ := hL
  exact ⟨C, dx, fs, A.at_, A.c.cl, A.c.na _ (by decide), (by rw [A.top, R.isHigh.1]; rfl), A.c.na _ (by decide), (by rw [A.bot, R.isLow.1]; rfl)⟩
theorem rep_row (n a : Nat) : (List.replicate ((n : Nat) : Int).toNat [V.int (a : Nat)]).flatten = natV (Row.row n fun _ => a) := by
  rw [Int.toNat_natCast]
  unfold natV Row.row
  induction n with
  | zero => rfl
  | succ n ih =>
    rw [List.replicate_succ', List.flatten_append, ih, List.range_succ, List.map_append, List.map_append]
    rfl
theorem row_get {n : Nat} (A : Nat → Nat) {i : Nat} (h : i < n) : (natV (Row.row n A))[i]? = some (.int (A (n - 1 - i) : Nat)) := by
  unfold natV Row.row
  rw [List.getElem?_map, List.getElem?_map, List.getElem?_range h]
  rfl
theorem row_set {n m a : Nat} (h : m < n) (A : Nat → Nat) : (natV (Row.row n A)).set (n - 1 - m) (.int (a : Nat)) = natV (Row.row n fun d => if d = m then a else A d) := by
  refine List.ext_getElem? fun i => ?_
  by_cases c : i < n
  · rw [row_get _ c]
    by_cases e : n - 1 - m = i
    · rw [e, List.getElem?_set_self (by unfold natV; rw [List.length_map, row_len]; exact c), if_pos (by omega)]
    · rw [List.getElem?_set_ne e, row_get _ c, if_neg (by omega)]
  · rw [List.getElem?_eq_none (by rw [List.length_set]; unfold natV; rw [List.length_map, row_len]; omega), List.getElem?_eq_none (by unfold natV; rw [List.length_map, row_len]; omega)]
theorem row_same {n : Nat} {A B : Nat → Nat} (h : ∀ d, d < n → A d = B d) : Row.row n A = Row.row n B := List.map_congr_left fun i hi => by
  have := List.mem_range.mp hi
  exact h _ (by omega)
theorem ok_law (T : Tx K mg w) : FnOk PL w K mg base CX0 140 T.a_law T.d_law ["script"] (spLaw K) := by
  have G__law_cells := ok__law_cells (P := PL) (w := w) (base := base) T
  have G__law_pick := ok__law_pick (P := PL) (w := w) (base := base) T
  have G_ChainLattice_init := ok_chain (w := w) (base := base) T
  have G_SetLattice_init := ok_sets (w := w) (base := base) T
  have G_Lattice_name_at := ok_name_at (P := PL) (w := w) (base := base) T
  have G_System_init := ok_sysi (P := PL) (base := base) T
  have G__law_formulas := ok_fms (P := PL) (w := w) (base := base) T
  have G__law_along := ok_along (P := PL) (w := w) (base := base) T
  have G_Lattice_meet_at := ok_meetR (P := PL) (w := w) (base := base) T
  have G_Lattice_join_at := ok_joinR (P := PL) (w := w) (base := base) T
  have G_Lattice_within_at := ok_within (P := PL) (w := w) (base := base) T
  have G_Lattice_irreducibles := ok_irr (P := PL) (w := w) (base := base) T
  have G_values := ok_vals (P := PL) (base := base) T
  have G_rounds := ok_rnd (base := base) T
  refine T.F_law.ok sc_law (fun vs H Q E h => ?_) (fun cdv A outer s H vs Q E hr h => ?_)
  · obtain ⟨a, ns, rfl, _⟩ := h
    rfl
  obtain ⟨sa, ns, rfl, hS, h63, q⟩ := h
  have hu := hu_of hr
  refine ⟨_, pss_cons (ps_set (i := 1) sc_law.nd rfl (Or.inl rfl) (pe_call G__law_cells (hr.mono (by omega)) (by rfl) T.g__law_cells T.F__law_cells.kp T.b__law_cells .nil pass0 (pa_cons (pv 0) pa_nil)))
    (pss_cons (ps_set (i := 2) sc_law.nd rfl (Or.inr rfl) (pe_ifExp (pt_cmpR op_eq (pe_call G__law_pick (hr.mono (by omega)) (by rfl) T.g__law_pick T.F__law_pick.kp T.b__law_pick .nil pass0 (pa_cons (pv 1) (pa_cons pe_int pa_nil))) pe_int (nomark _)) (pe_make T.M_ChainLattice G_ChainLattice_init (hr.mono (by omega)) (by rfl) T.g_ChainLattice T.b_ChainLattice_init .nil pass0 (pa_cons (pe_op op_add pe_int (pe_call G__law_pick (hr.mono (by omega)) (by rfl) T.g__law_pick T.F__law_pick.kp T.b__law_pick .nil pass0 (pa_cons (pv 1) (pa_cons pe_int pa_nil)))) pa_nil)) (pe_make T.M_SetLattice G_SetLattice_init (hr.mono (by omega)) (by rfl) T.g_SetLattice T.b_SetLattice_init .nil pass0 (pa_cons (pe_op op_add pe_int (pe_call G__law_pick (hr.mono (by omega)) (by rfl) T.g__law_pick T.F__law_pick.kp T.b__law_pick .nil pass0 (pa_cons (pv 1) (pa_cons pe_int pa_nil)))) pa_nil))))
    (pss_cons (ps_set (i := 3) sc_law.nd rfl (Or.inr rfl) (pe_op op_add pe_int (pe_call G__law_pick (hr.mono (by omega)) (by rfl) T.g__law_pick T.F__law_pick.kp T.b__law_pick .nil pass0 (pa_cons (pv 1) (pa_cons (pe_ix ix_list (pe_lst (pa_cons pe_int (pa_cons pe_int pa_nil))) (pe_call G__law_pick (hr.mono (by omega)) (by rfl) T.g__law_pick T.F__law_pick.kp T.b__law_pick .nil pass0 (pa_cons (pv 1) (pa_cons pe_int pa_nil))) (fun _ _ => rfl)) pa_nil)))))
    (pss_cons (ps_setLc (i := 4) (own := [("k", 5)]) (g := gName 5) (tt := tYes) rfl sc_law.nd rfl rfl (sw_true rfl rfl rfl (by decide +kernel)) (pi_range1 (by rfl) T.n_range (pa_cons (pv 3) pa_nil)) (blkOk_by (N := N_law) (sc := defScope St_law) (by decide +kernel)) (fun _ _ _ _ _ => (pg_name (i := 5) sc_law.nd rfl (Or.inl rfl))) (fun _ _ _ _ _ => pts_nil) (fun _ _ _ _ _ => (pe_op op_add_str pe_str (pe_callTy call_str_int (by rfl) T.n_str (by decide +kernel) (pa_cons (pv 5) pa_nil)))))
    (pss_cons (ps_setLc (i := 6) (own := [("k", 5)]) (g := gName 5) (tt := tYes) rfl sc_law.nd rfl rfl (sw_true rfl rfl rfl (by decide +kernel)) (pi_range1 (by rfl) T.n_range (pa_cons (pe_op op_sub (pv 3) pe_int) pa_nil)) (blkOk_by (N := N_law) (sc := defScope St_law) (by decide +kernel)) (fun _ _ _ _ _ => (pg_name (i := 5) sc_law.nd rfl (Or.inl rfl))) (fun _ _ _ _ _ => pts_nil) (fun _ _ _ _ _ => (pe_lst (pa_cons (kx_pe_fld K (pe_fld (pv 2) rfl)) (pa_cons (kx_pe_fld K (pe_fld (pv 2) rfl)) pa_nil)))))
    (pss_cons (ps_for PassesOwn.never rfl (pi_range1 (by rfl) T.n_range (pa_cons (pe_call G__law_pick (hr.mono (by omega)) (by rfl) T.g__law_pick T.F__law_pick.kp T.b__law_pick .nil pass0 (pa_cons (pv 1) (pa_cons pe_int pa_nil))) pa_nil)) (pg_name (i := 5) sc_law.nd rfl (Or.inl rfl)) (pss_cons (ps_set (i := 7) sc_law.nd rfl (Or.inl rfl) (pe_ix ix_list (pv 6) (pe_call G__law_pick (hr.mono (by omega)) (by rfl) T.g__law_pick T.F__law_pick.kp T.b__law_pick .nil pass0 (pa_cons (pv 1) (pa_cons (pe_op op_sub (pv 3) pe_int) pa_nil))) (fun _ _ => rfl)))
    (pss_cons (ps_asg (pe_call G__law_pick (hr.mono (by omega)) (by rfl) T.g__law_pick T.F__law_pick.kp T.b__law_pick .nil pass0 (pa_cons (pv 1) (pa_cons (pe_fld (pv 2) rfl) pa_nil))) (pg_sub (pv 7) pe_int set_list))
    (pss_one (ps_asg (pe_call G__law_pick (hr.mono (by omega)) (by rfl) T.g__law_pick T.F__law_pick.kp T.b__law_pick .nil pass0 (pa_cons (pv 1) (pa_cons (pe_fld (pv 2) rfl) pa_nil))) (pg_sub (pv 7) pe_int set_list))))))
    (pss_cons (ps_set (i := 8) sc_law.nd rfl (Or.inl rfl) (pe_call G__law_pick (hr.mono (by omega)) (by rfl) T.g__law_pick T.F__law_pick.kp T.b__law_pick .nil pass0 (pa_cons (pv 1) (pa_cons (pe_fld (pv 2) rfl) pa_nil))))
    (pss_cons (ps_set (i := 9) sc_law.nd rfl (Or.inl rfl) (pe_lst pa_nil))
    (pss_cons (ps_for PassesOwn.never rfl (pi_range1 (by rfl) T.n_range (pa_cons (pe_op op_sub (pv 3) pe_int) pa_nil)) (pg_name (i := 5) sc_law.nd rfl (Or.inl rfl)) (pss_one (ps_expr (pe_bm PySem.F.plainAttrs_list PySem.F.slot_list_append PySem.F.type_list_append mt_append (pv 9) (pa_cons (pe_tup (pa_cons (pe_ix ix_list (pv 4) (pv 5) (fun _ _ => rfl)) (pa_cons (pe_ix ix_list (pv 4) (pe_op op_add (pv 5) pe_int) (fun _ _ => rfl)) (pa_cons (pe_methG (pv 2) G_Lattice_name_at (hr.mono (by omega)) T.b_Lattice_name_at .nil pass0 (pa_cons (pe_ix ix_list (pe_ix ix_list (pv 6) (pv 5) (fun _ _ => rfl)) pe_int (fun _ _ => rfl)) pa_nil)) (pa_cons (pe_methG (pv 2) G_Lattice_name_at (hr.mono (by omega)) T.b_Lattice_name_at .nil pass0 (pa_cons (pe_ix ix_list (pe_ix ix_list (pv 6) (pv 5) (fun _ _ => rfl)) pe_int (fun _ _ => rfl)) pa_nil)) pa_nil))))) pa_nil)))))
    (pss_cons (ps_set (i := 10) sc_law.nd rfl (Or.inl rfl) (pe_make T.M_System G_System_init (hr.mono (by omega)) (by rfl) T.g_System T.b_System_init .nil pass0 (pa_cons (pv 2) (pa_cons (pv 4) (pa_cons (pe_lst (pa_cons (pe_tup (pa_cons pe_str (pa_cons (pe_ix ix_list (pv 4) (pe_un un_neg pe_int) (fun _ _ => rfl)) (pa_cons (pe_methG (pv 2) G_Lattice_name_at (hr.mono (by omega)) T.b_Lattice_name_at .nil pass0 (pa_cons (pv 8) pa_nil)) pa_nil)))) pa_nil)) (pa_cons (pv 9) pa_nil))))))
    (pss_cons (ps_set (i := 11) sc_law.nd rfl (Or.inl rfl) (pe_call G__law_pick (hr.mono (by omega)) (by rfl) T.g__law_pick T.F__law_pick.kp T.b__law_pick .nil pass0 (pa_cons (pv 1) (pa_cons pe_int pa_nil))))
    (pss_cons (ps_set (i := 12) sc_law.nd rfl (Or.inl rfl) (pe_call G__law_formulas (hr.mono (by omega)) (by rfl) T.g__law_formulas T.F__law_formulas.kp T.b__law_formulas .nil pass0 (pa_cons (pv 11) pa_nil)))
    (pss_cons (ps_set (i := 13) sc_law.nd rfl (Or.inl rfl) (pe_lst (pa_cons (pe_call G__law_along (hr.mono (by omega)) (by rfl) T.g__law_along T.F__law_along.kp T.b__law_along .nil pass0 (pa_cons (pv 2) (pa_cons (pv 6) (pa_cons (pv 8) pa_nil)))) (pa_cons (pe_op op_rep (pe_lst (pa_cons (pe_fld (pv 2) rfl) pa_nil)) (pv 3)) (pa_cons (pe_op op_rep (pe_lst (pa_cons (pe_fld (pv 2) rfl) pa_nil)) (pv 3)) pa_nil)))))
    (pss_cons (ps_set (i := 14) sc_law.nd rfl (Or.inr rfl) (pe_lst (pa_cons (pv 8) pa_nil)))
    (pss_cons (ps_for PassesOwn.never rfl (pi_range1 (by rfl) T.n_range (pa_cons (pe_op op_sub (pv 3) pe_int) pa_nil)) (pg_name (i := 5) sc_law.nd rfl (Or.inl rfl)) (pss_cons (ps_set (i := 7) sc_law.nd rfl (Or.inl rfl) (pe_ix ix_list (pv 6) (pe_op op_sub (pe_op op_sub (pv 3) pe_int) (pv 5)) (fun _ _ => rfl)))
    (pss_one (ps_expr (pe_bm PySem.F.plainAttrs_list PySem.F.slot_list_append PySem.F.type_list_append mt_append (pv 14) (pa_cons (pe_methG (pv 2) G_Lattice_meet_at (hr.mono (by omega)) T.b_Lattice_meet_at .nil pass0 (pa_cons (pe_ix ix_list (pv 7) pe_int (fun _ _ => rfl)) (pa_cons (pe_methG (pv 2) G_Lattice_join_at (hr.mono (by omega)) T.b_Lattice_join_at .nil pass0 (pa_cons (pe_ix ix_list (pv 7) pe_int (fun _ _ => rfl)) (pa_cons (pe_ix ix_list (pv 14) (pe_un un_neg pe_int) (fun _ _ => rfl)) pa_nil))) pa_nil))) pa_nil))))))
    (pss_cons (ps_expr (pe_bm PySem.F.plainAttrs_list PySem.F.slot_list_append PySem.F.type_list_append mt_append (pv 13) (pa_cons (pe_lc (own := [("k", 5)]) (g := gName 5) (tt := tYes) rfl sc_law.nd (pi_range1 (by rfl) T.n_range (pa_cons (pv 3) pa_nil)) (blkOk_by (N := N_law) (sc := defScope St_law) (by decide +kernel)) (fun _ _ _ _ _ => (pg_name (i := 5) sc_law.nd rfl (Or.inl rfl))) (fun _ _ _ _ _ => pts_nil) (fun _ _ _ _ _ => (pe_ix (kx_ix_list K) (pv 14) (pe_op op_sub (pe_op op_sub (pv 3) pe_int) (pv 5)) (fun _ _ => rfl)))) pa_nil)))
    (pss_cons (ps_expr (pe_bm PySem.F.plainAttrs_list PySem.F.slot_list_append PySem.F.type_list_append mt_append (pv 13) (pa_cons (pe_op op_rep (pe_lst (pa_cons (pe_fld (pv 2) rfl) pa_nil)) (pv 3)) pa_nil)))
    (pss_cons (ps_if (pt_cmpR op_lt (pv 11) (pv 3) (nomark _)) (pss_cons (ps_set (i := 7) sc_law.nd rfl (Or.inl rfl) (pe_ix ix_list (pv 13) pe_int (fun _ _ => rfl)))
    (pss_one (ps_asg (pe_ix ix_list (pe_ix ix_list (pv 13) pe_int (fun _ _ => rfl)) (pe_op op_sub (pe_op op_sub (pv 3) pe_int) (pv 11)) (fun _ _ => rfl)) (pg_sub (pv 7) (pe_op op_sub (pe_op op_sub (pv 3) pe_int) (pv 11)) set_list)))) pss_nil)
    (pss_cons (ps_for PassesOwn.never rfl (pi_range1 (by rfl) T.n_range (pa_cons pe_int pa_nil)) (pg_name (i := 5) sc_law.nd rfl (Or.inl rfl)) (pss_cons (ps_set (i := 15) sc_law.nd rfl (Or.inl rfl) (pe_call G_values (hr.mono (by omega)) (by rfl) T.g_values T.F_values.kp T.b_values .nil pass0 (pa_cons (pv 10) (pa_cons (pe_ix ix_list (pv 12) (pv 5) (fun _ _ => rfl)) pa_nil))))
    (pss_one (ps_if (pt_cmpR (op_neX hr.un2) (pe_listVals rfl (pv 15) (by rfl) T.n_list (by decide +kernel)) (pe_lc (own := [("place", 16)]) (g := gName 16) (tt := tYes) rfl sc_law.nd (pi_list (pe_ix ix_list (pv 13) (pv 5) (fun _ _ => rfl))) (blkOk_by (N := N_law) (sc := defScope St_law) (by decide +kernel)) (fun _ _ _ _ _ => (pg_name (i := 16) sc_law.nd rfl (Or.inl rfl))) (fun _ _ _ _ _ => pts_nil) (fun _ _ _ _ _ => (kx_methG K (pe_methG (pv 2) G_Lattice_name_at (hr.mono (by omega)) T.b_Lattice_name_at .nil pass0 (pa_cons (pv 16) pa_nil))))) (nomark _)) (pss_one (ps_ret pe_bl)) pss_nil))))
    (pss_cons (ps_set (i := 17) sc_law.nd rfl (Or.inl rfl) pe_int)
    (pss_cons (ps_for PassesOwn.never rfl (pi_list (pe_methG0 (pv 2) G_Lattice_irreducibles (hr.mono (by omega)) T.b_Lattice_irreducibles .nil pass0)) (pg_name (i := 18) sc_law.nd rfl (Or.inr rfl)) (pss_one (ps_set (i := 17) sc_law.nd rfl (Or.inl rfl) (pe_callB (call_max2 rfl) (by rfl) T.n_max (by decide +kernel) (pa_cons (pe_callTy call_int1 (by rfl) T.n_int (by decide +kernel) (pa_cons (pv 17) pa_nil)) (pa_cons (pe_callB call_len_seq (by rfl) T.n_len (by decide +kernel) (pa_cons (pe_lc (own := [("place", 16)]) (g := gName 16) rfl sc_law.nd (pi_list (pe_ix ix_list (pv 13) pe_int (fun _ _ => rfl))) (blkOk_by (N := N_law) (sc := defScope St_law) (by decide +kernel)) (fun _ _ _ _ _ => (pg_name (i := 16) sc_law.nd rfl (Or.inl rfl))) (fun _ _ _ _ _ => (pts_one (pt_val (kx_methG K (pe_methG (pv 2) G_Lattice_within_at (hr.mono (by omega)) T.b_Lattice_within_at .nil pass0 (pa_cons (pv 18) (pa_cons (pv 16) pa_nil))))))) (fun _ _ _ _ _ => (pv 16))) pa_nil)) pa_nil))))))
    (pss_one (ps_ret (pe_cmpR op_eq (pe_call G_rounds (hr.mono (by omega)) (by rfl) T.g_rounds T.F_rounds.kp T.b_rounds .nil pass0 (pa_cons (pv 10) (pa_cons (pe_ix ix_list (pv 12) pe_int (fun _ _ => rfl)) pa_nil))) (pv 17) (nomark _)))))))))))))))))))))))), ?_⟩
  refine ⟨_, rfl, sa, ns, rfl, hS, h63, fun p c m cs H1 sm cp hc pos hp m0 m1 => ?_⟩
  have src1 : Src K c H1 p := ⟨cs, 0, 1, m, ⟨hp, SqL.of (K := K) hc, cp, Nat.zero_le _, by decide, pos, m0, m1⟩⟩
  dsimp only [gName]
  show tSeq _ _ _ [some (.ref sa), some (.ref p), none, none, none, none, none, none, none, none, none, none, none, none, none, none, none, none, none] H1
  -- the lattice
  refine set_run (fun v H' => ∃ (z : Addr) (L : Lt), v = .ref z ∧ Plain L ∧ IsLat K T.mm H' z L ∧ But p H1 H' ∧ Src K c H' p) (fun Q' q' => ?_) ?_
  · refine ⟨_, rfl, p, c, 2, rfl, src1, by decide, fun d H2 b2 s2 d0 d1 => ⟨rfl, _, rfl, ?_⟩⟩
    refine ite2 (fun _ => ?_) (fun _ => ?_)
    · refine ⟨_, rfl, p, c, 4, rfl, s2, by decide, fun e H3 b3 s3 e0 e1 => ⟨_, _, rfl, rfl, fun z dx hz hd ne => mk_chain (n := 2 + e.toNat) (by omega) (by omega) (by omega) hz hd ne fun H4 s4 hL => ⟨rfl, ?_⟩⟩⟩
      exact q' _ _ ⟨z, _, rfl, chain_plain ⟨e.toNat, by omega⟩, hL, (b2.trans b3).trans (s4.but p), s3.same s4⟩
    · refine ⟨_, rfl, p, c, 3, rfl, s2, by decide, fun e H3 b3 s3 e0 e1 => ⟨_, _, rfl, rfl, fun z dx hz hd ne => mk_sets (n := 1 + e.toNat) (by omega) (by omega) (by omega) hz hd ne fun H4 s4 hL => ⟨rfl, ?_⟩⟩⟩
      exact q' _ _ ⟨z, _, rfl, sets_plain ⟨e.toNat, by omega⟩, hL, (b2.trans b3).trans (s4.but p), s3.same s4⟩
  rintro _ H2 ⟨z, L, rfl, PL, hL, b2, s2⟩
  obtain ⟨R, n64, nnd, nok⟩ := id PL
  have pos := R.pos
  have c2 := b2 _ _ cp hc
  dsimp only [gName]
  show tSeq _ _ _ [some (.ref sa), some (.ref p), some (.ref z), none, none, none, none, none, none, none, none, none, none, none, none, none, none, none, none] H2
  refine set_run (fun v H' => ∃ n : Nat, v = .int (n : Nat) ∧ 2 ≤ n ∧ n ≤ 71 ∧ But p H2 H' ∧ Src K c H' p) (fun Q' q' => ?_) ?_
  · refine ⟨_, rfl, (by show 2 ≤ sizeLine; decide), newQ (.lst [.int 9, .int 70]) fun l hl s3 e3 => ?_⟩
    generalize upd H2 l (.lst [.int 9, .int 70]) = H3 at s3 e3 ⊢
    refine ⟨_, rfl, p, c, 2, rfl, s2.same s3, by decide, fun d H4 b4 s4 d0 d1 => ?_⟩
    have e4 := b4 _ _ (s2.ne hl) e3
    have hk : ∃ m : Int, m ≤ 70 ∧ 0 ≤ m ∧ atI [V.int 9, V.int 70] d = some (.int m) := by
      rcases (by omega : d = 0 ∨ d = 1) with rfl | rfl
      · exact ⟨9, by decide, by decide, rfl⟩
      · exact ⟨70, by decide, by decide, rfl⟩
    obtain ⟨m, m70, m0, hm⟩ := hk
    refine ⟨l, _, _, _, rfl, rfl, SqL.of (K := K) e4, hm, p, c, m, rfl, s4, by omega, fun g H5 b5 s5 g0 g1 => ⟨_, _, rfl, rfl, ?_⟩⟩
    refine q' _ _ ⟨2 + g.toNat, by show V.int (2 + g) = _; rw [show 2 + g = ((2 + g.toNat : Nat) : Int) by omega], by omega, by omega, ((s3.but p).trans b4).trans b5, s5⟩
  rintro _ H3 ⟨n, rfl, n2, n71, b3, s3⟩
  have c3 := b3 _ _ cp c2
  have L3 := hL.drawn s2 b3
  clear b3 s2 c2 hL b2 src1 hp hc
  dsimp only [gName]
  show tSeq _ _ _ [some (.ref sa), some (.ref p), some (.ref z), some (.int (n : Nat)), none, none, none, none, none, none, none, none, none, none, none, none, none, none, none] H3
  -- the states
  refine set_run (fun v H' => ∃ st, v = .ref st ∧ Same H3 H' ∧ H3 st = none ∧ H' st = some (.lst (((List.range n).map Row.nm).map V.str))) (fun Q' q' => ?_) ?_
  · refine ⟨_, rfl, _, rfl, by omega, by omega, fun D hD => ?_⟩
    refine lc_fold walk_range hD (fun i _ ys => i ≤ n ∧ ys = ((List.range i).map Row.nm).map V.str) (fun _ => ⟨Nat.zero_le _, rfl⟩) (fun i _ _ xs _ h => h) ?_ (fun _ _ => trivial) ?_ ?_
    · rintro i _ ys ⟨hi, rfl⟩
      rw [List.length_map, List.length_map, List.length_range]; omega
    · rintro i x H4 H5 ys Nx Ex hi s4 ⟨_, rfl⟩ ⟨rfl, ex⟩ k1 k2
      have hi : i < n := hi
      obtain rfl := yfn0 ex
      refine ⟨rfl, ?_⟩
      refine lcY ?_
      refine ⟨_, rfl, _, rfl, log_small (by omega), ?_⟩
      refine ⟨_, _, rfl, rfl, ?_, k1 _ _ (Same.refl _) ⟨hi, ?_⟩⟩
      · exact nm_len (by omega)
      · rw [List.range_succ, List.map_append, List.map_append]
        rfl
    · rintro H4 ys s4 h4 ⟨_, rfl⟩
      exact q' _ _ ⟨D, rfl, s4, hD, h4⟩
  rintro _ H4 ⟨st, rfl, s4, nst, est⟩
  dsimp only [gName]
  show tSeq _ _ _ [some (.ref sa), some (.ref p), some (.ref z), some (.int (n : Nat)), some (.ref st), none, none, none, none, none, none, none, none, none, none, none, none, none, none] H4
  -- the rows
  refine set_run (fun v H' => ∃ (ar : Addr) (cc : Nat → Addr), v = .ref ar ∧ Same H3 H' ∧ Rw K T.mm H' p c z st ar L n cc (fun _ => L.high) (fun _ => L.low)) (fun Q' q' => ?_) ?_
  · refine ⟨_, rfl, _, _, rfl, rfl, _, rfl, ?_⟩
    refine ⟨by omega, by omega, fun D hD => ?_⟩
    have tn : ((n : Int) - 1).toNat = n - 1 := by omega
    have L4 := L3.same s4
    refine lc_foldF walk_range (fun H => Same H4 H) (fun i H ys => i ≤ n - 1 ∧ ∃ cc : Nat → Addr, ys = (List.range i).map (fun j => V.ref (cc j)) ∧ (∀ j, j < i → H (cc j) = some (.lst [.int (L.high : Nat), .int (L.low : Nat)]) ∧ cc j ≠ D ∧ H4 (cc j) = none) ∧ ∀ j k, j < i → k < i → cc j = cc k → j = k) (Same.new hD _) (fun H ys zs s _ => s.mut hD _) ⟨Nat.zero_le _, fun _ => 0, rfl, fun _ h => absurd h (Nat.not_lt_zero _), fun _ _ h => absurd h (Nat.not_lt_zero _)⟩ ?_ ?_ (fun _ _ => trivial) ?_ ?_
    · rintro i H ys zs xs ⟨hi, cc, rfl, a1, a2⟩ _
      exact ⟨hi, cc, rfl, fun j hj => ⟨(upd_ne (a1 j hj).2.1).trans (a1 j hj).1, (a1 j hj).2⟩, a2⟩
    · rintro i H ys ⟨hi, cc, rfl, a1, a2⟩
      rw [List.length_map, List.length_range]; omega
    · rintro i x H5 H6 ys Nx Ex hi s5 hy ⟨_, cc, rfl, a1, a2⟩ ⟨rfl, ex⟩ k1 k2
      have hi : i < n - 1 := by rw [tn] at hi; exact hi
      obtain rfl := yfn0 ex
      refine ⟨rfl, ?_⟩
      refine lcY ?_
      have L5 := L4.same s5
      obtain ⟨C, dx, fs, g1, g2, g3, g4, g5, g6⟩ := ends_at L5 R
      refine ⟨_, rfl, z, C, dx, fs, _, rfl, g1, g2, g3, g4, _, rfl, z, C, dx, fs, _, rfl, g1, g2, g5, g6, (by show 2 ≤ sizeLine; decide), newQ (.lst [.int (L.high : Nat), .int (L.low : Nat)]) fun y hy2 s6 e6 => ?_⟩
      generalize upd H6 y (.lst [.int (L.high : Nat), .int (L.low : Nat)]) = H7 at s6 e6 ⊢
      have nn : ∀ j, j < i → cc j ≠ y := fun j hj e => by have := (a1 j hj).1; rw [e, hy2] at this; cases this
      refine k1 _ _ (s5.trans s6) (s6 _ _ hy) ⟨hi, fun j => if j = i then y else cc j, ?_, fun j hj => ?_, fun j k hj hk e => ?_⟩
      · have e1 : (List.range i).map (fun j => V.ref (cc j)) = (List.range i).map fun j => V.ref (if j = i then y else cc j) := List.map_congr_left fun j hj => by rw [if_neg (by have := List.mem_range.mp hj; omega)]
        rw [e1, List.range_succ, List.map_append, List.map_cons, List.map_nil]
        show _ = _ ++ [V.ref (if i = i then y else cc i)]
        rw [if_pos rfl]
      · by_cases q : j = i
        · simp only [if_pos q]
          exact ⟨e6, (fun e => by rw [e, hy] at hy2; cases hy2), none_of_same s5 hy2⟩
        · simp only [if_neg q]
          have := a1 j (by omega)
          exact ⟨s6 _ _ this.1, this.2⟩
      · by_cases q1 : j = i
        · by_cases q2 : k = i
          · rw [q1, q2]
          · simp only [if_pos q1, if_neg q2] at e
            exact absurd e.symm (nn k (by omega))
        · by_cases q2 : k = i
          · simp only [if_neg q1, if_pos q2] at e
            exact absurd e (nn j (by omega))
          · simp only [if_neg q1, if_neg q2] at e
            exact a2 j k (by omega) (by omega) e
    · rintro H5 ys s5 h5 ⟨_, cc, rfl, a1, a2⟩
      rw [tn] at h5 a1 a2
      have e5 := s5 _ _ est
      have c5 := s5 _ _ (s4 _ _ c3)
      refine q' _ _ ⟨D, cc, rfl, s4.trans s5, s3.same (s4.trans s5), ⟨_, c5⟩, L4.same s5, e5, ⟨h5, fun i hi => (a1 i hi).1⟩, a2, fun i hi => ?_, ?_, fun i hi => ⟨R.isHigh.2.1, R.isLow.2.1⟩⟩
      · have fr := (a1 i hi).2.2
        have ne : ∀ {a : Addr} {o : HO}, H4 a = some o → cc i ≠ a := fun h e => by rw [e, h] at fr; cases fr
        obtain ⟨u, hu⟩ := s3.here
        exact ⟨ne (s4 _ _ hu), ne (s4 _ _ c3), ne est, (a1 i hi).2.1⟩
      · exact ⟨s3.ne nst, (s3.same s4).ne hD, cp⟩
  rintro _ H5 ⟨ar, cc, rfl, s5, B5⟩
  dsimp only [gName]
  show tSeq _ _ _ [some (.ref sa), some (.ref p), some (.ref z), some (.int (n : Nat)), some (.ref st), none, some (.ref ar), none, none, none, none, none, none, none, none, none, none, none, none] H5
  refine st_run (fun σ H' => ∃ (v5 v7 : Option V) (h l : Nat → Nat), σ = [some (.ref sa), some (.ref p), some (.ref z), some (.int (n : Nat)), some (.ref st), v5, some (.ref ar), v7, none, none, none, none, none, none, none, none, none, none, none] ∧ Rw K T.mm H' p c z st ar L n cc h l) (fun D' hD q' => ?_) ?_
  · refine ⟨_, rfl, p, c, 5, rfl, B5.src, by decide, fun d H6 b6 s6 d0 d1 => ?_⟩
    refine ⟨_, rfl, by omega, by omega, for_range (lo := 0) (fun i σ H' => ∃ (v5 v7 : Option V) (h l : Nat → Nat), σ = [some (.ref sa), some (.ref p), some (.ref z), some (.int (n : Nat)), some (.ref st), v5, some (.ref ar), v7, none, none, none, none, none, none, none, none, none, none, none] ∧ Rw K T.mm H' p c z st ar L n cc h l) ⟨none, none, _, _, rfl, B5.draw b6 s6⟩ ?_ ?_⟩
    · rintro i σ H7 hi ⟨v5, v7, h, l, rfl, B7⟩
      refine ⟨_, rfl, _, rfl, _, rfl, _, _, rfl, rfl, p, c, _, rfl, B7.src, by omega, fun e H8 b8 s8 e0 e1 => ?_⟩
      have B8 := B7.draw b8 s8
      obtain ⟨j, rfl⟩ : ∃ j : Nat, e = (j : Int) := ⟨e.toNat, by omega⟩
      have hj : j < n - 1 := by omega
      refine ⟨ar, _, _, _, rfl, rfl, SqL.of (K := K) B8.ars.at_, atI_nat (rg_at hj), ?_⟩
      dsimp only [gName]
      have szs : ∀ {H : Hp}, IsLat K T.mm H z L → ∃ C dx fs, H z = some (.ins C dx fs) ∧ Cls K C ∧ NoAttr K C "size" ∧ fs.lookup ("size" : Str) = some (.int (L.n : Nat)) := fun hL => by
        obtain ⟨C, dx, fs, tn, td, tu, A⟩ := hL
        exact ⟨C, dx, fs, A.at_, A.c.cl, A.c.na _ (by decide), A.size⟩
      obtain ⟨C, dx, fs, g1, g2, g3, g4⟩ := szs B8.lat
      refine ⟨_, rfl, _, rfl, z, C, dx, fs, _, rfl, g1, g2, g3, g4, p, c, _, rfl, B8.src, by omega, fun e H9 b9 s9 e0 e1 => ?_⟩
      have B9 := B8.draw b9 s9
      obtain ⟨u, rfl⟩ : ∃ j : Nat, e = (j : Int) := ⟨e.toNat, by omega⟩
      have hu : u < L.n := by omega
      refine ⟨_, rfl, cc j, _, _, _, rfl, rfl, B9.ars.row j hj, rfl, ?_⟩
      have B10 := B9.put hj hu (B9.hh j (by omega)).2
      show (_ : Hp → Prop) (upd H9 (cc j) (.lst [.int (u : Nat), .int (l j : Nat)]))
      generalize upd H9 (cc j) (.lst [.int (u : Nat), .int (l j : Nat)]) = H10 at B10 ⊢
      obtain ⟨C, dx, fs, g1, g2, g3, g4⟩ := szs B10.lat
      refine ⟨_, rfl, _, rfl, z, C, dx, fs, _, rfl, g1, g2, g3, g4, p, c, _, rfl, B10.src, by omega, fun e H11 b11 s11 e0 e1 => ?_⟩
      have B11 := B10.draw b11 s11
      obtain ⟨v, rfl⟩ : ∃ j : Nat, e = (j : Int) := ⟨e.toNat, by omega⟩
      have hv : v < L.n := by omega
      refine ⟨_, rfl, cc j, _, _, _, rfl, rfl, B11.ars.row j hj, rfl, ?_⟩
      have B12 := B11.put hj (B11.hh j (by omega)).1 hv
      exact ⟨_, _, _, _, rfl, B12⟩
    · rintro σ H7 ⟨v5, v7, h, l, rfl, B7⟩
      exact q' _ _ ⟨v5, v7, h, l, rfl, B7⟩
  rintro _ H6 ⟨v5, v7, h, l, rfl, B6⟩
  clear B5
  -- the mark
  have szs : ∀ {H : Hp}, IsLat K T.mm H z L → ∃ C dx fs, H z = some (.ins C dx fs) ∧ Cls K C ∧ NoAttr K C "size" ∧ fs.lookup ("size" : Str) = some (.int (L.n : Nat)) := fun hL => by
    obtain ⟨C, dx, fs, tn, td, tu, A⟩ := hL
    exact ⟨C, dx, fs, A.at_, A.c.cl, A.c.na _ (by decide), A.size⟩
  obtain ⟨C, dx, fs, g1, g2, g3, g4⟩ := szs B6.lat
  refine ⟨_, rfl, _, rfl, z, C, dx, fs, _, rfl, g1, g2, g3, g4, p, c, _, rfl, B6.src, by omega, fun e H7 b7 s7 e0 e1 => ?_⟩
  have B7 := B6.draw b7 s7
  obtain ⟨mk, rfl⟩ : ∃ j : Nat, e = (j : Int) := ⟨e.toNat, by omega⟩
  have hmk : mk < L.n := by omega
  clear B6 b7 s7 g1 g2 g3 g4 e0 e1
  dsimp only [gName]
  refine ⟨(by show 0 ≤ sizeLine; decide), newQ (.lst []) fun t9 ht9 s8 e8 => ?_⟩
  generalize upd H7 t9 (.lst []) = H8 at s8 e8 ⊢
  dsimp only [gName]
  show tSeq _ _ _ [some (.ref sa), some (.ref p), some (.ref z), some (.int (n : Nat)), some (.ref st), v5, some (.ref ar), v7, some (.int (mk : Nat)), some (.ref t9), none, none, none, none, none, none, none, none, none] H8
  refine st_run (fun σ H' => ∃ (v5 : Option V) (us : List V), σ = [some (.ref sa), some (.ref p), some (.ref z), some (.int (n : Nat)), some (.ref st), v5, some (.ref ar), v7, some (.int (mk : Nat)), some (.ref t9), none, none, none, none, none, none, none, none, none] ∧ Same H7 H' ∧ H' t9 = some (.lst us) ∧ ArAt K H' L us (Row.sys n h l mk).ar) (fun D' hD q' => ?_) ?_
  · refine ⟨_, rfl, _, _, rfl, rfl, _, rfl, by omega, by omega, for_range (lo := 0) (fun i σ H' => ∃ (v5 : Option V) (us : List V), i ≤ n - 1 ∧ σ = [some (.ref sa), some (.ref p), some (.ref z), some (.int (n : Nat)), some (.ref st), v5, some (.ref ar), v7, some (.int (mk : Nat)), some (.ref t9), none, none, none, none, none, none, none, none, none] ∧ Same H7 H' ∧ H' t9 = some (.lst us) ∧ ArAt K H' L us ((List.range i).map fun i => (Row.nm i, Row.nm (i + 1), h i, l i))) ⟨_, [], Nat.zero_le _, rfl, s8, e8, rfl, fun i m hm => by simp at hm⟩ ?_ ?_⟩
    · rintro i σ H9 hi ⟨v5, us, _, rfl, s9, e9, A9⟩
      have hi : i < n - 1 := by omega
      have B9 := B7.same s9
      dsimp only [gName]
      have st9 : ∀ j, j < n → ((((List.range n).map Row.nm).map V.str))[j]? = some (.str (Row.nm j)) := fun j hj => by
        rw [List.getElem?_map, List.getElem?_map, List.getElem?_range hj]
        rfl
      have i0 : (0 : Int) + (i : Int) = ((i : Nat) : Int) := by omega
      have i1 : (0 : Int) + (i : Int) + 1 = ((i + 1 : Nat) : Int) := by omega
      have hr := B9.ars.row i hi
      have hb := B9.hh i (by omega)
      refine ⟨_, rfl, .inl ⟨rfl, _, SqL.of (K := K) e9⟩, _, rfl, _, rfl, st, _, _, _, rfl, rfl, SqL.of (K := K) B9.st_, (by rw [i0]; exact atI_nat (st9 i (by omega))), _, rfl, _, rfl, _, _, rfl, rfl, st, _, _, _, rfl, rfl, SqL.of (K := K) B9.st_, (by show atI _ ((0 : Int) + (i : Int) + 1) = _; rw [i1]; exact atI_nat (st9 (i + 1) (by omega))), ?_⟩
      refine ⟨_, rfl, at_meth B9.lat T.in_name_at ⟨_, rfl, _, rfl, ar, _, _, _, rfl, rfl, SqL.of (K := K) B9.ars.at_, (by rw [i0]; exact atI_nat (rg_at hi)), cc i, _, _, _, rfl, rfl, SqL.of (K := K) hr, atI_nat (j := 0) rfl, do_name B9.lat hb.1 fun H10 s10 => ?_⟩⟩
      have B10 := B9.same s10
      have hr10 := s10 _ _ hr
      refine ⟨_, rfl, at_meth B10.lat T.in_name_at ⟨_, rfl, _, rfl, ar, _, _, _, rfl, rfl, SqL.of (K := K) B10.ars.at_, (by rw [i0]; exact atI_nat (rg_at hi)), cc i, _, _, _, rfl, rfl, SqL.of (K := K) hr10, atI_nat (j := 1) rfl, do_name B10.lat hb.2 fun H11 s11 => ?_⟩⟩
      refine ⟨(by show 4 ≤ sizeLine; decide), newQ (.tup [.str (Row.nm i), .str (Row.nm (i + 1)), .str (L.nm (h i)), .str (L.nm (l i))]) fun t ht s12 e12 => ?_⟩
      generalize upd H11 t (.tup [.str (Row.nm i), .str (Row.nm (i + 1)), .str (L.nm (h i)), .str (L.nm (l i))]) = H12 at s12 e12 ⊢
      have s912 := (s10.trans s11).trans s12
      have e12' := s912 _ _ e9
      have ul : us.length = i := by rw [A9.1, List.length_map, List.length_range]
      refine ⟨t9, _, _, rfl, rfl, e12', Nat.lt_of_le_of_lt (show us.length ≤ 100 by omega) (by decide), ?_⟩
      have kk : Keeps H12 (upd H12 t9 (.lst (us ++ [.ref t]))) := (Keeps.refl H12).mut e12' trivial
      refine ⟨_, us ++ [.ref t], hi, rfl, (s9.trans s912).mut ht9 _, upd_same, ?_⟩
      refine ArAt.keep ?_ kk
      rw [List.range_succ, List.map_append]
      exact arAt_iff.mpr (twoH_snoc (arAt_iff.mp (A9.keep s912.keeps)) ⟨t, _, _, rfl, .of e12, nm_at hb.1, nm_at hb.2⟩)
    · rintro σ H9 ⟨v5, us, _, rfl, s9, e9, A9⟩
      refine q' _ _ ⟨v5, us, rfl, s9, e9, ?_⟩
      have tn : ((n : Int) - 1).toNat = n - 1 := by omega
      rw [tn] at A9
      exact A9
  rintro _ H9 ⟨v5, us, rfl, s9, e9, A9⟩
  have B9 := B7.same s9
  clear B7 s8 e8
  -- the system
  have lastst : atI (((List.range n).map Row.nm).map V.str) (-1) = some (.str (Row.nm (n - 1))) := by
    rw [(congrArg List.range (by omega : n = (n - 1).succ)).trans List.range_succ, List.map_append, List.map_append]
    exact atI_last _ _
  refine ⟨_, rfl, _, rfl, _, rfl, 1, rfl, st, _, _, _, rfl, rfl, SqL.of (K := K) B9.st_, lastst, ?_⟩
  refine ⟨_, rfl, at_meth B9.lat T.in_name_at ⟨_, rfl, do_name B9.lat hmk fun H10 s10 => ?_⟩⟩
  refine ⟨(by show 3 ≤ sizeLine; decide), newQ (.tup [.str "m", .str (Row.nm (n - 1)), .str (L.nm mk)]) fun t ht s11 e11 => ?_⟩
  generalize upd H10 t (.tup [.str "m", .str (Row.nm (n - 1)), .str (L.nm mk)]) = H11 at s11 e11 ⊢
  refine ⟨(by show 1 ≤ sizeLine; decide), newQ (.lst [.ref t]) fun ml hml s12 e12 => ?_⟩
  generalize upd H11 ml (.lst [.ref t]) = H12 at s12 e12 ⊢
  have s912 := (s10.trans s11).trans s12
  have B12 := B9.same s912
  have hh := B12.hh
  have ok : (Row.sys n h l mk).Ok := Row.sys_ok (by omega) (by omega)
  have hin : (Row.sys n h l mk).In L := Row.sys_in hmk hh
  have M12 : MkAt K H12 L [.ref t] (Row.sys n h l mk).ms := ⟨rfl, fun i m hm => by
    cases i with
    | zero => cases hm; exact ⟨t, _, rfl, .of (s12 _ _ e11), nm_at hmk⟩
    | succ i => cases hm⟩
  refine ⟨_, rfl, fun o dx ho hdx ne => mk_sys (S := Row.sys n h l mk) B12.lat nnd B12.st_ e12 M12 (s912 _ _ e9) (A9.keep s912.keeps) ok ho hdx ne fun H13 s13 hY => ⟨rfl, ?_⟩⟩
  have B13 := B12.same s13
  clear B9 B12 M12 s912 s13 s10 s11 s12 e9 A9 s9 e11 e12
  dsimp only [gName]
  -- the depth
  refine ⟨_, rfl, p, c, 38, rfl, B13.src, by decide, fun e H14 b14 s14 e0 e1 => ?_⟩
  have B14 := B13.draw b14 s14
  have Y14 := hY.drawS B13.src b14
  obtain ⟨m, rfl⟩ : ∃ j : Nat, e = (j : Int) := ⟨e.toNat, by omega⟩
  have hm : m ≤ 37 := by omega
  clear B13 hY b14 s14 e0 e1
  dsimp only [gName]
  refine ⟨_, rfl, m, rfl, hm, fun lf v0 v1 v2 v3 v4 H15 s15 ef f0 f1 f2 f3 f4 => ?_⟩
  have B15 := B14.same s15
  have Y15 := Y14.same s15
  clear B14 Y14 s15
  dsimp only [gName]
  show tSeq _ _ _ [some (.ref sa), some (.ref p), some (.ref z), some (.int (n : Nat)), some (.ref st), v5, some (.ref ar), v7, some (.int (mk : Nat)), some (.ref t9), some (.ref o), some (.int (m : Nat)), some (.ref lf), none, none, none, none, none, none] H15
  have rl : ∀ A, (natV (Row.row n A)).length = n := fun A => by
    unfold natV
    rw [List.length_map, row_len]
  -- what is due
  refine ⟨_, rfl, _, rfl, _, rfl, z, ar, cc, L, n, mk, h, l, rfl, B15.lat, R, n64, B15.ars, by omega, by omega, hmk, hh, fun d0 H16 s16 e16 => ?_⟩
  have B16 := B15.same s16
  obtain ⟨C, dx, fs, g1, g2, g3, g4, g5, g6⟩ := ends_at B16.lat R
  refine ⟨_, rfl, z, C, dx, fs, _, rfl, g1, g2, g3, g4, (by show 1 ≤ sizeLine; decide), newQ (.lst [.int (L.high : Nat)]) fun a1 ha1 s17 e17 => ?_⟩
  generalize upd H16 a1 (.lst [.int (L.high : Nat)]) = H17 at s17 e17 ⊢
  refine ⟨_, rfl, a1, _, _, rfl, rfl, e17, by omega, by omega, Nat.le_trans (show 1 * ((n : Nat) : Int).toNat ≤ 100 by omega) (by decide), ?_⟩
  rw [rep_row]
  refine newQ (.lst (natV (Row.row n fun _ => L.high))) fun d1 hd1 s18 e18 => ?_
  generalize upd H17 d1 (.lst (natV (Row.row n fun _ => L.high))) = H18 at s18 e18 ⊢
  have B18 := (B16.same s17).same s18
  clear g1 g2 g3 g4 g5 g6
  obtain ⟨C, dx, fs, g1, g2, g3, g4, g5, g6⟩ := ends_at B18.lat R
  refine ⟨_, rfl, z, C, dx, fs, _, rfl, g1, g2, g5, g6, (by show 1 ≤ sizeLine; decide), newQ (.lst [.int (L.low : Nat)]) fun a2 ha2 s19 e19 => ?_⟩
  generalize upd H18 a2 (.lst [.int (L.low : Nat)]) = H19 at s19 e19 ⊢
  refine ⟨_, rfl, a2, _, _, rfl, rfl, e19, by omega, by omega, Nat.le_trans (show 1 * ((n : Nat) : Int).toNat ≤ 100 by omega) (by decide), ?_⟩
  rw [rep_row]
  refine newQ (.lst (natV (Row.row n fun _ => L.low))) fun d2 hd2 s20 e20 => ?_
  generalize upd H19 d2 (.lst (natV (Row.row n fun _ => L.low))) = H20 at s20 e20 ⊢
  refine ⟨(by show 3 ≤ sizeLine; decide), newQ (.lst [.ref d0, .ref d1, .ref d2]) fun dl hdl s21 e21 => ?_⟩
  generalize upd H20 dl (.lst [.ref d0, .ref d1, .ref d2]) = H21 at s21 e21 ⊢
  have s1620 := ((s17.trans s18).trans s19).trans s20
  have s1520 := s16.trans s1620
  have E0 : H20 d0 = _ := s1620 _ _ e16
  have E1 : H20 d1 = _ := (s19.trans s20) _ _ e18
  have E2 : H20 d2 = _ := e20
  clear s1620 s16 s17 s18 s19 s20 e16 e18 e20 e17 e19 g1 g2 g3 g4 g5 g6 B16 B18
  dsimp only [gName]
  -- behind
  refine ⟨_, rfl, (by show 1 ≤ sizeLine; decide), newQ (.lst [.int (mk : Nat)]) fun bl hbl s22 e22 => ?_⟩
  generalize upd H21 bl (.lst [.int (mk : Nat)]) = H22 at s22 e22 ⊢
  dsimp only [gName]
  show tSeq _ _ _ [some (.ref sa), some (.ref p), some (.ref z), some (.int (n : Nat)), some (.ref st), v5, some (.ref ar), v7, some (.int (mk : Nat)), some (.ref t9), some (.ref o), some (.int (m : Nat)), some (.ref lf), some (.ref dl), some (.ref bl), none, none, none, none] H22
  refine st_run (fun σ H' => ∃ (v5 v7 : Option V), σ = [some (.ref sa), some (.ref p), some (.ref z), some (.int (n : Nat)), some (.ref st), v5, some (.ref ar), v7, some (.int (mk : Nat)), some (.ref t9), some (.ref o), some (.int (m : Nat)), some (.ref lf), some (.ref dl), some (.ref bl), none, none, none, none] ∧ Same H21 H' ∧ H' bl = some (.lst (natV ((List.range n).map (Row.bhd L n h l mk))))) (fun D' hD q' => ?_) ?_
  · refine ⟨_, rfl, _, _, rfl, rfl, _, rfl, by omega, by omega, for_range (lo := 0) (fun i σ H' => ∃ (v5 v7 : Option V), i ≤ n - 1 ∧ σ = [some (.ref sa), some (.ref p), some (.ref z), some (.int (n : Nat)), some (.ref st), v5, some (.ref ar), v7, some (.int (mk : Nat)), some (.ref t9), some (.ref o), some (.int (m : Nat)), some (.ref lf), some (.ref dl), some (.ref bl), none, none, none, none] ∧ Same H21 H' ∧ H' bl = some (.lst (natV ((List.range (i + 1)).map (Row.bhd L n h l mk))))) ⟨_, _, Nat.zero_le _, rfl, s22, e22⟩ ?_ ?_⟩
    · rintro i σ H23 hi ⟨v5, v7, _, rfl, s23, e23⟩
      have hi : i < n - 1 := by omega
      have B23 := B15.same ((s1520.trans s21).trans s23)
      dsimp only [gName]
      have ix : atI ((List.range (n - 1)).map fun i => V.ref (cc i)) ((n : Int) - 2 - (0 + (i : Int))) = some (.ref (cc (n - 2 - i))) := by
        rw [show (n : Int) - 2 - (0 + (i : Int)) = ((n - 2 - i : Nat) : Int) by omega]
        exact atI_nat (rg_at (by omega))
      have hr := B23.ars.row (n - 2 - i) (by omega)
      have hb := hh (n - 2 - i) (by omega)
      have e23' : H23 bl = some (.lst (natV ((List.range i).map (Row.bhd L n h l mk)) ++ [.int ((Row.bhd L n h l mk i : Nat))])) := by
        rw [e23, List.range_succ, List.map_append]
        unfold natV
        rw [List.map_append]
        rfl
      have ab := Row.bhd_lt R hmk hh i (by omega)
      refine ⟨_, rfl, _, rfl, _, _, rfl, rfl, _, rfl, _, _, rfl, rfl, ar, _, _, _, rfl, rfl, SqL.of (K := K) B23.ars.at_, ix, ?_⟩
      dsimp only [gName]
      refine ⟨_, rfl, .inl ⟨rfl, _, SqL.of (K := K) e23⟩, _, rfl, at_meth B23.lat T.in_meet_at ⟨_, rfl, cc (n - 2 - i), _, _, _, rfl, rfl, SqL.of (K := K) hr, atI_nat (j := 0) rfl, _, rfl, at_meth B23.lat T.in_join_at ⟨_, rfl, cc (n - 2 - i), _, _, _, rfl, rfl, SqL.of (K := K) hr, atI_nat (j := 1) rfl, _, rfl, 1, rfl, bl, _, _, _, rfl, rfl, SqL.of (K := K) e23', atI_last _ _, do_jm B23.lat R n64 hb.2 ab fun H24 s24 => ?_⟩⟩⟩
      have B24 := B23.same s24
      refine do_jm B24.lat R n64 hb.1 (R.jlt hb.2 ab) fun H25 s25 => ?_
      have e25 := s25 _ _ (s24 _ _ e23)
      refine ⟨bl, _, _, rfl, rfl, e25, ?_, ?_⟩
      · unfold natV
        rw [List.length_map, List.length_map, List.length_range]
        exact Nat.lt_of_le_of_lt (show i + 1 ≤ 100 by omega) (by decide)
      · refine ⟨_, _, hi, rfl, ((s23.trans s24).trans s25).mut hbl _, upd_same.trans ?_⟩
        rw [List.range_succ (n := i + 1), List.map_append]
        unfold natV
        rw [List.map_append]
        rfl
    · rintro σ H23 ⟨v5, v7, _, rfl, s23, e23⟩
      refine q' _ _ ⟨v5, v7, rfl, s23, ?_⟩
      have : (((n : Nat) : Int) - 1).toNat + 1 = n := by omega
      rw [this] at e23
      exact e23
  rintro _ H23 ⟨v5, v7, rfl, s23, e23⟩
  have s2023 := s21.trans s23
  have ed := s23 _ _ e21
  have lbl : (natV ((List.range n).map (Row.bhd L n h l mk))).length = n := by
    unfold natV
    rw [List.length_map, List.length_map, List.length_range]
  refine ⟨_, rfl, .inl ⟨rfl, _, SqL.of (K := K) ed⟩, _, rfl, _, rfl, by omega, by omega, fun d3 hd3 => ?_⟩
  refine lc_fold walk_range hd3 (fun i _ ys => i ≤ n ∧ ys = natV ((List.range i).map fun j => Row.bhd L n h l mk (n - 1 - j))) (fun _ => ⟨Nat.zero_le _, rfl⟩) (fun i _ _ xs _ h => h) ?_ (fun _ _ => trivial) ?_ ?_
  · rintro i _ ys ⟨hi, rfl⟩
    unfold natV
    rw [List.length_map, List.length_map, List.length_range]; omega
  · rintro i x H24 H25 ys Nx Ex hi s24 ⟨_, rfl⟩ ⟨rfl, ex⟩ k1 k2
    have hi : i < n := hi
    obtain rfl := yfn0 ex
    refine ⟨rfl, ?_⟩
    refine lcY ?_
    have ix : atI (natV ((List.range n).map (Row.bhd L n h l mk))) ((n : Int) - 1 - (i : Int)) = some (.int (Row.bhd L n h l mk (n - 1 - i) : Nat)) := by
      rw [show (n : Int) - 1 - (i : Int) = ((n - 1 - i : Nat) : Int) by omega]
      refine atI_nat ?_
      unfold natV
      rw [List.getElem?_map, List.getElem?_map, List.getElem?_range (by omega)]
      rfl
    refine ⟨_, rfl, _, rfl, _, _, rfl, rfl, _, rfl, _, _, rfl, rfl, bl, _, _, _, rfl, rfl, SqL.of (K := K) (s24 _ _ e23), ix, k1 _ _ (Same.refl _) ⟨hi, ?_⟩⟩
    rw [List.range_succ, List.map_append]
    unfold natV
    rw [List.map_append]
    rfl
  rintro H24 ys s24 E3 ⟨_, rfl⟩
  have ed24 := s24 _ _ ed
  refine ⟨dl, _, _, rfl, rfl, ed24, (by show 3 < sizeLine; decide), ?_⟩
  have nd3 : d3 ≠ dl := fun e => by rw [e, ed] at hd3; cases hd3
  have s2025 : Same H20 (upd H24 dl (.lst ([.ref d0, .ref d1, .ref d2] ++ [.ref d3]))) := (s2023.trans s24).mut hdl _
  have ed25 : upd H24 dl (.lst ([.ref d0, .ref d1, .ref d2] ++ [.ref d3])) dl = some (.lst [.ref d0, .ref d1, .ref d2, .ref d3]) := upd_same
  have E3 : upd H24 dl (.lst ([.ref d0, .ref d1, .ref d2] ++ [.ref d3])) d3 = some (.lst (natV (Row.row n (Row.bhd L n h l mk)))) := (upd_ne nd3).trans E3
  generalize upd H24 dl (.lst ([.ref d0, .ref d1, .ref d2] ++ [.ref d3])) = H25 at s2025 ed25 E3 ⊢
  have B25 := B15.same (s1520.trans s2025)
  obtain ⟨C, dx, fs, g1, g2, g3, g4, g5, g6⟩ := ends_at B25.lat R
  refine ⟨_, rfl, .inl ⟨rfl, _, SqL.of (K := K) ed25⟩, _, rfl, z, C, dx, fs, _, rfl, g1, g2, g5, g6, (by show 1 ≤ sizeLine; decide), newQ (.lst [.int (L.low : Nat)]) fun a3 ha3 s26 e26 => ?_⟩
  generalize upd H25 a3 (.lst [.int (L.low : Nat)]) = H26 at s26 e26 ⊢
  refine ⟨_, rfl, a3, _, _, rfl, rfl, e26, by omega, by omega, Nat.le_trans (show 1 * ((n : Nat) : Int).toNat ≤ 100 by omega) (by decide), ?_⟩
  rw [rep_row]
  refine newQ (.lst (natV (Row.row n fun _ => L.low))) fun d4 hd4 s27 E4 => ?_
  generalize upd H26 d4 (.lst (natV (Row.row n fun _ => L.low))) = H27 at s27 E4 ⊢
  have s2527 := s26.trans s27
  have ed27 := s2527 _ _ ed25
  refine ⟨dl, _, _, rfl, rfl, ed27, (by show 4 < sizeLine; decide), ?_⟩
  have n43 : d3 ≠ d4 := fun e => by have := s26 _ _ E3; rw [e, hd4] at this; cases this
  have nd4 : d4 ≠ dl := fun e => by rw [e, s26 _ _ ed25] at hd4; cases hd4
  have s2028 : Same H20 (upd H27 dl (.lst ([.ref d0, .ref d1, .ref d2, .ref d3] ++ [.ref d4]))) := (s2025.trans s2527).mut hdl _
  have ed28 : upd H27 dl (.lst ([.ref d0, .ref d1, .ref d2, .ref d3] ++ [.ref d4])) dl = some (.lst [.ref d0, .ref d1, .ref d2, .ref d3, .ref d4]) := upd_same
  have E4 : upd H27 dl (.lst ([.ref d0, .ref d1, .ref d2, .ref d3] ++ [.ref d4])) d4 = some (.lst (natV (Row.row n fun _ => L.low))) := (upd_ne nd4).trans E4
  have E3 : upd H27 dl (.lst ([.ref d0, .ref d1, .ref d2, .ref d3] ++ [.ref d4])) d3 = some (.lst (natV (Row.row n (Row.bhd L n h l mk)))) := (upd_ne nd3).trans (s2527 _ _ E3)
  generalize upd H27 dl (.lst ([.ref d0, .ref d1, .ref d2, .ref d3] ++ [.ref d4])) = H28 at s2028 ed28 E3 E4 ⊢
  dsimp only
  show tSeq _ _ _ [some (.ref sa), some (.ref p), some (.ref z), some (.int (n : Nat)), some (.ref st), v5, some (.ref ar), v7, some (.int (mk : Nat)), some (.ref t9), some (.ref o), some (.int (m : Nat)), some (.ref lf), some (.ref dl), some (.ref bl), none, none, none, none] H28
  have h4 : H20 d4 = none := none_of_same (s2025.trans s26) hd4
  refine st_run (fun σ H' => ∃ (v7 : Option V), σ = [some (.ref sa), some (.ref p), some (.ref z), some (.int (n : Nat)), some (.ref st), v5, some (.ref ar), v7, some (.int (mk : Nat)), some (.ref t9), some (.ref o), some (.int (m : Nat)), some (.ref lf), some (.ref dl), some (.ref bl), none, none, none, none] ∧ Same H20 H' ∧ H' dl = some (.lst [.ref d0, .ref d1, .ref d2, .ref d3, .ref d4]) ∧ H' d3 = some (.lst (natV (Row.row n (Row.bhd L n h l mk)))) ∧ H' d4 = some (.lst (natV (Row.row n fun d => if d = m then Row.alg L n h mk m else L.low)))) (fun D' hD q' => ?_) ?_
  · refine ⟨_, rfl, _, rfl, _, _, rfl, rfl, _, rfl, ?_⟩
    refine ite2 (fun cm => ?_) (fun cm => ?_)
    · have cm : m < n := by have := of_decide_eq_true cm; omega
      refine ⟨_, rfl, dl, _, _, _, rfl, rfl, SqL.of (K := K) ed28, atI_nat (j := 4) rfl, ?_⟩
      dsimp only [gName]
      have ix : (n : Int) - 1 - (m : Int) = ((n - 1 - m : Nat) : Int) := by omega
      have e0 := s2028 _ _ E0
      refine ⟨_, rfl, dl, _, _, _, rfl, rfl, SqL.of (K := K) ed28, atI_nat (j := 0) rfl, _, rfl, _, _, rfl, rfl, _, rfl, _, _, rfl, rfl, d0, _, _, _, rfl, rfl, SqL.of (K := K) e0, (by rw [ix]; exact atI_nat (row_get _ (by omega))), ?_⟩
      have ixn : ixN (natV (Row.row n fun _ => L.low)).length ((n : Int) - 1 - (m : Int)) = some (n - 1 - m) := by
        rw [ix, rl]
        unfold ixN
        rw [if_pos (by omega), if_pos (by omega), Int.toNat_natCast]
      refine ⟨_, rfl, _, rfl, _, _, rfl, rfl, _, rfl, _, _, rfl, rfl, d4, _, _, _, rfl, rfl, E4, ixn, ?_⟩
      rw [row_set cm, (by omega : n - 1 - (n - 1 - m) = m)]
      refine q' _ _ ⟨_, rfl, s2028.mut h4 _, (upd_ne (Ne.symm nd4)).trans ed28, (upd_ne n43).trans E3, upd_same⟩
    · have cm : ¬ m < n := fun c => cm (decide_eq_true (by omega))
      refine q' _ _ ⟨_, rfl, s2028, ed28, E3, ?_⟩
      rw [E4, row_same fun d hd => (if_neg (by omega : ¬ d = m)).symm]
  rintro _ H29 ⟨v7, rfl, s2029, ed29, E3, E4⟩
  have p37 : ∀ m, (Row.smk m).depth = m + 1 := fun m => by
    induction m with
    | zero => rfl
    | succ m ih => show (Row.smk m).depth + 1 = _; rw [ih]
  have pvs : ∀ m, (Row.smk m).Vs (· ∈ L.names) := fun m => by
    induction m with
    | zero => trivial
    | succ m ih => exact ih
  have pbd : ∀ m xs, (Row.smk m).Bd xs := fun m xs => by
    induction m with
    | zero => trivial
    | succ m ih => exact ih
  have B29 := B15.same (s1520.trans s2029)
  have Y29 := Y15.same (s1520.trans s2029)
  have s1529 := s1520.trans s2029
  have W : ∀ i, i < 5 → ∃ (v : V) (f : Fm) (d : Addr) (A : Nat → Nat), [v0, v1, v2, v3, v4][i]? = some v ∧ Rf K H29 f v ∧ f.depth ≤ 40 ∧ f.Vs (· ∈ L.names) ∧ f.Bd [] ∧ [V.ref d0, .ref d1, .ref d2, .ref d3, .ref d4][i]? = some (.ref d) ∧ H29 d = some (.lst (natV (Row.row n A))) ∧ ∀ j, j < n → A j < L.n ∧ L.den ((Row.sys n h l mk).fr L) f L.e0 (Row.nm (n - 1 - j)) = A j := by
    intro i hi
    have lo := R.isLow.2.1
    have h2 : n ≤ 72 := by omega
    rcases (by omega : i = 0 ∨ i = 1 ∨ i = 2 ∨ i = 3 ∨ i = 4) with rfl | rfl | rfl | rfl | rfl
    · exact ⟨v0, _, d0, _, rfl, f0.same s1529, by decide, ⟨trivial, trivial⟩, (by simp [Row.f0, Row.f1, Row.f2, Row.f3, Row.body0, Fm.Bd]), rfl, s2029 _ _ E0, fun j hj => ⟨Row.alg_lt R hmk hh j hj, Row.den0 R h2 hmk hh _ hj⟩⟩
    · exact ⟨v1, _, d1, _, rfl, f1.same s1529, by decide, trivial, (by simp [Row.f0, Row.f1, Row.f2, Row.f3, Row.body0, Fm.Bd]), rfl, s2029 _ _ E1, fun j hj => ⟨R.isHigh.2.1, Row.den1 R h2 hmk hh _ hj⟩⟩
    · exact ⟨v2, _, d2, _, rfl, f2.same s1529, by decide, trivial, (by simp [Row.f0, Row.f1, Row.f2, Row.f3, Row.body0, Fm.Bd]), rfl, s2029 _ _ E2, fun j hj => ⟨lo, Row.den2 R h2 hmk hh _ hj⟩⟩
    · exact ⟨v3, _, d3, _, rfl, f3.same s1529, by decide, ⟨trivial, trivial, trivial⟩, (by simp [Row.f0, Row.f1, Row.f2, Row.f3, Row.body0, Fm.Bd]), rfl, E3, fun j hj => ⟨Row.bhd_lt R hmk hh j hj, Row.den3 R h2 hmk hh _ hj⟩⟩
    · refine ⟨v4, _, d4, _, rfl, f4.same s1529, (by rw [p37]; omega), pvs m, pbd m [], rfl, E4, fun j hj => ⟨?_, Row.den4 R h2 hmk hh _ m hj⟩⟩
      show (if j = m then _ else _) < L.n
      split
      · exact Row.alg_lt R hmk hh m (by omega)
      · exact lo
  have f0' := f0.same s1529
  have ef29 := s1529 _ _ ef
  have E0' := s2029 _ _ E0
  clear s1529 f0 f1 f2 f3 f4 E0 E1 E2 E3 E4 s2029 B15 Y15 s1520 s2023 s2025 s2028 s2527 B25 ed28 ed25 ed27 ed24 ed e21 e22 e23 s21 s22 s23 ef e26 s26 s27 g1 g2 g3 g4 g5 g6 hd4 hd3 ha3 ha2 ha1 hd1 hd2 hbl hdl h4 nd4 n43 nd3
  refine st_run (fun σ H' => ∃ (v5 v15 : Option V), σ = [some (.ref sa), some (.ref p), some (.ref z), some (.int (n : Nat)), some (.ref st), v5, some (.ref ar), v7, some (.int (mk : Nat)), some (.ref t9), some (.ref o), some (.int (m : Nat)), some (.ref lf), some (.ref dl), some (.ref bl), v15, none, none, none] ∧ Same H29 H') (fun D' hD q' => ?_) ?_
  · refine ⟨_, rfl, by omega, by omega, for_range (lo := 0) (fun i σ H' => ∃ (v5 v15 : Option V), σ = [some (.ref sa), some (.ref p), some (.ref z), some (.int (n : Nat)), some (.ref st), v5, some (.ref ar), v7, some (.int (mk : Nat)), some (.ref t9), some (.ref o), some (.int (m : Nat)), some (.ref lf), some (.ref dl), some (.ref bl), v15, none, none, none] ∧ Same H29 H') ⟨_, _, rfl, Same.refl _⟩ ?_ ?_⟩
    · rintro i σ H30 hi ⟨v5, v15, rfl, s30⟩
      obtain ⟨v, f, d, A', w1, w2, w3, w4, w5, w6, w7, w8⟩ := W i hi
      have i0 : (0 : Int) + (i : Int) = ((i : Nat) : Int) := by omega
      refine ⟨_, rfl, _, rfl, _, rfl, lf, _, _, _, rfl, rfl, SqL.of (K := K) (s30 _ _ ef29), (by rw [i0]; exact atI_nat w1), o, z, v, L, Row.sys n h l mk, f, rfl, Y29.same s30, ok, hin, R, n64, nnd, w2.same s30, w3, w4, w5, fun fd H31 s31 e31 => ?_⟩
      dsimp only [gName]
      have s2931 := s30.trans s31
      have ev : (valV' L (Row.sys n h l mk) f).map Prod.snd = ((Row.row n A').map L.nm).map V.str := by
        unfold valV'
        rw [List.map_map, ← Row.row_den (k := mk) (h := h) (l := l) (fun j hj => (w8 j hj).2), List.map_map, List.map_map]
        rfl
      refine ⟨_, rfl, fd, _, rfl, e31, ?_⟩
      rw [ev]
      refine newQ (.lst (((Row.row n A').map L.nm).map V.str)) fun fl hfl s32 e32 => ?_
      generalize upd H31 fl (.lst (((Row.row n A').map L.nm).map V.str)) = H32 at s32 e32 ⊢
      have s2932 := s2931.trans s32
      have e32d := s2932 _ _ w7
      refine ⟨_, rfl, _, rfl, dl, _, _, _, rfl, rfl, SqL.of (K := K) (s2932 _ _ ed29), (by rw [i0]; exact atI_nat w6), d, rfl, ⟨_, SqL.of (K := K) e32d⟩, fun D hD => ?_⟩
      refine lc_fold (walk_list (K := K) (a := d) (xs := natV (Row.row n A'))) hD (fun i _ ys => i ≤ n ∧ ys = (((Row.row n A').take i).map L.nm).map V.str) (fun _ => ⟨Nat.zero_le _, rfl⟩) (fun i _ _ xs _ h => h) ?_ (fun H s => SqL.of (K := K) (s _ _ e32d)) ?_ ?_
      · rintro i _ ys ⟨hi, rfl⟩
        rw [List.length_map, List.length_map, List.length_take]
        omega
      · rintro i x H33 H34 ys Nx Ex hi s33 ⟨_, rfl⟩ ⟨e34, hx⟩ k1 k2
        obtain rfl : H33 = H34 := e34.symm
        have hi : i < n := by rw [rl] at hi; exact hi
        rw [row_get _ hi] at hx
        obtain rfl := Option.some.inj hx
        refine ⟨rfl, ?_⟩
        refine lcY ?_
        have B33 := (B29.same s2932).same s33
        refine ⟨_, rfl, at_meth B33.lat T.in_name_at ⟨_, rfl, do_name B33.lat (w8 _ (by omega)).1 fun H34 s34 => k1 _ _ s34 ⟨hi, ?_⟩⟩⟩
        have e : (Row.row n A')[i]? = some (A' (n - 1 - i)) := by
          unfold Row.row
          rw [List.getElem?_map, List.getElem?_range hi]
          rfl
        rw [List.take_add_one, e, List.map_append, List.map_append]
        rfl
      rintro H33 ys s33 h33 ⟨_, rfl⟩
      rw [rl, List.take_of_length_le (by rw [row_len]; omega)] at h33
      have sok : ∀ x ∈ (Row.row n A').map L.nm, PyData.strOk x = true := fun x hx => by
        obtain ⟨a, ha, rfl⟩ := List.mem_map.mp hx
        obtain ⟨j, hj, rfl⟩ := List.mem_map.mp ha
        have := List.mem_range.mp hj
        exact nok _ (nm_mem (w8 _ (by omega)).1)
      refine ⟨_, _, dp_strG (SqL.of (s33 _ _ e32)), dp_strG (SqL.of h33), shp_strG sok, shp_strG sok, _, rfl, ?_⟩
      rw [eqv_strD, decide_eq_true rfl]
      refine iteF ?_
      exact ⟨_, _, rfl, s2932.trans s33⟩
    · rintro σ H30 ⟨v5, v15, rfl, s30⟩
      exact q' _ _ ⟨v5, v15, rfl, s30⟩
  rintro _ H30 ⟨v5, v15, rfl, s30⟩
  have B30 := B29.same s30
  have Y30 := Y29.same s30
  have f30 := f0'.same s30
  have ef30 := s30 _ _ ef29
  have ed30 := s30 _ _ ed29
  have e030 := s30 _ _ E0'
  clear B29 Y29 f0' ef29 ed29 E0' W
  refine set_run (fun v H' => v = .int 0 ∧ H30 = H') (fun Q' q' => q' _ _ ⟨rfl, rfl⟩) ?_
  rintro _ H' ⟨rfl, e⟩
  obtain rfl : H30 = H' := e
  dsimp only [gName]
  show tSeq _ _ _ [some (.ref sa), some (.ref p), some (.ref z), some (.int (n : Nat)), some (.ref st), v5, some (.ref ar), v7, some (.int (mk : Nat)), some (.ref t9), some (.ref o), some (.int (m : Nat)), some (.ref lf), some (.ref dl), some (.ref bl), v15, none, some (.int 0), none] H30
  have h2 : n ≤ 72 := by omega
  have cu := fun q (hq : q ∈ L.irrs) => Row.cutcnt R (by omega) h2 hmk hh (R.mem_irrs.mp hq).1 (R.mem_irrs.mp hq).2 L.e0
  refine st_run (fun σ H' => ∃ (M : Nat) (v16 v18 : Option V), σ = [some (.ref sa), some (.ref p), some (.ref z), some (.int (n : Nat)), some (.ref st), v5, some (.ref ar), v7, some (.int (mk : Nat)), some (.ref t9), some (.ref o), some (.int (m : Nat)), some (.ref lf), some (.ref dl), some (.ref bl), v15, v16, some (.int (M : Nat)), v18] ∧ Same H30 H' ∧ (∀ q, q ∈ L.irrs → Row.many L q (Row.row n (Row.alg L n h mk)) ≤ M) ∧ ∀ k, (∀ q, q ∈ L.irrs → Row.many L q (Row.row n (Row.alg L n h mk)) ≤ k) → M ≤ k) (fun D' hD q' => ?_) ?_
  · obtain ⟨Cz, dz, fz, tn, td, tu, A0⟩ := id B30.lat
    refine ⟨_, rfl, z, Cz, dz, fz, rfl, A0.at_, A0.c.cl, A0.c.me _ T.in_irreducibles, A0.no _ T.in_irreducibles, z, L, rfl, B30.lat, by omega, fun li H31 s31 f31 e31 => ?_⟩
    refine ⟨li, rfl, ⟨_, SqL.of (K := K) e31⟩, ?_⟩
    refine for_it (walk_list (K := K) (a := li) (xs := natV L.irrs)) (fun i σ H' => ∃ (M : Nat) (v16 v18 : Option V), σ = [some (.ref sa), some (.ref p), some (.ref z), some (.int (n : Nat)), some (.ref st), v5, some (.ref ar), v7, some (.int (mk : Nat)), some (.ref t9), some (.ref o), some (.int (m : Nat)), some (.ref lf), some (.ref dl), some (.ref bl), v15, v16, some (.int (M : Nat)), v18] ∧ Same H31 H' ∧ (∀ q, q ∈ L.irrs.take i → Row.many L q (Row.row n (Row.alg L n h mk)) ≤ M) ∧ ∀ k, (∀ q, q ∈ L.irrs → Row.many L q (Row.row n (Row.alg L n h mk)) ≤ k) → M ≤ k) ⟨0, _, none, rfl, Same.refl _, fun q hq => by simp at hq, fun k _ => Nat.zero_le _⟩ (fun i σ H' _ ⟨_, _, _, _, s, _⟩ => SqL.of (K := K) (s _ _ e31)) ?_ ?_
    · rintro i y σ H32 H33 hi ⟨M, v16, v18, rfl, s32, hM, hk⟩ ⟨e33, hy⟩
      obtain rfl : H32 = H33 := e33.symm
      obtain ⟨p0, hp0, rfl⟩ := nat_at hy
      have pin := List.mem_of_getElem? hp0
      obtain ⟨pn, pi⟩ := R.mem_irrs.mp pin
      have s3032 := s31.trans s32
      have B32 := B30.same s3032
      have ed32 := s3032 _ _ ed30
      have e032 := s3032 _ _ e030
      dsimp only [gName]
      refine ⟨_, rfl, .inl ⟨_, rfl, ?_⟩⟩
      refine ⟨_, rfl, dl, _, _, _, rfl, rfl, SqL.of (K := K) ed32, atI_nat (j := 0) rfl, d0, rfl, ⟨_, SqL.of (K := K) e032⟩, fun D hD => ?_⟩
      refine lc_fold (walk_list (K := K) (a := d0) (xs := natV (Row.row n (Row.alg L n h mk)))) hD (fun i _ ys => i ≤ n ∧ ys = natV (((Row.row n (Row.alg L n h mk)).take i).filter fun y => L.le p0 y)) (fun _ => ⟨Nat.zero_le _, rfl⟩) (fun i _ _ xs _ h => h) ?_ (fun H s => SqL.of (K := K) (s _ _ e032)) ?_ ?_
      · rintro i _ ys ⟨hi, rfl⟩
        unfold natV
        rw [List.length_map]
        refine Nat.le_trans (List.length_filter_le _ _) ?_
        rw [List.length_take]
        omega
      · rintro i x H33 H34 ys Nx Ex hi s33 ⟨_, rfl⟩ ⟨e34, hx⟩ k1 k2
        obtain rfl : H33 = H34 := e34.symm
        have hi : i < n := by rw [rl] at hi; exact hi
        rw [row_get _ hi] at hx
        obtain rfl := Option.some.inj hx
        have e : (Row.row n (Row.alg L n h mk))[i]? = some (Row.alg L n h mk (n - 1 - i)) := by
          unfold Row.row
          rw [List.getElem?_map, List.getElem?_range hi]
          rfl
        refine ⟨rfl, ?_⟩
        have B33 := B32.same s33
        refine ⟨_, rfl, at_meth B33.lat T.in_within_at ⟨_, rfl, _, rfl, do_within B33.lat pn (Row.alg_lt R hmk hh _ (by omega)) fun H34 s34 => ⟨_, rfl, ?_⟩⟩⟩
        refine ite2 (fun cc => ?_) (fun cc => ?_)
        · refine ⟨_, rfl, k1 _ _ s34 ⟨hi, ?_⟩⟩
          rw [List.take_add_one, e, List.filter_append]
          unfold natV
          rw [List.map_append, show (some (Row.alg L n h mk (n - 1 - i))).toList.filter (fun y => L.le p0 y) = [Row.alg L n h mk (n - 1 - i)] from List.filter_cons_of_pos cc]
          rfl
        · refine k2 _ s34 ⟨hi, ?_⟩
          rw [List.take_add_one, e, List.filter_append, show (some (Row.alg L n h mk (n - 1 - i))).toList.filter (fun y => L.le p0 y) = [] from List.filter_cons_of_neg cc, List.append_nil]
      rintro H33 ys s33 h33 ⟨_, rfl⟩
      rw [rl, List.take_of_length_le (by rw [row_len]; omega)] at h33
      have ln : (natV ((Row.row n (Row.alg L n h mk)).filter fun y => L.le p0 y)).length = Row.many L p0 (Row.row n (Row.alg L n h mk)) := by
        unfold natV
        rw [List.length_map]
        rfl
      refine ⟨D, _, rfl, .inl (SqL.of (K := K) h33), ?_⟩
      rw [ln]
      generalize hj : Row.many L p0 (Row.row n (Row.alg L n h mk)) = j
      refine ⟨_, _, rfl, ?_⟩
      refine ⟨if (j : Int) > (M : Int) then j else M, v16, some (.int (p0 : Nat)), ?_, s32.trans s33, fun q hq => ?_, fun k hk' => ?_⟩
      · show [_, _, _, _, _, _, _, _, _, _, _, _, _, _, _, _, _, some (V.int (if (j : Int) > (M : Int) then (j : Int) else (M : Int))), _] = _
        split <;> rfl
      · rw [List.take_add_one, hp0] at hq
        rcases List.mem_append.mp hq with h | h
        · have := hM q h
          split <;> omega
        · obtain rfl : q = p0 := by simpa using h
          rw [hj]
          split <;> omega
      · have := hk k hk'
        have := hk' p0 pin
        split <;> omega
    · rintro σ H32 ⟨M, v16, v18, rfl, s32, hM, hk⟩
      refine q' _ _ ⟨M, v16, v18, rfl, s31.trans s32, fun q hq => hM q (by
        have : (natV L.irrs).length = L.irrs.length := natV_length _
        rw [this, List.take_length]; exact hq), hk⟩
  rintro _ H31 ⟨M, v16, v18, rfl, s31, hM, hk⟩
  refine ⟨_, rfl, _, rfl, lf, _, _, _, rfl, rfl, SqL.of (K := K) (s31 _ _ ef30), atI_nat (j := 0) rfl, o, z, v0, L, Row.sys n h l mk, Row.f0, rfl, Y30.same s31, ok, hin, R, n64, nnd, f30.same s31, by decide, ⟨trivial, trivial⟩, (by simp [Row.f0, Row.body0, Fm.Bd]), fun k H32 s32 hc => ?_⟩
  have eok : L.Eok L.e0 := fun _ _ => R.isLow.2.1
  have hc : Cnt L (Row.sys n h l mk) true "x" Row.body0 L.e0 k := hc
  have k1 : M ≤ k := hk k fun q hq => (cu q hq).le hc
  have k2 : k ≤ M := cnt_max R ok hin (f := Row.body0) ⟨trivial, trivial⟩ eok hc (fun q => Row.many L q (Row.row n (Row.alg L n h mk))) cu hM
  obtain rfl : k = M := by omega
  refine ⟨_, rfl, rfl, ?_⟩
  rw [decide_eq_true rfl]
  exact q _
end
end Lw
theorem PySem.Challenge.cw_latticewish_k47_whole_long_rows_holds : PySem.Challenge.rw_latticewish_k47_whole_long_rows.Holds := by
  exact Lw.pre fun K mg w T base => Lw.ok_law T
#print axioms PySem.Challenge.cw_latticewish_k47_whole_long_rows_holds
