import PyProof.Rows.All
import Wide.All
import OpenK.AllK
import Wide.FinOn
import HandS.ForMost
import HandS.Walk
import HandS.Zip
import KE.GoesMore
import HandS.Deep
import HandS.DictComp
import HandS.IsInst
import HandS.RaiseMore
import HandS.ExcOwn
import KE.KSuper
import HandS.ClsMeth
import KE.RegKSuper
import HandS.ExcInit
import HandS.ExcSuper
import KE.KExcSuper
import KE.KExcInit
import HandS.ExcIs
import HandS.ExcField
import HandS.TryOnly
import HandS.Strs
import HandS.FStr
import HandS.Conv
import HandS.Defaults
import HandS.WordsExc
import PySem.Challenge.RW_latticewish_k03_chains_and_sets
set_option Elab.async false
set_option linter.all false
set_option maxRecDepth 100000
set_option maxHeartbeats 4000000
namespace Lw
open PySem L2
local macro_rules | `(tactic| walk_at "up") => `(tactic| first | assumption | (refine Same.at (by assumption) ?_; walk_at "up") | (refine Same.seq (by assumption) ?_; walk_at "up"))
local macro_rules | `(tactic| walk_at "rd") => `(tactic| repeat (first | (refine ⟨_, rfl, ?_⟩) | (refine ⟨_, _, rfl, rfl, ?_⟩) | (refine ⟨(by decide), ?_⟩)))
theorem _root_.L2.Same.new {H : Hp} {p : Addr} (h : H p = none) (o : HO) : Same H (upd H p o) := fun b u q => by rw [upd_ne (ne_of_none q h)]; exact q
theorem _root_.L2.Same.mut {H H' : Hp} {p : Addr} (s : Same H H') (h : H p = none) (o : HO) : Same H (upd H' p o) := fun b u q => by
  rw [upd_ne (ne_of_none q h)]; exact s b u q
theorem _root_.L2.Same.at {H H' : Hp} {p : Addr} {o : HO} (s : Same H H') (h : H p = some o) : H' p = some o := s p o h
/-- a new object, its heap told by what is known of it -/
theorem newO {H : Hp} {o : HO} {Q : Addr → Hp → Prop} (h : ∀ p H', H p = none → Same H H' → H' p = some o → Q p H') : ∀ p, H p = none → Q p (upd H p o) :=
  fun p hp => h p _ hp (Same.new hp o) upd_same
/-- the same, the object said, the heap as it is -/
theorem newQ {H : Hp} (o : HO) {G : Addr → Prop} (h : ∀ p, H p = none → Same H (upd H p o) → upd H p o p = some o → G p) : ∀ p, H p = none → G p :=
  fun p hp => h p hp (Same.new hp o) upd_same
theorem ans_run {t : TT} {σ : L2.St} {H : Hp} {Q : Bool → Hp → Prop} (b : Bool) (h : ∀ Q' : Bool → Hp → Prop, Q' b H → t σ H Q') (q : Q b H) : t σ H Q := h Q q
theorem iteN {c A B : Prop} [Decidable c] (hc : ¬ c) (h : B) : if decide c = true then A else B := by
  rw [decide_eq_false hc]
  exact iteF h
theorem iteY {c A B : Prop} [Decidable c] (hc : c) (h : A) : if decide c = true then A else B := by
  rw [decide_eq_true hc]
  exact iteT h
theorem lcY {σ : L2.St} {H : Hp} {A B : Hp → Prop} (h : A H) : tYes σ H (fun b H3 => if b = true then A H3 else B H3) := by
  show (if true = true then A H else B H)
  exact iteT h
theorem abs_map (ns : List Int) : ∀ z ∈ ns.map (fun i : Int => if i < 0 then -i else i), 0 ≤ z := by
  intro z hz
  obtain ⟨i, _, rfl⟩ := List.mem_map.mp hz
  split <;> omega
theorem map_at {ns : List Int} {i : Nat} {x : V} (h : (ns.map V.int)[i]? = some x) : ∃ z, ns[i]? = some z ∧ x = .int z := by
  rw [List.getElem?_map] at h
  cases e : ns[i]? with
  | none => rw [e] at h; cases h
  | some z => rw [e] at h; exact ⟨z, rfl, (Option.some.inj h).symm⟩
theorem take_snoc {α : Type} {l : List α} {i : Nat} {x : α} (h : l[i]? = some x) : l.take (i + 1) = l.take i ++ [x] := by
  obtain ⟨hl, rfl⟩ := List.getElem?_eq_some_iff.mp h
  rw [List.take_succ, List.getElem?_eq_getElem hl]; rfl
/-- what draws are made of -/
structure SrcIs (K : PySem.W.Frag) (H : Hp) (p c : Addr) (cs : List Int) (i : Nat) (l m : Int) : Prop where
  at_ : H p = some (.lst [.ref c, .int i, .int l, .int m])
  cel : SqL K H c (cs.map V.int)
  ne : c ≠ p
  hi : i ≤ cs.length
  hl : 0 ≤ l
  hc : ∀ z ∈ cs, 0 ≤ z
  m0 : 0 ≤ m
  m1 : m < 2147483563
def Src (K : PySem.W.Frag) (c : Addr) (H : Hp) (p : Addr) : Prop := ∃ cs i l m, SrcIs K H p c cs i l m
/-- all but p is as it was -/
def But (p : Addr) (H H' : Hp) : Prop := ∀ b o, b ≠ p → H b = some o → H' b = some o
theorem But.refl (p : Addr) (H : Hp) : But p H H := fun _ _ _ h => h
theorem But.trans {p : Addr} {H H1 H2 : Hp} (a : But p H H1) (b : But p H1 H2) : But p H H2 := fun c o n h => b c o n (a c o n h)
theorem But.upd {p : Addr} {H H' : Hp} (s : But p H H') (o : HO) : But p H (upd H' p o) := fun b u n h => by rw [upd_ne n]; exact s b u n h
theorem _root_.L2.Same.but {H H' : Hp} (s : Same H H') (p : Addr) : But p H H' := fun b o _ h => s b o h
theorem But.seq {K : PySem.W.Frag} {H H' : Hp} {p a : Addr} {xs : List V} (e : But p H H') (n : a ≠ p) (h : SqL K H a xs) : SqL K H' a xs := by
  rcases h with (h | ⟨o, h⟩) | h
  · exact .inl (.inl (e _ _ n h))
  · exact .inl (.inr ⟨o, e _ _ n h⟩)
  · exact .inr h
theorem SrcIs.put {K : PySem.W.Frag} {H : Hp} {p c : Addr} {cs : List Int} {i : Nat} {l m : Int} (h : SrcIs K H p c cs i l m) {i' : Nat} {l' m' : Int} (a : i' ≤ cs.length) (b : 0 ≤ l') (d : 0 ≤ m') (e : m' < 2147483563) :
    SrcIs K (upd H p (.lst [.ref c, .int i', .int l', .int m'])) p c cs i' l' m' :=
  ⟨upd_same, (But.upd (But.refl p H) _).seq h.ne h.cel, h.ne, a, b, h.hc, d, e⟩
theorem smallM {n : Nat} (h : n ≤ 1000000) : n < sizeLine := Nat.lt_of_le_of_lt h (by decide)
/-- a comprehension: R i H ys: what is known of the list made so far; F: what is kept of the heap; the list itself stands at D -/
theorem lc_foldF {J : It} {n : Nat} {G : Hp → Prop} {Yw : Nat → Hp → V → Hp → Prop} (w : Walk J n G Yw) {g : TG} {tt : TT} {te : TE} {vs : List Nat} {σ : L2.St} {H1 : Hp} {D : Addr} {Qd : Hp → Prop}
    (F : Hp → Prop) (R : Nat → Hp → List V → Prop) (f0 : F (upd H1 D (.lst []))) (fD : ∀ H ys zs, F H → H D = some (.lst ys) → F (upd H D (.lst zs))) (r0 : R 0 (upd H1 D (.lst [])) [])
    (rD : ∀ i H ys zs xs, R i H xs → H D = some (.lst ys) → R i (upd H D (.lst zs)) xs) (len : ∀ i H ys, R i H ys → ys.length ≤ 1000000) (hG : ∀ H, F H → G H)
    (hs : ∀ i x H H' ys (Nx : V → Hp → Prop) (Ex : Hp → Prop), i < n → F H → H D = some (.lst ys) → R i H ys → Yw i H x H' →
      (∀ y H2, F H2 → H2 D = some (.lst ys) → R (i + 1) H2 (ys ++ [y]) → Nx y H2) → (∀ H2, F H2 → H2 D = some (.lst ys) → R (i + 1) H2 ys → Ex H2) →
      g x (wipe σ vs) H' fun σ2 H2 => wipe σ2 vs = wipe σ vs ∧ tt σ2 H2 fun b H3 => if b = true then te σ2 H3 Nx else Ex H3)
    (hd : ∀ H ys, F H → H D = some (.lst ys) → R n H ys → Qd H) :
    ∃ W : Nat → Nat → Hp → Prop, (∃ m, W 0 m (upd H1 D (.lst []))) ∧ ∀ i m H, W i m H →
      (J.stop i H ∧ Qd H) ∨ (J.go i H ∧ ∃ Nx : Hp → Prop, (∀ H', Nx H' → ∃ m', m' < m ∧ W (i + 1) m' H') ∧ ∀ x H', J.yld i H x H' → g x (wipe σ vs) H' fun σ2 H2 => wipe σ2 vs = wipe σ vs ∧ tt σ2 H2 fun b H3 =>
        if b = true then te σ2 H3 fun y H4 => ∃ acc, H4 D = some (.lst acc) ∧ acc.length < sizeLine ∧ Nx (upd H4 D (.lst (acc ++ [y]))) else Nx H3) := by
  refine lc_it w (fun i H => F H ∧ ∃ ys, H D = some (.lst ys) ∧ R i H ys) ⟨f0, [], upd_same, r0⟩ (fun i H _ h => hG H h.1) ?_ ?_
  · rintro i x H H' hi ⟨f, ys, hy, r⟩ y
    refine hs i x H H' ys _ _ hi f hy r y (fun z H2 f2 h2 r2 => ?_) (fun H2 f2 h2 r2 => ⟨f2, ys, h2, r2⟩)
    exact ⟨ys, h2, smallM (len i H ys r), fD _ _ _ f2 h2, _, upd_same, rD _ _ _ _ _ r2 h2⟩
  · rintro H ⟨f, ys, hy, r⟩
    exact hd H ys f hy r
theorem snoc_at {α : Type} {l : List α} {x y : α} {j : Nat} (h : (l ++ [x])[j]? = some y) : l[j]? = some y ∨ (j = l.length ∧ y = x) := by
  rcases Nat.lt_or_ge j l.length with hj | hj
  · rw [List.getElem?_append_left hj] at h; exact .inl h
  · rw [List.getElem?_append_right hj] at h
    have := (List.getElem?_eq_some_iff.mp h).1
    simp at this
    have e : j = l.length := by omega
    subst e
    rw [Nat.sub_self] at h
    cases h
    exact .inr ⟨rfl, rfl⟩
theorem _root_.L2.Room.un2 {k : Nat} {A : Around} (r : Room k A) : A.units + 200 < cLine := by have := r.un; omega
theorem ixN_nat {n : Nat} {z : Int} (h0 : 0 ≤ z) (h : z.toNat < n) : ixN n z = some z.toNat := by
  unfold ixN
  rw [if_pos h0, if_pos (by omega : z < (n : Int))]
theorem sIx_some (n d k : Nat) : HT.sIx n d (some (k : Int)) = min k n := by first | exact HT.sIx_nat n d k | exact HT.sIx_some n d k | simp [HT.sIx]
theorem sIx_none (n d : Nat) : HT.sIx n d none = d := by first | rfl | simp [HT.sIx]
theorem cut1 (x : V) (xs : List V) : cutV (x :: xs) (some 1) none = xs := by
  unfold cutV
  rw [show (some (1 : Int)) = some ((1 : Nat) : Int) from rfl, sIx_some, sIx_none]
  have e : min 1 (x :: xs).length = 1 := by rw [List.length_cons]; omega
  rw [e]
  show List.take ((x :: xs).length - 1) xs = xs
  exact List.take_of_length_le (by rw [List.length_cons]; omega)
theorem cut1_not (x : V) (xs : List V) : ¬ (HT.sIx (x :: xs).length 0 (some 1) = 0 ∧ HT.sIx (x :: xs).length (x :: xs).length none = (x :: xs).length) := by
  rw [show (some (1 : Int)) = some ((1 : Nat) : Int) from rfl, sIx_some, List.length_cons]
  omega
/-! ### further rules: data compared and looked for at greater depths, dict.update, get of a written dict, zip of a tuple and a list -/
section
open PySem.Spec PyProof.Rows
variable {X : Cx}
/-- a datum that may be compared: n deep at most -/
def Shp (n : Nat) (d : PyData) : Prop := d.canLay0 = true ∧ d.depth ≤ n
def rEqX (K : PySem.W.Frag) : R2 := fun x y H Q => ∃ d e, Dp K H x d ∧ Dp K H y e ∧ Shp 190 d ∧ Shp 190 e ∧ Q (.bl (PyData.eqv d e)) H
def rNeX (K : PySem.W.Frag) : R2 := fun x y H Q => ∃ d e, Dp K H x d ∧ Dp K H y e ∧ Shp 190 d ∧ Shp 190 e ∧ Q (.bl (!PyData.eqv d e)) H
theorem op_eqX (hu : X.A.units + 200 < cLine) : OpR X (compareOp .Eq) (rEqX X.K) := by
  intro pins s σ H x y v u Q I rx ry ⟨d, e, hd, he, ⟨c1, d1⟩, ⟨c2, d2⟩, q⟩
  obtain ⟨as, r1⟩ := Dp.reads I d x v hd rx
  obtain ⟨bs, r2⟩ := Dp.reads I e y u he ry
  exact SeqAt.compareEq_reads r1 r2 c1 c2 (by have := Nat.min_le_left d.depth e.depth; omega) ⟨.bl _, H, I, rfl, q⟩
theorem op_neX (hu : X.A.units + 200 < cLine) : OpR X (compareOp .NotEq) (rNeX X.K) := by
  intro pins s σ H x y v u Q I rx ry ⟨d, e, hd, he, ⟨c1, d1⟩, ⟨c2, d2⟩, q⟩
  obtain ⟨as, r1⟩ := Dp.reads I d x v hd rx
  obtain ⟨bs, r2⟩ := Dp.reads I e y u he ry
  exact SeqAt.compareNe_reads r1 r2 c1 c2 (by have := Nat.min_le_left d.depth e.depth; omega) ⟨.bl _, H, I, rfl, q⟩
/-- x in (a, b, ..): data of any kind in a tuple -/
def rInTX (K : PySem.W.Frag) : R2 := fun x y H Q => ∃ d ds, Dp K H x d ∧ Dp K H y (.tuple ds) ∧ Shp 190 d ∧ PyData.canLayAll0 ds = true ∧ Q (.bl (ds.any fun z => PyData.eqv z d)) H
theorem op_inTX (hu : X.A.units + 200 < cLine) : OpR X (compareOp .In) (rInTX X.K) := by
  intro pins s σ H x y v u Q I rx ry ⟨d, ds, hd, he, ⟨c1, d1⟩, c2, q⟩
  obtain ⟨as, r1⟩ := Dp.reads I d x v hd rx
  obtain ⟨bs, r2⟩ := Dp.reads I (.tuple ds) y u he ry
  exact SeqAt.in_tuple_reads r2 r1 c2 c1 (by have := Nat.min_le_right (PyData.depthAll ds) d.depth; omega) ⟨.bl _, H, I, rfl, q⟩
/-- x in [a, b, ..]: the same in a list -/
def rInLX (K : PySem.W.Frag) : R2 := fun x y H Q => ∃ d ds, Dp K H x d ∧ Dp K H y (.list ds) ∧ Shp 190 d ∧ PyData.canLayAll0 ds = true ∧ Q (.bl (ds.any fun z => PyData.eqv z d)) H
theorem op_inLX (hu : X.A.units + 200 < cLine) : OpR X (compareOp .In) (rInLX X.K) := by
  intro pins s σ H x y v u Q I rx ry ⟨d, ds, hd, he, ⟨c1, d1⟩, c2, q⟩
  obtain ⟨as, r1⟩ := Dp.reads I d x v hd rx
  obtain ⟨bs, r2⟩ := Dp.reads I (.list ds) y u he ry
  exact SeqAt.in_list_reads r2 r1 c2 c1 (by have := Nat.min_le_right (PyData.depthAll ds) d.depth; omega) ⟨.bl _, H, I, rfl, q⟩
/-- blanks, n times -/
def rRepS : R2 := fun x y H Q => ∃ z n, x = .str z ∧ y = .int n ∧ MulOk z n ∧ Q (.str (Txt.mul z n)) H
theorem op_rep_str : OpR X (binaryOp .Mult) rRepS := by
  intro pins s σ H x y v u Q I rx ry ⟨z, n, e1, e2, ok, q⟩
  subst e1
  subst e2
  obtain ⟨t, rfl⟩ := rx
  obtain ⟨t2, rfl⟩ := ry
  exact SB.mul ok fun t' k => ⟨.str (Txt.mul z n), H, I.tok _, ⟨_, rfl⟩, q⟩
/-- d.update(e), two dicts of the call's own -/
def rUpdate : V → List V → Hp → VK → Prop := fun x vs H Q => ∃ (a b : Addr) (kvs more : List (Key × V)), x = .ref a ∧ vs = [.ref b] ∧ a ≠ b ∧ H a = some (.dK kvs) ∧ H b = some (.dK more) ∧ kvs.length + more.length ≤ sizeLine ∧ Q .non (upd H a (.dK (mergeK kvs more)))
theorem mt_update : MtR X "dict.update" rUpdate := by
  intro pins s σ H x vs v us Q I rx rv ⟨a, b, kvs, more, e1, e2, ne, ha, hb, hz, q⟩
  subst e1 e2
  cases rx
  obtain ⟨u, rfl, ru⟩ := rv.one
  cases ru
  obtain ⟨z1, lo1, ws, k1, D1⟩ := I.hok a _ ha
  obtain ⟨z2, lo2, rs, k2, D2⟩ := I.hok b _ hb
  have l1 := k1.length
  have l2 := k2.length
  refine call_meetsIn PySem.F.slot_dict_update D1.typeIs PySem.F.entry_dict_update (PySem.F.args_dict_update_2 _ _) (meets_dict_update (mixKind X.prog X.w) a b ne lo2)
    ⟨ws, rs, D1, D2, by omega, fun h' m1 m2 sb => ?_⟩
  have hm : Mut (H a) := by rw [ha]; trivial
  have new : ObjOk X.prog X.w (upd H a (.dK (mergeK kvs more))) h' a (.dK (mergeK kvs more)) :=
    ⟨Nat.le_trans (length_mergeK more kvs) hz, lo1, _, k2.merge k1, m1⟩
  obtain ⟨ob, _, _, q1, _⟩ := id m1
  refine ⟨.non, _, I.write (t' := s.toks) hm (.inl rfl) (fun c o n e => (sb.2 c n).trans e) ⟨ob, q1⟩ new, rfl, q⟩
/-- a dict that stands in the written part, its keys texts -/
structure KdAt (K : PySem.W.Frag) (w : World) (a : Addr) : Prop where
  at_ : ∃ es n, K.lookup a = some ⟨.type "dict", none, .dict es n, #[]⟩ ∧ PySem.W.KeysLit w.params es.toList
  low : (a == sysModules) = false
/-- D.get(k, d) of a written dict: r is what stands at k -/
theorem pe_kget2 {o e f : Expr} {td ty tx : TE} {apos cpos : Pos} (ho : PE X o td) (he : PE X e ty) (hf : PE X f tx) (m : M2 X o "get" apos e f cpos) :
    PE X (.Call (.Attribute o "get" apos) [e, f] [] cpos) (fun σ H Q => td σ H fun x H1 => ∃ a, x = .ref a ∧ KdAt X.K X.w a ∧ ty σ H1 fun y H2 => tx σ H2 fun z H3 =>
      ∃ (k : Str) (r : Option Value), y = .str k ∧ PySem.W.nsIn X.K a k = some r ∧ ∃ v, RelO (some v) (some (r.getD (.none))) ∧ Q (if r.isSome then v else z) H3) := by
  refine ⟨fun pins s σ H Q I h => ?_⟩
  refine wpAny_Call_method m.base m.few m.line PySem.F.plainAttrs_dict PySem.F.slot_dict_get PySem.F.type_dict_get (thn (ho.run pins s σ H _ I h) fun u s1 ⟨x, H1, I1, rx, a, ex, ⟨⟨es, n, hl, hk⟩, lo⟩, q1⟩ => ?_)
  subst ex
  obtain rfl : u = Value.ref a := rx
  have hm := PySem.W.mapOf_K (prog := X.prog) (w := X.w) I1.kIn hl hk
  refine ⟨hm.typeIs, fun b eb => ?_, ?_⟩
  · cases eb
    exact ⟨_, I1.kIn _ _ hl, rfl⟩
  rw [m.trees]
  refine Calls.callWith_builtin rfl (Calls.evalArgs_plain (Calls.spliced_cons (thn (he.run pins s1 σ H1 _ I1 q1) fun iv s2 ⟨y, H2, I2, ry, q2⟩ =>
    Calls.spliced_cons (thn (hf.run pins s2 σ H2 _ I2 q2) fun fv s3 ⟨z, H3, I3, rz, k, r, ey, hn, v, rv, q3⟩ => Calls.spliced_nil ?_))))
  subst ey
  obtain ⟨t, rfl⟩ := ry
  have hm3 := PySem.W.mapOf_K (prog := X.prog) (w := X.w) I3.kIn hl hk
  refine call_meetsIn PySem.F.slot_dict_get hm3.typeIs PySem.F.entry_dict_get (PySem.F.args_dict_get_3 _ _ _) (meets_dict_get_default (strKind X.prog X.w) a (strKind_is X.prog X.w k t) lo fv) ⟨_, hm3, ?_⟩
  rw [PySem.W.find_K hl hn]
  cases r with
  | none => exact ⟨_, H3, I3.tok _, rz, q3⟩
  | some u => exact ⟨_, H3, I3.tok _, rv, q3⟩
end

section
open PySem.Spec PyProof.Rows
/-- zip of the tuple at a and the list at b: their items in new pairs -/
def ItzM (K : PySem.W.Frag) (a b : Addr) : It where
  go := fun i H => ∃ (xs ys : List V) (x y : V), SqT K H a xs ∧ SqL K H b ys ∧ xs[i]? = some x ∧ ys[i]? = some y
  yld := fun i H v H' => ∃ T x y, v = .ref T ∧ H T = none ∧ H' = upd H T (.tup [x, y]) ∧ (∀ xs, SqT K H a xs → xs[i]? = some x) ∧ ∀ ys, SqL K H b ys → ys[i]? = some y
  stop := fun i H => ∃ xs ys : List V, SqT K H a xs ∧ SqL K H b ys ∧ i ≤ xs.length ∧ i ≤ ys.length ∧ (i = xs.length ∨ i = ys.length)
theorem turn_zipM {P : Program} {w : World} {K : PySem.W.Frag} {elts : List Expr} {kk : Nat} {tpos : Pos} {a b z TI TO i1 i2 : Addr} (D : ZipApart z TI TO i1 i2 a b) :
    Turn P w K (.Tuple elts kk tpos) (ItzM K a b) [z, TI, TO, i1, i2] z (fun i h => IsZip h z TI TO .none ∧ IsTupOf2 h TI (.ref i1) (.ref i2) ∧ (∃ x y, IsTupOf2 h TO x y) ∧ h.IsTupleIter i1 a i ∧ h.IsListIter i2 b i) := by
  have S : ZipSep2 z TI TO i1 i2 [i1, a] [i2, b] := by
    obtain ⟨d1, d2, d3, d4, d5, d6, d7, d8, d9, d10, d11, d12, d13, d14, d15, d16, d17, d18⟩ := D
    exact ⟨d1, d2, d5, d6, by simp, by simp [d3.symm, d11.symm], by simp [d8, d12.symm], d7, by simp, by simp [d4.symm, d15.symm], by simp [d9, d16.symm], by simp [d10, d17.symm], by simp [d10.symm, d14.symm]⟩
  have five : ∀ {c : Addr} {p : Addr → Prop}, c ∈ [z, TI, TO, i1, i2] → p z → p TI → p TO → p i1 → p i2 → p c := fun {c p} hc p1 p2 p3 p4 p5 => by
    rcases (by simpa using hc : c = z ∨ c = TI ∨ c = TO ∨ c = i1 ∨ c = i2) with r | r | r | r | r <;> rw [r] <;> assumption
  constructor
  case mem => simp
  case obj =>
    intro i h ⟨hz, hTI, ⟨x, y, hTO⟩, ⟨o1, e1, _, f1⟩, ⟨o2, e2, _, f2⟩⟩ c hc
    refine five (p := fun c => ∃ o, h.get? c = some o ∧ ∀ v, o.data ≠ .cell v) hc ⟨_, hz, fun v q => nomatch q⟩ ⟨_, hTI, fun v q => nomatch q⟩ ⟨_, hTO, fun v q => nomatch q⟩ ⟨o1, e1, fun v q => ?_⟩ ⟨o2, e2, fun v q => ?_⟩
    · rw [f1] at q; cases q
    · rw [f2] at q; cases q
  case keep =>
    intro i h h' ⟨hz, hTI, ⟨x, y, hTO⟩, h1, h2⟩ k
    exact ⟨k _ (by simp) _ hz, k _ (by simp) _ hTI, ⟨_, _, k _ (by simp) _ hTO⟩, h1.at fun o q => k _ (by simp) o q, h2.at fun o q => k _ (by simp) o q⟩
  case item =>
    intro X hP hw hK hc i pins s σ H E I hf ⟨hz, hTI, ⟨x0, y0, hTO⟩, h1, h2⟩ ⟨xs, ys, x, y, hqx, hqy, hx, hy⟩
    subst hP hw hK
    have hh := I.ok.hd hc
    obtain ⟨its, rv, p, _⟩ := I.tuple hqx
    obtain ⟨its2, rv2, p2, _⟩ := I.list hqy
    obtain ⟨u, hu, ru⟩ := rv.get hx
    obtain ⟨u2, hu2, ru2⟩ := rv2.get hy
    have hzl : z < s.heap.objs.size := Heap.lt_size hz
    have g1 : i < its.toArray.size := by simpa using (List.getElem?_eq_some_iff.mp hu).1
    have g2 : i < its2.toArray.size := by simpa using (List.getElem?_eq_some_iff.mp hu2).1
    refine wpAny_pyNext_zipD2_item S (Draws.tuple (A := X.A.in1) hh i1 a D.l1i1 its.toArray) (Draws.list (A := X.A.in1) hh i2 b D.l2i2 its2.toArray) hz hTI hTO ⟨h1, p⟩ ⟨h2, p2.isList⟩ g1 g2 fun v1 v2 h' tk w1 w2 z' TO' s1 s2 hT hsz hk => ?_
    have ev1 : v1 = u := by
      have q : its[i]? = some v1 := by simpa using w1
      rw [hu] at q; exact (Option.some.inj q).symm
    have ev2 : v2 = u2 := by
      have q : its2[i]? = some v2 := by simpa using w2
      rw [hu2] at q; exact (Option.some.inj q).symm
    subst ev1 ev2
    refine ⟨_, rfl, wpAny_letOwnedTupleGo_zip (s := { s with heap := h', toks := tk }) z' fun h'' z'' sb => ?_⟩
    have hT2 : h''.get? s.heap.objs.size = some { cls := .type "tuple", data := .seq #[v1, v2] } := (sb.2 _ (Nat.ne_of_gt hzl)).trans hT
    have new : ObjOk X.prog X.w (upd H s.heap.objs.size (.tup [x, y])) h'' s.heap.objs.size (.tup [x, y]) :=
      ⟨by show 2 ≤ sizeLine; decide, [v1, v2], .cons ru (.cons ru2 .nil), ⟨_, hT2, rfl, _, rfl⟩⟩
    have out : ∀ {c : Addr}, c ∉ [z, TI, TO, i1, i2] → c ≠ z ∧ c ≠ TO ∧ c ≠ i1 ∧ c ≠ i2 := fun {c} hc => by
      simp only [List.mem_cons, not_or] at hc
      exact ⟨hc.1, hc.2.2.1, hc.2.2.2.1, hc.2.2.2.2.1⟩
    have I1 : Inv X pins σ (upd H s.heap.objs.size (.tup [x, y])) { s with heap := h'', toks := tk } :=
      I.turnedNew (t' := tk) (ch := [z, TI, TO, i1, i2]) (fun c o hb q => let ⟨n1, n2, n3, n4⟩ := out hb; (sb.2 c n1).trans (hk c o n1 n2 n3 n4 q)) hf (Nat.le_refl _) new
    refine ⟨.ref s.heap.objs.size, _, I1, rfl, ⟨_, x, y, rfl, I.hok.fresh (Nat.le_refl _), rfl, fun l hl => ?_, fun l hl => ?_⟩, ⟨z'', ?_, ⟨v1, v2, ?_⟩, ?_, ?_⟩, fun c hcm => ?_⟩
    · rw [I.tuple_inj hl hqx]; exact hx
    · rw [I.list_inj hl hqy]; exact hy
    · exact (sb.2 _ D.TIz).trans (hk _ _ D.TIz D.TITO D.TIi1 D.TIi2 hTI)
    · exact (sb.2 _ D.TOz).trans TO'
    · exact s1.1.at fun o q => (sb.2 _ D.i1z).trans q
    · exact s2.1.at fun o q => (sb.2 _ D.i2z).trans q
    · have lt1 : i1 < s.heap.objs.size := by obtain ⟨_, e1, _⟩ := h1; exact Heap.lt_size e1
      have lt2 : i2 < s.heap.objs.size := by obtain ⟨_, e1, _⟩ := h2; exact Heap.lt_size e1
      have hlt : c < s.heap.objs.size := five (p := fun c => c < s.heap.objs.size) hcm hzl (Heap.lt_size hTI) (Heap.lt_size hTO) lt1 lt2
      rw [upd_ne (Nat.ne_of_lt hlt)]
      exact (hf c hcm).1
  case done =>
    intro X hP hw hK hc i pins s σ H E I hf ⟨hz, hTI, ⟨x0, y0, hTO⟩, h1, h2⟩ ⟨xs, ys, hqx, hqy, b1, b2, hend⟩
    subst hP hw hK
    have hh := I.ok.hd hc
    obtain ⟨its, rv, p, _⟩ := I.tuple hqx
    obtain ⟨its2, rv2, p2, _⟩ := I.list hqy
    have l1 : xs.length = its.toArray.size := by simpa using rv.length
    have l2 : ys.length = its2.toArray.size := by simpa using rv2.length
    refine wpAny_pyNext_zipD2_end S (Draws.tuple (A := X.A.in1) hh i1 a D.l1i1 its.toArray) (Draws.list (A := X.A.in1) hh i2 b D.l2i2 its2.toArray) hz hTI hTO ⟨h1, p⟩ ⟨h2, p2.isList⟩ (by omega) (by omega) (by omega) fun h' tk hk => ⟨rfl, ?_⟩
    refine I.turnedL (t' := tk) (ch := [z, TI, TO, i1, i2]) (fun c o hb q => ?_) hf
    simp only [List.mem_cons, not_or] at hb
    exact hk c o hb.1 hb.2.2.1 hb.2.2.2.1 hb.2.2.2.2.1 q
  case self => exact fun A i s Q E st h => wpAny_pyIter_zip st.1 h
def iZipM (K : PySem.W.Frag) (ta : TA) : TI := fun σ H R => ta σ H fun vs H1 => ∃ a b xs ys, vs = [.ref a, .ref b] ∧ SqT K H1 a xs ∧ SqL K H1 b ys ∧ R (ItzM K a b) H1
theorem pi_zipM {X : Cx} {e e2 : Expr} {ta : TA} {p pos tpos : Pos} {elts : List Expr} {kk : Nat} (hg : Gl X "zip") (hm : X.mg "zip" = none) (ha : PA X [e, e2] ta)
    (hs : starEach [e, e2] X.env = (false, eval e X.env) :: starEach [e2] X.env := by rfl) (hpl : (backTo pos (starEach [e2] X.env)).any (·.1) = false := by rfl) :
    PI X (.Tuple elts kk tpos) (.Call (.Name "zip" p) [e, e2] [] pos) (iZipM X.K ta) := by
  refine ⟨fun pins s σ H R I h => ?_⟩
  refine Call_ (ld_blt I hg hm PyProof.Rows.boot_zip (PyProof.Rows.callWith_type1 (thn (ha.run pos pins s σ H _ I h) fun us s1 ⟨vs, H1, I1, r1, a, b, xs, ys, ex, hqx, hqy, q⟩ => ?_) hs hpl))
  subst ex
  obtain ⟨u, u', rfl, r, r'⟩ := r1.two
  cases r
  cases r'
  obtain ⟨its, rv, p1, _⟩ := I1.tuple hqx
  obtain ⟨its2, rv2, p2, _⟩ := I1.list hqy
  have la : a < s1.heap.objs.size := by obtain ⟨o1, ho1, _⟩ := id p1; exact Heap.lt_size ho1
  refine zip_begins2 (begins_tuple a its.toArray) (begins_list b its2.toArray) p1 p2.isList fun h' hz hTI hTO h1 h2 hsz hk => wpAny_pyIter_zip hz ?_
  have I2 : Inv X pins σ H1 { s1 with heap := h' } := I1.kept (t' := s1.toks) hk
  refine ⟨s1.heap.objs.size + 4, [s1.heap.objs.size + 4, s1.heap.objs.size + 2, s1.heap.objs.size + 3, s1.heap.objs.size, s1.heap.objs.size + 1], _, _, H1, rfl, I2, turn_zipM (PySem.W.ktu_apart s1.heap.objs.size a b la p2.lt), ⟨hz, hTI, ⟨_, _, hTO⟩, ⟨_, h1, rfl, rfl⟩, ⟨_, h2, rfl, rfl⟩⟩, fun c hcm => ?_, q⟩
  have hle : s1.heap.objs.size ≤ c := by
    rcases (by simpa using hcm : c = s1.heap.objs.size + 4 ∨ c = s1.heap.objs.size + 2 ∨ c = s1.heap.objs.size + 3 ∨ c = s1.heap.objs.size ∨ c = s1.heap.objs.size + 1) with r | r | r | r | r <;> rw [r]
    · exact Nat.le_add_right _ _
    · exact Nat.le_add_right _ _
    · exact Nat.le_add_right _ _
    · exact Nat.le_refl _
    · exact Nat.le_add_right _ _
  exact I1.fpOk hle (I1.hok.fresh hle)
/-- a loop over such a zip, as many items on both sides -/
theorem for_zipM {K : PySem.W.Frag} {a b : Addr} {xs ys : List V} {g : TG} {tb : TS} {D : Ends} {σ : L2.St} {H : Hp} (hl : xs.length = ys.length) (Pv : Nat → L2.St → Hp → Prop) (h0 : Pv 0 σ H) (hq : ∀ i σ H, Pv i σ H → SqT K H a xs ∧ SqL K H b ys)
    (hs : ∀ (i : Nat) (x y : V) (T : Addr) (σ : L2.St) (H : Hp), xs[i]? = some x → ys[i]? = some y → Pv i σ H → H T = none → g (.ref T) σ (upd H T (.tup [x, y])) fun σ2 H2 => tb { D with nx := Pv (i + 1), ct := Pv (i + 1), bk := D.nx } σ2 H2) (hd : ∀ σ H, Pv xs.length σ H → D.nx σ H) :
    ∃ W : Nat → Nat → L2.St → Hp → Prop, (∃ m, W 0 m σ H) ∧ ∀ i m σ H, W i m σ H →
      ((ItzM K a b).stop i H ∧ D.nx σ H) ∨ ((ItzM K a b).go i H ∧ ∃ N : L2.St → Hp → Prop, (∀ σ' H', N σ' H' → ∃ m', m' < m ∧ W (i + 1) m' σ' H') ∧ ∀ v H', (ItzM K a b).yld i H v H' → g v σ H' fun σ2 H2 => tb { D with nx := N, ct := N, bk := D.nx } σ2 H2) := by
  refine ⟨fun i m σ H => m = xs.length - i ∧ i ≤ xs.length ∧ Pv i σ H, ⟨xs.length, rfl, Nat.zero_le _, h0⟩, fun i m σ H ⟨em, hi, p⟩ => ?_⟩
  subst em
  obtain ⟨qx, qy⟩ := hq i σ H p
  rcases Nat.lt_or_ge i xs.length with hlt | hge
  · refine .inr ⟨⟨xs, ys, _, _, qx, qy, List.getElem?_eq_getElem hlt, List.getElem?_eq_getElem (by omega : i < ys.length)⟩, Pv (i + 1), fun σ' H' p' => ⟨xs.length - (i + 1), by omega, rfl, hlt, p'⟩, fun v H' ⟨T, x', y', e1, hT, e2, f1, f2⟩ => ?_⟩
    subst e1 e2
    exact hs i x' y' T σ H (f1 xs qx) (f2 ys qy) p hT
  · have e : i = xs.length := by omega
    subst e
    exact .inl ⟨⟨xs, ys, qx, qy, Nat.le_refl _, by omega, .inl rfl⟩, hd σ H p⟩
end
/-! ### rules for a comprehension's block: the written part by its name -/
section
variable {X : Cx} (K : PySem.W.Frag)
theorem kx_ix_tup (h : X.K = K := by rfl) : IxR X (rIxT K) := h ▸ ix_tup
theorem kx_ix_list (h : X.K = K := by rfl) : IxR X (rIxL K) := h ▸ ix_list
theorem kx_ix_kdict (w : World) (h : X.K = K := by rfl) (hw : X.w = w := by rfl) : IxR X (rIxD K w) := by subst h hw; exact ix_kdict
theorem kx_op_eqX (hu : X.A.units + 200 < cLine) (h : X.K = K := by rfl) : OpR X (compareOp .Eq) (rEqX K) := h ▸ op_eqX hu
theorem kx_op_neX (hu : X.A.units + 200 < cLine) (h : X.K = K := by rfl) : OpR X (compareOp .NotEq) (rNeX K) := h ▸ op_neX hu
theorem kx_op_in_seq (h : X.K = K := by rfl) : OpR X (compareOp .In) (rIn K false) := h ▸ op_in_seq
theorem kx_op_notIn_seq (h : X.K = K := by rfl) : OpR X (compareOp .NotIn) (rIn K true) := h ▸ op_notIn_seq
theorem kx_call_isi (h : X.K = K := by rfl) : CallR X (.builtin "isinstance") (rIsi K) := h ▸ call_isi
def rLenQ (K : PySem.W.Frag) : List V → Hp → VK → Prop := fun xs H Q => ∃ p ys, xs = [.ref p] ∧ (SqL K H p ys ∨ SqT K H p ys) ∧ Q (.int ys.length) H
theorem kx_call_len_seq (h : X.K = K := by rfl) : CallR X (.builtin "len") (rLenQ K) := h ▸ call_len_seq
theorem kx_bm {e : Expr} {ty : String} {r : V → List V → Hp → VK → Prop} {to : TE} {t : TA} (p : PE X e (tBM X.K ty r to t)) (h : X.K = K := by rfl) : PE X e (tBM K ty r to t) := h ▸ p
theorem kx_bm0 {e : Expr} {ty : String} {r : V → List V → Hp → VK → Prop} {to : TE} (p : PE X e (tBM0 X.K ty r to)) (h : X.K = K := by rfl) : PE X e (tBM0 K ty r to) := h ▸ p
theorem kx_cr_sum (hc : X.calm = true := by rfl) (h : X.K = K := by rfl) : CallR X (.builtin "sum") (rSum K) := h ▸ cr_sum hc
end

section
variable {X : Cx}
/-- a new thing is locked as soon as it is there (a dict that is walked and dropped) -/
def tFrz (t : TE) : TE := fun σ H Q => t σ H fun x H1 => ∃ d u, x = .ref d ∧ H1 d = some u ∧ Mut (some u) ∧ ∀ od, Q x (upd H1 d (.frz od u))
theorem pe_frz {e : Expr} {t : TE} (he : PE X e t) : PE X e (tFrz t) := by
  refine ⟨fun pins s σ H Q I hw => ?_⟩
  refine thn (he.run pins s σ H _ I hw) fun v s1 ⟨x, H1, I1, r, d, u, ex, hd, mu, q⟩ => ?_
  obtain ⟨od, I2⟩ := I1.lock hd mu
  exact ⟨x, _, I2, r, q od⟩
end
/-! ### the plain law: sets of places as numbers, lattices -/
/-- the number whose binary digits are the places below n with p -/
def mask (n : Nat) (p : Nat → Bool) : Nat := match n with
  | 0 => 0
  | n + 1 => mask n p + if p n then 2 ^ n else 0
theorem mask_lt (p : Nat → Bool) : ∀ n, mask n p < 2 ^ n
  | 0 => by show 0 < 1; omega
  | n + 1 => by
    have h := mask_lt p n
    show mask n p + (if p n then 2 ^ n else 0) < 2 ^ (n + 1)
    rw [Nat.pow_succ]
    split <;> omega
theorem mask_bit (p : Nat → Bool) : ∀ n i, (mask n p).testBit i = (decide (i < n) && p i)
  | 0, i => by
    show Nat.testBit 0 i = _
    simp
  | n + 1, i => by
    have h := mask_lt p n
    have ih := mask_bit p n i
    show (mask n p + if p n then 2 ^ n else 0).testBit i = _
    by_cases c : p n = true
    · rw [if_pos c, Nat.add_comm]
      by_cases e : i = n
      · subst e
        rw [Nat.testBit_two_pow_add_eq, ih, c]
        simp
      · rcases Nat.lt_or_ge i n with l | l
        · rw [Nat.testBit_two_pow_add_gt (by omega), ih]
          have : i < n + 1 := by omega
          simp [l, this]
        · have l2 : ¬ i < n + 1 := by omega
          have z : 2 ^ n + mask n p < 2 ^ i := Nat.lt_of_lt_of_le (by rw [Nat.pow_succ]; omega : 2 ^ n + mask n p < 2 ^ (n + 1)) (Nat.pow_le_pow_right (by decide) (by omega))
          rw [Nat.testBit_lt_two_pow z]
          simp [l2]
    · rw [if_neg c, Nat.add_zero, ih]
      by_cases e : i = n
      · subst e
        simp [Bool.not_eq_true _ ▸ c]
      · have : (i < n) ↔ (i < n + 1) := by omega
        simp [this]
theorem mask_ext {n : Nat} {p q : Nat → Bool} (h : ∀ i, i < n → p i = q i) : mask n p = mask n q := by
  refine Nat.eq_of_testBit_eq fun i => ?_
  rw [mask_bit, mask_bit]
  by_cases c : i < n
  · rw [h i c]
  · simp [c]
theorem mask_eq {n : Nat} {p q : Nat → Bool} : mask n p = mask n q ↔ ∀ i, i < n → p i = q i := by
  refine ⟨fun h i hi => ?_, mask_ext⟩
  have := congrArg (Nat.testBit · i) h
  simpa [mask_bit, hi] using this
theorem mask_and (n : Nat) (p q : Nat → Bool) : mask n p &&& mask n q = mask n fun i => p i && q i := by
  refine Nat.eq_of_testBit_eq fun i => ?_
  rw [Nat.testBit_and, mask_bit, mask_bit, mask_bit]
  cases decide (i < n) <;> simp
theorem mask_or (n : Nat) (p q : Nat → Bool) : mask n p ||| mask n q = mask n fun i => p i || q i := by
  refine Nat.eq_of_testBit_eq fun i => ?_
  rw [Nat.testBit_or, mask_bit, mask_bit, mask_bit]
  cases decide (i < n) <;> simp
theorem mask_all (n : Nat) : mask n (fun _ => true) = 2 ^ n - 1 := by
  refine Nat.eq_of_testBit_eq fun i => ?_
  rw [mask_bit, Nat.testBit_two_pow_sub_one]
  simp
theorem mask_one {n a : Nat} (h : a < n) : mask n (fun i => i == a) = 2 ^ a := by
  refine Nat.eq_of_testBit_eq fun i => ?_
  rw [mask_bit, Nat.testBit_two_pow]
  by_cases e : i = a
  · subst e; simp [h]
  · simp [e, Ne.symm e]
theorem mask_of {n m : Nat} (h : m < 2 ^ n) : m = mask n m.testBit := by
  refine Nat.eq_of_testBit_eq fun i => ?_
  rw [mask_bit]
  by_cases c : i < n
  · simp [c]
  · rw [Nat.testBit_lt_two_pow (Nat.lt_of_lt_of_le h (Nat.pow_le_pow_right (by decide) (by omega)))]
    simp [c]
/-! #### the same as whole numbers of the program -/
theorem bit_int (m a : Nat) : Builtin.bitAnd ((m : Int) / 2 ^ a) 1 = if m.testBit a then 1 else 0 := by
  have e : Builtin.bitAnd ((m : Int) / 2 ^ a) 1 = ((m : Int) / 2 ^ a) % 2 := by
    have := Bits.bitAnd_mask (x := (m : Int) / 2 ^ a) 1 (Int.ediv_nonneg (Int.natCast_nonneg _) (by exact Int.le_of_lt (Int.pow_pos (by decide))))
    simpa using this
  rw [e, Nat.testBit_eq_decide_div_mod_eq]
  have e2 : ((m : Int) / 2 ^ a) % 2 = ((m / 2 ^ a % 2 : Nat) : Int) := by
    rw [Int.natCast_emod, Int.natCast_ediv, Int.natCast_pow]
    rfl
  rw [e2]
  rcases Nat.mod_two_eq_zero_or_one (m / 2 ^ a) with h | h <;> rw [h] <;> rfl
theorem bit_is (m a : Nat) : decide (Builtin.bitAnd ((m : Int) / 2 ^ a) 1 = 1) = m.testBit a := by
  rw [bit_int]
  cases m.testBit a <;> rfl
theorem and_int_nat (a b : Nat) : Builtin.bitAnd (a : Int) (b : Int) = ((a &&& b : Nat) : Int) := by
  rw [PyProof.Rows.bitAnd_pp (Int.natCast_nonneg _) (Int.natCast_nonneg _)]
  rfl
theorem or_int_nat (a b : Nat) : Builtin.bitOr (a : Int) (b : Int) = ((a ||| b : Nat) : Int) := by
  rw [Bits.bitOr_pp (Int.natCast_nonneg _) (Int.natCast_nonneg _)]
  rfl
/-- a & ~b -/
theorem andnot_int (n : Nat) (p q : Nat → Bool) : Builtin.bitAnd (mask n p : Int) (Builtin.bitNot (mask n q : Int)) = (mask n (fun i => p i && !q i) : Int) := by
  have hneg : ¬ (0 ≤ Builtin.bitNot (mask n q : Int)) := by show ¬ (0 ≤ -(mask n q : Int) - 1); omega
  have hpos : (0 : Int) ≤ (mask n p : Int) := Int.natCast_nonneg _
  have nn : Builtin.bitNot (Builtin.bitNot (mask n q : Int)) = (mask n q : Int) := by show -(-(mask n q : Int) - 1) - 1 = _; omega
  have e : Builtin.bitAnd (mask n p : Int) (Builtin.bitNot (mask n q : Int)) = (mask n p : Int) - ((mask n p &&& mask n q : Nat) : Int) := by
    unfold Builtin.bitAnd
    rw [show decide ((0 : Int) ≤ (mask n p : Int)) = true from decide_eq_true hpos, show decide ((0 : Int) ≤ Builtin.bitNot (mask n q : Int)) = false from decide_eq_false hneg]
    show (mask n p : Int) - (((mask n p : Int).toNat &&& (Builtin.bitNot (Builtin.bitNot (mask n q : Int))).toNat : Nat) : Int) = _
    rw [nn]
    rfl
  rw [e, mask_and]
  have s : ∀ m, mask m (fun i => p i && q i) + mask m (fun i => p i && !q i) = mask m p := fun m => by
    induction m with
    | zero => rfl
    | succ m ih =>
      show (mask m _ + if (p m && q m) = true then 2 ^ m else 0) + (mask m _ + if (p m && !q m) = true then 2 ^ m else 0) = mask m p + if p m = true then 2 ^ m else 0
      rw [← ih]
      cases p m <;> cases q m <;> simp <;> omega
  have := s n
  omega
/-- the sum of 2 ** i over the places with p -/
theorem sum_mask (p : Nat → Bool) : ∀ n, ((((List.range n).filter p).map fun i => ((2 ^ i : Nat) : Int))).sum = (mask n p : Int)
  | 0 => rfl
  | n + 1 => by
    rw [List.range_succ, List.filter_append, List.map_append, List.sum_append, sum_mask p n]
    show _ = ((mask n p + if p n then 2 ^ n else 0 : Nat) : Int)
    by_cases c : p n = true
    · simp [List.filter, c]
    · simp [List.filter, c]
/-- the first place below n with p -/
def first : Nat → (Nat → Bool) → Option Nat := fun n p => (List.range n).find? p
theorem first_some {n k : Nat} {p : Nat → Bool} (h : first n p = some k) : k < n ∧ p k = true ∧ ∀ j, j < k → p j = false := by
  unfold first at h
  obtain ⟨h1, as, bs, h2, h3⟩ := List.find?_eq_some_iff_append.mp h
  have hk : k < n := List.mem_range.mp (List.mem_of_find?_eq_some h)
  refine ⟨hk, h1, fun j hj => ?_⟩
  have hl : as.length = k := by
    have e1 : (List.range n)[as.length]? = some k := by rw [h2, List.getElem?_append_right (Nat.le_refl _), Nat.sub_self]; rfl
    have e2 := (List.getElem?_eq_some_iff.mp e1).1
    rw [List.getElem?_range (by simpa using e2)] at e1
    exact Option.some.inj e1
  have e1 : (List.range n)[j]? = some j := List.getElem?_range (by omega)
  rw [h2, List.getElem?_append_left (by omega)] at e1
  have := h3 j (List.mem_of_getElem? e1)
  simpa using this
theorem first_none {n : Nat} {p : Nat → Bool} (h : first n p = none) : ∀ j, j < n → p j = false := fun j hj => by
  have := List.find?_eq_none.mp h j (List.mem_range.mpr hj)
  simpa using this
theorem first_is {n k : Nat} {p : Nat → Bool} (hk : k < n) (h1 : p k = true) (h2 : ∀ j, j < k → p j = false) : first n p = some k := by
  cases e : first n p with
  | none => have := first_none e k hk; rw [h1] at this; cases this
  | some m =>
    obtain ⟨a, b, c⟩ := first_some e
    rcases Nat.lt_trichotomy m k with l | l | l
    · have := h2 m l; rw [b] at this; cases this
    · rw [l]
    · have := c k l; rw [h1] at this; cases this
theorem first_not {n : Nat} {p : Nat → Bool} (h : ∀ j, j < n → p j = false) : first n p = none := by
  cases e : first n p with
  | none => rfl
  | some m =>
    obtain ⟨a, b, _⟩ := first_some e
    rw [h m a] at b; cases b
theorem first_ext {n : Nat} {p q : Nat → Bool} (h : ∀ i, i < n → p i = q i) : first n p = first n q := by
  cases e : first n p with
  | none => exact (first_not fun j hj => by rw [← h j hj]; exact first_none e j hj).symm
  | some m =>
    obtain ⟨a, b, c⟩ := first_some e
    exact (first_is a (by rw [← h m a]; exact b) fun j hj => by rw [← h j (by omega)]; exact c j hj).symm
/-- a lattice: its label, names, order and depth -/
structure Lt where
  label : Str
  names : List Str
  le : Nat → Nat → Bool
  depth : Nat
namespace Lt
def n (L : Lt) : Nat := L.names.length
def down (L : Lt) (b : Nat) : Nat := mask L.n fun a => L.le a b
def up (L : Lt) (a : Nat) : Nat := mask L.n fun b => L.le a b
def join (L : Lt) (a b : Nat) : Option Nat := first L.n fun k => L.up k == (L.up a &&& L.up b)
def meet (L : Lt) (a b : Nat) : Option Nat := first L.n fun k => L.down k == (L.down a &&& L.down b)
def bot (L : Lt) : Option Nat := first L.n fun k => L.up k == 2 ^ L.n - 1
def top (L : Lt) : Option Nat := first L.n fun k => L.down k == 2 ^ L.n - 1
def irr (L : Lt) (a : Nat) : Bool := (List.range L.n).any fun k => L.down k == mask L.n (fun i => L.le i a && !(i == a))
def irrs (L : Lt) : List Nat := (List.range L.n).filter L.irr
end Lt
def optV : Option Nat → V
  | none => .non
  | some k => .int k
def natV (l : List Nat) : List V := l.map fun k => V.int (k : Nat)
/-! ### defs that say super(): the frame with the class's cell -/
section
open PySem.W PyProof.Rows PySem.Calls
theorem lookup_class {cc c : Addr} {x : Str} (h : ([("__class__", cc)] : List (Str × Addr)).lookup x = some c) : x = "__class__" ∧ c = cc := by
  by_cases e : x = "__class__"
  · subst e
    simp at h
    exact ⟨rfl, h.symm⟩
  · have : (x == ("__class__" : Str)) = false := beq_eq_false_iff_ne.mpr e
    simp [List.lookup, this] at h
theorem start_get {N : List Str} {vs : List V} {i : Nat} {v : V} (h : (L2.start N vs)[i]? = some (some v)) : vs[i]? = some v := by
  rcases Nat.lt_or_ge i vs.length with hi | hi
  · simpa [L2.start, List.getElem?_append_left, hi] using h
  · simp only [L2.start, List.getElem?_append, List.length_map, Nat.not_lt.mpr hi, if_false, List.getElem?_replicate] at h
    split at h <;> cases h
end
section
open PySem.W PyProof.Rows PySem.Calls ClX
variable {X : Cx} {c : Code} {st : Stmt} {ss rest : List Stmt} {t u : TS}
/-- a suite run where the frame's own code stands below -/
structure PSa (X : Cx) (c : Code) (ss : List Stmt) (t : TS) : Prop where
  run : ∀ (pins : List (Addr × Obj)) (s : Shared) (σ : L2.St) (H : Hp) (D : Ends), Inv X pins σ H s → t D σ H → _root_.PySem.wpAt (model X.prog X.w) X.A c (execs ss X.env) (SP X pins D) X.xe s
theorem psa_any (h : PSs X ss t) : PSa X c ss t := ⟨fun pins s σ H D I q => _root_.PySem.wpAt_of_wpAny (h.run pins s σ H D I q)⟩
theorem psa_cons (h1 : PS X st t) (h2 : PSa X c rest u) : PSa X c (st :: rest) (tSeq t u) := by
  refine ⟨fun pins s σ H D I h => ?_⟩
  refine ks_wpAt_execs_cons (_root_.PySem.wpAt_of_wpAny (thn (h1.run pins s σ H { D with nx := u D } I h) fun f s1 q => ?_))
  match f, q with
  | .next, ⟨σ', H', I', q⟩ => exact h2.run pins s1 σ' H' D I' q
  | .ret v, q => exact q
  | .brk, q => exact q
  | .cont, q => exact q
/-- what a frame with the class's cell knows of itself -/
structure SupX (X : Cx) (f cd cc D : Addr) (me : Str) : Prop where
  ks : X.env.scope.names.lookup ("super" : Str) = some .globalImplicit
  kc : X.env.scope.names.lookup ("__class__" : Str) = some .free
  ka : X.env.scope.names.lookup me = some .local
  fn : X.env.func = some f
  fd : ∃ o : Obj, X.K.lookup f = some o ∧ ∃ d : FuncData, o.data = .func d ∧ ∃ ar : Arg, (d.params.posonlyargs ++ d.params.args).head? = some ar ∧ ar.arg = me
  co : X.env.code = .ref cd
  cv : ∃ o : Obj, X.K.lookup cd = some o ∧ ∃ vs, o.data = .fields vs ∧ ∃ (file : Str) (tf : Tok), vs[2]? = some (.str file tf) ∧ ((X.prog.main.file : Str) == file) = true
  top : (X.prog.main.scope.names.lookup ("super" : Str)).isSome = false
  cl : X.env.cells.lookup ("__class__" : Str) = some cc
  cc : ∃ (a : Value) (b : Option Addr) (e : Array (Option Value)), X.K.lookup cc = some ⟨a, b, .cell (some (.ref D)), e⟩
  cls : ∃ cdD, clsIn X.K D = some cdD
  mg : X.mg "super" = none
  st : nsIn X.K cStatics "thirdparty.any" = some none
/-- super().m(..) where self stands in slot 0 -/
def tSup (K : PySem.W.Frag) (D : Addr) (m : Str) (f2 : Addr) (sp : Sp) (dvs : List V) (E : XK) (ta : TA) : TS := fun Dn σ H => ∃ (a C : Addr) (dx : Addr) (fs : List (Str × V)), σ[0]? = some (some (.ref a)) ∧ H a = some (.ins C dx fs) ∧ mroIn K C (.ref D) = some true ∧
  ks_superIn K C D m = some (some (.ref f2)) ∧ ta σ H fun vs H1 => sp (.ref a :: (vs ++ dvs)) H1 (fun _ H2 => Dn.nx σ H2) E
theorem cls_obj {K : PySem.W.Frag} {h : Heap} {D : Addr} {cd : ClassData} (k : K.In h) (e : clsIn K D = some cd) : ∃ oD, h.get? D = some oD ∧ oD.data = .cls cd := by
  unfold clsIn at e
  split at e
  · rename_i ho
    cases e
    exact ⟨_, k _ _ ho, rfl⟩
  · cases e
theorem run_fnC {pins : List (Addr × Obj)} {σ : L2.St} {H : Hp} {s : Shared} {CX : CXT} {k : Nat} {f : Addr} {fd : FuncData} {ps : List Str} {sp : Sp} {E : XK} {Q : VK} {us ds : List Value} {vs dvs : List V} (F : FnOk X.prog X.w X.K X.mg X.base CX k f fd ps sp) (hr : Room k X.A) (hb : Binds X.K fd ps ds) (hd : Vals dvs ds)
    (hx : Passes CX X E) (I : Inv X pins σ H s) (r : Vals vs us) (h : sp (vs ++ dvs) H Q E) :
    codeAny (model X.prog X.w) X.A (.call (.ref f) ⟨us, []⟩) (fun r s' => match r with | .ok (.ret v) => EP X pins σ Q v s' | .ok _ => False | .error e => X.xe e s') s := by
  have r2 : Vals (vs ++ dvs) (us ++ ds) := r.append hd
  have hl : (us ++ ds).length = ps.length := r2.length.symm.trans (F.len _ _ _ _ h)
  refine codeAny_mono (F.run X.A X.stack s H ⟨us, []⟩ (us ++ ds) (vs ++ dvs) Q E hr I.env0 (hb s us I.kIn hl) r2 h) fun r s' hq => ?_
  match r, hq with
  | .error e, hq => exact hx pins σ H s e s' I hq
  | .ok (.ret u), hq => exact I.after hq
  | .ok .next, hq => exact hq.elim
  | .ok .brk, hq => exact hq.elim
  | .ok .cont, hq => exact hq.elim
theorem psa_super {f cd cc D f2 : Addr} {me m : Str} {body : List Stmt} {p0 p1 apos pos pos' : Pos} {e : Expr} {es : List Expr} {ta : TA} {CX : CXT} {k : Nat} {fd2 : FuncData} {ps : List Str} {sp : Sp} {ds : List Value} {dvs : List V} {E : XK} {pl : Sem Bool}
    (S : SupX X f cd cc D me) (hN : X.N[0]? = some me) (ha : PA X (e :: es) ta) (F : FnOk X.prog X.w X.K X.mg X.base CX k f2 fd2 ps sp) (hr : Room k X.A) (hb : Binds X.K fd2 ps ds) (hd : Vals dvs ds) (hx : Passes CX X E)
    (ht : typeIn X.K (.ref f2) = some (.type "function")) (hf2 : fnIn X.K f2 = true) (hm : (m == ("__class__" : Str)) = false)
    (hst : starEach (e :: es) X.env = (false, eval e X.env) :: starEach es X.env) (hpl : (backTo pos (starEach es X.env)).any (·.1) = false)
    (hev : eval (.Call (.Attribute (.Call (.Name "super" p0) [] [] p1) m apos) (e :: es) [] pos) X.env = (do
      let ov ← attributeBase (.Call (.Name "super" p0) [] [] p1) m X.env (eval (.Call (.Name "super" p0) [] [] p1) X.env)
      standAt apos.atName
      let (g, first) ← holding [ov] (getMethod ov m pl)
      callWith pos g first (backTo pos (starEach (e :: es) X.env)) []) )
    (hi : interactive X.env = false) (hs : swapsWith (.Call (.Attribute (.Call (.Name "super" p0) [] [] p1) m apos) (e :: es) [] pos) none pos'.line X.env = pure false) (h2 : PSa X (.func body X.env) rest u) :
    PSa X (.func body X.env) (.Expr (.Call (.Attribute (.Call (.Name "super" p0) [] [] p1) m apos) (e :: es) [] pos) pos' :: rest) (tSeq (tSup X.K D m f2 sp dvs E ta) u) := by
  refine ⟨fun pins s σ H Dn I h => ?_⟩
  obtain ⟨a, C, dx, fs, h0, hins, hmro, hsup, h⟩ := h
  obtain ⟨hh, gg, dd, tt, os⟩ := s
  have KX : X.K.In hh := I.kIn
  obtain ⟨o1, l1, d1, e1, ar, hp1, har⟩ := S.fd
  obtain ⟨o2, l2, vs2, e2, file, tf, hv2, hfile⟩ := S.cv
  obtain ⟨ca, cb, ce, lc⟩ := S.cc
  obtain ⟨cdD, hcd⟩ := S.cls
  obtain ⟨oD, hD1, hD2⟩ := cls_obj KX hcd
  obtain ⟨m0, hn0, hlook⟩ := I.loc
  obtain ⟨uv, ru, lk⟩ := hlook 0 me (.ref a) hN h0 (.inl S.ka)
  obtain rfl : uv = Value.ref a := ru
  have hself : m0 me = some (.ref a) := by
    rcases lk with ⟨_, q⟩ | ⟨q, _⟩
    · exact q
    · have q : X.env.scope.names.lookup me = some .cell ∨ X.env.scope.names.lookup me = some .free := q
      rw [S.ka] at q
      rcases q with q | q <;> cases q
  obtain ⟨mb, hb1, hb2⟩ := I.mod.blt
  refine ks_wpAt_execs_cons (ks_wpAt_Expr_any (ks_wpAt_MethodCall ?_ hev) hi hs)
  refine ks_wpAt_super_base S.ks S.kc hm S.fn (KX _ _ l1) e1 hp1 S.co (KX _ _ l2) e2 hv2 hfile S.top ?_
  refine ks_loadName_global I.ok.kind S.ks (loadGlobal_builtin (by rw [I.ok.glob]; exact I.mod.glob.keeps I.bk) S.mg (by rw [I.ok.blt]; exact hb1.keeps I.bk) ((hb2 _ (by decide)).trans (by first | rfl | decide +kernel)) ⟨rfl, ?_⟩)
  refine wpAny_loadName_free I.ok.kind S.kc S.cl ⟨_, KX _ _ lc, rfl⟩ ?_
  rw [har]
  refine wpAny_loadName_local I.ok.kind S.ka hn0 hself ?_
  refine ks_wpAny_isType_cls hD1 hD2 ⟨rfl, ?_⟩
  obtain ⟨mA, O, _, _, _, _⟩ := ins_get I.hok hins
  have xC : a ≠ C := fun e => by
    have h1 := O.obj
    obtain ⟨oC, c1, c2⟩ : ∃ oC, hh.get? C = some oC ∧ ∃ cd2, oC.data = .cls cd2 := by
      cases hc : clsIn X.K C with
      | none => unfold ks_superIn at hsup; rw [hc] at hsup; cases hsup
      | some cd2 => obtain ⟨oC, c1, c2⟩ := cls_obj KX hc; exact ⟨oC, c1, cd2, c2⟩
    obtain ⟨cd2, c2⟩ := c2
    rw [e, c1] at h1
    rw [Option.some.inj h1] at c2
    cases c2
  refine ks_wpAny_call_super hD1 hD2 O.obj rfl (fun c z => nomatch z) (looks_mroIn KX hmro) (fun h' hso hk' => ?_)
  have I1 : Inv X ((hh.objs.size, ks_superObj D a C) :: pins) σ H ⟨h', gg, dd, tt, os⟩ := pin_new (t' := tt) I hk' (Nat.le_refl _) hso (fun v z => nomatch z)
  have K1 : X.K.In h' := I1.kIn
  cases hc : clsIn X.K C with
  | none => unfold ks_superIn at hsup; rw [hc] at hsup; cases hsup
  | some cdC =>
    unfold ks_superIn at hsup
    rw [hc] at hsup
    obtain ⟨of, hof, hofc⟩ : ∃ of, h'.get? f2 = some of ∧ of.cls = .type "function" := by
      have ht' : (X.K.lookup f2).map (·.cls) = some (.type "function") := ht
      cases z : X.K.lookup f2 with
      | none => rw [z] at ht'; cases ht'
      | some of => rw [z] at ht'; exact ⟨of, K1 _ _ z, Option.some.inj ht'⟩
    refine ks_wpAny_getMethod_super hso (looks_opaque K1 S.st) (l₀ := cdC.mro) (fun A Q E s k q => wpAny_bind ((looks_clsIn K1 hc) A _ E s k (wpAny_pure q))) rfl K1 hsup hof hofc xC hm ?_
    have I2 : Inv X ((h'.objs.size, methodObj (.ref f2) (.ref a)) :: (hh.objs.size, ks_superObj D a C) :: pins) σ H { (⟨h', gg, dd, tt, os⟩ : Shared) with heap := h'.push (methodObj (.ref f2) (.ref a)), toks := tt + 1 } := met_new I1
    refine callwith_cm I2 (base_none I1 (Nat.le_refl _)) hf2 (thn (ha.run pos _ _ σ H _ I2 h) fun us s3 ⟨vs, H1, I3, r3, q3⟩ => ⟨⟨pin_at I3, I3.kIn⟩, ?_⟩) hst hpl
    refine wpAny_call (method_call (pin_at I3) (codeAny_mono (run_fnC (us := .ref a :: us) (vs := .ref a :: vs) F hr hb hd hx I3 (.cons rfl r3) q3) fun r s4 hq => ?_))
    match r, hq with
    | .ok (.ret _), ⟨_, H', I', _, q⟩ => exact h2.run pins s4 σ H' Dn (unpin (unpin I')) q
    | .ok .next, hq => exact hq
    | .ok .brk, hq => exact hq
    | .ok .cont, hq => exact hq
    | .error e, hq => exact hq
end
/-! ### super().__init__(..) of an exception over ValueError -/
section
open PySem.W PyProof.Rows PySem.Calls ClX
theorem mro_VE {K : PySem.W.Frag} {C : Addr} (T : OexC K C) {y : String} (hy : PySem.HandSPX.veTail.contains (.type y) = true) : mroIn K C (.type y) = some true := by
  obtain ⟨nm, q, N, bs, bm, sn, sub, ab, col, dd, k0, k1, k2, k3, k5, hC, hbm⟩ := T.cls
  have hcl : clsIn K C = some { name := nm, bases := bs, mro := .ref C :: bm, ns := N, qualname := q, hasDict := true, slotNames := sn, subclasses := sub, abstract := ab, collection := col, hasDel := false } := by
    unfold clsIn
    rw [hC] <;> rfl
  have e := PySem.HandSPX.refsVE_contains y bm hbm
  unfold mroIn
  rw [hcl, Option.bind_some]
  show (if (List.isEmpty (Value.ref C :: bm)) = true then _ else some ((Value.ref C :: bm).contains (.type y))) = some true
  rw [if_neg (by simp)]
  rw [List.contains_cons, e, hy, Bool.or_true]
section
variable {prog : Program} {w : World} {A : Around} {E : Value → Shared → Prop} {h : Heap} {g : Array GenState} {d : Drawn} {t : Nat} {os : OsState}
variable {nm q : Str} {C N : Addr} {bs bm : List Value} {hdct : Bool} {sn : List Str} {sub : List Value} {ab : Bool} {col : Option Bool} {dd : Option Addr} {k0 k1 k2 k3 k5 : Option Value}
theorem mw_run {u e t0 : Addr} {rest : List Value} {Q : Value → Shared → Prop} (hC : h.get? C = some (excClassObj nm q C N bs bm hdct sn sub ab col dd k0 k1 k2 k3 k5 "ValueError.__new__")) (he : h.get? e = some (PySem.HandSPX.excO C t0))
    (hu : h.get? u = some (kxs_mw "ValueError.__init__" e)) (hz : rest.length ≤ sizeLine) (hq : ∀ h' t1, (∀ b o, b ≠ e → h.get? b = some o → h'.get? b = some o) → h'.get? e = some (PySem.HandSPX.excO C t1) → Q .none ⟨h', g, d, t, os⟩) :
    wpAny (model prog w) A (call (.ref u) rest) Q E ⟨h, g, d, t, os⟩ := by
  refine wpAny_call (codeAny_of_tree ?_)
  show wpAny _ A.in1 (callAny (.ref u) ⟨rest, []⟩) _ _ _
  simp only [callAny]
  refine wpAny_bind (wpAny_load hu ?_)
  simp only [kxs_mw]
  refine KFB.if_so (by decide) ?_
  refine wpAny_bind (PySem.ESX.check_bound F.excBase_ValueError hC he rfl ?_)
  refine wpAny_bind (wpAny_pure (wpAny_pure ?_))
  refine ⟨Code.quiet_builtin _ (by decide +kernel), codeAny_builtin F.excBase_ValueError.initEntry ?_⟩
  rw [Around.under_plainId F.excBase_ValueError.init.plain _]
  wp_walk
  refine hq _ h.objs.size (fun b o hb ho => ?_) ?_
  · rw [Heap.get?_update_other _ _ (Ne.symm hb)]; exact Heap.get?_push_of_some _ ho
  · rw [Heap.get?_update_self _ (Heap.get?_push_of_some _ he) rfl]; rfl
end
/-- super().m(..) where self is an exception that is being made -/
def tSupX (K : PySem.W.Frag) (D : Addr) (m : Str) (ta : TA) : TS := fun Dn σ H => ∃ (a C : Addr), σ[0]? = some (some (.ref a)) ∧ H a = some (exo a C none) ∧ OexC K C ∧ mroIn K C (.ref D) = some true ∧
  ks_superIn K C D m = some (some (.builtin "ValueError.__init__")) ∧ ta σ H fun vs H1 => vs.length ≤ 1000 ∧ H1 a = some (exo a C none) ∧ Dn.nx σ H1
variable {X : Cx} {c : Code} {st : Stmt} {ss rest : List Stmt} {t u : TS}
theorem psa_superX {f cd cc D : Addr} {me m : Str} {body : List Stmt} {p0 p1 apos pos pos' : Pos} {e : Expr} {es : List Expr} {ta : TA} {pl : Sem Bool}
    (S : SupX X f cd cc D me) (hN : X.N[0]? = some me) (ha : PA X (e :: es) ta) (hm : (m == ("__class__" : Str)) = false)
    (hst : starEach (e :: es) X.env = (false, eval e X.env) :: starEach es X.env) (hpl : (backTo pos (starEach es X.env)).any (·.1) = false)
    (hev : eval (.Call (.Attribute (.Call (.Name "super" p0) [] [] p1) m apos) (e :: es) [] pos) X.env = (do
      let ov ← attributeBase (.Call (.Name "super" p0) [] [] p1) m X.env (eval (.Call (.Name "super" p0) [] [] p1) X.env)
      standAt apos.atName
      let (g, first) ← holding [ov] (getMethod ov m pl)
      callWith pos g first (backTo pos (starEach (e :: es) X.env)) []) )
    (hi : interactive X.env = false) (hs : swapsWith (.Call (.Attribute (.Call (.Name "super" p0) [] [] p1) m apos) (e :: es) [] pos) none pos'.line X.env = pure false) (h2 : PSa X (.func body X.env) rest u) :
    PSa X (.func body X.env) (.Expr (.Call (.Attribute (.Call (.Name "super" p0) [] [] p1) m apos) (e :: es) [] pos) pos' :: rest) (tSeq (tSupX X.K D m ta) u) := by
  refine ⟨fun pins s σ H Dn I h => ?_⟩
  obtain ⟨a, C, h0, hins, TC, hmro, hsup, h⟩ := h
  obtain ⟨hh, gg, dd, tt, os⟩ := s
  have KX : X.K.In hh := I.kIn
  obtain ⟨o1, l1, d1, e1, ar, hp1, har⟩ := S.fd
  obtain ⟨o2, l2, vs2, e2, file, tf, hv2, hfile⟩ := S.cv
  obtain ⟨ca, cb, ce, lc⟩ := S.cc
  obtain ⟨cdD, hcd⟩ := S.cls
  obtain ⟨oD, hD1, hD2⟩ := cls_obj KX hcd
  obtain ⟨m0, hn0, hlook⟩ := I.loc
  obtain ⟨uv, ru, lk⟩ := hlook 0 me (.ref a) hN h0 (.inl S.ka)
  obtain rfl : uv = Value.ref a := ru
  have hself : m0 me = some (.ref a) := by
    rcases lk with ⟨_, q⟩ | ⟨q, _⟩
    · exact q
    · have q : X.env.scope.names.lookup me = some .cell ∨ X.env.scope.names.lookup me = some .free := q
      rw [S.ka] at q
      rcases q with q | q <;> cases q
  obtain ⟨mb, hb1, hb2⟩ := I.mod.blt
  refine ks_wpAt_execs_cons (ks_wpAt_Expr_any (ks_wpAt_MethodCall ?_ hev) hi hs)
  refine ks_wpAt_super_base S.ks S.kc hm S.fn (KX _ _ l1) e1 hp1 S.co (KX _ _ l2) e2 hv2 hfile S.top ?_
  refine ks_loadName_global I.ok.kind S.ks (loadGlobal_builtin (by rw [I.ok.glob]; exact I.mod.glob.keeps I.bk) S.mg (by rw [I.ok.blt]; exact hb1.keeps I.bk) ((hb2 _ (by decide)).trans (by first | rfl | decide +kernel)) ⟨rfl, ?_⟩)
  refine wpAny_loadName_free I.ok.kind S.kc S.cl ⟨_, KX _ _ lc, rfl⟩ ?_
  rw [har]
  refine wpAny_loadName_local I.ok.kind S.ka hn0 hself ?_
  refine ks_wpAny_isType_cls hD1 hD2 ⟨rfl, ?_⟩
  obtain ⟨nm, q, N, bs, bm, sn, sub, ab, col, dd0, k0, k1, k2, k3, k5, hC, hbm⟩ := id TC.cls
  obtain ⟨t1, ho⟩ := exo_at I.hok hins
  have hcl : clsIn X.K C = some { name := nm, bases := bs, mro := .ref C :: bm, ns := N, qualname := q, hasDict := true, slotNames := sn, subclasses := sub, abstract := ab, collection := col, hasDel := false } := by
    unfold clsIn
    rw [hC] <;> rfl
  have xC : a ≠ C := fun e => by
    have c1 := KX _ _ hC
    rw [← e, ho] at c1
    have c2 := congrArg Obj.data (Option.some.inj c1)
    cases c2
  refine ks_wpAny_call_super hD1 hD2 ho rfl (fun c z => nomatch z) (looks_mroIn KX hmro) (fun h' hso hk' => ?_)
  have I1 : Inv X ((hh.objs.size, ks_superObj D a C) :: pins) σ H ⟨h', gg, dd, tt, os⟩ := pin_new (t' := tt) I hk' (Nat.le_refl _) hso (fun v z => nomatch z)
  have K1 : X.K.In h' := I1.kIn
  obtain ⟨t2, ho2⟩ := exo_at I1.hok hins
  have J1 : InstAt h' a { cls := .ref C, dict := none, data := .fields #[.ref t2, .none, .none, .none, .bool false, .none] } C none := ⟨ho2, rfl, rfl, trivial⟩
  have isVE : Looks (model X.prog X.w) h' (isInstance (.ref a) (.type "ValueError")) true := J1.type.andThen (looks_mroIn K1 (mro_VE TC (by decide +kernel)))
  unfold ks_superIn at hsup
  rw [hcl] at hsup
  refine kxs_getMethod kxs_ValueError hso (looks_opaque K1 S.st) (l₀ := .ref C :: bm) (fun A Q E s k q => wpAny_bind ((looks_clsIn K1 hcl) A _ E s k (wpAny_pure q))) rfl K1 hsup isVE xC hm ?_
  have I2 : Inv X ((h'.objs.size, kxs_mw "ValueError.__init__" a) :: (hh.objs.size, ks_superObj D a C) :: pins) σ H { (⟨h', gg, dd, tt, os⟩ : Shared) with heap := h'.push (kxs_mw "ValueError.__init__" a), toks := tt + 1 } :=
    pin_new I1 (fun _ _ z => Heap.get?_push_of_some _ z) (Nat.le_refl _) (Heap.get?_push_size h' rfl) (fun v z => nomatch z)
  have hL : h'.objs.size ≠ X.env.locals := (I2.pin (h'.objs.size, kxs_mw "ValueError.__init__" a) (List.mem_append_right _ List.mem_cons_self)).2.2.1
  refine kxs_callWith1 (news_at hL (base_none I1 (Nat.le_refl _)) (pin_at I2)) List.mem_cons_self (thn (ha.run pos _ _ σ H _ I2 h) fun us s3 ⟨vs, H1, I3, r3, hl3, e3, q3⟩ => ⟨pin_at I3, ?_⟩) hst hpl
  obtain ⟨t3, ho3⟩ := exo_at I3.hok e3
  have hmw := pin_at I3
  obtain ⟨h3, g3, d3, k3', os3⟩ := s3
  have hlen : us.length ≤ sizeLine := by rw [← r3.length, sizeLine_eq]; omega
  refine mw_run (I3.kIn _ _ hC) ho3 hmw hlen (fun h4 t4 kk hx4 => ?_)
  have J := I3.write (t' := k3') (x := a) (e := a) (o := exo a C none) (by rw [e3]; exact True.intro) (.inl rfl) kk ⟨_, hx4⟩ (exo_ok hx4)
  have eu : upd H1 a (exo a C none) = H1 := by
    funext b
    by_cases hb : b = a
    · rw [hb, upd_same, e3]
    · rw [upd_ne hb]
  rw [eu] at J
  exact h2.run pins _ σ H1 Dn (unpin (unpin J)) q3
end
/-! ### the entry of a def with cells of its own and the class's cell -/
section
open PySem.W PyProof.Rows PySem.Calls
variable {M : Model} {A : Around} {E : Value → Shared → Prop} {s0 s : Shared} {m cm : Str → Option Value} {env : Env} {cs : List (Str × Addr)}
theorem stS_loc {n : Str} {v : Value} {Q : Unit → Shared → Prop} (x : InCallC s0 env.locals m cs cm s) (hk : env.scope.kind = .function) (hl : env.kindOf n = some .local)
    (h : ∀ s', InCallC s0 env.locals (fun y => if y = n then some v else m y) cs cm s' → Q () s') : wpAny M A (storeName env n v) Q E s := by
  refine wpAny_storeName_local hl x.toInCall.ns (fun h' hn' hs' => h _ ?_) (by rw [hk]; rfl)
  have le : ∀ b o, s0.heap.get? b = some o → b ≠ env.locals := fun b o e => Nat.ne_of_lt (Nat.lt_of_lt_of_le (Heap.lt_size e) x.toInCall.fresh)
  obtain ⟨h₁, tk, es⟩ := x.toInCall.same
  exact ⟨⟨⟨h', _, by rw [es]⟩, hn', fun b o e => hs'.extBut b o (le b o e) (x.toInCall.keep b o e), x.toInCall.fresh⟩,
    fun k c hc => (x.cell k c hc).sameBut hs' (Nat.ne_of_gt (x.above k c (PySem.mem_of_lookup hc))), x.apart, x.above⟩
theorem stS_cell {n : Str} {c : Addr} {v : Value} {Q : Unit → Shared → Prop} (x : InCallC s0 env.locals m cs cm s) (hk : env.scope.kind = .function) (hl : env.kindOf n = some .cell) (he : env.cells.lookup n = some c) (hc : cs.lookup n = some c)
    (h : ∀ s', InCallC s0 env.locals m cs (fun y => if y = n then some v else cm y) s' → Q () s') : wpAny M A (storeName env n v) Q E s := by
  have up := x.above n c (PySem.mem_of_lookup hc)
  refine wpAny_storeName_cell hk hl he (x.cell n c hc) fun h' hc' hs' => h _ ?_
  have le : ∀ b o, s0.heap.get? b = some o → b ≠ c := fun b o e => Nat.ne_of_lt (Nat.lt_trans (Nat.lt_of_lt_of_le (Heap.lt_size e) x.toInCall.fresh) up)
  obtain ⟨h₁, tk, es⟩ := x.toInCall.same
  refine ⟨⟨⟨h', _, by rw [es]⟩, x.toInCall.ns.sameBut hs' (Nat.ne_of_lt up), fun b o e => hs'.extBut b o (le b o e) (x.toInCall.keep b o e), x.toInCall.fresh⟩, fun k c' hk' => ?_, x.apart, x.above⟩
  by_cases hkn : k = n
  · subst hkn
    rw [hc] at hk'
    cases hk'
    simpa using hc'
  · rw [if_neg hkn]
    exact (x.cell k c' hk').sameBut hs' fun e => hkn (name_of_addr x.apart (PySem.mem_of_lookup hk') (e ▸ PySem.mem_of_lookup hc))
theorem bindS (f : Str × Value → PUnit → Sem (ForInStep PUnit)) (hf : ∀ n v u, f (n, v) u = (do storeName env n v; pure (.yield ⟨⟩))) (hk : env.scope.kind = .function) :
    ∀ (binds : List (Str × Value)) (m cm : Str → Option Value) (s : Shared) (Q : PUnit → Shared → Prop), InCallC s0 env.locals m cs cm s →
      (∀ y ∈ binds, env.kindOf y.1 = some .local ∨ (env.kindOf y.1 = some .cell ∧ ∃ c, cs.lookup y.1 = some c ∧ env.cells.lookup y.1 = some c)) →
      (∀ s', InCallC s0 env.locals (bindL env.kindOf binds m) cs (bindC env.kindOf binds cm) s' → Q ⟨⟩ s') → wpAny M A (forIn binds ⟨⟩ f) Q E s
  | [], m, cm, s, Q, x, _, h => by rw [List.forIn_nil]; exact wpAny_pure (h s x)
  | (n, v) :: r, m, cm, s, Q, x, hy, h => by
    have hr := fun y (q : y ∈ r) => hy y (.tail _ q)
    rw [List.forIn_cons, hf]
    rcases hy (n, v) (.head _) with hl | ⟨hl, c, hc, he⟩
    · refine wpAny_bind (wpAny_bind (stS_loc x hk hl fun s' x' => wpAny_pure (bindS f hf hk r _ _ s' Q x' hr fun s2 x2 => h s2 ?_)))
      show InCallC s0 env.locals (bindL env.kindOf r (if env.kindOf n = some .local then _ else m)) cs (bindC env.kindOf r (if env.kindOf n = some .local then cm else _)) s2
      rw [if_pos hl, if_pos hl]; exact x2
    · have hnl : ¬ env.kindOf n = some .local := by rw [hl]; decide
      refine wpAny_bind (wpAny_bind (stS_cell x hk hl he hc fun s' x' => wpAny_pure (bindS f hf hk r _ _ s' Q x' hr fun s2 x2 => h s2 ?_)))
      show InCallC s0 env.locals (bindL env.kindOf r (if env.kindOf n = some .local then _ else m)) cs (bindC env.kindOf r (if env.kindOf n = some .local then cm else _)) s2
      rw [if_neg hnl, if_neg hnl]; exact x2
theorem cells_app : ∀ (names : List (Str × NameKind)) (n : Nat) (acc cl : List (Str × Addr)), cellsFrom n names (acc ++ cl) = cellsFrom n names acc ++ cl
  | [], _, _, _ => rfl
  | (x, k) :: r, n, acc, cl => by
    unfold cellsFrom
    split
    · exact cells_app r (n + 1) ((x, n) :: acc) cl
    · exact cells_app r n acc cl
theorem newEnvS {scope : Scope} {globals : Addr} {cl : List (Str × Addr)} {binds : List (Str × Value)} {qual : Str} {func : Option Addr} {code : Value} {builtins : Addr} {Q : Env → Shared → Prop} (hk : scope.kind = .function)
    (hkind : ∀ y ∈ binds, scope.names.lookup y.1 = some .local ∨ (scope.names.lookup y.1 = some .cell ∧ ∃ c, (cellsFrom (s.heap.objs.size + 1) scope.names []).lookup y.1 = some c ∧ (cellsFrom (s.heap.objs.size + 1) scope.names [] ++ cl).lookup y.1 = some c))
    (hQ : ∀ env, env = newEnv scope s.heap.objs.size globals (cellsFrom (s.heap.objs.size + 1) scope.names [] ++ cl) qual func code none builtins →
      ∀ s', InCallC s env.locals (bindL env.kindOf binds fun _ => none) (cellsFrom (s.heap.objs.size + 1) scope.names []) (bindC env.kindOf binds fun _ => none) s' → Q env s') :
    wpAny M A (newFunctionEnv scope globals cl binds qual func code none builtins) Q E s := by
  simp only [newFunctionEnv, Option.isSome_none, Bool.false_eq_true, if_false]
  refine wpAny_bind (wpAny_alloc ?_)
  refine wpAny_bind (wpAny_layCells _ (fun x kind cells => by cases hkc : kind == NameKind.cell <;> simp [hkc]) scope.names cl _ _ ?_)
  have sz : (s.heap.push { cls := .type "frame", data := .dict #[] }).objs.size = s.heap.objs.size + 1 := Heap.size_push ..
  have ok := cellsFrom_ok scope.names (s.heap.push { cls := .type "frame", data := .dict #[] }) (s.heap.objs.size + 1) [] ⟨fun _ _ hm => (nomatch hm), List.Pairwise.nil⟩ (by rw [sz]; exact Nat.le_refl _)
  rw [sz] at ok
  have ec := cells_app scope.names (s.heap.objs.size + 1) [] cl
  rw [List.nil_append] at ec
  show wpAny M A _ Q E _
  rw [show ({ s with heap := s.heap.push { cls := .type "frame", data := .dict #[] } } : Shared).heap.objs.size = s.heap.objs.size + 1 from sz, ec]
  refine wpAny_bind (bindS (s0 := s) (cs := cellsFrom (s.heap.objs.size + 1) scope.names []) (env := newEnv scope s.heap.objs.size globals (cellsFrom (s.heap.objs.size + 1) scope.names [] ++ cl) qual func code none builtins)
    _ (fun _ _ _ => rfl) hk binds (fun _ => none) (fun _ => none) _ _ ?_ hkind fun s' x => wpAny_pure (hQ _ rfl s' x))
  exact ⟨⟨⟨_, _, rfl⟩, (Heap.Ns.new s.heap (.type "frame")).keeps (pushCells_keeps _ _), fun b o e => pushCells_keeps _ _ b o (Heap.get?_push_of_some _ e), Nat.le_refl _⟩,
    fun n c hc => (ok.empty n c (PySem.mem_of_lookup hc)).1, ok.apart, fun n c hm => (ok.empty n c hm).2⟩
end
section
open PySem.W PyProof.Rows PySem.Calls
/-- the frame: its own cells, and the class's -/
abbrev envK (qual : Str) (scope : Scope) (L f : Addr) (cd : Value) (cc : Addr) : Env := envX qual scope L f cd (cellsFrom (L + 1) scope.names [] ++ [((("__class__" : Str)), cc)])
def cxK (CX : CXT) (P : Program) (w : World) (K : PySem.W.Frag) (mg : Str → Option Value) (base : Heap) (N : List Str) (qual : Str) (scope : Scope) (f : Addr) (cd : Value) (cc : Addr) (A : Around) (outer : List Env) (s : Shared) (H : Hp) (E : XK) : Cx where
  prog := P
  w := w
  K := K
  mg := mg
  base := base
  A := A.deeper (envK qual scope s.heap.objs.size f cd cc)
  N := N
  s_0 := s
  H_0 := H
  env := envK qual scope s.heap.objs.size f cd cc
  outer := outer
  stack := envK qual scope s.heap.objs.size f cd cc :: outer
  ex := []
  calm := true
  fn := fun x => x != "__class__"
  pn := []
  xe := fun e s' => wpAny (model P w) (A.deeper (envK qual scope s.heap.objs.size f cd cc)) (leaving (envK qual scope s.heap.objs.size f cd cc) e) (fun _ s'' => CX outer H s E e s'') (fun e' s'' => CX outer H s E e' s'') s'
structure FnScopeK (N ps : List Str) (sc : Scope) : Prop where
  kind : sc.kind = .function
  co : sc.isCoroutine = false
  gen : sc.isGenerator = false
  nd : N.Nodup
  pre : N.take ps.length = ps
  par : ∀ x ∈ ps, (sc.names.lookup x = some .local ∨ sc.names.lookup x = some .cell)
  noC : ∀ y ∈ sc.names, y.2 = .cell → y.1 ≠ "__class__"
  free : ∀ y ∈ sc.names, y.2 = .free → y.1 = "__class__"
theorem cells_mem {x : Str} {c : Addr} : ∀ {names : List (Str × NameKind)} {n : Nat} {acc : List (Str × Addr)}, (x, c) ∈ cellsFrom n names acc → (x, c) ∈ acc ∨ (x, NameKind.cell) ∈ names
  | [], _, _, h => .inl h
  | (y, k) :: r, n, acc, h => by
    unfold cellsFrom at h
    split at h
    · rename_i hk
      rcases cells_mem h with h | h
      · rcases List.mem_cons.mp h with h | h
        · have ek : k = NameKind.cell := eq_of_beq hk
          cases h
          exact .inr (by rw [ek]; exact .head _)
        · exact .inl h
      · exact .inr (.tail _ h)
    · rcases cells_mem h with h | h
      · exact .inl h
      · exact .inr (.tail _ h)
theorem look_app {cs : List (Str × Addr)} {x : Str} {c cc : Addr} (h : (cs ++ [((("__class__" : Str)), cc)]).lookup x = some c) : cs.lookup x = some c ∨ (x = "__class__" ∧ c = cc) := by
  rw [List.lookup_append] at h
  cases e : cs.lookup x with
  | some d => rw [e] at h; exact .inl h
  | none =>
    rw [e] at h
    exact .inr (lookup_class (by simpa using h))
theorem look_own {cs : List (Str × Addr)} {x : Str} {c cc : Addr} (h : cs.lookup x = some c) : (cs ++ [((("__class__" : Str)), cc)]).lookup x = some c := by
  rw [List.lookup_append, h]; rfl
theorem look_class {cs : List (Str × Addr)} {cc : Addr} (h : cs.lookup (("__class__" : Str)) = none) : (cs ++ [((("__class__" : Str)), cc)]).lookup (("__class__" : Str)) = some cc := by
  rw [List.lookup_append, h]
  show ([("__class__", cc)] : List (Str × Addr)).lookup (("__class__" : Str)) = some cc
  simp [List.lookup]
theorem no_class {N ps : List Str} {sc : Scope} (S : FnScopeK N ps sc) (n : Nat) : (cellsFrom n sc.names []).lookup (("__class__" : Str)) = none := by
  cases e : (cellsFrom n sc.names []).lookup (("__class__" : Str)) with
  | none => rfl
  | some c =>
    rcases cells_mem (PySem.mem_of_lookup e) with h | h
    · cases h
    · exact absurd rfl (S.noC _ h rfl)
theorem inv_startK {CX : CXT} {P : Program} {w : World} {K : PySem.W.Frag} {mg : Str → Option Value} {base : Heap} {N ps : List Str} {qual : Str} {scope : Scope} {f cc : Addr} {cd : Value} {A : Around} {outer : List Env} {s s1 : Shared} {H : Hp} {E : XK} {us : List Value} {vs : List V}
    {ccl : Value} {cld : Option Addr} {cv : Value} {csl : Array (Option Value)}
    (S : FnScopeK N ps scope) (hd : A.handled = none) (e0 : Env0 P w K mg base A outer s H) (hl : vs.length = ps.length) (r : Vals vs us) (hcc : K.lookup cc = some ⟨ccl, cld, .cell (some cv), csl⟩)
    (x : InCallC s s.heap.objs.size (bindL (envK qual scope s.heap.objs.size f cd cc).kindOf (ps.zip us) fun _ => none) (cellsFrom (s.heap.objs.size + 1) scope.names []) (bindC (envK qual scope s.heap.objs.size f cd cc).kindOf (ps.zip us) fun _ => none) s1) :
    Inv (cxK CX P w K mg base N qual scope f cd cc A outer s H E) [] (L2.start N vs) H s1 := by
  have hpl : ps.length ≤ N.length := by have := congrArg List.length S.pre; rw [List.length_take] at this; omega
  have cb : base.get? cc = some ⟨ccl, cld, .cell (some cv), csl⟩ := e0.mod.kin _ _ hcc
  have sb := e0.bs _ _ cb
  have cl : cc < s.heap.objs.size := Heap.lt_size sb.1
  obtain ⟨h1, tk, es, hk⟩ := x.done
  subst es
  have noA : ∀ b : Addr, b ∉ (cxK CX P w K mg base N qual scope f cd cc A outer s H E).ex := fun b z => absurd (show b ∈ ([] : List Addr) from z) (by simp)
  have lk : ∀ {y : Str} {c : Addr}, (cxK CX P w K mg base N qual scope f cd cc A outer s H E).env.cells.lookup y = some c → (cellsFrom (s.heap.objs.size + 1) scope.names []).lookup y = some c ∨ (y = "__class__" ∧ c = cc) := fun h => look_app h
  have ab : ∀ {y : Str} {c : Addr}, (cellsFrom (s.heap.objs.size + 1) scope.names []).lookup y = some c → s.heap.objs.size < c := fun h => x.above _ _ (PySem.mem_of_lookup h)
  refine ⟨⟨e0.mod, S.kind, rfl, rfl, Nat.le_refl _, fun y z c h1 h2 => ?_, fun y hy => ?_, fun y c hf h => ?_, fun _ => hd, Around.frames_deeper e0.frames, .inr ⟨rfl, rfl⟩, fun b z => absurd z (noA b), e0.bs, e0.bsz, fun b _ _ => noA b, fun b z => absurd z (noA b), e0.funs, e0.frf⟩,
    rfl, e0.bare, Un.kept hk, ⟨_, x.toInCall.ns, fun i y v h1 h2 h3 => ?_⟩, fun y c h => ?_, e0.hok.fresh (Nat.le_refl _), fun y c h => ?_, fun p hp => absurd (show p ∈ ([] : List (Addr × Obj)) from hp) (by simp), e0.hok.kept hk, ?_⟩
  · rcases lk h1 with a | ⟨a, b⟩ <;> rcases lk h2 with a' | ⟨a', b'⟩
    · exact name_of_addr x.apart (PySem.mem_of_lookup a) (PySem.mem_of_lookup a')
    · have q := ab a; rw [b'] at q; exact absurd cl (Nat.lt_asymm q)
    · have q := ab a'; rw [b] at q; exact absurd cl (Nat.lt_asymm q)
    · exact a.trans a'.symm
  · have hy : scope.names.lookup y = some .cell ∨ scope.names.lookup y = some .free := hy
    rcases hy with hy | hy
    · obtain ⟨c, e⟩ := cell_has (n := s.heap.objs.size + 1) hy
      exact ⟨c, look_own e⟩
    · have ey : y = "__class__" := S.free _ (PySem.mem_of_lookup hy) rfl
      subst ey
      exact ⟨cc, look_class (no_class S _)⟩
  · rcases lk h with a | ⟨a, _⟩
    · exact Nat.le_of_lt (ab a)
    · subst a
      have : (("__class__" : Str) != "__class__") = true := hf
      simp at this
  · have ha := start_get h2
    obtain ⟨u, hu, rv⟩ := r.get ha
    have il : i < ps.length := hl ▸ (List.getElem?_eq_some_iff.mp ha).1
    have hp : ps[i]? = some y := (congrArg (·[i]?) S.pre).symm.trans ((List.getElem?_take_of_lt il).trans h1)
    have ndP : ps.Nodup := S.pre ▸ S.nd.sublist (List.take_sublist _ _)
    refine ⟨u, rv, ?_⟩
    rcases S.par y (List.mem_of_getElem? hp) with k | k
    · exact .inl ⟨k, bindL_get ndP hp hu k⟩
    · obtain ⟨c, e⟩ := cell_has (n := s.heap.objs.size + 1) k
      have q := x.cell y c e
      rw [bindC_get ndP hp hu (by show scope.names.lookup y ≠ _; rw [k]; decide)] at q
      exact .inr ⟨.inl k, c, look_own e, q⟩
  · rcases lk h with a | ⟨_, rfl⟩
    · exact ⟨_, x.cell y c a⟩
    · exact ⟨_, _, hk _ _ sb.1, rfl⟩
  · rcases lk h with a | ⟨_, rfl⟩
    · exact e0.hok.fresh (Nat.le_of_lt (ab a))
    · exact sb.2
  · show (L2.start N vs).length = N.length
    simp only [L2.start, List.length_append, List.length_map, List.length_replicate]
    omega
/-- a def that says super(), by its body -/
theorem fnK_of {CX : CXT} {P : Program} {w : World} {K : PySem.W.Frag} {mg : Str → Option Value} {base : Heap} {k : Nat} {f cc : Addr} {name qual : Str} {params : Arguments} {body : List Stmt} {scope : Scope} {dV kV doc pm cdv ct oc : Value} {an od : Option Addr}
    {osl : Array (Option Value)} {N ps : List Str} {sp : Sp} {ccl : Value} {cld : Option Addr} {cv : Value} {csl : Array (Option Value)} (lk : K.lookup f = some ⟨oc, od, .func (ksFn name qual params body scope dV kV doc pm an cdv ct cc), osl⟩)
    (hcc : K.lookup cc = some ⟨ccl, cld, .cell (some cv), csl⟩) (hcd : PySem.W.codeIn K cdv qual = true) (S : FnScopeK N ps scope) (len : ∀ vs H Q E, sp vs H Q E → vs.length = ps.length)
    (hbody : ∀ (A : Around) (outer : List Env) (s : Shared) (H : Hp) (vs : List V) (Q : VK) (E : XK), Room k (A.deeper (envK qual scope s.heap.objs.size f cdv cc)) → sp vs H Q E →
      ∃ t, PSa (cxK CX P w K mg base N qual scope f cdv cc A outer s H E) (.func body (envK qual scope s.heap.objs.size f cdv cc)) body t ∧ t { nx := fun _ H' => Q .non H', rt := Q } (L2.start N vs) H) :
    FnOk P w K mg base CX (k + 1) f (ksFn name qual params body scope dV kV doc pm an cdv ct cc) ps sp := by
  refine ⟨len, fun A outer s H args us vs Q E hr e0 hb r hsp => ?_⟩
  have hl := len _ _ _ _ hsp
  have KX : K.In s.heap := e0.mod.kin.keeps fun b o e => (e0.bs b o e).1
  have lim : s.heap.NoLimit := e0.mod.nolimit.keeps fun b o e => (e0.bs b o e).1
  obtain ⟨t, ht, hq⟩ := hbody A outer s H vs Q E (hr.deeper _) hsp
  have hkind : ∀ y ∈ ps.zip us, scope.names.lookup y.1 = some .local ∨ (scope.names.lookup y.1 = some .cell ∧ ∃ c, (cellsFrom (s.heap.objs.size + 1) scope.names []).lookup y.1 = some c ∧ (cellsFrom (s.heap.objs.size + 1) scope.names [] ++ [((("__class__" : Str)), cc)]).lookup y.1 = some c) := fun y hy => by
    rcases S.par y.1 (List.of_mem_zip (a := y.1) (b := y.2) hy).1 with q | q
    · exact .inl q
    · obtain ⟨c, e⟩ := cell_has (n := s.heap.objs.size + 1) q
      exact .inr ⟨q, c, e, look_own e⟩
  refine codeAny_call_function hr.depth (KX _ _ lk) rfl S.co S.gen rfl (codeRec_of KX hcd) (hb _ _ _ _ ?_)
  refine newEnvS S.kind hkind fun env he s1 x => ?_
  subst he
  refine ⟨lim.keeps x.toInCall.keep, ks_codeAny_funcAt ?_⟩
  have I : Inv (cxK CX P w K mg base N qual scope f cdv cc A outer s H E) [] (L2.start N vs) H s1 := inv_startK S hr.hd e0 hl r hcc x
  refine ks_wpAt_mono (ht.run [] _ (L2.start N vs) H _ I hq) (fun fl s' hs => ?_) fun e s' hs => hs
  have fin : ∀ {σ' : L2.St} {H' : Hp} {v : V} {u : Value}, Inv (cxK CX P w K mg base N qual scope f cdv cc A outer s H E) [] σ' H' s' → RelV v u → Q v H' → CE outer P w H s Q u s' :=
    fun {σ' H' v u} J rv q => ⟨v, H', J.os, J.bare, J.base, J.hok, rv, q⟩
  match fl, hs with
  | .ret u, ⟨v, σ', H', J, rv, q⟩ => exact fin J rv q
  | .next, ⟨σ', H', J, q⟩ => exact fin (v := V.non) (u := Value.none) J rfl q
  | .brk, ⟨_, _, _, q⟩ => exact q.elim
  | .cont, ⟨_, _, _, q⟩ => exact q.elim
end
section
/-- a def of the text that says super(): its record, its cell, its code's file -/
structure FunK (K : PySem.W.Frag) (PL : Program) (x qual : Str) (st : Stmt) (f : Addr) (fd : FuncData) (D : Addr) : Prop where
  ex : ∃ (oc : Value) (od : Option Addr) (kV doc pm : Value) (an : Option Addr) (cda : Addr) (ct : Value) (osl : Array (Option Value)) (cc : Addr), fd = PySem.W.ksFn x qual (defArgs st) (defBody st) (defScope st) .none kV doc pm an (.ref cda) ct cc ∧
    K.lookup f = some ⟨oc, od, .func fd, osl⟩ ∧ PySem.W.codeIn K (.ref cda) qual = true ∧ (∃ a b e, K.lookup cc = some ⟨a, b, .cell (some (.ref D)), e⟩) ∧
    ∃ o : Obj, K.lookup cda = some o ∧ ∃ vs, o.data = .fields vs ∧ ∃ (file : Str) (tf : Tok), vs[2]? = some (.str file tf) ∧ ((PL.main.file : Str) == file) = true
  kp : PySem.W.keepIn K (.ref f) = true
theorem funK_mk {K : PySem.W.Frag} {PL : Program} {x qual : Str} {st : Stmt} {f D cda cc : Addr} {oc : Value} {od an vb cb : Option Addr} {osl ve ce : Array (Option Value)} {kV doc pm ct va ca : Value} {vs : Array Value} {fl : Str} {tf : Tok}
    (l : K.lookup f = some ⟨oc, od, .func (PySem.W.ksFn x qual (defArgs st) (defBody st) (defScope st) .none kV doc pm an (.ref cda) ct cc), osl⟩) (c : PySem.W.codeIn K (.ref cda) qual = true) (k : PySem.W.keepIn K (.ref f) = true)
    (q : K.lookup cc = some ⟨ca, cb, .cell (some (.ref D)), ce⟩) (v : K.lookup cda = some ⟨va, vb, .fields vs, ve⟩) (vf : vs[2]? = some (.str fl tf)) (vg : ((PL.main.file : Str) == fl) = true) :
    FunK K PL x qual st f (PySem.W.ksFn x qual (defArgs st) (defBody st) (defScope st) .none kV doc pm an (.ref cda) ct cc) D :=
  ⟨⟨oc, od, kV, doc, pm, an, cda, ct, osl, cc, rfl, l, c, ⟨_, _, _, q⟩, _, v, vs, rfl, fl, tf, vf, vg⟩, k⟩
theorem FunK.binds {K : PySem.W.Frag} {PL : Program} {x qual : Str} {st : Stmt} {f D : Addr} {fd : FuncData} {ps : List Str} (F : FunK K PL x qual st f fd D)
    (h : ∀ (kV doc pm : Value) (an : Option Addr) (cdv ct : Value) (cc : Addr) (us : List Value), us.length = ps.length → bindArgs (PySem.W.ksFn x qual (defArgs st) (defBody st) (defScope st) .none kV doc pm an cdv ct cc) ⟨us, []⟩ = pure (ps.zip us)) : Binds K fd ps [] := by
  obtain ⟨oc, od, kV, doc, pm, an, cda, ct, osl, cc, rfl, _⟩ := F.ex
  exact .all (h kV doc pm an (.ref cda) ct cc)
end
section
/-- a def of the text with defaults (their tuple at t) -/
structure FunD (K : PySem.W.Frag) (x qual : Str) (st : Stmt) (f : Addr) (fd : FuncData) (t : Addr) : Prop where
  ex : ∃ (oc : Value) (od : Option Addr) (kV doc pm : Value) (an : Option Addr) (cdv ct : Value) (osl : Array (Option Value)),
    fd = PySem.W.fnOf x qual (defArgs st) (defBody st) (defScope st) (.ref t) kV doc pm an cdv ct ∧ K.lookup f = some ⟨oc, od, .func fd, osl⟩ ∧ PySem.W.codeIn K cdv qual = true
  kp : PySem.W.keepIn K (.ref f) = true
theorem FunD.ok {P : Program} {w : World} {K : PySem.W.Frag} {mg : Str → Option Value} {base : Heap} {x qual : Str} {st : Stmt} {f t0 : Addr} {fd : FuncData} {N ps : List Str} {k : Nat} {sp : Sp} (F : FunD K x qual st f fd t0) (S : FnScope N ps (defScope st))
    (len : ∀ vs H Q E, sp vs H Q E → vs.length = ps.length)
    (hbody : ∀ (cdv : Value) (A : Around) (outer : List Env) (s : Shared) (H : Hp) (vs : List V) (Q : VK) (E : XK), Room k (A.deeper (PyProof.Rows.envOfC qual (defScope st) s.heap.objs.size f cdv)) → sp vs H Q E →
      ∃ t, PSs (cxOf CX0 P w K mg base N qual (defScope st) f cdv A outer s H E).nox (defBody st) t ∧ t { nx := fun _ H' => Q .non H', rt := Q } (L2.start N vs) H) : FnOk P w K mg base CX0 (k + 1) f fd ps sp := by
  obtain ⟨oc, od, kV, doc, pm, an, cdv, ct, osl, rfl, lk, hcd⟩ := F.ex
  refine fn_of lk hcd S len fun A outer s H vs Q E hr hsp => ?_
  obtain ⟨t, h, q⟩ := hbody cdv A outer s H vs Q E hr hsp
  exact ⟨t, h.nox, q⟩
end
section
open PySem.W PyProof.Rows
/-- what the frame of such a def knows of itself -/
theorem supK {CX : CXT} {P PL : Program} {w : World} {K : PySem.W.Frag} {mg : Str → Option Value} {base : Heap} {N ps : List Str} {qual : Str} {st : Stmt} {f cda cc D : Addr} {me : Str} {A : Around} {outer : List Env} {s : Shared} {H : Hp} {E : XK}
    {x : Str} {oc kV doc pm ct : Value} {od an : Option Addr} {osl : Array (Option Value)} (hP : P = PL)
    (l : K.lookup f = some ⟨oc, od, .func (PySem.W.ksFn x qual (defArgs st) (defBody st) (defScope st) .none kV doc pm an (.ref cda) ct cc), osl⟩) (q : ∃ a b e, K.lookup cc = some ⟨a, b, .cell (some (.ref D)), e⟩)
    (v : ∃ o : Obj, K.lookup cda = some o ∧ ∃ vs, o.data = .fields vs ∧ ∃ (file : Str) (tf : Tok), vs[2]? = some (.str file tf) ∧ ((PL.main.file : Str) == file) = true)
    (S : FnScopeK N ps (defScope st)) (ks : (defScope st).names.lookup ("super" : Str) = some .globalImplicit) (kc : (defScope st).names.lookup ("__class__" : Str) = some .free) (ka : (defScope st).names.lookup me = some .local)
    (ar : ∃ ar : Arg, ((defArgs st).posonlyargs ++ (defArgs st).args).head? = some ar ∧ ar.arg = me) (top : (P.main.scope.names.lookup ("super" : Str)).isSome = false) (cls : ∃ cd, clsIn K D = some cd) (hm : mg "super" = none) (sa : nsIn K cStatics "thirdparty.any" = some none) :
    SupX (cxK CX P w K mg base N qual (defScope st) f (.ref cda) cc A outer s H E) f cda cc D me := by
  subst hP
  exact ⟨ks, kc, ka, rfl, ⟨_, l, _, rfl, ar⟩, rfl, v, top, look_class (no_class S _), q, cls, hm, sa⟩
/-- THE RULE for a def that says super(): the program is PL itself -/
theorem FunK.ok {CX : CXT} {PL : Program} {w : World} {K : PySem.W.Frag} {mg : Str → Option Value} {base : Heap} {x qual : Str} {st : Stmt} {f D : Addr} {fd : FuncData} {N ps : List Str} {k : Nat} {sp : Sp} {me : Str} (F : FunK K PL x qual st f fd D) (S : FnScopeK N ps (defScope st))
    (ks : (defScope st).names.lookup ("super" : Str) = some .globalImplicit) (kc : (defScope st).names.lookup ("__class__" : Str) = some .free) (ka : (defScope st).names.lookup me = some .local)
    (ar : ∃ ar : Arg, ((defArgs st).posonlyargs ++ (defArgs st).args).head? = some ar ∧ ar.arg = me) (top : (PL.main.scope.names.lookup ("super" : Str)).isSome = false) (cls : ∃ cd, clsIn K D = some cd) (hm : mg "super" = none) (sa : nsIn K cStatics "thirdparty.any" = some none)
    (len : ∀ vs H Q E, sp vs H Q E → vs.length = ps.length)
    (hbody : ∀ (cda cc : Addr) (A : Around) (outer : List Env) (s : Shared) (H : Hp) (vs : List V) (Q : VK) (E : XK), Room k (A.deeper (envK qual (defScope st) s.heap.objs.size f (.ref cda) cc)) → SupX (cxK CX PL w K mg base N qual (defScope st) f (.ref cda) cc A outer s H E) f cda cc D me → sp vs H Q E →
      ∃ t, PSa (cxK CX PL w K mg base N qual (defScope st) f (.ref cda) cc A outer s H E) (.func (defBody st) (envK qual (defScope st) s.heap.objs.size f (.ref cda) cc)) (defBody st) t ∧ t { nx := fun _ H' => Q .non H', rt := Q } (L2.start N vs) H) :
    FnOk PL w K mg base CX (k + 1) f fd ps sp := by
  obtain ⟨oc, od, kV, doc, pm, an, cda, ct, osl, cc, rfl, lk, hcd, ⟨a, b, e, lc⟩, v⟩ := F.ex
  exact fnK_of lk lc hcd S len fun A outer s H vs Q E hr hsp => hbody cda cc A outer s H vs Q E hr (supK rfl lk ⟨a, b, e, lc⟩ v S ks kc ka ar top cls hm sa) hsp
end
/-! ### exceptions over any built-in base: made by a walked __init__, super().__init__ within it -/
section
open PySem.W PyProof.Rows PySem.Calls ClX Builtin Builtin.ObjectAttr
/-- what is known of the built-in base -/
structure XB (B nw ini : String) (bl : List Value) : Prop where
  F : ExcBaseFacts B nw ini bl
  S : StoreFacts B bl "object.__setattr__" "object"
  Z : KxsFacts B ini
  qi : ini.startsWith "lifetime." = false
theorem xb_VE : XB "ValueError" "ValueError.__new__" "ValueError.__init__" [.type "ValueError", .type "Exception", .type "BaseException", .type "object"] := ⟨F.excBase_ValueError, F.store_ValueError, kxs_ValueError, by decide +kernel⟩
theorem xb_LE : XB "LookupError" "LookupError.__new__" "LookupError.__init__" [.type "LookupError", .type "Exception", .type "BaseException", .type "object"] := ⟨F.excBase_LookupError, F.store_LookupError, kxs_LookupError, by decide +kernel⟩
/-- own classes, then the base's row -/
inductive Ov (bl : List Value) : List Value → Prop where
  | nil : Ov bl bl
  | cons {c : Addr} {l : List Value} : Ov bl l → Ov bl (.ref c :: l)
theorem Ov.pass {B nw ini : String} {bl : List Value} (X : XB B nw ini bl) (self : Value) : ∀ {l : List Value}, Ov bl l → refuseLoop self "__setattr__" l = pure ()
  | _, .nil => X.S.passes self
  | _, .cons h => by rw [refuseLoop_ref]; exact h.pass X self
theorem Ov.has {bl : List Value} (x : String) : ∀ {l : List Value}, Ov bl l → l.contains (.type x) = bl.contains (.type x)
  | _, .nil => rfl
  | _, .cons h => by rw [List.contains_cons, h.has x]; rfl
theorem Ov.ne {B nw ini : String} {bl l : List Value} (X : XB B nw ini bl) (h : Ov bl l) : l.isEmpty = false := by
  cases h with
  | nil => exact List.isEmpty_eq_false_iff.mpr (fun z => by have := X.F.hasB; rw [z] at this; cases this)
  | cons _ => rfl
structure OexG (nw : String) (bl : List Value) (K : PySem.W.Frag) (C : Addr) : Prop where
  cls : ∃ nm q N bs bm sn sub ab col dd k0 k1 k2 k3 k5, K.lookup C = some (excClassObj nm q C N bs bm true sn sub ab col dd k0 k1 k2 k3 k5 nw) ∧ Ov bl bm
  sa : findIn K (.ref C) "__setattr__" = some (some (.builtin "object.__setattr__"))
  exC : subIn K (.ref C) (.type "BaseException") = some true
  tyC : typeIn K (.ref C) = some (.type "type")
  kC : keepIn K (.ref C) = true
theorem OexG.mro {B nw ini : String} {bl : List Value} (X : XB B nw ini bl) {K : PySem.W.Frag} {C : Addr} (T : OexG nw bl K C) {y : String} (hy : bl.contains (.type y) = true) : mroIn K C (.type y) = some true := by
  obtain ⟨nm, q, N, bs, bm, sn, sub, ab, col, dd, k0, k1, k2, k3, k5, hC, hb⟩ := T.cls
  have hcl : clsIn K C = some { name := nm, bases := bs, mro := .ref C :: bm, ns := N, qualname := q, hasDict := true, slotNames := sn, subclasses := sub, abstract := ab, collection := col, hasDel := false } := by
    unfold clsIn; rw [hC] <;> rfl
  unfold mroIn
  rw [hcl, Option.bind_some, if_neg (by simp), List.contains_cons, hb.has, hy, Bool.or_true]
section
variable {prog : Program} {w : World} {A : Around} {R : Result → Shared → Prop} {hp : Heap} {g : Array GenState} {d : Drawn} {t : Nat} {os : OsState} {B nw ini : String} {bl : List Value}
/-- self.x = v, the first one -/
theorem exg_osa (XX : XB B nw ini bl) {K : W.Frag} {name : Str} {tk : Tok} {v : Value} {x C : Addr} {fv : Array Value} {cd : ClassData} {row : List Value}
    (X : K.In hp) (hx : hp.get? x = some { cls := .ref C, data := .fields fv }) (hcd : clsIn K C = some cd) (hm : cd.mro = .ref C :: row) (ho : Ov bl row) (hh : cd.hasDict = true) (hno : findIn K (.ref C) name = some none)
    (hq : ∀ h' tk' dx, (∀ b o, b ≠ x → hp.get? b = some o → h'.get? b = some o) → hp.objs.size ≤ dx → dx ≠ x → h'.get? x = some { cls := .ref C, dict := some dx, data := .fields fv } →
      h'.Ns1 dx (fun y => if y = name then some v else none) → R (.ok (.ret .none)) ⟨h', g, d, tk', os⟩) :
    codeAny (model prog w) A (.call (.builtin "object.__setattr__") ⟨[.ref x, .str name tk, v], []⟩) R ⟨hp, g, d, t, os⟩ := by
  have J : InstAt hp x { cls := .ref C, data := .fields fv } C none := ⟨hx, rfl, rfl, trivial⟩
  have G := F.store_object
  have hob : cd.mro.contains (.type "object") = true := by rw [hm, List.contains_cons, ho.has]; exact (by rw [XX.S.hasOwner, Bool.or_true])
  have hne : cd.mro.isEmpty = false := by rw [hm]; rfl
  have hxs : x ≠ hp.objs.size := Nat.ne_of_lt (Heap.lt_size hx)
  have sub : Looks (model prog w) hp (isInstance (.ref x) (.type "object")) true := J.type.andThen (looks_mroIn X (by unfold mroIn; rw [hcd, Option.bind_some, if_neg (by rw [hne]; decide), hob]))
  refine codeAny_call_builtin G.slot.plain G.entry (@check_slot (model prog w) _ _ ⟨hp, g, d, t, os⟩ "object.__setattr__" "object" "__setattr__" (.ref x) [.str name tk, v] [] _ G.kind G.split sub (G.args (.ref x) (.str name tk) v) ?_)
  have l1 : Looks (model prog w) hp (mroOf (.ref C)) cd.mro := (looks_clsIn X hcd).andThen .now
  have l2 : Looks (model prog w) hp (storeTaker? none) none := .now
  have l3 : Looks (model prog w) hp (classData C) cd := looks_clsIn X hcd
  have pass : refuseLoop (.ref x) "__setattr__" cd.mro = pure () := by rw [hm, refuseLoop_ref]; exact ho.pass XX _
  rw [osa_eq, refuse_eq]
  refine wpAny_bind (wpAny_bind (J.type.at (wpAny_bind (l1.at ?_))))
  rw [pass]
  refine wpAny_pure (wpAny_bind (J.type.at (wpAny_bind ((looks_findIn X hno).at (wpAny_bind (l2.at ?_))))))
  show wpAny _ _ (storeInOwnDict (.ref x) (.ref C) (.str name tk) name v false) _ _ _
  obtain ⟨nm, bs, mro, ns, qn, hd, sn, sb, ab, col, del⟩ := cd
  dsimp only at hh
  subst hh
  unfold storeInOwnDict ownDictForStores
  repeat (first | with_reducible refine HandSPX.store_in_new ?_ ?_ | with_reducible refine wpAny_loadPart_at hx ?_ | with_reducible refine l3.at ?_ | wp_step)
  · exact ⟨_, #[], _, (Heap.get?_update_ne _ _ _ _ hxs.symm).trans (Heap.get?_push_at rfl rfl), rfl, fun e he => absurd he (by simp), fun _ => rfl⟩
  · intro h' tk' hn' hs
    have hy : (hp.push { cls := .type "dict", data := .dict #[] }).get? x = some { cls := .ref C, data := .fields fv } := Heap.get?_push_of_some _ hx
    refine hq h' tk' hp.objs.size (fun b o hb ho => ?_) (Nat.le_refl _) hxs.symm ?_ hn'
    · exact (hs.2 b (Nat.ne_of_lt (Heap.lt_size ho))).trans ((Heap.get?_update_ne _ _ _ _ hb).trans (Heap.get?_push_of_some _ ho))
    · exact (hs.2 x hxs).trans (Heap.get?_update_self _ hy rfl)
end
section
variable {X : Cx} {pins : List (Addr × Obj)} {σ : L2.St} {H : Hp} {s : Shared} {a C dx : Addr} {f : Str} {y : V} {u : Value} {B nw ini : String} {bl : List Value}
theorem exg_set (XX : XB B nw ini bl) {Q : Unit → Shared → Prop} {E : Value → Shared → Prop} {A : Around} (T : OexG nw bl X.K C) (I : Inv X pins σ H s) (e : H a = some (exo a C none)) (hno : findIn X.K (.ref C) f = some none) (ry : RelV y u)
    (h : ∀ dx s', H dx = none → dx ≠ a → Inv X pins σ (upd (upd H dx (exd dx [(f, y)])) a (exo a C (some dx))) s' → Q () s') : wpAny (model X.prog X.w) A (setAttr (.ref a) f u) Q E s := by
  obtain ⟨nm, q, N, bs, bm, sn, sub, ab, col, dd, k0, k1, k2, k3, k5, hC, hbm⟩ := T.cls
  have hcl : clsIn X.K C = some { name := nm, bases := bs, mro := .ref C :: bm, ns := N, qualname := q, hasDict := true, slotNames := sn, subclasses := sub, abstract := ab, collection := col, hasDel := false } := by
    unfold clsIn; rw [hC] <;> rfl
  obtain ⟨t1, ho⟩ := exo_at I.hok e
  obtain ⟨hp, gg, dd', tt, os⟩ := s
  refine set_plain I.kIn (ox := { cls := .ref C, dict := none, data := .fields #[.ref t1, .none, .none, .none, .bool false, .none] }) (od := none) ⟨ho, rfl, rfl, trivial⟩ T.sa ?_
  refine exg_osa XX I.kIn ho hcl rfl hbm rfl hno (fun h' tk' dx k dn dne hx hn => ?_)
  have hnd : H dx = none := I.hok.fresh dn
  have nd : ∀ {b : Addr} {o : Obj}, hp.get? b = some o → b ≠ dx := fun {b o} q => Nat.ne_of_lt (Nat.lt_of_lt_of_le (Heap.lt_size q) dn)
  have na : ∀ {b : Addr}, H b = none → b ≠ a := fun {b} n z => by rw [z, e] at n; cases n
  have U : Un X.fs [] H (upd (upd H dx (exd dx [(f, y)])) a (exo a C (some dx))) hp h' := {
    keep := fun b o q n _ _ => k b o (na n) q
    slot := fun b o q n _ _ => ⟨o.slots, k b o (na n) q⟩
    free := fun b o q n _ => by rw [upd_ne (na n), upd_ne (nd q)]; exact n
    there := fun b o q _ => by
      by_cases hb : b = a
      · exact ⟨_, by rw [hb]; exact hx⟩
      · exact ⟨o, k b o hb q⟩
    tups := fun b xs q => by rw [upd_ne (at_ne e q exo_tup), upd_ne (ne_of_none q hnd)]; exact q
    frzs := fun b o v q => by rw [upd_ne (at_ne e q exo_frz), upd_ne (ne_of_none q hnd)]; exact q
    tbls := fun b ps q => ⟨#[], by rw [upd_ne (at_ne e q exo_tbl), upd_ne (ne_of_none q hnd), q]; simp⟩ }
  refine h dx _ hnd dne (I.un (t' := tk') U fun b o q => ?_)
  by_cases hb : b = a
  · subst hb
    rw [upd_same] at q
    cases q
    exact exo_ok hx
  rw [upd_ne hb] at q
  by_cases hd : b = dx
  · subst hd
    rw [upd_same] at q
    cases q
    exact exd_ok hn (relO_put (fs := []) ry fun g => True.intro)
  rw [upd_ne hd] at q
  refine (I.hok b o q).stay (fun c v hc z => k c v ?_ z) (fun c hc => ?_) (fun c xs hc => ?_)
  · rcases hc with hc | hc
    · rw [hc]; exact hb
    · exact at_ne e hc exo_own
  · rw [upd_ne (at_ne e hc exo_own), upd_ne (ne_of_none hc hnd)]; exact hc
  · rw [upd_ne (at_ne e hc exo_tup), upd_ne (ne_of_none hc hnd)]; exact hc
end
/-- self.f = e, self an exception without a dict -/
def tSetG (nw : String) (bl : List Value) (K : PySem.W.Frag) (f : Str) (to te : TE) : TS := fun D σ H => te σ H fun y H1 => to σ H1 fun x H2 => ∃ a C : Addr, x = .ref a ∧ OexG nw bl K C ∧ findIn K (.ref C) f = some none ∧
  H2 a = some (exo a C none) ∧ ∀ dx, H2 dx = none → dx ≠ a → D.nx σ (upd (upd H2 dx (exd dx [(f, y)])) a (exo a C (some dx)))
theorem ps_setG {B nw ini : String} {bl : List Value} (XX : XB B nw ini bl) {X : Cx} {o e : Expr} {to te : TE} {f : Str} {p' pos : Pos} (ho : PE X o to) (he : PE X e te) (hs : swapsWith e (some (.Attribute o f p')) pos.line X.env = pure false := by rfl) :
    PS X (.Assign [.Attribute o f p'] e pos) (tSetG nw bl X.K f to te) := by
  refine ⟨fun pins s σ H D I h => ?_⟩
  refine plainObj_wpAny_Assign_Attribute (thn (he.run pins s σ H _ I h) fun v s1 ⟨y, H1, I1, r1, q1⟩ => thn (ho.run pins s1 σ H1 _ I1 q1) fun u s2 ⟨x, H2, I2, r2, a, C, ex, T, hno, ea, q⟩ => ?_) hs
  subst ex
  obtain rfl : u = Value.ref a := r2
  exact exg_set XX T I2 ea hno r1 fun dx s' n ne J => ⟨σ, _, J, q dx n ne⟩
/-- the body of C(e, ..) -/
theorem run_mkG {B nw ini : String} {bl : List Value} (XX : XB B nw ini bl) {X : Cx} {pins : List (Addr × Obj)} {σ : L2.St} {H1 : Hp} {s1 : Shared} {us : List Value} {vs : List V} {C fI : Addr} {k : Nat} {fd : FuncData} {CX : CXT} {ps : List Str} {sp : Sp} {ds : List Value} {dvs : List V} {Qp : Addr → V → Hp → Prop} {R : Value → Shared → Prop}
    (T : OexG nw bl X.K C) (iC : findIn X.K (.ref C) "__init__" = some (some (.ref fI))) (tI : typeIn X.K (.ref fI) = some (.type "function"))
    (F1 : FnOk X.prog X.w X.K X.mg X.base CX k fI fd ps sp) (hr : Room (k + 1) X.A) (hb : Binds X.K fd ps ds) (hd : Vals dvs ds) (hx : Passes CX X (fun _ _ _ => False)) (I1 : Inv X pins σ H1 s1) (r1 : Vals vs us) (hz : vs.length ≤ 1000)
    (hq : ∀ a, H1 a = none → sp (.ref a :: (vs ++ dvs)) (upd H1 a (exo a C none)) (Qp a) (fun _ _ _ => False))
    (out : ∀ (s' : Shared) (v : V) (u : Value) (a : Addr), H1 a = none → s1.heap.objs.size ≤ a → (∀ (H2 : Hp), s'.os = s1.os → AllBare s'.gens →
        Un (frs X.stack) [] (upd H1 a (exo a C none)) H2 ((s1.heap.push (kdv_tup us)).push (HandSPX.excO C s1.heap.objs.size)) s'.heap → HOk X.prog X.w H2 s'.heap → (∀ b o, s1.heap.get? b = some o → ((s1.heap.push (kdv_tup us)).push (HandSPX.excO C s1.heap.objs.size)).get? b = some o) →
        a = s1.heap.objs.size + 1 → Inv X pins σ (upd H1 a (exo a C none)) { s1 with heap := (s1.heap.push (kdv_tup us)).push (HandSPX.excO C s1.heap.objs.size) } → RelV v u → Qp a v H2 → u = .none ∧ R (.ref a) s')) :
    wpAny (model X.prog X.w) X.A (call (.ref C) us) R X.xe s1 := by
  obtain ⟨nm, q, N, bs, bm, sn, sub, ab, col, dd, k0, k1, k2, k3, k5, hC, hbm⟩ := T.cls
  obtain ⟨hp, g, dr, tk, os⟩ := s1
  have hsz : hp.objs.size ≤ hp.objs.size + 1 := Nat.le_succ _
  have hn : H1 (hp.objs.size + 1) = none := I1.hok.fresh hsz
  have hq := hq (hp.objs.size + 1) hn
  have kk : ∀ b o, hp.get? b = some o → ((hp.push (kdv_tup us)).push (HandSPX.excO C hp.objs.size)).get? b = some o := fun b o e => Heap.get?_push_of_some _ (Heap.get?_push_of_some _ e)
  have hget : ((hp.push (kdv_tup us)).push (HandSPX.excO C hp.objs.size)).get? (hp.objs.size + 1) = some (HandSPX.excO C hp.objs.size) := by heap_get
  have I2 : Inv X pins σ (upd H1 (hp.objs.size + 1) (exo (hp.objs.size + 1) C none)) ⟨(hp.push (kdv_tup us)).push (HandSPX.excO C hp.objs.size), g, dr, tk, os⟩ :=
    I1.laid (t' := tk) (a := hp.objs.size + 1) (o := exo (hp.objs.size + 1) C none) (h' := (hp.push (kdv_tup us)).push (HandSPX.excO C hp.objs.size)) kk hsz (exo_ok hget)
  have r2 : Vals (V.ref (hp.objs.size + 1) :: (vs ++ dvs)) (Value.ref (hp.objs.size + 1) :: (us ++ ds)) := .cons rfl (r1.append hd)
  have hl : (Value.ref (hp.objs.size + 1) :: us ++ ds).length = ps.length := by
    have e := r2.length
    rw [F1.len _ _ _ _ hq] at e
    exact e.symm
  have hus : us.length ≤ sizeLine := by rw [← Paired.length r1, sizeLine_eq]; omega
  refine wpAny_call (HandSPX.call_own XX.F (fun Y => hbm.has Y) (I1.kIn _ _ hC) (looks_findIn I1.kIn iC) (fun self => bind_fn I1.kIn self tI) hus
    (codeAny_mono (F1.run _ X.stack _ _ ⟨Value.ref (hp.objs.size + 1) :: us, []⟩ (Value.ref (hp.objs.size + 1) :: (us ++ ds)) _ _ (fun _ _ _ => False) (hr.make C us []) (I2.env0.make C us []) (hb _ (Value.ref (hp.objs.size + 1) :: us) I2.kIn hl) r2 hq) fun r s' hq' => ?_))
  match r, hq' with
  | .error er, hq' => exact hx pins σ _ _ er s' I2 hq'
  | .ok .next, hq' => exact hq'.elim
  | .ok .brk, hq' => exact hq'.elim
  | .ok .cont, hq' => exact hq'.elim
  | .ok (.ret u), ⟨v, H2, os2, bare2, un2, hok2, rv, q2⟩ =>
    obtain ⟨rfl, z⟩ := out s' v u _ hn hsz H2 os2 bare2 un2 hok2 kk rfl I2 rv q2
    exact ⟨rfl, z⟩
/-- raise C(e, ..), C's own __init__ keeping sp -/
theorem pmk_G {B nw ini : String} {bl : List Value} (XX : XB B nw ini bl) {X : Cx} {e : Expr} {es : List Expr} {ta : TA} {p pos : Pos} {CX : CXT} {x : Str} {C fI : Addr} {k : Nat} {fd : FuncData} {ps : List Str} {sp : Sp} {ds : List Value} {dvs : List V} (T : OexG nw bl X.K C) (iC : findIn X.K (.ref C) "__init__" = some (some (.ref fI))) (tI : typeIn X.K (.ref fI) = some (.type "function"))
    (F1 : FnOk X.prog X.w X.K X.mg X.base CX k fI fd ps sp) (hr : Room (k + 1) X.A) (hb : Binds X.K fd ps ds) (hd : Vals dvs ds) (hx : Passes CX X (fun _ _ _ => False)) (hg : Gl X x) (hm : X.mg x = some (.ref C)) (ha : PA X (e :: es) ta)
    (hdb : (x == ("__debug__" : Str)) = false := by decide) (he : starEach (e :: es) X.env = (false, eval e X.env) :: starEach es X.env := by rfl) (hpl : (backTo pos (starEach es X.env)).any (·.1) = false := by rfl) :
    PMk X (.Call (.Name x p) (e :: es) [] pos) (tMkO C sp dvs ta) := by
  intro pins s σ H Q I h
  refine wpAny_Call_Name_kw (ld_glob I hg hm ?_ hdb)
  refine callWith_K (h₀ := X.base) I.ok.mod.kin T.kC (thn (ha.run pos pins s σ H _ I h) fun us s1 ⟨vs, H1, I1, r1, hz, q1⟩ => ⟨I1.kIn, ?_⟩) he hpl
  refine run_mkG (Qp := fun a v H2 => v = .non ∧ ∃ (d : Addr) (fs : List (Str × V)), H2 a = some (exo a C (some d)) ∧ H2 d = some (exd d fs) ∧ H1 d = none ∧ Q (.ref C) (some d) (upd (del H2 a) d (.xd fs))) XX T iC tI F1 hr hb hd hx I1 r1 hz q1 fun s' v u a hn hsz H2 os2 bare2 un2 hok2 kk ea0 I2 rv q2 => ?_
  obtain ⟨ev, d, fs, ea, ed, hd1, q2⟩ := q2
  subst ev
  obtain ⟨h2, g2, d2, t2, os'⟩ := s'
  obtain ⟨hp, g, dr, tk, os⟩ := s1
  exact ⟨rv, mk_end (raises_own T.exC T.tyC) I1 hsz kk un2 hok2 os2 bare2 ea ed hd1 q2⟩
/-- C(e, ..) as a value: the exception stands at a -/
def tMkV (C : Addr) (sp : Sp) (dvs : List V) (ta : TA) : TE := fun σ H Q => ta σ H fun vs H1 => vs.length ≤ 1000 ∧ ∀ a, H1 a = none → sp (.ref a :: (vs ++ dvs)) (upd H1 a (exo a C none))
  (fun v H2 => v = .non ∧ Q (.ref a) H2) (fun _ _ _ => False)
theorem pe_mkV {B nw ini : String} {bl : List Value} (XX : XB B nw ini bl) {X : Cx} {e : Expr} {es : List Expr} {ta : TA} {p pos : Pos} {CX : CXT} {x : Str} {C fI : Addr} {k : Nat} {fd : FuncData} {ps : List Str} {sp : Sp} {ds : List Value} {dvs : List V} (T : OexG nw bl X.K C) (iC : findIn X.K (.ref C) "__init__" = some (some (.ref fI))) (tI : typeIn X.K (.ref fI) = some (.type "function"))
    (F1 : FnOk X.prog X.w X.K X.mg X.base CX k fI fd ps sp) (hr : Room (k + 1) X.A) (hb : Binds X.K fd ps ds) (hd : Vals dvs ds) (hx : Passes CX X (fun _ _ _ => False)) (hg : Gl X x) (hm : X.mg x = some (.ref C)) (ha : PA X (e :: es) ta)
    (hdb : (x == ("__debug__" : Str)) = false := by decide) (he : starEach (e :: es) X.env = (false, eval e X.env) :: starEach es X.env := by rfl) (hpl : (backTo pos (starEach es X.env)).any (·.1) = false := by rfl) :
    PE X (.Call (.Name x p) (e :: es) [] pos) (tMkV C sp dvs ta) := by
  refine ⟨fun pins s σ H Q I h => ?_⟩
  refine wpAny_Call_Name_kw (ld_glob I hg hm ?_ hdb)
  refine callWith_K (h₀ := X.base) I.ok.mod.kin T.kC (thn (ha.run pos pins s σ H _ I h) fun us s1 ⟨vs, H1, I1, r1, hz, q1⟩ => ⟨I1.kIn, ?_⟩) he hpl
  refine run_mkG (Qp := fun a v H2 => v = .non ∧ Q (.ref a) H2) XX T iC tI F1 hr hb hd hx I1 r1 hz q1 fun s' v u a hn hsz H2 os2 bare2 un2 hok2 kk ea I2 rv q2 => ?_
  obtain ⟨ev, q2⟩ := q2
  subst ev
  obtain ⟨h2, g2, d2, t2, os'⟩ := s'
  refine ⟨rv, .ref a, H2, I2.call' (ch := []) os2 ?_ hok2 bare2 (fun b z => absurd z (by simp)), rfl, q2⟩
  exact un2
end
section
open PySem.W PyProof.Rows PySem.Calls ClX
section
variable {prog : Program} {w : World} {A : Around} {E : Value → Shared → Prop} {h : Heap} {g : Array GenState} {d : Drawn} {t : Nat} {os : OsState} {B nw ini : String} {bl : List Value}
variable {nm q : Str} {C N : Addr} {bs bm : List Value} {hdct : Bool} {sn : List Str} {sub : List Value} {ab : Bool} {col : Option Bool} {dd : Option Addr} {k0 k1 k2 k3 k5 : Option Value}
theorem run_mwG (XX : XB B nw ini bl) {u e t0 : Addr} {rest : List Value} {Q : Value → Shared → Prop} (hC : h.get? C = some (excClassObj nm q C N bs bm hdct sn sub ab col dd k0 k1 k2 k3 k5 nw)) (he : h.get? e = some (HandSPX.excO C t0))
    (hu : h.get? u = some (kxs_mw ini e)) (hz : rest.length ≤ sizeLine) (hq : ∀ h' t1, (∀ b o, b ≠ e → h.get? b = some o → h'.get? b = some o) → h'.get? e = some (HandSPX.excO C t1) → Q .none ⟨h', g, d, t, os⟩) :
    wpAny (model prog w) A (call (.ref u) rest) Q E ⟨h, g, d, t, os⟩ := by
  refine wpAny_call (codeAny_of_tree ?_)
  show wpAny _ A.in1 (callAny (.ref u) ⟨rest, []⟩) _ _ _
  simp only [callAny]
  refine wpAny_bind (wpAny_load hu ?_)
  simp only [kxs_mw]
  refine KFB.if_so (by decide) ?_
  refine wpAny_bind (ESX.check_bound XX.F hC he rfl ?_)
  refine wpAny_bind (wpAny_pure (wpAny_pure ?_))
  refine ⟨Code.quiet_builtin _ XX.qi, codeAny_builtin XX.F.initEntry ?_⟩
  rw [Around.under_plainId XX.F.init.plain _]
  wp_walk
  refine hq _ h.objs.size (fun b o hb ho => ?_) ?_
  · rw [Heap.get?_update_other _ _ (Ne.symm hb)]; exact Heap.get?_push_of_some _ ho
  · rw [Heap.get?_update_self _ (Heap.get?_push_of_some _ he) rfl]; rfl
end
/-- super().m(..) where self is an exception that is being made -/
def tSupG (nw ini : String) (bl : List Value) (K : PySem.W.Frag) (D : Addr) (m : Str) (ta : TA) : TS := fun Dn σ H => ∃ (a C : Addr), σ[0]? = some (some (.ref a)) ∧ H a = some (exo a C none) ∧ OexG nw bl K C ∧ mroIn K C (.ref D) = some true ∧
  ks_superIn K C D m = some (some (.builtin ini)) ∧ ta σ H fun vs H1 => vs.length ≤ 1000 ∧ H1 a = some (exo a C none) ∧ Dn.nx σ H1
variable {X : Cx} {c : Code} {st : Stmt} {ss rest : List Stmt} {t u : TS} {B nw ini : String} {bl : List Value}
theorem psa_superG (XX : XB B nw ini bl) {f cd cc D : Addr} {me m : Str} {body : List Stmt} {p0 p1 apos pos pos' : Pos} {e : Expr} {es : List Expr} {ta : TA} {pl : Sem Bool}
    (S : SupX X f cd cc D me) (hN : X.N[0]? = some me) (ha : PA X (e :: es) ta) (hm : (m == ("__class__" : Str)) = false)
    (hst : starEach (e :: es) X.env = (false, eval e X.env) :: starEach es X.env) (hpl : (backTo pos (starEach es X.env)).any (·.1) = false)
    (hev : eval (.Call (.Attribute (.Call (.Name "super" p0) [] [] p1) m apos) (e :: es) [] pos) X.env = (do
      let ov ← attributeBase (.Call (.Name "super" p0) [] [] p1) m X.env (eval (.Call (.Name "super" p0) [] [] p1) X.env)
      standAt apos.atName
      let (g, first) ← holding [ov] (getMethod ov m pl)
      callWith pos g first (backTo pos (starEach (e :: es) X.env)) []) )
    (hi : interactive X.env = false) (hs : swapsWith (.Call (.Attribute (.Call (.Name "super" p0) [] [] p1) m apos) (e :: es) [] pos) none pos'.line X.env = pure false) (h2 : PSa X (.func body X.env) rest u) :
    PSa X (.func body X.env) (.Expr (.Call (.Attribute (.Call (.Name "super" p0) [] [] p1) m apos) (e :: es) [] pos) pos' :: rest) (tSeq (tSupG nw ini bl X.K D m ta) u) := by
  refine ⟨fun pins s σ H Dn I h => ?_⟩
  obtain ⟨a, C, h0, hins, TC, hmro, hsup, h⟩ := h
  obtain ⟨hh, gg, dd, tt, os⟩ := s
  have KX : X.K.In hh := I.kIn
  obtain ⟨o1, l1, d1, e1, ar, hp1, har⟩ := S.fd
  obtain ⟨o2, l2, vs2, e2, file, tf, hv2, hfile⟩ := S.cv
  obtain ⟨ca, cb, ce, lc⟩ := S.cc
  obtain ⟨cdD, hcd⟩ := S.cls
  obtain ⟨oD, hD1, hD2⟩ := cls_obj KX hcd
  obtain ⟨m0, hn0, hlook⟩ := I.loc
  obtain ⟨uv, ru, lk⟩ := hlook 0 me (.ref a) hN h0 (.inl S.ka)
  obtain rfl : uv = Value.ref a := ru
  have hself : m0 me = some (.ref a) := by
    rcases lk with ⟨_, q⟩ | ⟨q, _⟩
    · exact q
    · have q : X.env.scope.names.lookup me = some .cell ∨ X.env.scope.names.lookup me = some .free := q
      rw [S.ka] at q
      rcases q with q | q <;> cases q
  obtain ⟨mb, hb1, hb2⟩ := I.mod.blt
  refine ks_wpAt_execs_cons (ks_wpAt_Expr_any (ks_wpAt_MethodCall ?_ hev) hi hs)
  refine ks_wpAt_super_base S.ks S.kc hm S.fn (KX _ _ l1) e1 hp1 S.co (KX _ _ l2) e2 hv2 hfile S.top ?_
  refine ks_loadName_global I.ok.kind S.ks (loadGlobal_builtin (by rw [I.ok.glob]; exact I.mod.glob.keeps I.bk) S.mg (by rw [I.ok.blt]; exact hb1.keeps I.bk) ((hb2 _ (by decide)).trans (by first | rfl | decide +kernel)) ⟨rfl, ?_⟩)
  refine wpAny_loadName_free I.ok.kind S.kc S.cl ⟨_, KX _ _ lc, rfl⟩ ?_
  rw [har]
  refine wpAny_loadName_local I.ok.kind S.ka hn0 hself ?_
  refine ks_wpAny_isType_cls hD1 hD2 ⟨rfl, ?_⟩
  obtain ⟨nm, q, N, bs, bm, sn, sub, ab, col, dd0, k0, k1, k2, k3, k5, hC, hbm⟩ := id TC.cls
  obtain ⟨t1, ho⟩ := exo_at I.hok hins
  have hcl : clsIn X.K C = some { name := nm, bases := bs, mro := .ref C :: bm, ns := N, qualname := q, hasDict := true, slotNames := sn, subclasses := sub, abstract := ab, collection := col, hasDel := false } := by
    unfold clsIn
    rw [hC] <;> rfl
  have xC : a ≠ C := fun e => by
    have c1 := KX _ _ hC
    rw [← e, ho] at c1
    have c2 := congrArg Obj.data (Option.some.inj c1)
    cases c2
  refine ks_wpAny_call_super hD1 hD2 ho rfl (fun c z => nomatch z) (looks_mroIn KX hmro) (fun h' hso hk' => ?_)
  have I1 : Inv X ((hh.objs.size, ks_superObj D a C) :: pins) σ H ⟨h', gg, dd, tt, os⟩ := pin_new (t' := tt) I hk' (Nat.le_refl _) hso (fun v z => nomatch z)
  have K1 : X.K.In h' := I1.kIn
  obtain ⟨t2, ho2⟩ := exo_at I1.hok hins
  have J1 : InstAt h' a { cls := .ref C, dict := none, data := .fields #[.ref t2, .none, .none, .none, .bool false, .none] } C none := ⟨ho2, rfl, rfl, trivial⟩
  have isB : Looks (model X.prog X.w) h' (isInstance (.ref a) (.type B)) true := J1.type.andThen (looks_mroIn K1 (TC.mro XX XX.F.hasB))
  unfold ks_superIn at hsup
  rw [hcl] at hsup
  refine kxs_getMethod XX.Z hso (looks_opaque K1 S.st) (l₀ := .ref C :: bm) (fun A Q E s k q => wpAny_bind ((looks_clsIn K1 hcl) A _ E s k (wpAny_pure q))) rfl K1 hsup isB xC hm ?_
  have I2 : Inv X ((h'.objs.size, kxs_mw ini a) :: (hh.objs.size, ks_superObj D a C) :: pins) σ H { (⟨h', gg, dd, tt, os⟩ : Shared) with heap := h'.push (kxs_mw ini a), toks := tt + 1 } :=
    pin_new I1 (fun _ _ z => Heap.get?_push_of_some _ z) (Nat.le_refl _) (Heap.get?_push_size h' rfl) (fun v z => nomatch z)
  have hL : h'.objs.size ≠ X.env.locals := (I2.pin (h'.objs.size, kxs_mw ini a) (List.mem_append_right _ List.mem_cons_self)).2.2.1
  refine kxs_callWith1 (news_at hL (base_none I1 (Nat.le_refl _)) (pin_at I2)) List.mem_cons_self (thn (ha.run pos _ _ σ H _ I2 h) fun us s3 ⟨vs, H1, I3, r3, hl3, e3, q3⟩ => ⟨pin_at I3, ?_⟩) hst hpl
  obtain ⟨t3, ho3⟩ := exo_at I3.hok e3
  have hmw := pin_at I3
  obtain ⟨h3, g3, d3, k3', os3⟩ := s3
  have hlen : us.length ≤ sizeLine := by rw [← r3.length, sizeLine_eq]; omega
  refine run_mwG XX (I3.kIn _ _ hC) ho3 hmw hlen (fun h4 t4 kk hx4 => ?_)
  have J := I3.write (t' := k3') (x := a) (e := a) (o := exo a C none) (by rw [e3]; exact True.intro) (.inl rfl) kk ⟨_, hx4⟩ (exo_ok hx4)
  have eu : upd H1 a (exo a C none) = H1 := by
    funext b
    by_cases hb : b = a
    · rw [hb, upd_same, e3]
    · rw [upd_ne hb]
  rw [eu] at J
  exact h2.run pins _ σ H1 Dn (unpin (unpin J)) q3
end
/-! ### rules for lattices: methods of an object of one of several classes, tuple.index of flat items, defaults -/
section
open PySem.Spec PyProof.Rows
variable {X : Cx}
/-- o.m(e, ..): the class is found when it is asked; the method is one def -/
def tMethG (K : PySem.W.Frag) (m : Str) (f : Addr) (sp : Sp) (dvs : List V) (E : XK) (ta : TE) (t : TA) : TE := fun σ H Q => ta σ H fun x H1 => ∃ a C dx fs, x = .ref a ∧ H1 a = some (.ins C dx fs) ∧ Cls K C ∧ Meth K C m f ∧ fs.lookup m = none ∧
  t σ H1 fun vs H2 => sp (x :: (vs ++ dvs)) H2 Q E
section
variable {o e : Expr} {es : List Expr} {ta : TE} {t : TA} {m : Str} {apos pos : Pos} {CX : CXT} {k : Nat} {f : Addr} {fd : FuncData} {ps : List Str} {sp : Sp} {ds : List Value} {dvs : List V} {E : XK}
theorem pe_methG {pl : Sem Bool} (he : PE X o ta) (F : FnOk X.prog X.w X.K X.mg X.base CX k f fd ps sp) (hr : Room k X.A) (hb : Binds X.K fd ps ds) (hd : Vals dvs ds) (hx : Passes CX X E) (ha : PA X (e :: es) t)
    (hst : starEach (e :: es) X.env = (false, eval e X.env) :: starEach es X.env := by rfl) (hpl : (backTo pos (starEach es X.env)).any (·.1) = false := by rfl)
    (ht : eval (.Call (.Attribute o m apos) (e :: es) [] pos) X.env = (do
      let ov ← eval o X.env
      standAt apos.atName
      let (g, first) ← holding [ov] (getMethod ov m pl)
      callWith pos g first (backTo pos (starEach (e :: es) X.env)) (backToKw pos (keywordEach [] X.env))) := by rfl) :
    PE X (.Call (.Attribute o m apos) (e :: es) [] pos) (tMethG X.K m f sp dvs E ta t) := by
  refine ⟨fun pins s σ H Q I h => ?_⟩
  refine PySem.W.methodCall_KW (pl := pl) (thn (he.run pins s σ H _ I h) fun u s1 ⟨x, H1, I1, rx, a, C, dx, fs, ex, ea, c, hm, l, q⟩ => ?_) ht
  subst ex
  obtain rfl : u = Value.ref a := rx
  refine getmeth_ok I1 ea c hm l (PySem.W.callWith_K (first := [.ref a]) (h₀ := X.base) I.ok.mod.kin hm.kp (thn (ha.run pos pins s1 σ H1 _ I1 q) fun us s2 ⟨vs, H2, I2, r, q2⟩ => ⟨I2.kIn, ?_⟩) hst hpl)
  exact run_fn (us := .ref a :: us) (vs := .ref a :: vs) F hr hb hd hx I2 (.cons rfl r) q2
theorem pe_methG0 {pl : Sem Bool} (he : PE X o ta) (F : FnOk X.prog X.w X.K X.mg X.base CX k f fd ps sp) (hr : Room k X.A) (hb : Binds X.K fd ps ds) (hd : Vals dvs ds) (hx : Passes CX X E)
    (ht : eval (.Call (.Attribute o m apos) [] [] pos) X.env = (do
      let ov ← eval o X.env
      standAt apos.atName
      let (g, first) ← holding [ov] (getMethod ov m pl)
      callWith pos g first (backTo pos (starEach [] X.env)) (backToKw pos (keywordEach [] X.env))) := by rfl) :
    PE X (.Call (.Attribute o m apos) [] [] pos) (tMethG X.K m f sp dvs E ta tNil) := by
  refine ⟨fun pins s σ H Q I h => ?_⟩
  refine PySem.W.methodCall_KW (pl := pl) (thn (he.run pins s σ H _ I h) fun u s1 ⟨x, H1, I1, rx, a, C, dx, fs, ex, ea, c, hm, l, q⟩ => ?_) ht
  subst ex
  obtain rfl : u = Value.ref a := rx
  refine getmeth_ok I1 ea c hm l (PySem.W.callWith_K0 (first := [.ref a]) I1.kIn hm.kp ?_)
  exact run_fn (us := [.ref a]) (vs := [.ref a]) F hr hb hd hx I1 (.cons rfl .nil) q
end
/-- t.index(x), flat items -/
def rTupIx (K : PySem.W.Frag) : V → List V → Hp → VK → Prop := fun x xs H Q => ∃ (a : Addr) (ys : List V) (y : V) (j : Nat) (z : V), x = V.ref a ∧ xs = [y] ∧ SqT K H a ys ∧ flatV y = true ∧ ys.all flatV = true ∧ ys[j]? = some z ∧ eqV z y = true ∧
  (∀ (m : Nat) (z' : V), m < j → ys[m]? = some z' → eqV z' y = false) ∧ Q (.int (j : Nat)) H
theorem mt_tindexF : MtR X "tuple.index" (rTupIx X.K) := by
  intro pins s σ H x xs v us Q I rx rxs h
  obtain ⟨a, ys, y, j, z, rfl, rfl, hs, fy, fys, hz, hzj, hno, q⟩ := h
  cases rx
  obtain ⟨uy, rfl, ry⟩ := rxs.one
  obtain ⟨its, rv, ⟨⟨cls, dd, dt, sl⟩, ho, hc, n, hd⟩, hlen⟩ := I.tuple hs
  simp only at hc hd
  subst hc hd
  have hsz : its.toArray.size = ys.length := by rw [List.size_toArray, ← rv.length]
  have each : ∀ (m : Nat) (hm : m < its.toArray.size) (y' : V), ys[m]? = some y' → eqU y its.toArray[m] = eqV y' y := fun m hm y' hy' => by
    obtain ⟨u2, hu2, ru2⟩ := rv.get hy'
    have e1 : its.toArray[m] = u2 := by simpa using (List.getElem?_eq_some_iff.mp hu2).2
    rw [e1, eqU_of ru2 (flat_at fys hy')]
  have hjl := (List.getElem?_eq_some_iff.mp hz).1
  refine call_meets PySem.F.slot_tuple_index ⟨_, ho, rfl⟩ PySem.F.entry_tuple_index (PySem.F.args_tuple_index_2 _ _) (TI.tuple_indexAt a its.toArray n dd sl uy (eqU y) j (by omega) ?_ ?_)
    ⟨ho, fun w hw => mem_eqAt ry fy rv fys w (by simpa using hw), ⟨.int (j : Nat), H, I.tok _, ⟨_, rfl⟩, q⟩⟩
  · rw [each j _ _ hz, hzj]
  · intro m hm hmj
    have hy' : ys[m]? = some ys[m] := List.getElem?_eq_getElem (by omega)
    rw [each m hm _ hy', hno m _ hmj hy']
/-- the tuple at p has no dict of its own (so its methods may be asked) -/
def NdT (K : PySem.W.Frag) (H : Hp) (p : Addr) : Prop := (∃ (o : Obj) (xs : List V), H p = some (.frz o (.tup xs)) ∧ o.dict = none) ∨ ∃ o : Obj, K.lookup p = some o ∧ o.dict = none
theorem NdT.get {pins : List (Addr × Obj)} {σ : L2.St} {H : Hp} {s : Shared} {p : Addr} (h : NdT X.K H p) (I : Inv X pins σ H s) : ∃ o, s.heap.get? p = some o ∧ o.dict = none := by
  rcases h with ⟨o, xs, h, d⟩ | ⟨o, h, d⟩
  · have x : ObjOk X.prog X.w H s.heap p (.frz o (.tup xs)) := I.hok p _ h
    exact ⟨o, x.1, d⟩
  · exact ⟨o, I.kIn _ _ h, d⟩
/-- t.m(e, ..), t a tuple without a dict -/
def tTM (K : PySem.W.Frag) (r : V → List V → Hp → VK → Prop) (to : TE) (t : TA) : TE := fun σ H Q => to σ H fun x H1 => ∃ (p : Addr) (ys : List V), x = .ref p ∧ NdT K H1 p ∧ SqT K H1 p ys ∧ t σ H1 fun xs H2 => r x xs H2 Q
theorem pe_tbm {o e : Expr} {es : List Expr} {to : TE} {t : TA} {name : Str} {apos cpos : Pos} {id : String} {r : V → List V → Hp → VK → Prop} (pa : PlainAttrs "tuple") (slot : Slot "tuple" name id) (hty : typeOf (.builtin id) = pure (.type "method_descriptor")) (hm : MtR X id r) (ho : PE X o to) (ha : PA X (e :: es) t)
    (hbase : attributeBase o name X.env (eval o X.env) = eval o X.env := by rfl)
    (hfew : ((backTo cpos (starEach (e :: es) X.env)).all (fun x => !x.1) && (backToKw cpos (keywordEach [] X.env)).all (fun x => x.1.isSome)
      && decide ((e :: es).length + ([] : List Keyword).length + (if ([] : List Keyword).isEmpty then 0 else 1) < 30)) = true := by rfl)
    (hline : (apos.endLine == cpos.line) = true := by rfl) (hs : starEach (e :: es) X.env = (false, eval e X.env) :: starEach es X.env := by rfl) (hpl : (backTo cpos (starEach es X.env)).any (·.1) = false := by rfl) :
    PE X (.Call (.Attribute o name apos) (e :: es) [] cpos) (tTM X.K r to t) := by
  refine ⟨fun pins s σ H Q I h => ?_⟩
  refine wpAny_Call_method_late hbase hfew hline rfl (thn (ho.run pins s σ H _ I h) fun v s1 ⟨x, H1, I1, r1, p, ys, ex, nd, hq, q1⟩ => ?_)
  subst ex
  obtain rfl : v = Value.ref p := r1
  obtain ⟨its, _, ⟨o1, ho1, hc1, _⟩, _⟩ := I1.tuple hq
  refine ⟨"tuple", id, pa, slot, hty, ⟨o1, ho1, hc1⟩, fun a ea => by cases ea; exact nd.get I1, ?_⟩
  have hA := ha.run cpos pins s1 σ H1 _ I1 q1
  rw [hs] at hA ⊢
  refine Calls.callWith_builtin (by show (false || (backTo cpos (starEach es X.env)).any (·.1)) = false; rw [hpl] <;> rfl) (Calls.evalArgs_plain ?_)
  exact thn hA fun us s2 ⟨vs, H2, I2, r2, q2⟩ => hm pins s2 σ H2 (V.ref p) vs (Value.ref p) us Q I2 rfl r2 q2
/-- tuple(xs): a list's items in a new tuple without a dict, or the tuple itself -/
theorem call_tupleN : CallR X (.type "tuple") (fun xs H Q => ∃ p ys, xs = [.ref p] ∧ ((SqL X.K H p ys ∧ ∀ (l : Addr) (o : Obj), H l = none → o.dict = none → Q (.ref l) (upd H l (.frz o (.tup ys)))) ∨ (SqT X.K H p ys ∧ Q (.ref p) H))) := by
  intro pins s σ H xs us Q I r h
  obtain ⟨p, ys, rfl, h⟩ := h
  obtain ⟨u, rfl, rx⟩ := r.one
  cases rx
  rcases h with ⟨hq, q⟩ | ⟨hq, q⟩
  · obtain ⟨its, r', pl, hz⟩ := I.list hq
    have hlen := r'.length
    refine call_tuple_list pl.isList (fun h' kp => ?_) (by simp only [List.size_toArray] <;> omega)
    have J : Inv X pins σ H { s with heap := h' } := I.kept (t' := s.toks) kp
    have hg : (h'.push { cls := .type "tuple", data := .seq its.toArray }).get? h'.objs.size = some ({ cls := .type "tuple", data := .seq its.toArray } : Obj) := Heap.get?_push_size _ rfl
    have J2 : Inv X pins σ (upd H h'.objs.size (.frz { cls := .type "tuple", data := .seq its.toArray } (.tup ys))) { s with heap := h'.push { cls := .type "tuple", data := .seq its.toArray } } :=
      J.laid (t' := s.toks) (fun b o e => Heap.get?_push_of_some _ e) (Nat.le_refl _) (show ObjOk X.prog X.w _ _ _ (.frz _ (.tup ys)) from ⟨hg, hz, its, r', IsTup.new _ _⟩)
    exact ⟨.ref h'.objs.size, _, J2, rfl, q _ _ (J.hok.fresh (Nat.le_refl _)) rfl⟩
  · obtain ⟨its, r', pl, hz⟩ := I.tuple hq
    exact call_tuple_same pl ⟨.ref p, H, I, rfl, q⟩
theorem kx_pi_list {X : Cx} (K : PySem.W.Frag) {tg l : Expr} {tl : TE} (p : PI X tg l (iList X.K tl)) (h : X.K = K := by rfl) : PI X tg l (iList K tl) := h ▸ p
theorem kx_pi_enum {X : Cx} (K : PySem.W.Frag) {tg l : Expr} {ta : TA} (p : PI X tg l (iEnum X.K ta)) (h : X.K = K := by rfl) : PI X tg l (iEnum K ta) := h ▸ p
theorem kx_pe_fld {X : Cx} (K : PySem.W.Frag) {e : Expr} {ta : TE} {f : Str} (p : PE X e (tFld X.K ta f)) (h : X.K = K := by rfl) : PE X e (tFld K ta f) := h ▸ p
theorem kx_tbm {X : Cx} (K : PySem.W.Frag) {e : Expr} {r : V → List V → Hp → VK → Prop} {to : TE} {t : TA} (p : PE X e (tTM X.K r to t)) (h : X.K = K := by rfl) : PE X e (tTM K r to t) := h ▸ p
theorem kx_ix_seq {X : Cx} (K : PySem.W.Frag) (h : X.K = K := by rfl) : IxR X (rIx K) := h ▸ ix_seq
theorem kx_methG {X : Cx} (K : PySem.W.Frag) {e : Expr} {ta : TE} {t : TA} {m : Str} {f : Addr} {sp : Sp} {dvs : List V} {E : XK} (p : PE X e (tMethG X.K m f sp dvs E ta t)) (h : X.K = K := by rfl) : PE X e (tMethG K m f sp dvs E ta t) := h ▸ p
/-- how a def with defaults binds: n values are written, the defaults behind the first j fill up -/
theorem FunD.bindsD {K : PySem.W.Frag} {x qual : Str} {st : Stmt} {f t0 : Addr} {fd : FuncData} {ps : List Str} (F : FunD K x qual st f fd t0) {its : List Value} {m : Nat} (lt : K.lookup t0 = some (⟨.type "tuple", none, .seq its.toArray m, #[]⟩ : Obj)) (n j : Nat)
    (hn : n + (its.length - j) = ps.length)
    (h : ∀ (kV doc pm : Value) (an : Option Addr) (cdv ct : Value) (us : List Value), us.length = n →
      ∃ k, bindArgs (PySem.W.fnOf x qual (defArgs st) (defBody st) (defScope st) (.ref t0) kV doc pm an cdv ct) ⟨us, []⟩ = seqItems? (.ref t0) >>= k ∧ k (some its.toArray) = pure (ps.zip (us ++ its.drop j))) : Binds K fd ps (its.drop j) := by
  obtain ⟨oc, od, kV, doc, pm, an, cdv, ct, osl, rfl, lk, hcd⟩ := F.ex
  refine fun s us X hlen => ?_
  have l2 : us.length = n := by rw [List.length_append, List.length_drop] at hlen; omega
  obtain ⟨k, e1, e2⟩ := h kV doc pm an cdv ct us l2
  refine BindsTo.of_looks fun M => ?_
  rw [e1]
  exact looks_items X lt rfl (.of_pure e2)
end
/-- sep.join(xs) within a block -/
def rJoinK (K : PySem.W.Frag) : V → List V → Hp → VK → Prop := fun x xs H Q => ∃ a p, ∃ ys : List Str, x = .str a ∧ xs = [.ref p] ∧ (SqL K H p (ys.map V.str) ∨ SqT K H p (ys.map V.str)) ∧
    (ys.map (·.length)).sum + ys.length * a.length ≤ 16777216 ∧ Q (.str (PySem.Txt.join a ys)) H
theorem kx_pe_join {X : Cx} (K : PySem.W.Frag) {e : Expr} {to tx : TE} (p : PE X e (tM1 (rJoinK X.K) to tx)) (h : X.K = K := by rfl) : PE X e (tM1 (rJoinK K) to tx) := h ▸ p
/-! ### what stays in the heap; folds of comprehensions; readings cut off -/
/-- tuples (and what is locked) stay -/
structure Keeps (H H' : Hp) : Prop where
  tup : ∀ a xs, H a = some (.tup xs) → H' a = some (.tup xs)
  frz : ∀ a o xs, H a = some (.frz o (.tup xs)) → H' a = some (.frz o (.tup xs))
theorem Keeps.refl (H : Hp) : Keeps H H := ⟨fun _ _ h => h, fun _ _ _ h => h⟩
theorem Keeps.trans {H H1 H2 : Hp} (a : Keeps H H1) (b : Keeps H1 H2) : Keeps H H2 := ⟨fun c xs h => b.tup c xs (a.tup c xs h), fun c o u h => b.frz c o u (a.frz c o u h)⟩
theorem _root_.L2.Same.keeps {H H' : Hp} (s : Same H H') : Keeps H H' := ⟨fun a xs h => s a _ h, fun a o u h => s a _ h⟩
theorem Keeps.mut {H H' : Hp} {D : Addr} {o o' : HO} (k : Keeps H H') (h : H' D = some o) (m : Mut (some o)) : Keeps H (upd H' D o') := by
  refine ⟨fun a xs q => ?_, fun a ob u q => ?_⟩
  · have q' := k.tup a xs q
    rw [upd_ne (ne_of q' h (by intro e; subst e; exact m))]; exact q'
  · have q' := k.frz a ob u q
    rw [upd_ne (ne_of q' h (by intro e; subst e; exact m))]; exact q'
theorem But.keeps {H H' : Hp} {D : Addr} {o : HO} (b : But D H H') (h : H D = some o) (m : Mut (some o)) : Keeps H H' :=
  ⟨fun a xs q => b a _ (ne_of q h (by intro e; subst e; exact m)) q, fun a ob u q => b a _ (ne_of q h (by intro e; subst e; exact m)) q⟩
theorem Keeps.sqT {K : PySem.W.Frag} {H H' : Hp} {a : Addr} {xs : List V} (k : Keeps H H') (h : SqT K H a xs) : SqT K H' a xs := by
  rcases h with (h | ⟨o, h⟩) | h
  · exact .inl (.inl (k.tup _ _ h))
  · exact .inl (.inr ⟨o, k.frz _ _ _ h⟩)
  · exact .inr h
theorem lc_fold {J : It} {n : Nat} {G : Hp → Prop} {Yw : Nat → Hp → V → Hp → Prop} (w : Walk J n G Yw) {g : TG} {tt : TT} {te : TE} {vs : List Nat} {σ : L2.St} {H1 : Hp} {D : Addr} {Qd : Hp → Prop} (hD : H1 D = none)
    (R : Nat → Hp → List V → Prop) (r0 : ∀ H, R 0 H []) (mono : ∀ i H H' xs, Keeps H H' → R i H xs → R i H' xs) (len : ∀ i H ys, R i H ys → ys.length ≤ 1000000) (hG : ∀ H, Same H1 H → G H)
    (hs : ∀ i x H H' ys (Nx : V → Hp → Prop) (Ex : Hp → Prop), i < n → Same H1 H → R i H ys → Yw i H x H' →
      (∀ y H2, Same H H2 → R (i + 1) H2 (ys ++ [y]) → Nx y H2) → (∀ H2, Same H H2 → R (i + 1) H2 ys → Ex H2) →
      g x (wipe σ vs) H' fun σ2 H2 => wipe σ2 vs = wipe σ vs ∧ tt σ2 H2 fun b H3 => if b = true then te σ2 H3 Nx else Ex H3)
    (hd : ∀ H ys, Same H1 H → H D = some (.lst ys) → R n H ys → Qd H) :
    ∃ W : Nat → Nat → Hp → Prop, (∃ m, W 0 m (upd H1 D (.lst []))) ∧ ∀ i m H, W i m H →
      (J.stop i H ∧ Qd H) ∨ (J.go i H ∧ ∃ Nx : Hp → Prop, (∀ H', Nx H' → ∃ m', m' < m ∧ W (i + 1) m' H') ∧ ∀ x H', J.yld i H x H' → g x (wipe σ vs) H' fun σ2 H2 => wipe σ2 vs = wipe σ vs ∧ tt σ2 H2 fun b H3 =>
        if b = true then te σ2 H3 fun y H4 => ∃ acc, H4 D = some (.lst acc) ∧ acc.length < sizeLine ∧ Nx (upd H4 D (.lst (acc ++ [y]))) else Nx H3) :=
  lc_foldF w (Same H1) R (Same.new hD _) (fun H ys zs s _ => s.mut hD _) (r0 _) (fun i H ys zs xs r h => mono _ _ _ _ ((Keeps.refl H).mut h trivial) r) len hG
    (fun i x H H' ys Nx Ex hi s hy r y k1 k2 => hs i x H H' ys Nx Ex hi s r y (fun z H2 s2 r2 => k1 z H2 (s.trans s2) (s2 _ _ hy) r2) (fun H2 s2 r2 => k2 H2 (s.trans s2) (s2 _ _ hy) r2)) hd
/-- a dict comprehension over any walk, as lc_it -/
theorem dc_it {J : It} {n : Nat} {G : Hp → Prop} {Y : Nat → Hp → V → Hp → Prop} (w : Walk J n G Y) {g : TG} {tt : TT} {tk tv : TE} {vs : List Nat} {σ : L2.St} {H1 : Hp} {D : Addr} {Qd : Hp → Prop} (Pv : Nat → Hp → Prop) (h0 : Pv 0 (upd H1 D (.dK []))) (hG : ∀ i H, i ≤ n → Pv i H → G H)
    (hs : ∀ i x H H', i < n → Pv i H → Y i H x H' → g x (wipe σ vs) H' fun σ2 H2 => wipe σ2 vs = wipe σ vs ∧ tt σ2 H2 fun b H3 =>
      if b = true then tk σ2 H3 fun y H4 => tv σ2 H4 fun z H5 => ∃ kvs k, y = kV k ∧ H5 D = some (.dK kvs) ∧ kvs.length < sizeLine ∧ Pv (i + 1) (upd H5 D (.dK (putK kvs k z))) else Pv (i + 1) H3) (hd : ∀ H, Pv n H → Qd H) :
    ∃ W : Nat → Nat → Hp → Prop, (∃ m, W 0 m (upd H1 D (.dK []))) ∧ ∀ i m H, W i m H →
      (J.stop i H ∧ Qd H) ∨ (J.go i H ∧ ∃ Nx : Hp → Prop, (∀ H', Nx H' → ∃ m', m' < m ∧ W (i + 1) m' H') ∧ ∀ x H', J.yld i H x H' → g x (wipe σ vs) H' fun σ2 H2 => wipe σ2 vs = wipe σ vs ∧ tt σ2 H2 fun b H3 =>
        if b = true then tk σ2 H3 fun y H4 => tv σ2 H4 fun z H5 => ∃ kvs k, y = kV k ∧ H5 D = some (.dK kvs) ∧ kvs.length < sizeLine ∧ Nx (upd H5 D (.dK (putK kvs k z))) else Nx H3) := by
  refine ⟨fun i m H => m = n - i ∧ i ≤ n ∧ Pv i H, ⟨n, rfl, Nat.zero_le _, h0⟩, fun i m H ⟨em, hi, p⟩ => ?_⟩
  subst em
  have q := hG i H hi p
  rcases Nat.lt_or_ge i n with hlt | hge
  · exact .inr ⟨w.goes i H hlt q, Pv (i + 1), fun H' p' => ⟨n - (i + 1), by omega, rfl, hlt, p'⟩, fun x H' y => hs i x H H' hlt p (w.yields i H x H' hlt q y)⟩
  · have e : i = n := by omega
    subst e
    exact .inl ⟨w.stops H q, hd H p⟩
/-- R i H kvs: what is known of the dict made so far -/
theorem dc_fold {J : It} {n : Nat} {G : Hp → Prop} {Yw : Nat → Hp → V → Hp → Prop} (w : Walk J n G Yw) {g : TG} {tt : TT} {tk tv : TE} {vs : List Nat} {σ : L2.St} {H1 : Hp} {D : Addr} {Qd : Hp → Prop} (hD : H1 D = none)
    (R : Nat → Hp → List (Key × V) → Prop) (r0 : ∀ H, R 0 H []) (mono : ∀ i H H' xs, Keeps H H' → R i H xs → R i H' xs) (len : ∀ i H ys, R i H ys → ys.length ≤ 1000000) (hG : ∀ H, Same H1 H → G H)
    (hs : ∀ i x H H' ys (Nx : V → V → Hp → Prop) (Ex : Hp → Prop), i < n → Same H1 H → R i H ys → Yw i H x H' →
      (∀ k z H2, Same H H2 → R (i + 1) H2 (putK ys k z) → Nx (kV k) z H2) → (∀ H2, Same H H2 → R (i + 1) H2 ys → Ex H2) →
      g x (wipe σ vs) H' fun σ2 H2 => wipe σ2 vs = wipe σ vs ∧ tt σ2 H2 fun b H3 => if b = true then tk σ2 H3 fun y H4 => tv σ2 H4 fun z H5 => Nx y z H5 else Ex H3)
    (hd : ∀ H ys, Same H1 H → H D = some (.dK ys) → R n H ys → Qd H) :
    ∃ W : Nat → Nat → Hp → Prop, (∃ m, W 0 m (upd H1 D (.dK []))) ∧ ∀ i m H, W i m H →
      (J.stop i H ∧ Qd H) ∨ (J.go i H ∧ ∃ Nx : Hp → Prop, (∀ H', Nx H' → ∃ m', m' < m ∧ W (i + 1) m' H') ∧ ∀ x H', J.yld i H x H' → g x (wipe σ vs) H' fun σ2 H2 => wipe σ2 vs = wipe σ vs ∧ tt σ2 H2 fun b H3 =>
        if b = true then tk σ2 H3 fun y H4 => tv σ2 H4 fun z H5 => ∃ kvs k, y = kV k ∧ H5 D = some (.dK kvs) ∧ kvs.length < sizeLine ∧ Nx (upd H5 D (.dK (putK kvs k z))) else Nx H3) := by
  refine dc_it w (fun i H => Same H1 H ∧ ∃ ys, H D = some (.dK ys) ∧ R i H ys) ⟨Same.new hD _, [], upd_same, r0 _⟩ (fun i H _ h => hG H h.1) ?_ ?_
  · rintro i x H H' hi ⟨s, ys, hy, r⟩ y
    refine hs i x H H' ys (fun y z H5 => ∃ kvs k, y = kV k ∧ H5 D = some (.dK kvs) ∧ kvs.length < sizeLine ∧ (Same H1 (upd H5 D (.dK (putK kvs k z))) ∧ ∃ ys, (upd H5 D (.dK (putK kvs k z))) D = some (.dK ys) ∧ R (i + 1) (upd H5 D (.dK (putK kvs k z))) ys)) _ hi s r y (fun k z H2 s2 r2 => ?_) (fun H2 s2 r2 => ⟨s.trans s2, ys, s2 _ _ hy, r2⟩)
    have h2 := s2 _ _ hy
    exact ⟨ys, k, rfl, h2, smallM (len i H ys r), (s.trans s2).mut hD _, _, upd_same, mono _ _ _ _ ((Keeps.refl H2).mut h2 trivial) r2⟩
  · rintro H ⟨s, ys, hy, r⟩
    exact hd H ys s hy r
section
variable {K : PySem.W.Frag}
theorem Src.keeps {H H' : Hp} {p ce : Addr} (s : Src K ce H p) (b : But p H H') : Keeps H H' := by
  obtain ⟨cs, i, l, m, S⟩ := s
  exact b.keeps S.at_ trivial
theorem Src.same {H H' : Hp} {p ce : Addr} (s : Src K ce H p) (e : Same H H') : Src K ce H' p := by
  obtain ⟨cs, i, l, m, S⟩ := s
  exact ⟨cs, i, l, m, ⟨e.at S.at_, (e.but p).seq S.ne S.cel, S.ne, S.hi, S.hl, S.hc, S.m0, S.m1⟩⟩
theorem Src.here {H : Hp} {p ce : Addr} (s : Src K ce H p) : ∃ o, H p = some o := by
  obtain ⟨cs, i, l, m, S⟩ := s
  exact ⟨_, S.at_⟩
theorem Src.ne {H : Hp} {p l ce : Addr} (s : Src K ce H p) (h : H l = none) : l ≠ p := fun e => by
  obtain ⟨o, q⟩ := s.here
  rw [e, q] at h; cases h
theorem Src.upd {H : Hp} {p ce D : Addr} (s : Src K ce H p) (h1 : D ≠ p) (h2 : D ≠ ce) (o : HO) : Src K ce (upd H D o) p := by
  obtain ⟨cs, i, l, m, S⟩ := s
  exact ⟨cs, i, l, m, ⟨by rw [upd_ne h1.symm]; exact S.at_, ((But.refl D H).upd o).seq h2.symm S.cel, S.ne, S.hi, S.hl, S.hc, S.m0, S.m1⟩⟩
end
theorem nx_run {D : Ends} {σ : L2.St} {H : Hp} (h : D.nx σ H) : tNext D σ H := h
theorem set_run {te : TE} {g : TG} {u : TS} {D : Ends} {σ : L2.St} {H : Hp} (Pv : V → Hp → Prop) (h : ∀ Q' : V → Hp → Prop, (∀ v H', Pv v H' → Q' v H') → te σ H Q') (q : ∀ v H', Pv v H' → g v σ H' (u D)) : tSeq (tAsg te g) u D σ H :=
  h _ fun v H' p => q v H' p
theorem if_run {c : TT} {t u v : TS} {D : Ends} {σ : L2.St} {H : Hp} (Pv : Bool → Hp → Prop) (h : ∀ Q' : Bool → Hp → Prop, (∀ b H', Pv b H' → Q' b H') → c σ H Q')
    (q : ∀ b H', Pv b H' → if b = true then t { D with nx := v D } σ H' else u { D with nx := v D } σ H') : tSeq (tIfS c t u) v D σ H := h _ fun b H' p => q b H' p
theorem val_run {t : TE} {σ : L2.St} {H : Hp} {Q : V → Hp → Prop} (Pv : V → Prop) (h : ∀ Q' : V → Hp → Prop, (∀ v, Pv v → Q' v H) → t σ H Q') (q : ∀ v, Pv v → Q v H) : t σ H Q := h Q q
theorem inV_strs (x : Str) : ∀ xs : List Str, inV (.str x) (xs.map V.str) = decide (x ∈ xs)
  | [] => rfl
  | y :: ys => by
    show ((y == x) || inV (.str x) (ys.map V.str)) = _
    rw [inV_strs x ys]
    by_cases h : y = x
    · subst h; simp
    · have : ¬ x = y := fun e => h e.symm
      simp [h, this]
theorem flat_strs : ∀ xs : List Str, (xs.map V.str).all flatV = true
  | [] => rfl
  | _ :: ys => flat_strs ys
theorem inV_trues : ∀ n : Nat, inV (.bl false) (List.replicate n (V.bl true)) = false
  | 0 => rfl
  | n + 1 => inV_trues n
theorem flat_trues : ∀ n : Nat, (List.replicate n (V.bl true)).all flatV = true
  | 0 => rfl
  | n + 1 => flat_trues n
/-- what is never reached -/
theorem ps_dead {X : Cx} {st : Stmt} : PS X st (fun _ _ _ => False) := ⟨fun _ _ _ _ _ _ h => h.elim⟩
/-- o.f = e: what is known of e's value behind it -/
theorem fld_run {K : PySem.W.Frag} {ta tv : TE} {f : Str} {u : TS} {D : Ends} {σ : L2.St} {H : Hp} (Pv : V → Hp → Prop) (h : ∀ Q' : V → Hp → Prop, (∀ v H', Pv v H' → Q' v H') → tv σ H Q')
    (q : ∀ v H', Pv v H' → ta σ H' fun x H2 => ∃ a C dx fs, x = .ref a ∧ H2 a = some (.ins C dx fs) ∧ Cls K C ∧ NoAttr K C f ∧ fs.length < 1000 ∧ u D σ (upd H2 a (.ins C dx (putF f v fs)))) : tSeq (sFld K ta tv f) u D σ H :=
  h _ fun v H' p => q v H' p
/-! ### lattices in the heap -/
def downsV (L : Lt) : List V := (List.range L.n).map fun b => V.int (L.down b : Nat)
def upsV (L : Lt) : List V := (List.range L.n).map fun a => V.int (L.up a : Nat)
def latAttrs : List Str := ["label", "size", "depth", "value_names", "downs", "ups", "bottom_at", "top_at"]
/-- a class of lattices, its methods mm -/
structure LatC (K : PySem.W.Frag) (mm : List (Str × Addr)) (C : Addr) : Prop where
  cl : Cls K C
  na : ∀ f ∈ latAttrs, NoAttr K C f
  me : ∀ q ∈ mm, Meth K C q.1 q.2
structure LatAt (K : PySem.W.Frag) (mm : List (Str × Addr)) (H : Hp) (p : Addr) (L : Lt) (C dx : Addr) (fs : List (Str × V)) (tn td tu : Addr) : Prop where
  at_ : H p = some (.ins C dx fs)
  c : LatC K mm C
  no : ∀ q ∈ mm, fs.lookup q.1 = none
  label : fs.lookup ("label" : Str) = some (.str L.label)
  size : fs.lookup ("size" : Str) = some (.int (L.n : Nat))
  depth : fs.lookup ("depth" : Str) = some (.int (L.depth : Nat))
  names : fs.lookup ("value_names" : Str) = some (.ref tn)
  downs : fs.lookup ("downs" : Str) = some (.ref td)
  ups : fs.lookup ("ups" : Str) = some (.ref tu)
  bot : fs.lookup ("bottom_at" : Str) = some (optV L.bot)
  top : fs.lookup ("top_at" : Str) = some (optV L.top)
  tn : NdT K H tn ∧ SqT K H tn (L.names.map V.str)
  td : NdT K H td ∧ SqT K H td (downsV L)
  tu : NdT K H tu ∧ SqT K H tu (upsV L)
def IsLat (K : PySem.W.Frag) (mm : List (Str × Addr)) (H : Hp) (p : Addr) (L : Lt) : Prop := ∃ C dx fs tn td tu, LatAt K mm H p L C dx fs tn td tu
theorem NdT.keep {K : PySem.W.Frag} {H H' : Hp} {p : Addr} (h : NdT K H p) (k : Keeps H H') : NdT K H' p := by
  rcases h with ⟨o, xs, h, d⟩ | h
  · exact .inl ⟨o, xs, k.frz _ _ _ h, d⟩
  · exact .inr h
theorem LatAt.to {K : PySem.W.Frag} {mm : List (Str × Addr)} {H H' : Hp} {p : Addr} {L : Lt} {C dx : Addr} {fs : List (Str × V)} {tn td tu : Addr} (A : LatAt K mm H p L C dx fs tn td tu) (k : Keeps H H') (e : H' p = some (.ins C dx fs)) : LatAt K mm H' p L C dx fs tn td tu :=
  ⟨e, A.c, A.no, A.label, A.size, A.depth, A.names, A.downs, A.ups, A.bot, A.top, ⟨A.tn.1.keep k, k.sqT A.tn.2⟩, ⟨A.td.1.keep k, k.sqT A.td.2⟩, ⟨A.tu.1.keep k, k.sqT A.tu.2⟩⟩
theorem LatAt.same {K : PySem.W.Frag} {mm : List (Str × Addr)} {H H' : Hp} {p : Addr} {L : Lt} {C dx : Addr} {fs : List (Str × V)} {tn td tu : Addr} (A : LatAt K mm H p L C dx fs tn td tu) (s : Same H H') : LatAt K mm H' p L C dx fs tn td tu := A.to s.keeps (s _ _ A.at_)
theorem IsLat.same {K : PySem.W.Frag} {mm : List (Str × Addr)} {H H' : Hp} {p : Addr} {L : Lt} (h : IsLat K mm H p L) (s : Same H H') : IsLat K mm H' p L := by
  obtain ⟨C, dx, fs, tn, td, tu, A⟩ := h
  exact ⟨C, dx, fs, tn, td, tu, A.same s⟩
/-- all but what stands at q, a list | an instance, is as it was -/
theorem IsLat.but {K : PySem.W.Frag} {mm : List (Str × Addr)} {H H' : Hp} {p q : Addr} {L : Lt} {o : HO} (h : IsLat K mm H p L) (b : But q H H') (hq : H q = some o) (m : Mut (some o)) (ne : p ≠ q) : IsLat K mm H' p L := by
  obtain ⟨C, dx, fs, tn, td, tu, A⟩ := h
  exact ⟨C, dx, fs, tn, td, tu, A.to (b.keeps hq m) (b _ _ ne A.at_)⟩
/-- a draw leaves it -/
theorem IsLat.drawn {K : PySem.W.Frag} {mm : List (Str × Addr)} {H H' : Hp} {p q ce : Addr} {L : Lt} (h : IsLat K mm H p L) (s : Src K ce H q) (b : But q H H') : IsLat K mm H' p L := by
  obtain ⟨cs, i, l, m, S⟩ := s
  refine h.but b S.at_ trivial fun e => ?_
  obtain ⟨C, dx, fs, tn, td, tu, A⟩ := h
  have := A.at_
  rw [e, S.at_] at this
  cases this
theorem flat_ints (l : List Nat) (f : Nat → Nat) : (l.map fun i => V.int (f i : Nat)).all flatV = true := by
  rw [List.all_map]
  exact List.all_eq_true.mpr fun _ _ => rfl
theorem at_map {n i : Nat} {f : Nat → V} (h : i < n) : ((List.range n).map f)[i]? = some (f i) := by
  rw [List.getElem?_map, List.getElem?_range h]; rfl
theorem at_map' {n i : Nat} {f : Nat → V} {x : V} (h : ((List.range n).map f)[i]? = some x) : i < n ∧ x = f i := by
  have hl := (List.getElem?_eq_some_iff.mp h).1
  rw [List.length_map, List.length_range] at hl
  rw [at_map hl] at h
  exact ⟨hl, (Option.some.inj h).symm⟩
theorem eqV_nat (a b : Nat) : eqV (.int (a : Nat)) (.int (b : Nat)) = (a == b) := by
  show ((a : Int) == (b : Int)) = (a == b)
  by_cases h : a = b
  · subst h; simp
  · have : ¬ (a : Int) = (b : Int) := by omega
    rw [beq_eq_false_iff_ne.mpr h, beq_eq_false_iff_ne.mpr this]
theorem inV_map (m n : Nat) (f : Nat → Nat) : inV (.int (m : Nat)) ((List.range n).map fun i => V.int (f i : Nat)) = (first n fun k => f k == m).isSome := by
  cases e : first n fun k => f k == m with
  | none =>
    show List.any _ _ = false
    rw [List.any_map, List.any_eq_false]
    intro i hi
    have := first_none e i (List.mem_range.mp hi)
    simp only [Function.comp, eqV_nat]
    rw [this]; decide
  | some k =>
    obtain ⟨h1, h2, _⟩ := first_some e
    show List.any _ _ = true
    rw [List.any_map, List.any_eq_true]
    exact ⟨k, List.mem_range.mpr h1, by simp only [Function.comp, eqV_nat]; exact h2⟩
theorem dec_bl {p : Prop} [Decidable p] : V.bl (decide p) = V.bl (decide p) := rfl
theorem int_ext {a b : Nat} : decide (V.int (a : Nat) = V.int (b : Nat)) = (a == b) := by
  by_cases h : a = b
  · subst h; simp
  · have : ¬ V.int (a : Nat) = V.int (b : Nat) := fun z => h (by have := V.int.inj z; omega)
    rw [decide_eq_false this, beq_eq_false_iff_ne.mpr h]
theorem dec_int {a b : Int} : decide (V.int a = V.int b) = decide (a = b) := by
  by_cases h : a = b
  · subst h; simp
  · have : ¬ V.int a = V.int b := fun z => h (V.int.inj z)
    rw [decide_eq_false this, decide_eq_false h]
theorem any_first (n : Nat) (p : Nat → Bool) : (List.range n).any p = (first n p).isSome := by
  cases e : first n p with
  | none =>
    rw [List.any_eq_false.mpr fun i hi => by rw [first_none e i (List.mem_range.mp hi)]; decide]
    rfl
  | some k =>
    obtain ⟨h1, h2, _⟩ := first_some e
    rw [List.any_eq_true.mpr ⟨k, List.mem_range.mpr h1, h2⟩]
    rfl
theorem one_shl (i : Nat) : (1 : Int) * 2 ^ ((i : Int)).toNat = ((2 ^ i : Nat) : Int) := by
  rw [Int.one_mul, Int.toNat_natCast, Int.natCast_pow]
  rfl
theorem rg_nat (n : Nat) : rgV 0 (n : Int) = natV (List.range n) := by
  unfold rgV natV
  rw [Int.sub_zero, Int.toNat_natCast]
  refine List.map_congr_left fun i _ => ?_
  rw [Int.zero_add]
theorem natV_append (a b : List Nat) : natV (a ++ b) = natV a ++ natV b := List.map_append
theorem natV_length (a : List Nat) : (natV a).length = a.length := List.length_map _
theorem filter_snoc (p : Nat → Bool) (i : Nat) : (List.range (i + 1)).filter p = (List.range i).filter p ++ if p i then [i] else [] := by
  rw [List.range_succ, List.filter_append]
  cases h : p i <;> simp [List.filter, h]
theorem filter_le (p : Nat → Bool) (i : Nat) : ((List.range i).filter p).length ≤ i := Nat.le_trans (List.length_filter_le _ _) (by rw [List.length_range]; exact Nat.le_refl _)
theorem yfn0 {x : V} {i : Nat} (h : x = (fun i : Nat => V.int (0 + (i : Int))) i) : x = .int (i : Nat) := by
  rw [h]
  show V.int (0 + (i : Int)) = _
  rw [Int.zero_add]
theorem andnot_nat (a b : Nat) : Builtin.bitAnd (a : Int) (Builtin.bitNot (b : Int)) = ((a - (a &&& b) : Nat) : Int) := by
  have hneg : ¬ (0 ≤ Builtin.bitNot (b : Int)) := by show ¬ (0 ≤ -(b : Int) - 1); omega
  have hpos : (0 : Int) ≤ (a : Int) := Int.natCast_nonneg _
  have nn : Builtin.bitNot (Builtin.bitNot (b : Int)) = (b : Int) := by show -(-(b : Int) - 1) - 1 = _; omega
  have le : a &&& b ≤ a := Nat.and_le_left
  have e : Builtin.bitAnd (a : Int) (Builtin.bitNot (b : Int)) = (a : Int) - ((a &&& b : Nat) : Int) := by
    unfold Builtin.bitAnd
    rw [show decide ((0 : Int) ≤ (a : Int)) = true from decide_eq_true hpos, show decide ((0 : Int) ≤ Builtin.bitNot (b : Int)) = false from decide_eq_false hneg]
    show (a : Int) - (((a : Int).toNat &&& (Builtin.bitNot (Builtin.bitNot (b : Int))).toNat : Nat) : Int) = _
    rw [nn]
    rfl
  rw [e]
  omega
/-- a's digits are all in b -/
def part (a b : Nat) : Bool := (a &&& b) == a
theorem part_is (a b : Nat) : decide (V.int (Builtin.bitAnd (a : Int) (Builtin.bitNot (b : Int))) = V.int 0) = part a b := by
  rw [dec_int, andnot_nat]
  unfold part
  have le : a &&& b ≤ a := Nat.and_le_left
  by_cases h : a &&& b = a
  · rw [beq_iff_eq.mpr h, h, Nat.sub_self]; rfl
  · rw [beq_eq_false_iff_ne.mpr h]
    exact decide_eq_false (by omega)
def topS (i : Nat) : Stmt := PySem.Challenge.pw_latticewish_k03_chains_and_sets.main.body.getD i (.Pass ⟨0, 0, 0, 0⟩)
abbrev St_first_place : Stmt := topS 8
abbrev N_first_place : List Str := ["sets", "wanted"]
theorem sc_first_place : FnScope N_first_place ["sets", "wanted"] (defScope St_first_place) := ⟨rfl, rfl, rfl, by decide +kernel, rfl, by decide +kernel, by decide +kernel⟩
abbrev St_parts_among : Stmt := topS 12
abbrev N_parts_among : List Str := ["numbers", "number", "place", "other"]
theorem sc_parts_among : FnScope N_parts_among ["numbers", "number"] (defScope St_parts_among) := ⟨rfl, rfl, rfl, by decide +kernel, rfl, by decide +kernel, by decide +kernel⟩
abbrev St__law_cells : Stmt := topS 14
abbrev N__law_cells : List Str := ["script", "mixed", "cell"]
theorem sc__law_cells : FnScope N__law_cells ["script"] (defScope St__law_cells) := ⟨rfl, rfl, rfl, by decide +kernel, rfl, by decide +kernel, by decide +kernel⟩
abbrev St__law_pick : Stmt := topS 15
abbrev N__law_pick : List Str := ["source", "many", "digit", "number"]
theorem sc__law_pick : FnScope N__law_pick ["source", "many"] (defScope St__law_pick) := ⟨rfl, rfl, rfl, by decide +kernel, rfl, by decide +kernel, by decide +kernel⟩
abbrev St__law_like : Stmt := topS 16
abbrev N__law_like : List Str := ["found", "due", "pair", "k"]
theorem sc__law_like : FnScope N__law_like ["found", "due"] (defScope St__law_like) := ⟨rfl, rfl, rfl, by decide +kernel, rfl, by decide +kernel, by decide +kernel⟩
abbrev St__law_due : Stmt := topS 17
abbrev N__law_due : List Str := ["sets", "a", "b"]
theorem sc__law_due : FnScope N__law_due ["sets", "a", "b"] (defScope St__law_due) := ⟨rfl, rfl, rfl, by decide +kernel, rfl, by decide +kernel, by decide +kernel⟩
abbrev St__law_unknown : Stmt := topS 18
abbrev N__law_unknown : List Str := ["lattice", "word", "names", "caught", "e"]
theorem sc__law_unknown : FnScope N__law_unknown ["lattice", "word", "names"] (defScope St__law_unknown) := ⟨rfl, rfl, rfl, by decide +kernel, rfl, by decide +kernel, by decide +kernel⟩
abbrev St_law : Stmt := topS 19
abbrev N_law : List Str := ["script", "state", "sets", "great", "count", "lattice", "size", "label", "found", "pieces", "k", "a", "b", "name", "j", "words", "word"]
theorem sc_law : FnScope N_law ["script"] (defScope St_law) := ⟨rfl, rfl, rfl, by decide +kernel, rfl, by decide +kernel, by decide +kernel⟩
abbrev St_UnknownValue_init : Stmt := inClass (topS 4) 0
abbrev N_UnknownValue_init : List Str := ["self", "name"]
theorem sc_UnknownValue_init : FnScopeK N_UnknownValue_init ["self", "name"] (defScope St_UnknownValue_init) := ⟨rfl, rfl, rfl, by decide +kernel, rfl, by decide +kernel, by decide +kernel, by decide +kernel⟩
abbrev St_Lattice_init : Stmt := inClass (topS 7) 0
abbrev N_Lattice_init : List Str := ["self", "label", "names", "downs", "depth", "places", "b", "a", "whole"]
theorem sc_Lattice_init : FnScope N_Lattice_init ["self", "label", "names", "downs", "depth"] (defScope St_Lattice_init) := ⟨rfl, rfl, rfl, by decide +kernel, rfl, by decide +kernel, by decide +kernel⟩
abbrev St_Lattice_within_at : Stmt := inClass (topS 7) 1
abbrev N_Lattice_within_at : List Str := ["self", "first", "second"]
theorem sc_Lattice_within_at : FnScope N_Lattice_within_at ["self", "first", "second"] (defScope St_Lattice_within_at) := ⟨rfl, rfl, rfl, by decide +kernel, rfl, by decide +kernel, by decide +kernel⟩
abbrev St_Lattice_join_at : Stmt := inClass (topS 7) 2
abbrev N_Lattice_join_at : List Str := ["self", "first", "second"]
theorem sc_Lattice_join_at : FnScope N_Lattice_join_at ["self", "first", "second"] (defScope St_Lattice_join_at) := ⟨rfl, rfl, rfl, by decide +kernel, rfl, by decide +kernel, by decide +kernel⟩
abbrev St_Lattice_meet_at : Stmt := inClass (topS 7) 3
abbrev N_Lattice_meet_at : List Str := ["self", "first", "second"]
theorem sc_Lattice_meet_at : FnScope N_Lattice_meet_at ["self", "first", "second"] (defScope St_Lattice_meet_at) := ⟨rfl, rfl, rfl, by decide +kernel, rfl, by decide +kernel, by decide +kernel⟩
abbrev St_Lattice_name_at : Stmt := inClass (topS 7) 4
abbrev N_Lattice_name_at : List Str := ["self", "place"]
theorem sc_Lattice_name_at : FnScope N_Lattice_name_at ["self", "place"] (defScope St_Lattice_name_at) := ⟨rfl, rfl, rfl, by decide +kernel, rfl, by decide +kernel, by decide +kernel⟩
abbrev St_Lattice_at_name : Stmt := inClass (topS 7) 5
abbrev N_Lattice_at_name : List Str := ["self", "name"]
theorem sc_Lattice_at_name : FnScope N_Lattice_at_name ["self", "name"] (defScope St_Lattice_at_name) := ⟨rfl, rfl, rfl, by decide +kernel, rfl, by decide +kernel, by decide +kernel⟩
abbrev St_Lattice_irreducibles : Stmt := inClass (topS 7) 6
abbrev N_Lattice_irreducibles : List Str := ["self", "place"]
theorem sc_Lattice_irreducibles : FnScope N_Lattice_irreducibles ["self"] (defScope St_Lattice_irreducibles) := ⟨rfl, rfl, rfl, by decide +kernel, rfl, by decide +kernel, by decide +kernel⟩
abbrev St_ChainLattice_init : Stmt := inClass (topS 10) 0
abbrev N_ChainLattice_init : List Str := ["self", "count", "names", "number"]
theorem sc_ChainLattice_init : FnScopeK N_ChainLattice_init ["self", "count"] (defScope St_ChainLattice_init) := ⟨rfl, rfl, rfl, by decide +kernel, rfl, by decide +kernel, by decide +kernel, by decide +kernel⟩
abbrev St_SetLattice_init : Stmt := inClass (topS 11) 0
abbrev N_SetLattice_init : List Str := ["self", "count", "numbers", "names", "shift", "number"]
theorem sc_SetLattice_init : FnScopeK N_SetLattice_init ["self", "count"] (defScope St_SetLattice_init) := ⟨rfl, rfl, rfl, by decide +kernel, rfl, by decide +kernel, by decide +kernel, by decide +kernel⟩
abbrev PL : Program := PySem.Challenge.pw_latticewish_k03_chains_and_sets
structure Tx (K : PySem.W.Frag) (mg : Str → Option Value) (W_ : World) where
  n_abs : mg "abs" = none
  n_bool : mg "bool" = none
  n_dict : mg "dict" = none
  n_enumerate : mg "enumerate" = none
  n_int : mg "int" = none
  n_isinstance : mg "isinstance" = none
  n_len : mg "len" = none
  n_list : mg "list" = none
  n_max : mg "max" = none
  n_min : mg "min" = none
  n_range : mg "range" = none
  n_str : mg "str" = none
  n_sum : mg "sum" = none
  n_super : mg "super" = none
  n_tuple : mg "tuple" = none
  a_first_place : Addr
  d_first_place : FuncData
  F_first_place : Fun K "first_place" "first_place" St_first_place a_first_place d_first_place
  b_first_place : Binds K d_first_place ["sets", "wanted"] []
  g_first_place : mg "first_place" = some (.ref a_first_place)
  a_parts_among : Addr
  d_parts_among : FuncData
  F_parts_among : Fun K "parts_among" "parts_among" St_parts_among a_parts_among d_parts_among
  b_parts_among : Binds K d_parts_among ["numbers", "number"] []
  g_parts_among : mg "parts_among" = some (.ref a_parts_among)
  a__law_cells : Addr
  d__law_cells : FuncData
  F__law_cells : Fun K "_law_cells" "_law_cells" St__law_cells a__law_cells d__law_cells
  b__law_cells : Binds K d__law_cells ["script"] []
  g__law_cells : mg "_law_cells" = some (.ref a__law_cells)
  a__law_pick : Addr
  d__law_pick : FuncData
  F__law_pick : Fun K "_law_pick" "_law_pick" St__law_pick a__law_pick d__law_pick
  b__law_pick : Binds K d__law_pick ["source", "many"] []
  g__law_pick : mg "_law_pick" = some (.ref a__law_pick)
  a__law_like : Addr
  d__law_like : FuncData
  F__law_like : Fun K "_law_like" "_law_like" St__law_like a__law_like d__law_like
  b__law_like : Binds K d__law_like ["found", "due"] []
  g__law_like : mg "_law_like" = some (.ref a__law_like)
  a__law_due : Addr
  d__law_due : FuncData
  F__law_due : Fun K "_law_due" "_law_due" St__law_due a__law_due d__law_due
  b__law_due : Binds K d__law_due ["sets", "a", "b"] []
  g__law_due : mg "_law_due" = some (.ref a__law_due)
  a__law_unknown : Addr
  d__law_unknown : FuncData
  F__law_unknown : Fun K "_law_unknown" "_law_unknown" St__law_unknown a__law_unknown d__law_unknown
  b__law_unknown : Binds K d__law_unknown ["lattice", "word", "names"] []
  g__law_unknown : mg "_law_unknown" = some (.ref a__law_unknown)
  a_law : Addr
  d_law : FuncData
  F_law : Fun K "law" "law" St_law a_law d_law
  b_law : Binds K d_law ["script"] []
  g_law : mg "law" = some (.ref a_law)
  g_MOST_VALUES : ∃ u, mg "MOST_VALUES" = some (.int 64 u)
  a_Lattice : Addr
  g_Lattice : mg "Lattice" = some (.ref a_Lattice)
  c_Lattice : Cls K a_Lattice
  n_Lattice_label : NoAttr K a_Lattice "label"
  n_Lattice_size : NoAttr K a_Lattice "size"
  n_Lattice_depth : NoAttr K a_Lattice "depth"
  n_Lattice_value_names : NoAttr K a_Lattice "value_names"
  n_Lattice_downs : NoAttr K a_Lattice "downs"
  n_Lattice_ups : NoAttr K a_Lattice "ups"
  n_Lattice_bottom_at : NoAttr K a_Lattice "bottom_at"
  n_Lattice_top_at : NoAttr K a_Lattice "top_at"
  a_Lattice_init : Addr
  d_Lattice_init : FuncData
  t_Lattice_init : Addr
  F_Lattice_init : FunD K "__init__" "Lattice.__init__" St_Lattice_init a_Lattice_init d_Lattice_init t_Lattice_init
  dd_Lattice_init : ∃ n u0, K.lookup t_Lattice_init = some (⟨.type "tuple", none, .seq #[.int 1 u0] n, #[]⟩ : Obj)
  b4_Lattice_init : ∃ u0, Binds K d_Lattice_init ["self", "label", "names", "downs", "depth"] [.int 1 u0]
  b5_Lattice_init : Binds K d_Lattice_init ["self", "label", "names", "downs", "depth"] []
  M_Lattice : Mk K a_Lattice a_Lattice_init
  a_Lattice_within_at : Addr
  d_Lattice_within_at : FuncData
  F_Lattice_within_at : Fun K "within_at" "Lattice.within_at" St_Lattice_within_at a_Lattice_within_at d_Lattice_within_at
  b_Lattice_within_at : Binds K d_Lattice_within_at ["self", "first", "second"] []
  m_Lattice_within_at : Meth K a_Lattice "within_at" a_Lattice_within_at
  a_Lattice_join_at : Addr
  d_Lattice_join_at : FuncData
  F_Lattice_join_at : Fun K "join_at" "Lattice.join_at" St_Lattice_join_at a_Lattice_join_at d_Lattice_join_at
  b_Lattice_join_at : Binds K d_Lattice_join_at ["self", "first", "second"] []
  m_Lattice_join_at : Meth K a_Lattice "join_at" a_Lattice_join_at
  a_Lattice_meet_at : Addr
  d_Lattice_meet_at : FuncData
  F_Lattice_meet_at : Fun K "meet_at" "Lattice.meet_at" St_Lattice_meet_at a_Lattice_meet_at d_Lattice_meet_at
  b_Lattice_meet_at : Binds K d_Lattice_meet_at ["self", "first", "second"] []
  m_Lattice_meet_at : Meth K a_Lattice "meet_at" a_Lattice_meet_at
  a_Lattice_name_at : Addr
  d_Lattice_name_at : FuncData
  F_Lattice_name_at : Fun K "name_at" "Lattice.name_at" St_Lattice_name_at a_Lattice_name_at d_Lattice_name_at
  b_Lattice_name_at : Binds K d_Lattice_name_at ["self", "place"] []
  m_Lattice_name_at : Meth K a_Lattice "name_at" a_Lattice_name_at
  a_Lattice_at_name : Addr
  d_Lattice_at_name : FuncData
  F_Lattice_at_name : Fun K "at_name" "Lattice.at_name" St_Lattice_at_name a_Lattice_at_name d_Lattice_at_name
  b_Lattice_at_name : Binds K d_Lattice_at_name ["self", "name"] []
  m_Lattice_at_name : Meth K a_Lattice "at_name" a_Lattice_at_name
  a_Lattice_irreducibles : Addr
  d_Lattice_irreducibles : FuncData
  F_Lattice_irreducibles : Fun K "irreducibles" "Lattice.irreducibles" St_Lattice_irreducibles a_Lattice_irreducibles d_Lattice_irreducibles
  b_Lattice_irreducibles : Binds K d_Lattice_irreducibles ["self"] []
  m_Lattice_irreducibles : Meth K a_Lattice "irreducibles" a_Lattice_irreducibles
  a_ChainLattice : Addr
  g_ChainLattice : mg "ChainLattice" = some (.ref a_ChainLattice)
  c_ChainLattice : Cls K a_ChainLattice
  n_ChainLattice_label : NoAttr K a_ChainLattice "label"
  n_ChainLattice_size : NoAttr K a_ChainLattice "size"
  n_ChainLattice_depth : NoAttr K a_ChainLattice "depth"
  n_ChainLattice_value_names : NoAttr K a_ChainLattice "value_names"
  n_ChainLattice_downs : NoAttr K a_ChainLattice "downs"
  n_ChainLattice_ups : NoAttr K a_ChainLattice "ups"
  n_ChainLattice_bottom_at : NoAttr K a_ChainLattice "bottom_at"
  n_ChainLattice_top_at : NoAttr K a_ChainLattice "top_at"
  a_ChainLattice_init : Addr
  d_ChainLattice_init : FuncData
  F_ChainLattice_init : FunK K PL "__init__" "ChainLattice.__init__" St_ChainLattice_init a_ChainLattice_init d_ChainLattice_init a_ChainLattice
  b_ChainLattice_init : Binds K d_ChainLattice_init ["self", "count"] []
  M_ChainLattice : Mk K a_ChainLattice a_ChainLattice_init
  a_SetLattice : Addr
  g_SetLattice : mg "SetLattice" = some (.ref a_SetLattice)
  c_SetLattice : Cls K a_SetLattice
  n_SetLattice_label : NoAttr K a_SetLattice "label"
  n_SetLattice_size : NoAttr K a_SetLattice "size"
  n_SetLattice_depth : NoAttr K a_SetLattice "depth"
  n_SetLattice_value_names : NoAttr K a_SetLattice "value_names"
  n_SetLattice_downs : NoAttr K a_SetLattice "downs"
  n_SetLattice_ups : NoAttr K a_SetLattice "ups"
  n_SetLattice_bottom_at : NoAttr K a_SetLattice "bottom_at"
  n_SetLattice_top_at : NoAttr K a_SetLattice "top_at"
  a_SetLattice_init : Addr
  d_SetLattice_init : FuncData
  F_SetLattice_init : FunK K PL "__init__" "SetLattice.__init__" St_SetLattice_init a_SetLattice_init d_SetLattice_init a_SetLattice
  b_SetLattice_init : Binds K d_SetLattice_init ["self", "count"] []
  M_SetLattice : Mk K a_SetLattice a_SetLattice_init
  a_NameMissing : Addr
  g_NameMissing : mg "NameMissing" = some (.ref a_NameMissing)
  a_UnknownValue : Addr
  g_UnknownValue : mg "UnknownValue" = some (.ref a_UnknownValue)
  x_NameMissing : OexG "LookupError.__new__" [.type "LookupError", .type "Exception", .type "BaseException", .type "object"] K a_NameMissing
  f_NameMissing : XfC K a_NameMissing
  x_UnknownValue : OexG "LookupError.__new__" [.type "LookupError", .type "Exception", .type "BaseException", .type "object"] K a_UnknownValue
  f_UnknownValue : XfC K a_UnknownValue
  te_UnknownValue_UnknownValue : PySem.W.exmOne K (.ref a_UnknownValue) (.ref a_UnknownValue) = some true
  a_UnknownValue_init : Addr
  d_UnknownValue_init : FuncData
  F_UnknownValue_init : FunK K PL "__init__" "UnknownValue.__init__" St_UnknownValue_init a_UnknownValue_init d_UnknownValue_init a_UnknownValue
  b_UnknownValue_init : Binds K d_UnknownValue_init ["self", "name"] []
  i_UnknownValue : PySem.W.findIn K (.ref a_UnknownValue) "__init__" = some (some (.ref a_UnknownValue_init))
  t_UnknownValue : PySem.W.typeIn K (.ref a_UnknownValue_init) = some (.type "function")
  mr_UnknownValue : PySem.W.mroIn K a_UnknownValue (.ref a_UnknownValue) = some true
  su_UnknownValue : PySem.W.ks_superIn K a_UnknownValue a_UnknownValue "__init__" = some (some (.builtin "LookupError.__init__"))
  ci_UnknownValue : ∃ cd, PySem.W.clsIn K a_UnknownValue = some cd
  na_UnknownValue : PySem.W.findIn K (.ref a_UnknownValue) "name" = some none
  mr_ChainLattice : PySem.W.mroIn K a_ChainLattice (.ref a_ChainLattice) = some true
  su_ChainLattice : PySem.W.ks_superIn K a_ChainLattice a_ChainLattice "__init__" = some (some (.ref a_Lattice_init))
  ci_ChainLattice : ∃ cd, PySem.W.clsIn K a_ChainLattice = some cd
  m_ChainLattice_within_at : Meth K a_ChainLattice "within_at" a_Lattice_within_at
  m_ChainLattice_join_at : Meth K a_ChainLattice "join_at" a_Lattice_join_at
  m_ChainLattice_meet_at : Meth K a_ChainLattice "meet_at" a_Lattice_meet_at
  m_ChainLattice_name_at : Meth K a_ChainLattice "name_at" a_Lattice_name_at
  m_ChainLattice_at_name : Meth K a_ChainLattice "at_name" a_Lattice_at_name
  m_ChainLattice_irreducibles : Meth K a_ChainLattice "irreducibles" a_Lattice_irreducibles
  mr_SetLattice : PySem.W.mroIn K a_SetLattice (.ref a_SetLattice) = some true
  su_SetLattice : PySem.W.ks_superIn K a_SetLattice a_SetLattice "__init__" = some (some (.ref a_Lattice_init))
  ci_SetLattice : ∃ cd, PySem.W.clsIn K a_SetLattice = some cd
  m_SetLattice_within_at : Meth K a_SetLattice "within_at" a_Lattice_within_at
  m_SetLattice_join_at : Meth K a_SetLattice "join_at" a_Lattice_join_at
  m_SetLattice_meet_at : Meth K a_SetLattice "meet_at" a_Lattice_meet_at
  m_SetLattice_name_at : Meth K a_SetLattice "name_at" a_Lattice_name_at
  m_SetLattice_at_name : Meth K a_SetLattice "at_name" a_Lattice_at_name
  m_SetLattice_irreducibles : Meth K a_SetLattice "irreducibles" a_Lattice_irreducibles
  ty_Lattice : PySem.W.typeIn K (.ref a_Lattice_init) = some (.type "function")
  fi_Lattice : PySem.W.fnIn K a_Lattice_init = true
  st_any : PySem.W.nsIn K PySem.cStatics "thirdparty.any" = some none
def Tx.mm {K : PySem.W.Frag} {mg : Str → Option Value} {W_ : World} (T : Tx K mg W_) : List (Str × Addr) := [("within_at", T.a_Lattice_within_at), ("join_at", T.a_Lattice_join_at), ("meet_at", T.a_Lattice_meet_at), ("name_at", T.a_Lattice_name_at), ("at_name", T.a_Lattice_at_name), ("irreducibles", T.a_Lattice_irreducibles)]
theorem Tx.in_within_at {K : PySem.W.Frag} {mg : Str → Option Value} {W_ : World} (T : Tx K mg W_) : ((("within_at" : Str), T.a_Lattice_within_at) : Str × Addr) ∈ T.mm := by simp [Tx.mm]
theorem Tx.in_join_at {K : PySem.W.Frag} {mg : Str → Option Value} {W_ : World} (T : Tx K mg W_) : ((("join_at" : Str), T.a_Lattice_join_at) : Str × Addr) ∈ T.mm := by simp [Tx.mm]
theorem Tx.in_meet_at {K : PySem.W.Frag} {mg : Str → Option Value} {W_ : World} (T : Tx K mg W_) : ((("meet_at" : Str), T.a_Lattice_meet_at) : Str × Addr) ∈ T.mm := by simp [Tx.mm]
theorem Tx.in_name_at {K : PySem.W.Frag} {mg : Str → Option Value} {W_ : World} (T : Tx K mg W_) : ((("name_at" : Str), T.a_Lattice_name_at) : Str × Addr) ∈ T.mm := by simp [Tx.mm]
theorem Tx.in_at_name {K : PySem.W.Frag} {mg : Str → Option Value} {W_ : World} (T : Tx K mg W_) : ((("at_name" : Str), T.a_Lattice_at_name) : Str × Addr) ∈ T.mm := by simp [Tx.mm]
theorem Tx.in_irreducibles {K : PySem.W.Frag} {mg : Str → Option Value} {W_ : World} (T : Tx K mg W_) : ((("irreducibles" : Str), T.a_Lattice_irreducibles) : Str × Addr) ∈ T.mm := by simp [Tx.mm]
theorem Tx.mm_out {K : PySem.W.Frag} {mg : Str → Option Value} {W_ : World} (T : Tx K mg W_) : ∀ q ∈ T.mm, q.1 ∉ latAttrs := by
  intro q hq
  simp only [Tx.mm, List.mem_cons, List.not_mem_nil, or_false] at hq
  rcases hq with rfl | rfl | rfl | rfl | rfl | rfl <;> (dsimp only; decide)
theorem Tx.lc_ChainLattice {K : PySem.W.Frag} {mg : Str → Option Value} {W_ : World} (T : Tx K mg W_) : LatC K T.mm T.a_ChainLattice := ⟨T.c_ChainLattice, fun f hf => by
  simp only [latAttrs, List.mem_cons, List.not_mem_nil, or_false] at hf
  rcases hf with rfl | rfl | rfl | rfl | rfl | rfl | rfl | rfl <;> first | exact T.n_ChainLattice_label | exact T.n_ChainLattice_size | exact T.n_ChainLattice_depth | exact T.n_ChainLattice_value_names | exact T.n_ChainLattice_downs | exact T.n_ChainLattice_ups | exact T.n_ChainLattice_bottom_at | exact T.n_ChainLattice_top_at, fun q hq => by
  simp only [Tx.mm, List.mem_cons, List.not_mem_nil, or_false] at hq
  rcases hq with rfl | rfl | rfl | rfl | rfl | rfl <;> first | exact T.m_ChainLattice_within_at | exact T.m_ChainLattice_join_at | exact T.m_ChainLattice_meet_at | exact T.m_ChainLattice_name_at | exact T.m_ChainLattice_at_name | exact T.m_ChainLattice_irreducibles⟩
theorem Tx.lc_SetLattice {K : PySem.W.Frag} {mg : Str → Option Value} {W_ : World} (T : Tx K mg W_) : LatC K T.mm T.a_SetLattice := ⟨T.c_SetLattice, fun f hf => by
  simp only [latAttrs, List.mem_cons, List.not_mem_nil, or_false] at hf
  rcases hf with rfl | rfl | rfl | rfl | rfl | rfl | rfl | rfl <;> first | exact T.n_SetLattice_label | exact T.n_SetLattice_size | exact T.n_SetLattice_depth | exact T.n_SetLattice_value_names | exact T.n_SetLattice_downs | exact T.n_SetLattice_ups | exact T.n_SetLattice_bottom_at | exact T.n_SetLattice_top_at, fun q hq => by
  simp only [Tx.mm, List.mem_cons, List.not_mem_nil, or_false] at hq
  rcases hq with rfl | rfl | rfl | rfl | rfl | rfl <;> first | exact T.m_SetLattice_within_at | exact T.m_SetLattice_join_at | exact T.m_SetLattice_meet_at | exact T.m_SetLattice_name_at | exact T.m_SetLattice_at_name | exact T.m_SetLattice_irreducibles⟩
section
variable {P : Program} {w W_ : World} {K : PySem.W.Frag} {mg : Str → Option Value} {base : Heap}
/-! the law's draws -/
def sp_cells (K : PySem.W.Frag) : Sp := fun vs H Q _ => ∃ (a : Addr) (ns : List Int), vs = [.ref a] ∧ SqL K H a (ns.map V.int) ∧ ns.length ≤ 63 ∧
  ∀ (p c : Addr) (m : Int) (cs : List Int) (H' : Hp), Same H H' → c ≠ p → H' c = some (.lst (cs.map V.int)) → (∀ z ∈ cs, 0 ≤ z) → H' p = some (.lst [.ref c, .int 0, .int 1, .int m]) → 0 ≤ m → m < 2147483563 → Q (.ref p) H'
theorem ok__law_cells (T : Tx K mg W_) : FnOk P w K mg base CX0 1 T.a__law_cells T.d__law_cells ["script"] (sp_cells K) := by
  refine T.F__law_cells.ok sc__law_cells (fun vs H Q E h => ?_) (fun cdv A outer s H vs Q E hr h => ?_)
  · obtain ⟨a, ns, rfl, _⟩ := h
    rfl
  obtain ⟨a, ns, rfl, hS, h63, q⟩ := h
  refine ⟨_, pss_cons (ps_set (i := 1) sc__law_cells.nd rfl (Or.inl rfl) pe_int)
    (pss_cons (ps_for PassesOwn.never rfl (pi_list (pv 0)) (pg_name (i := 2) sc__law_cells.nd rfl (Or.inl rfl))
      (pss_one (ps_set (i := 1) sc__law_cells.nd rfl (Or.inl rfl) (pe_op op_mod (pe_callTy call_int1 (by rfl) T.n_int (by decide +kernel) (pa_cons (pe_op op_add (pe_op op_add (pe_op op_mul (pv 1) pe_int) (pe_op op_mul (pv 2) pe_int)) pe_int) pa_nil)) pe_int))))
    (pss_one (ps_ret (pe_lst (pa_cons (pe_lc (own := [("cell", 2)]) (g := gName 2) (tt := tYes) rfl sc__law_cells.nd (pi_list (pv 0)) (blkOk_by (N := ["script", "mixed", "cell"]) (sc := defScope St__law_cells) (by decide +kernel)) (fun _ _ _ _ _ => pg_name (i := 2) sc__law_cells.nd rfl (Or.inl rfl)) (fun _ _ _ _ _ => pts_nil)
        (fun _ _ _ _ _ => pe_callB call_abs (by rfl) T.n_abs (by decide +kernel) (pa_cons (pv 2) pa_nil)))
      (pa_cons pe_int (pa_cons pe_int (pa_cons (pv 1) pa_nil)))))))), ?_⟩
  refine ⟨_, rfl, a, rfl, ⟨_, hS⟩, for_list (K := K) (a := a) (xs := ns.map V.int) (fun i σ H2 => ∃ (m : Int) (v : Option V), σ = [some (.ref a), some (.int m), v] ∧ H2 = H ∧ 0 ≤ m ∧ m < 2147483563)
    ⟨3, none, rfl, rfl, by decide, by decide⟩ (fun i σ H2 _ ⟨_, _, _, e, _⟩ => by rw [e]; exact hS) ?_ ?_⟩
  · rintro i x σ H2 hi ⟨m, v, rfl, rfl, m0, m1⟩
    obtain ⟨z, _, rfl⟩ := map_at hi
    refine ⟨_, rfl, _, _, rfl, rfl, .inr (by decide), _, rfl, _, _, rfl, rfl, .inr (by decide), _, _, rfl, rfl, _, _, rfl, rfl, .inl ⟨_, rfl, _, _, rfl, rfl, (by show (0 : Int) < 2147483563; decide), ?_⟩⟩
    exact ⟨_, _, rfl, rfl, Int.emod_nonneg _ (by decide), Int.emod_lt_of_pos _ (by decide)⟩
  · rintro σ H2 ⟨m, v, rfl, rfl, m0, m1⟩
    refine ⟨_, rfl, a, rfl, ⟨_, hS⟩, fun D hD => lc_list (K := K) (a := a) (xs := ns.map V.int) (fun i H3 => Same H2 H3 ∧ H3 D = some (.lst (((ns.take i).map fun i : Int => if i < 0 then -i else i).map V.int)))
      ⟨Same.new hD _, upd_same⟩ (fun i H3 _ h => h.1.seq hS) ?_ ?_⟩
    · rintro i x H3 hi ⟨s3, h3⟩
      obtain ⟨z, hz, rfl⟩ := map_at hi
      have hl : i < ns.length := (List.getElem?_eq_some_iff.mp hz).1
      refine ⟨rfl, ?_⟩
      refine lcY ?_
      refine ⟨_, rfl, _, rfl, _, h3, ?_, s3.mut hD _, ?_⟩
      · rw [List.length_map, List.length_map, List.length_take]; exact small1000 (by omega)
      · rw [upd_same, take_snoc hz, List.map_append, List.map_append]; rfl
    · rintro H3 ⟨s3, h3⟩
      refine ⟨_, rfl, (by show 4 ≤ sizeLine; decide), newO fun p H4 hp s4 h4 => ?_⟩
      rw [List.length_map, List.take_length] at h3
      exact q p D m _ H4 (s3.trans s4) (ne_of_none h3 hp) (s4.at h3) (abs_map ns) h4 m0 m1
def sp_pick (K : PySem.W.Frag) : Sp := fun vs H Q _ => ∃ (p ce : Addr) (n : Int), vs = [.ref p, .int n] ∧ Src K ce H p ∧ n ≤ 10000000 ∧
  ∀ (d : Int) (H' : Hp), But p H H' → Src K ce H' p → 0 ≤ d → (d < n ∨ d = 0) → Q (.int d) H'
theorem ok__law_pick (T : Tx K mg W_) : FnOk P w K mg base CX0 1 T.a__law_pick T.d__law_pick ["source", "many"] (sp_pick K) := by
  refine T.F__law_pick.ok sc__law_pick (fun vs H Q E h => ?_) (fun cdv A outer s H vs Q E hr h => ?_)
  · obtain ⟨a, ce, n, rfl, _⟩ := h
    rfl
  obtain ⟨p, c, n, rfl, ⟨cs, i, l, m, S⟩, hn, q⟩ := h
  refine ⟨_, pss_cons (ps_if (pt_cmpR op_lt (pv 1) pe_int (nomark _)) (pss_one (ps_ret pe_int)) pss_nil)
    (pss_cons (ps_while PassesOwn.never (PW.pt (pw_and (pt_cmpR op_lt (pe_ix ix_list (pv 0) pe_int (fun _ _ => rfl)) pe_int (nomark _)) (pw_and1 (pt_cmpR op_lt (pe_ix ix_list (pv 0) pe_int (fun _ _ => rfl)) (pe_callB call_len_seq (by rfl) T.n_len PySem.boot_len (pa_cons (pe_ix ix_list (pv 0) pe_int (fun _ _ => rfl)) pa_nil)) (nomark _)))))
      (pss_cons (ps_asg (pe_ix ix_list (pe_ix ix_list (pv 0) pe_int (fun _ _ => rfl)) (pe_ix ix_list (pv 0) pe_int (fun _ _ => rfl)) (fun _ _ => rfl)) (pg_sub (pv 0) pe_int set_list))
      (pss_one (ps_asg (pe_op op_add (pe_ix ix_list (pv 0) pe_int (fun _ _ => rfl)) pe_int) (pg_sub (pv 0) pe_int set_list)))))
    (pss_cons (ps_if (pt_cmpR op_gt (pe_ix ix_list (pv 0) pe_int (fun _ _ => rfl)) pe_int (nomark _))
      (pss_cons (ps_set (i := 2) sc__law_pick.nd rfl (Or.inl rfl) (pe_op op_mod (pe_callTy call_int1 (by rfl) T.n_int (by decide +kernel) (pa_cons (pe_ix ix_list (pv 0) pe_int (fun _ _ => rfl)) pa_nil)) (pv 1)))
      (pss_cons (ps_asg (pe_op op_fdiv (pe_ix ix_list (pv 0) pe_int (fun _ _ => rfl)) (pv 1)) (pg_sub (pv 0) pe_int set_list))
      (pss_one (ps_ret (pv 2))))) pss_nil)
    (pss_cons (ps_asg (pe_op op_mod (pe_callTy call_int1 (by rfl) T.n_int (by decide +kernel) (pa_cons (pe_op op_add (pe_op op_mul (pe_ix ix_list (pv 0) pe_int (fun _ _ => rfl)) pe_int) pe_int) pa_nil)) pe_int) (pg_sub (pv 0) pe_int set_list))
    (pss_cons (ps_set (i := 3) sc__law_pick.nd rfl (Or.inl rfl) (pe_op op_fdiv (pe_ix ix_list (pv 0) pe_int (fun _ _ => rfl)) pe_int))
    (pss_cons (ps_if (pt_cmpR op_gt (pv 1) (pe_op op_pow pe_int pe_int) (nomark _)) (pss_one (ps_set (i := 3) sc__law_pick.nd rfl (Or.inl rfl) (pe_op op_pow (pv 3) pe_int))) pss_nil)
    (pss_one (ps_ret (pe_op op_mod (pe_callTy call_int1 (by rfl) T.n_int (by decide +kernel) (pa_cons (pv 3) pa_nil)) (pv 1))))))))), ?_⟩
  refine ⟨_, rfl, _, _, rfl, rfl, _, rfl, ?_⟩
  refine ite2 (fun c1 => ?_) (fun c1 => ?_)
  · exact q 0 H (But.refl p H) ⟨cs, i, l, m, S⟩ (by decide) (.inr rfl)
  have hn2 : 2 ≤ n := by have := of_decide_eq_false (Bool.eq_false_iff.mpr c1); omega
  refine ⟨fun k σ H2 => ∃ (i : Nat) (l : Int), k = cs.length - i ∧ σ = [some (.ref p), some (.int n), none, none] ∧ But p H H2 ∧ SrcIs K H2 p c cs i l m, ⟨_, i, l, rfl, rfl, But.refl p H, S⟩, ?_⟩
  rintro k σ H2 ⟨i, l, rfl, rfl, b, S⟩
  have sq := SqL.of (K := K) S.at_
  refine ans_run (b := decide (l < 2) && decide ((i : Int) < cs.length)) (fun Q' q' => ?_) ?_
  · refine ⟨_, rfl, _, _, _, _, rfl, rfl, sq, atI_nat (j := 2) rfl, _, _, rfl, rfl, _, rfl, ?_⟩
    refine ite2 (fun c2 => ?_) (fun c2 => ?_)
    · refine ⟨_, rfl, _, _, _, _, rfl, rfl, sq, atI_nat (j := 1) rfl, _, rfl, _, _, _, _, rfl, rfl, sq, atI_nat (j := 0) rfl, c, _, rfl, .inl S.cel, _, _, rfl, rfl, _, rfl, ?_⟩
      have e : (decide (l < 2) && decide ((i : Int) < cs.length)) = decide ((i : Int) < (cs.map V.int).length) := by rw [c2, Bool.true_and, List.length_map]
      rw [e] at q'
      exact q'
    · rw [Bool.eq_false_iff.mpr c2, Bool.false_and] at q'
      exact q'
  refine ite2 (fun c2 => ?_) (fun c2 => ?_)
  · obtain ⟨e1, e2⟩ := Bool.and_eq_true_iff.mp c2
    have e1 := of_decide_eq_true e1
    have e2 := of_decide_eq_true e2
    have hic : i < cs.length := by omega
    refine ⟨fun σ' H' => ∃ m' < cs.length - i, _, fun _ _ h => h, ?_⟩
    refine ⟨_, rfl, _, _, _, _, rfl, rfl, sq, atI_nat (j := 0) rfl, _, rfl, _, _, _, _, rfl, rfl, sq, atI_nat (j := 1) rfl, c, _, (i : Int), .int cs[i], rfl, rfl, S.cel, atI_nat (by rw [List.getElem?_map, List.getElem?_eq_getElem hic]; rfl), ?_⟩
    refine ⟨_, rfl, p, _, _, 2, rfl, rfl, S.at_, rfl, ?_⟩
    have S1 := S.put (i' := i) (l' := cs[i]) (m' := m) S.hi (S.hc _ (List.getElem_mem hic)) S.m0 S.m1
    refine ⟨_, rfl, _, _, _, _, rfl, rfl, SqL.of (K := K) S1.at_, atI_nat (j := 1) rfl, _, _, rfl, rfl, ?_⟩
    refine ⟨_, rfl, p, _, _, 1, rfl, rfl, S1.at_, rfl, ?_⟩
    exact ⟨_, by omega, i + 1, cs[i], rfl, rfl, (b.upd _).upd _, S1.put (i' := i + 1) (l' := cs[i]) (m' := m) hic S1.hl S1.m0 S1.m1⟩
  refine ⟨_, rfl, _, _, _, _, rfl, rfl, sq, atI_nat (j := 2) rfl, _, _, rfl, rfl, _, rfl, ?_⟩
  refine ite2 (fun c3 => ?_) (fun c3 => ?_)
  · have c3 := of_decide_eq_true c3
    refine ⟨_, rfl, _, _, _, _, rfl, rfl, sq, atI_nat (j := 2) rfl, .inl ⟨_, rfl, _, rfl, _, _, rfl, rfl, (by show 0 < n; omega), ?_⟩⟩
    refine ⟨_, rfl, _, _, _, _, rfl, rfl, sq, atI_nat (j := 2) rfl, _, rfl, _, _, rfl, rfl, ⟨by omega, by omega⟩, ?_⟩
    refine ⟨_, rfl, p, _, _, 2, rfl, rfl, S.at_, rfl, _, rfl, ?_⟩
    exact q _ _ (b.upd _) ⟨cs, i, l / n, m, S.put S.hi (Int.ediv_nonneg S.hl (by omega)) S.m0 S.m1⟩ (Int.emod_nonneg _ (by omega)) (.inl (Int.emod_lt_of_pos _ (by omega)))
  refine ⟨_, rfl, _, _, _, _, rfl, rfl, sq, atI_nat (j := 3) rfl, _, _, rfl, rfl, .inr (by decide), _, _, rfl, rfl, .inl ⟨_, rfl, _, _, rfl, rfl, (by show (0 : Int) < 2147483563; decide), ?_⟩⟩
  refine ⟨_, rfl, p, _, _, 3, rfl, rfl, S.at_, rfl, ?_⟩
  have S1 := S.put (i' := i) (l' := l) (m' := (m * 40014 + 12345) % 2147483563) S.hi S.hl (Int.emod_nonneg _ (by decide)) (Int.emod_lt_of_pos _ (by decide))
  refine ⟨_, rfl, _, _, _, _, rfl, rfl, SqL.of (K := K) S1.at_, atI_nat (j := 3) rfl, _, _, rfl, rfl, ⟨by decide, by decide⟩, ?_⟩
  refine ⟨_, rfl, _, _, rfl, rfl, (by show CPow 10 7; exact ⟨by decide, by decide, by decide⟩), _, _, rfl, rfl, _, rfl, ?_⟩
  refine iteN (by show ¬ (10 : Int) ^ (7 : Int).toNat < n; have : (10 : Int) ^ (7 : Int).toNat = 10000000 := by decide
                  omega) ?_
  refine ⟨_, rfl, .inl ⟨_, rfl, _, rfl, _, _, rfl, rfl, (by show 0 < n; omega), ?_⟩⟩
  exact q _ _ (b.upd _) ⟨cs, i, l, _, S1⟩ (Int.emod_nonneg _ (by omega)) (.inl (Int.emod_lt_of_pos _ (by omega)))
end
section
variable {K : PySem.W.Frag}
theorem tyx_tup {H : Hp} {p : Addr} {xs : List V} (h : SqT K H p xs) : TyX K H (.ref p) (.type "tuple") := by
  rcases h with (h | ⟨o, h⟩) | ⟨o, its, n, h, c, _⟩
  · exact .base (.tup h)
  · exact .fTuple h
  · exact .kTuple h c
theorem kit_tt : PySem.W.kitOne K (.type "tuple") (.type "tuple") = some true := kit_ty (by decide +kernel)
theorem kit_st : PySem.W.kitOne K (.type "str") (.type "tuple") = some false := kit_ty (by decide +kernel)
end
/-! ### _law_like: what is found is what is due -/
section
variable {P : Program} {w W_ : World} {K : PySem.W.Frag} {mg : Str → Option Value} {base : Heap}
/-- data: a value as it stands -/
inductive Dv where
  | non
  | bl (b : Bool)
  | int (i : Int)
  | str (s : Str)
  | lst (l : List Dv)
  | tup (l : List Dv)
mutual
def Ld (K : PySem.W.Frag) (H : Hp) : Dv → V → Prop
  | .non, v => v = .non
  | .bl b, v => v = .bl b
  | .int i, v => v = .int i
  | .str s, v => v = .str s
  | .lst l, v => ∃ a xs, v = .ref a ∧ H a = some (.lst xs) ∧ LdA K H l xs
  | .tup l, v => ∃ a xs, v = .ref a ∧ SqT K H a xs ∧ LdA K H l xs
def LdA (K : PySem.W.Frag) (H : Hp) : List Dv → List V → Prop
  | [], xs => xs = []
  | d :: ds, xs => ∃ y ys, xs = y :: ys ∧ Ld K H d y ∧ LdA K H ds ys
end
mutual
theorem Ld.same {H H' : Hp} (s : Same H H') : ∀ {d : Dv} {v : V}, Ld K H d v → Ld K H' d v
  | .non, _, h | .bl _, _, h | .int _, _, h | .str _, _, h => h
  | .lst l, _, ⟨a, xs, e, h, r⟩ => ⟨a, xs, e, s _ _ h, LdA.same s r⟩
  | .tup l, _, ⟨a, xs, e, h, r⟩ => ⟨a, xs, e, s.keeps.sqT h, LdA.same s r⟩
theorem LdA.same {H H' : Hp} (s : Same H H') : ∀ {l : List Dv} {xs : List V}, LdA K H l xs → LdA K H' l xs
  | [], _, h => h
  | _ :: _, _, ⟨y, ys, e, h, r⟩ => ⟨y, ys, e, Ld.same s h, LdA.same s r⟩
end
theorem LdA.length {H : Hp} : ∀ {l : List Dv} {xs : List V}, LdA K H l xs → xs.length = l.length
  | [], _, h => by rw [show _ = ([] : List V) from h]; rfl
  | _ :: _, _, ⟨y, ys, e, h, r⟩ => by rw [e, List.length_cons, List.length_cons, LdA.length r]
theorem LdA.get {H : Hp} : ∀ {l : List Dv} {xs : List V}, LdA K H l xs → ∀ {i : Nat}, i < l.length → ∃ d v, l[i]? = some d ∧ xs[i]? = some v ∧ Ld K H d v
  | [], _, _, i, hi => absurd hi (Nat.not_lt_zero _)
  | d :: ds, _, ⟨y, ys, e, h, r⟩, i, hi => by
    subst e
    cases i with
    | zero => exact ⟨d, y, rfl, rfl, h⟩
    | succ i => exact LdA.get r (Nat.lt_of_succ_lt_succ hi)
mutual
def Dv.depth : Dv → Nat
  | .lst l | .tup l => Dv.depthA l + 1
  | _ => 1
def Dv.depthA : List Dv → Nat
  | [] => 0
  | d :: ds => max d.depth (Dv.depthA ds)
end
theorem Dv.depth_pos : ∀ d : Dv, 1 ≤ d.depth
  | .non | .bl _ | .int _ | .str _ => by simp [Dv.depth]
  | .lst _ | .tup _ => by simp [Dv.depth]
theorem Dv.depth_at {d : Dv} : ∀ {l : List Dv} {i : Nat}, l[i]? = some d → d.depth ≤ Dv.depthA l
  | [], _, h => by simp at h
  | e :: es, 0, h => by cases h; simp [Dv.depthA]; omega
  | e :: es, i + 1, h => by have := Dv.depth_at (l := es) (i := i) (by simpa using h); simp [Dv.depthA]; omega
/-- its class -/
def Dv.cls : Dv → String
  | .non => "NoneType"
  | .bl _ => "bool"
  | .int _ => "int"
  | .str _ => "str"
  | .lst _ => "list"
  | .tup _ => "tuple"
theorem Ld.ty {H : Hp} : ∀ {d : Dv} {v : V}, Ld K H d v → TyX K H v (.type d.cls)
  | .non, _, h => by rw [show _ = V.non from h]; exact .base .non
  | .bl b, _, h => by rw [show _ = V.bl b from h]; exact .base (.bl b)
  | .int i, _, h => by rw [show _ = V.int i from h]; exact .base (.int i)
  | .str s, _, h => by rw [show _ = V.str s from h]; exact .base (.str s)
  | .lst l, _, ⟨a, xs, e, h, r⟩ => by rw [e]; exact .base (.lst h)
  | .tup l, _, ⟨a, xs, e, h, r⟩ => by rw [e]; exact tyx_tup h
/-- whether it is one of the class -/
def Dv.is (d : Dv) (n : String) : Bool := d.cls == n
theorem Dv.kit (d : Dv) {n : String} (hn : n ∈ ["bool", "str", "list", "tuple", "dict"]) : PySem.W.kitOne K (.type d.cls) (.type n) = some (d.is n) := by
  simp only [List.mem_cons, List.not_mem_nil, or_false] at hn
  rcases hn with rfl | rfl | rfl | rfl | rfl <;> cases d <;> exact kit_ty (by dsimp only [Dv.cls, Dv.is]; decide +kernel)
theorem LdA.at2 {H : Hp} {l : List Dv} {xs ys : List V} (h1 : LdA K H l xs) (h2 : LdA K H l ys) {i : Nat} (hi : i < l.length) : ∃ d x y, l[i]? = some d ∧ xs[i]? = some x ∧ ys[i]? = some y ∧ Ld K H d x ∧ Ld K H d y := by
  obtain ⟨d, x, e1, e2, e3⟩ := h1.get hi
  obtain ⟨d', y, f1, f2, f3⟩ := h2.get hi
  rw [e1] at f1
  cases f1
  exact ⟨d, x, y, e1, e2, f2, e3, f3⟩
mutual
def Dv.wide : Dv → Prop
  | .lst l | .tup l => l.length ≤ 100000 ∧ Dv.wideA l
  | _ => True
def Dv.wideA : List Dv → Prop
  | [] => True
  | d :: ds => d.wide ∧ Dv.wideA ds
end
theorem Dv.wide_at {d : Dv} : ∀ {l : List Dv} {i : Nat}, Dv.wideA l → l[i]? = some d → d.wide
  | [], _, _, h => by simp at h
  | e :: es, 0, w, h => by cases h; exact w.1
  | e :: es, i + 1, w, h => Dv.wide_at (l := es) (i := i) w.2 (by simpa using h)
def sp_like (K : PySem.W.Frag) (n : Nat) : Sp := fun vs H Q _ => ∃ (d : Dv) (x y : V), vs = [x, y] ∧ Ld K H d x ∧ Ld K H d y ∧ d.depth ≤ n ∧ d.wide ∧ ∀ H', Same H H' → Q (.bl true) H'
end
section
variable {P : Program} {w W_ : World} {K : PySem.W.Frag} {mg : Str → Option Value} {base : Heap}
theorem kany_lt (d : Dv) : PySem.W.kitAny K (.type d.cls) [.type "list", .type "tuple"] = some (d.is "list" || d.is "tuple") := by
  unfold PySem.W.kitAny
  rw [d.kit (n := "list") (by simp)]
  cases h : d.is "list" with
  | true => rfl
  | false =>
    show PySem.W.kitAny K (.type d.cls) [.type "tuple"] = _
    unfold PySem.W.kitAny
    rw [d.kit (n := "tuple") (by simp)]
    cases h2 : d.is "tuple" <;> rfl
theorem Ld.isN {H : Hp} : ∀ {d : Dv} {v : V}, Ld K H d v → decide (v = V.non) = d.is "NoneType"
  | .non, _, h => by rw [show _ = V.non from h]; rfl
  | .bl b, _, h => by rw [show _ = V.bl b from h]; rfl
  | .int i, _, h => by rw [show _ = V.int i from h]; rfl
  | .str s, _, h => by rw [show _ = V.str s from h]; rfl
  | .lst l, _, ⟨a, xs, e, h, r⟩ => by rw [e]; rfl
  | .tup l, _, ⟨a, xs, e, h, r⟩ => by rw [e]; rfl
theorem inV_falses (n : Nat) : inV (.bl false) (List.replicate n (V.bl true)) = false := inV_trues n
theorem ok_like (T : Tx K mg W_) : ∀ n, FnOk P w K mg base CX0 (n + 1) T.a__law_like T.d__law_like ["found", "due"] (sp_like K n)
  | 0 => by
    have no : ∀ vs H Q E, ¬ sp_like K 0 vs H Q E := fun vs H Q E ⟨d, x, y, _, _, _, hd, _⟩ => by have := d.depth_pos; omega
    exact ⟨fun vs H Q E h => absurd h (no vs H Q E), fun A outer s H args us vs Q E _ _ _ _ h => absurd h (no vs H Q E)⟩
  | n + 1 => by
    have G__law_like := ok_like T n
    refine T.F__law_like.ok sc__law_like (fun vs H Q E h => ?_) (fun cdv A outer s H vs Q E hr h => ?_)
    · obtain ⟨d, x, y, rfl, _⟩ := h
      rfl
    obtain ⟨d, x, y, rfl, hx, hy, hd, hw, q⟩ := h
    refine ⟨_, pss_cons (ps_if (pt_cmpR op_isN (pv 1) pe_non (nomark _)) (pss_one (ps_ret (pe_cmpR op_isN (pv 0) pe_non (nomark _)))) pss_nil)
    (pss_cons (ps_for PassesOwn.never rfl (pi_list (pe_lst (pa_cons (pe_lst (pa_cons (pe_callB call_isi (by rfl) T.n_isinstance (by decide +kernel) (pa_cons (pv 0) (pa_cons (pe_bltn (v := .ty "bool") (u := .type "bool") (by rfl) T.n_bool (by decide +kernel) rfl) pa_nil))) (pa_cons (pe_callB call_isi (by rfl) T.n_isinstance (by decide +kernel) (pa_cons (pv 1) (pa_cons (pe_bltn (v := .ty "bool") (u := .type "bool") (by rfl) T.n_bool (by decide +kernel) rfl) pa_nil))) pa_nil))) (pa_cons (pe_lst (pa_cons (pe_callB call_isi (by rfl) T.n_isinstance (by decide +kernel) (pa_cons (pv 0) (pa_cons (pe_bltn (v := .ty "str") (u := .type "str") (by rfl) T.n_str (by decide +kernel) rfl) pa_nil))) (pa_cons (pe_callB call_isi (by rfl) T.n_isinstance (by decide +kernel) (pa_cons (pv 1) (pa_cons (pe_bltn (v := .ty "str") (u := .type "str") (by rfl) T.n_str (by decide +kernel) rfl) pa_nil))) pa_nil))) pa_nil)))) (pg_name (i := 2) sc__law_like.nd rfl (Or.inl rfl)) (pss_one (ps_if (pt_cmpR op_ne (pe_ix ix_list (pv 2) pe_int (fun _ _ => rfl)) (pe_ix ix_list (pv 2) pe_int (fun _ _ => rfl)) (nomark _)) (pss_one (ps_ret pe_bl)) pss_nil)))
    (pss_cons (ps_if (PW.pt (pw_or (pt_cmpR op_ne (pe_callB call_isi (by rfl) T.n_isinstance (by decide +kernel) (pa_cons (pv 0) (pa_cons (pe_bltn (v := .ty "list") (u := .type "list") (by rfl) T.n_list (by decide +kernel) rfl) pa_nil))) (pe_callB call_isi (by rfl) T.n_isinstance (by decide +kernel) (pa_cons (pv 1) (pa_cons (pe_bltn (v := .ty "list") (u := .type "list") (by rfl) T.n_list (by decide +kernel) rfl) pa_nil))) (nomark _)) (pw_or1 (pt_cmpR op_ne (pe_callB call_isi (by rfl) T.n_isinstance (by decide +kernel) (pa_cons (pv 0) (pa_cons (pe_bltn (v := .ty "tuple") (u := .type "tuple") (by rfl) T.n_tuple (by decide +kernel) rfl) pa_nil))) (pe_callB call_isi (by rfl) T.n_isinstance (by decide +kernel) (pa_cons (pv 1) (pa_cons (pe_bltn (v := .ty "tuple") (u := .type "tuple") (by rfl) T.n_tuple (by decide +kernel) rfl) pa_nil))) (nomark _))))) (pss_one (ps_ret pe_bl)) pss_nil)
    (pss_cons (ps_if (pt_val (pe_callB call_isi (by rfl) T.n_isinstance (by decide +kernel) (pa_cons (pv 1) (pa_cons (pe_bltn (v := .ty "dict") (u := .type "dict") (by rfl) T.n_dict (by decide +kernel) rfl) pa_nil)))) (pss_cons ps_dead (pss_one ps_dead)) pss_nil)
    (pss_cons (ps_if (pt_val (pe_callB call_isiT (by rfl) T.n_isinstance (by decide +kernel) (pa_cons (pv 1) (pa_cons (pe_tup (pa_cons (pe_bltn (v := .ty "list") (u := .type "list") (by rfl) T.n_list (by decide +kernel) rfl) (pa_cons (pe_bltn (v := .ty "tuple") (u := .type "tuple") (by rfl) T.n_tuple (by decide +kernel) rfl) pa_nil))) pa_nil)))) (pss_cons (ps_if (pt_cmpR op_ne (pe_callB call_len_seq (by rfl) T.n_len (by decide +kernel) (pa_cons (pv 0) pa_nil)) (pe_callB call_len_seq (by rfl) T.n_len (by decide +kernel) (pa_cons (pv 1) pa_nil)) (nomark _)) (pss_one (ps_ret pe_bl)) pss_nil)
    (pss_one (ps_ret (pe_cmpR op_notIn_seq pe_bl (pe_lc (own := [("k", 3)]) (g := gName 3) (tt := tYes) rfl sc__law_like.nd (pi_range1 (by rfl) T.n_range (pa_cons (pe_callB call_len_seq (by rfl) T.n_len (by decide +kernel) (pa_cons (pv 1) pa_nil)) pa_nil)) (blkOk_by (N := N__law_like) (sc := defScope St__law_like) (by decide +kernel)) (fun _ _ _ _ _ => (pg_name (i := 3) sc__law_like.nd rfl (Or.inl rfl))) (fun _ _ _ _ _ => pts_nil) (fun _ _ _ _ _ => (pe_call G__law_like (hr.mono (by omega)) (by rfl) T.g__law_like T.F__law_like.kp T.b__law_like .nil pass0 (pa_cons (pe_ix (kx_ix_seq K) (pv 0) (pv 3) (fun _ _ => rfl)) (pa_cons (pe_ix (kx_ix_seq K) (pv 1) (pv 3) (fun _ _ => rfl)) pa_nil))))) (by rfl))))) pss_nil)
    (pss_one (ps_ret (pe_cmpR op_eq (pv 0) (pv 1) (nomark _)))))))), ?_⟩
    refine ⟨_, rfl, rfl, _, rfl, ?_⟩
    show if decide (y = V.non) = true then _ else _
    rw [hy.isN]
    refine ite2 (fun cn => ?_) (fun cn => ?_)
    · refine ⟨_, rfl, rfl, ?_⟩
      have := q H (Same.refl _)
      rw [← cn, ← hx.isN] at this
      exact this
    -- the classes of both
    have kb := d.kit (K := K) (n := "bool") (by simp)
    have ks := d.kit (K := K) (n := "str") (by simp)
    refine ⟨_, rfl, x, _, _, _, _, rfl, .ty "bool", hx.ty, kb, _, rfl, y, _, _, _, _, rfl, .ty "bool", hy.ty, kb, (by show 2 ≤ sizeLine; decide), newQ (.lst [.bl (d.is "bool"), .bl (d.is "bool")]) fun l1 hl1 s1 h1 => ?_⟩
    generalize upd H l1 (.lst [.bl (d.is "bool"), .bl (d.is "bool")]) = H1 at s1 h1 ⊢
    refine ⟨_, rfl, x, _, _, _, _, rfl, .ty "str", (hx.same s1).ty, ks, _, rfl, y, _, _, _, _, rfl, .ty "str", (hy.same s1).ty, ks, (by show 2 ≤ sizeLine; decide), newQ (.lst [.bl (d.is "str"), .bl (d.is "str")]) fun l2 hl2 s2 h2 => ?_⟩
    generalize upd H1 l2 (.lst [.bl (d.is "str"), .bl (d.is "str")]) = H2 at s2 h2 ⊢
    refine ⟨(by show 2 ≤ sizeLine; decide), newQ (.lst [.ref l1, .ref l2]) fun l3 hl3 s3 h3 => ?_⟩
    generalize upd H2 l3 (.lst [.ref l1, .ref l2]) = H3 at s3 h3 ⊢
    have s03 := (s1.trans s2).trans s3
    have g1 := s3 _ _ (s2 _ _ h1)
    have g2 := s3 _ _ h2
    refine ⟨l3, rfl, ⟨_, SqL.of (K := K) h3⟩, for_list (K := K) (a := l3) (xs := [.ref l1, .ref l2]) (fun i σ H' => ∃ v, σ = [some x, some y, v, none] ∧ H' = H3) ⟨none, rfl, rfl⟩ (fun i σ H' _ ⟨_, _, e⟩ => by rw [e]; exact SqL.of h3) ?_ ?_⟩
    · rintro i z σ H' hz ⟨v, rfl, rfl⟩
      obtain ⟨l, b, rfl, hl⟩ : ∃ l b, z = .ref l ∧ H' l = some (.lst [V.bl b, V.bl b]) := by
        match i, hz with
        | 0, e => cases e; exact ⟨_, _, rfl, g1⟩
        | 1, e => cases e; exact ⟨_, _, rfl, g2⟩
        | i + 2, e => simp at e
      refine ⟨_, rfl, l, _, _, _, rfl, rfl, SqL.of (K := K) hl, atI_nat (j := 0) rfl, _, rfl, l, _, _, _, rfl, rfl, SqL.of (K := K) hl, atI_nat (j := 1) rfl, rfl, _, rfl, ?_⟩
      rw [decide_eq_true rfl]
      refine iteF ?_
      exact ⟨_, rfl, rfl⟩
    rintro σ H' ⟨v, rfl, eH⟩
    obtain rfl : H3 = H' := eH.symm
    have x3 := hx.same s03
    have y3 := hy.same s03
    have kl := d.kit (K := K) (n := "list") (by simp)
    have kt := d.kit (K := K) (n := "tuple") (by simp)
    have kd := d.kit (K := K) (n := "dict") (by simp)
    refine ⟨_, rfl, x, _, _, _, _, rfl, .ty "list", x3.ty, kl, _, rfl, y, _, _, _, _, rfl, .ty "list", y3.ty, kl, rfl, _, rfl, ?_⟩
    rw [decide_eq_true rfl]
    refine iteF ?_
    refine ⟨_, rfl, x, _, _, _, _, rfl, .ty "tuple", x3.ty, kt, _, rfl, y, _, _, _, _, rfl, .ty "tuple", y3.ty, kt, rfl, _, rfl, ?_⟩
    rw [decide_eq_true rfl]
    refine iteF ?_
    refine ⟨_, rfl, y, _, _, _, _, rfl, .ty "dict", y3.ty, kd, _, rfl, ?_⟩
    rw [show d.is "dict" = false from by cases d <;> rfl]
    refine iteF ?_
    refine ⟨_, rfl, (by show 2 ≤ sizeLine; decide), newQ (.tup [.ty "list", .ty "tuple"]) fun t4 hl4 s4 h4 => ?_⟩
    generalize upd H3 t4 (.tup [.ty "list", .ty "tuple"]) = H4 at s4 h4 ⊢
    refine ⟨y, t4, _, _, _, _, rfl, h4, .cons (.ty "list") (.cons (.ty "tuple") .nil), (y3.same s4).ty, kany_lt d, _, rfl, ?_⟩
    have x4 := x3.same s4
    have y4 := y3.same s4
    have s04 := s03.trans s4
    have flat : (d.is "list" || d.is "tuple") = false → scal x y = true ∧ decide (x = y) = true := fun c => by
      cases d with
      | non => simp [Dv.is, Dv.cls] at cn
      | bl b => rw [show x = V.bl b from hx, show y = V.bl b from hy]; exact ⟨rfl, decide_eq_true rfl⟩
      | int b => rw [show x = V.int b from hx, show y = V.int b from hy]; exact ⟨rfl, decide_eq_true rfl⟩
      | str b => rw [show x = V.str b from hx, show y = V.str b from hy]; exact ⟨rfl, decide_eq_true rfl⟩
      | lst l => simp [Dv.is, Dv.cls] at c
      | tup l => simp [Dv.is, Dv.cls] at c
    refine ite2 (fun c => ?_) (fun c => ?_)
    · obtain ⟨l, a, b, xs, ys, ex, ey, qx, qy, rx, ry, dl, wl, wl2⟩ : ∃ (l : List Dv) (a b : Addr) (xs ys : List V), x = .ref a ∧ y = .ref b ∧ (SqL K H4 a xs ∨ SqT K H4 a xs) ∧ (SqL K H4 b ys ∨ SqT K H4 b ys) ∧ LdA K H4 l xs ∧ LdA K H4 l ys ∧ Dv.depthA l ≤ n ∧ l.length ≤ 100000 ∧ Dv.wideA l := by
        cases d with
        | lst l =>
          obtain ⟨a, xs, ex, qx, rx⟩ := x4
          obtain ⟨b, ys, ey, qy, ry⟩ := y4
          exact ⟨l, a, b, xs, ys, ex, ey, .inl (SqL.of qx), .inl (SqL.of qy), rx, ry, by simp [Dv.depth] at hd; omega, hw.1, hw.2⟩
        | tup l =>
          obtain ⟨a, xs, ex, qx, rx⟩ := x4
          obtain ⟨b, ys, ey, qy, ry⟩ := y4
          exact ⟨l, a, b, xs, ys, ex, ey, .inr qx, .inr qy, rx, ry, by simp [Dv.depth] at hd; omega, hw.1, hw.2⟩
        | non | bl _ | int _ | str _ => simp [Dv.is, Dv.cls] at c
      subst ex ey
      have lx := rx.length
      have ly := ry.length
      refine ⟨_, rfl, a, xs, rfl, qx, _, rfl, b, ys, rfl, qy, rfl, _, rfl, ?_⟩
      rw [lx, ly, decide_eq_true rfl]
      refine iteF ?_
      refine ⟨_, rfl, b, ys, rfl, qy, _, rfl, by omega, by omega, fun D hD => ?_⟩
      rw [ly]
      refine lc_fold walk_range hD (fun i _ ys => i ≤ l.length ∧ ys = List.replicate i (V.bl true)) (fun _ => ⟨Nat.zero_le _, rfl⟩) (fun i _ _ xs _ h => h) ?_ (fun _ _ => trivial) ?_ ?_
      · rintro i _ ys ⟨hi, rfl⟩
        rw [List.length_replicate]; omega
      · rintro i z H5 H6 zs Nx Ex hi s5 ⟨_, rfl⟩ ⟨rfl, ez⟩ k1 k2
        have hi : i < l.length := hi
        obtain rfl := yfn0 ez
        refine ⟨rfl, ?_⟩
        refine lcY ?_
        obtain ⟨e, x1, y1, g0, gx, gy, ex, ey⟩ := rx.at2 ry hi
        have seqs : ∀ {p : Addr} {ws : List V}, (SqL K H4 p ws ∨ SqT K H4 p ws) → (SqL K H6 p ws ∨ SqT K H6 p ws) := fun h => h.imp (fun z => s5.seq z) (fun z => s5.keeps.sqT z)
        have rd : ∀ {p : Addr} {ws : List V} {w' : V} {R : V → Hp → Prop}, (SqL K H4 p ws ∨ SqT K H4 p ws) → ws[i]? = some w' → R w' H6 → rIx K (.ref p) (.int (i : Nat)) H6 R := fun h hw q => by
          rcases seqs h with h | h
          · exact .inl ⟨_, _, _, _, rfl, rfl, h, atI_nat hw, q⟩
          · exact .inr (.inl ⟨_, _, _, _, rfl, rfl, h, atI_nat hw, q⟩)
        refine ⟨_, rfl, _, rfl, rd qx gx ⟨_, rfl, _, rfl, rd qy gy ?_⟩⟩
        refine ⟨e, x1, y1, rfl, ex.same s5, ey.same s5, Nat.le_trans (Dv.depth_at g0) dl, Dv.wide_at wl2 g0, fun H7 s7 => k1 _ _ s7 ⟨hi, ?_⟩⟩
        rw [List.replicate_succ']
      · rintro H5 zs s5 h5 ⟨_, rfl⟩
        refine ⟨D, _, rfl, .inl (SqL.of (K := K) h5), rfl, flat_trues _, ?_⟩
        have e : (if true = true then !inV (.bl false) (List.replicate l.length (V.bl true)) else inV (.bl false) (List.replicate l.length (V.bl true))) = true := by
          show (!inV (.bl false) (List.replicate l.length (V.bl true))) = true
          rw [inV_trues]; rfl
        have := q H5 (s04.trans s5)
        rw [← e] at this
        exact this
    · obtain ⟨f1, f2⟩ := flat (Bool.eq_false_iff.mpr c)
      refine ⟨_, rfl, _, rfl, f1, ?_⟩
      have := q H4 s04
      rw [← f2] at this
      exact this
end
section
variable {K : PySem.W.Frag} {H : Hp}
def Dv.ints (l : List Nat) : List Dv := l.map fun i => Dv.int (i : Nat)
theorem lda_ints : ∀ l : List Nat, LdA K H (Dv.ints l) (natV l)
  | [] => rfl
  | i :: l => ⟨_, _, rfl, rfl, lda_ints l⟩
theorem Dv.ints_depth : ∀ l : List Nat, Dv.depthA (Dv.ints l) ≤ 1
  | [] => by simp [Dv.ints, Dv.depthA]
  | i :: l => by
    have := Dv.ints_depth l
    unfold Dv.ints at this
    simp [Dv.ints, Dv.depthA, Dv.depth]
    omega
theorem Dv.ints_wide : ∀ l : List Nat, Dv.wideA (Dv.ints l)
  | [] => by simp [Dv.ints, Dv.wideA]
  | i :: l => by
    have := Dv.ints_wide l
    unfold Dv.ints at this
    simp [Dv.ints, Dv.wideA, Dv.wide]
    simpa using this
def Dv.strs (l : List Str) : List Dv := l.map Dv.str
theorem lda_strs : ∀ l : List Str, LdA K H (Dv.strs l) (l.map V.str)
  | [] => rfl
  | i :: l => ⟨_, _, rfl, rfl, lda_strs l⟩
end
/-! ### first_place, the methods of lattices -/
section
variable {P : Program} {w W_ : World} {K : PySem.W.Frag} {mg : Str → Option Value} {base : Heap}
def sp_first (K : PySem.W.Frag) : Sp := fun vs H Q _ => ∃ (p : Addr) (n m : Nat) (f : Nat → Nat), vs = [.ref p, .int (m : Nat)] ∧ NdT K H p ∧ SqT K H p ((List.range n).map fun i => V.int (f i : Nat)) ∧ n ≤ 1000 ∧ ∀ H', Same H H' → Q (optV (first n fun k => f k == m)) H'
theorem ok_first (T : Tx K mg W_) : FnOk P w K mg base CX0 1 T.a_first_place T.d_first_place ["sets", "wanted"] (sp_first K) := by
  refine T.F_first_place.ok sc_first_place (fun vs H Q E h => ?_) (fun cdv A outer s H vs Q E hr h => ?_)
  · obtain ⟨p, n, m, f, rfl, _⟩ := h
    rfl
  obtain ⟨p, n, m, f, rfl, hn, hs, hz, q⟩ := h
  refine ⟨_, pss_one (ps_ret (pe_ifExp (pt_cmpR op_in_seq (pv 1) (pv 0) (by rfl)) (pe_tbm PySem.F.plainAttrs_tuple PySem.F.slot_tuple_index PySem.F.type_tuple_index mt_tindexF (pv 0) (pa_cons (pv 1) pa_nil)) pe_non)), ?_⟩
  refine ⟨_, rfl, _, rfl, p, _, rfl, .inr hs, rfl, flat_ints _ _, _, rfl, ?_⟩
  have e : (if false = true then !inV (.int (m : Nat)) ((List.range n).map fun i => V.int (f i : Nat)) else inV (.int (m : Nat)) ((List.range n).map fun i => V.int (f i : Nat))) = (first n fun k => f k == m).isSome := inV_map m n f
  rw [e]
  cases e2 : first n fun k => f k == m with
  | none => exact iteF (by have := q H (Same.refl _); rw [e2] at this; exact this)
  | some k =>
    obtain ⟨h1, h2, h3⟩ := first_some e2
    refine iteT ⟨_, rfl, p, _, rfl, hn, hs, _, rfl, p, _, _, k, _, rfl, rfl, hs, rfl, flat_ints _ _, at_map h1, (by rw [eqV_nat]; exact h2), fun j z hj hz => ?_, ?_⟩
    · obtain ⟨_, rfl⟩ := at_map' hz
      rw [eqV_nat]; exact h3 j hj
    · have := q H (Same.refl _)
      rw [e2] at this; exact this
def sp_within (K : PySem.W.Frag) (mm : List (Str × Addr)) : Sp := fun vs H Q _ => ∃ (p : Addr) (L : Lt) (a b : Nat), vs = [.ref p, .int (a : Nat), .int (b : Nat)] ∧ IsLat K mm H p L ∧ a < L.n ∧ b < L.n ∧ ∀ H', Same H H' → Q (.bl (L.le a b)) H'
theorem ok_within (T : Tx K mg W_) : FnOk P w K mg base CX0 1 T.a_Lattice_within_at T.d_Lattice_within_at ["self", "first", "second"] (sp_within K T.mm) := by
  refine T.F_Lattice_within_at.ok sc_Lattice_within_at (fun vs H Q E h => ?_) (fun cdv A outer s H vs Q E hr h => ?_)
  · obtain ⟨p, L, a, b, rfl, _⟩ := h
    rfl
  obtain ⟨p, L, a, b, rfl, ⟨C, dx, fs, tn, td, tu, A⟩, ha, hb, q⟩ := h
  refine ⟨_, pss_one (ps_ret (pe_cmpR op_eq (pe_op op_and (pe_op op_shr (pe_ix ix_tup (pe_fld (pv 0) rfl) (pv 2) (fun _ _ => rfl)) (pv 1)) pe_int) pe_int (nomark _))), ?_⟩
  refine ⟨_, rfl, p, C, dx, fs, _, rfl, A.at_, A.c.cl, A.c.na _ (by decide), A.downs, _, rfl, td, _, _, _, rfl, rfl, A.td.2, atI_nat (at_map hb), _, rfl, _, _, rfl, rfl, Int.natCast_nonneg _, _, _, rfl, rfl, rfl, ?_⟩
  have e : decide (V.int (Builtin.bitAnd ((L.down b : Int) / 2 ^ ((a : Int)).toNat) 1) = V.int 1) = L.le a b := by
    rw [dec_int, Int.toNat_natCast, bit_is]
    show (mask L.n fun i => L.le i b).testBit a = _
    rw [mask_bit, decide_eq_true ha, Bool.true_and]
  have := q H (Same.refl _)
  rw [← e] at this
  exact this
def sp_join (K : PySem.W.Frag) (mm : List (Str × Addr)) : Sp := fun vs H Q _ => ∃ (p : Addr) (L : Lt) (a b : Nat), vs = [.ref p, .int (a : Nat), .int (b : Nat)] ∧ IsLat K mm H p L ∧ L.n ≤ 1000 ∧ a < L.n ∧ b < L.n ∧ ∀ H', Same H H' → Q (optV (L.join a b)) H'
theorem ok_join (T : Tx K mg W_) : FnOk P w K mg base CX0 2 T.a_Lattice_join_at T.d_Lattice_join_at ["self", "first", "second"] (sp_join K T.mm) := by
  have G_first_place := ok_first (P := P) (w := w) (base := base) T
  refine T.F_Lattice_join_at.ok sc_Lattice_join_at (fun vs H Q E h => ?_) (fun cdv A outer s H vs Q E hr h => ?_)
  · obtain ⟨p, L, a, b, rfl, _⟩ := h
    rfl
  obtain ⟨p, L, a, b, rfl, ⟨C, dx, fs, tn, td, tu, A⟩, hn, ha, hb, q⟩ := h
  refine ⟨_, pss_one (ps_ret (pe_call G_first_place (hr.mono (by omega)) (by rfl) T.g_first_place T.F_first_place.kp T.b_first_place .nil pass0 (pa_cons (pe_fld (pv 0) rfl) (pa_cons (pe_op op_and (pe_ix ix_tup (pe_fld (pv 0) rfl) (pv 1) (fun _ _ => rfl)) (pe_ix ix_tup (pe_fld (pv 0) rfl) (pv 2) (fun _ _ => rfl))) pa_nil)))), ?_⟩
  refine ⟨_, rfl, p, C, dx, fs, _, rfl, A.at_, A.c.cl, A.c.na _ (by decide), A.ups, ?_⟩
  refine ⟨_, rfl, p, C, dx, fs, _, rfl, A.at_, A.c.cl, A.c.na _ (by decide), A.ups, _, rfl, tu, _, _, _, rfl, rfl, A.tu.2, atI_nat (at_map ha), ?_⟩
  refine ⟨_, rfl, p, C, dx, fs, _, rfl, A.at_, A.c.cl, A.c.na _ (by decide), A.ups, _, rfl, tu, _, _, _, rfl, rfl, A.tu.2, atI_nat (at_map hb), _, _, rfl, rfl, ?_⟩
  exact ⟨tu, L.n, L.up a &&& L.up b, L.up, (by rw [← and_int_nat]; rfl), A.tu.1, A.tu.2, hn, q⟩
def sp_meet (K : PySem.W.Frag) (mm : List (Str × Addr)) : Sp := fun vs H Q _ => ∃ (p : Addr) (L : Lt) (a b : Nat), vs = [.ref p, .int (a : Nat), .int (b : Nat)] ∧ IsLat K mm H p L ∧ L.n ≤ 1000 ∧ a < L.n ∧ b < L.n ∧ ∀ H', Same H H' → Q (optV (L.meet a b)) H'
theorem ok_meet (T : Tx K mg W_) : FnOk P w K mg base CX0 2 T.a_Lattice_meet_at T.d_Lattice_meet_at ["self", "first", "second"] (sp_meet K T.mm) := by
  have G_first_place := ok_first (P := P) (w := w) (base := base) T
  refine T.F_Lattice_meet_at.ok sc_Lattice_meet_at (fun vs H Q E h => ?_) (fun cdv A outer s H vs Q E hr h => ?_)
  · obtain ⟨p, L, a, b, rfl, _⟩ := h
    rfl
  obtain ⟨p, L, a, b, rfl, ⟨C, dx, fs, tn, td, tu, A⟩, hn, ha, hb, q⟩ := h
  refine ⟨_, pss_one (ps_ret (pe_call G_first_place (hr.mono (by omega)) (by rfl) T.g_first_place T.F_first_place.kp T.b_first_place .nil pass0 (pa_cons (pe_fld (pv 0) rfl) (pa_cons (pe_op op_and (pe_ix ix_tup (pe_fld (pv 0) rfl) (pv 1) (fun _ _ => rfl)) (pe_ix ix_tup (pe_fld (pv 0) rfl) (pv 2) (fun _ _ => rfl))) pa_nil)))), ?_⟩
  refine ⟨_, rfl, p, C, dx, fs, _, rfl, A.at_, A.c.cl, A.c.na _ (by decide), A.downs, ?_⟩
  refine ⟨_, rfl, p, C, dx, fs, _, rfl, A.at_, A.c.cl, A.c.na _ (by decide), A.downs, _, rfl, td, _, _, _, rfl, rfl, A.td.2, atI_nat (at_map ha), ?_⟩
  refine ⟨_, rfl, p, C, dx, fs, _, rfl, A.at_, A.c.cl, A.c.na _ (by decide), A.downs, _, rfl, td, _, _, _, rfl, rfl, A.td.2, atI_nat (at_map hb), _, _, rfl, rfl, ?_⟩
  exact ⟨td, L.n, L.down a &&& L.down b, L.down, (by rw [← and_int_nat]; rfl), A.td.1, A.td.2, hn, q⟩
def sp_name_at (K : PySem.W.Frag) (mm : List (Str × Addr)) : Sp := fun vs H Q _ => ∃ (p : Addr) (L : Lt) (a : Nat) (x : Str), vs = [.ref p, .int (a : Nat)] ∧ IsLat K mm H p L ∧ L.names[a]? = some x ∧ ∀ H', Same H H' → Q (.str x) H'
theorem ok_name_at (T : Tx K mg W_) : FnOk P w K mg base CX0 1 T.a_Lattice_name_at T.d_Lattice_name_at ["self", "place"] (sp_name_at K T.mm) := by
  refine T.F_Lattice_name_at.ok sc_Lattice_name_at (fun vs H Q E h => ?_) (fun cdv A outer s H vs Q E hr h => ?_)
  · obtain ⟨p, L, a, x, rfl, _⟩ := h
    rfl
  obtain ⟨p, L, a, x, rfl, ⟨C, dx, fs, tn, td, tu, A⟩, hx, q⟩ := h
  refine ⟨_, pss_one (ps_ret (pe_ix ix_tup (pe_fld (pv 0) rfl) (pv 1) (fun _ _ => rfl))), ?_⟩
  exact ⟨_, rfl, p, C, dx, fs, _, rfl, A.at_, A.c.cl, A.c.na _ (by decide), A.names, _, rfl, tn, _, _, _, rfl, rfl, A.tn.2, atI_nat (by rw [List.getElem?_map, hx]; rfl), q H (Same.refl _)⟩
theorem eqV_str (a b : Str) : eqV (.str a) (.str b) = (a == b) := rfl
/-- at_name of a name that is there -/
def sp_at_name (K : PySem.W.Frag) (mm : List (Str × Addr)) : Sp := fun vs H Q _ => ∃ (p : Addr) (L : Lt) (a : Nat) (x : Str), vs = [.ref p, .str x] ∧ IsLat K mm H p L ∧ L.names.Nodup ∧ L.names[a]? = some x ∧ ∀ H', Same H H' → Q (.int (a : Nat)) H'
theorem nodup_at {α : Type} {l : List α} (nd : l.Nodup) {i j : Nat} {x : α} (h1 : l[i]? = some x) (h2 : l[j]? = some x) : i = j := by
  obtain ⟨l1, e1⟩ := List.getElem?_eq_some_iff.mp h1
  obtain ⟨l2, e2⟩ := List.getElem?_eq_some_iff.mp h2
  rcases Nat.lt_trichotomy i j with c | c | c
  · exact absurd (e1.trans e2.symm) (List.pairwise_iff_getElem.mp nd i j l1 l2 c)
  · exact c
  · exact absurd (e2.trans e1.symm) (List.pairwise_iff_getElem.mp nd j i l2 l1 c)
theorem ok_at_name (T : Tx K mg W_) : FnOk P w K mg base CX0 1 T.a_Lattice_at_name T.d_Lattice_at_name ["self", "name"] (sp_at_name K T.mm) := by
  refine T.F_Lattice_at_name.ok sc_Lattice_at_name (fun vs H Q E h => ?_) (fun cdv A outer s H vs Q E hr h => ?_)
  · obtain ⟨p, L, a, x, rfl, _⟩ := h
    rfl
  obtain ⟨p, L, a, x, rfl, ⟨C, dx, fs, tn, td, tu, A⟩, nd, hx, q⟩ := h
  refine ⟨_, pss_cons (ps_if (pt_cmpR op_notIn_seq (pv 1) (pe_fld (pv 0) rfl) (by rfl)) (pss_one ps_dead) pss_nil)
    (pss_one (ps_ret (pe_tbm PySem.F.plainAttrs_tuple PySem.F.slot_tuple_index PySem.F.type_tuple_index mt_tindexF (pe_fld (pv 0) rfl) (pa_cons (pv 1) pa_nil)))), ?_⟩
  refine ⟨_, rfl, _, rfl, p, C, dx, fs, _, rfl, A.at_, A.c.cl, A.c.na _ (by decide), A.names, tn, _, rfl, .inr A.tn.2, rfl, flat_strs _, _, rfl, ?_⟩
  have e : (if true = true then !inV (.str x) (L.names.map V.str) else inV (.str x) (L.names.map V.str)) = false := by
    show (!inV (.str x) (L.names.map V.str)) = false
    rw [inV_strs, decide_eq_true (List.mem_of_getElem? hx)]; rfl
  rw [e]
  refine iteF ?_
  refine ⟨_, rfl, p, C, dx, fs, _, rfl, A.at_, A.c.cl, A.c.na _ (by decide), A.names, tn, _, rfl, A.tn.1, A.tn.2, _, rfl, tn, _, _, a, _, rfl, rfl, A.tn.2, rfl, flat_strs _, (by rw [List.getElem?_map, hx]; rfl), (by rw [eqV_str]; exact beq_self_eq_true x), fun j z hj hz => ?_, q H (Same.refl _)⟩
  rw [List.getElem?_map] at hz
  obtain ⟨y, hy, rfl⟩ := Option.map_eq_some_iff.mp hz
  rw [eqV_str]
  exact beq_eq_false_iff_ne.mpr fun z => by
    subst z
    have := nodup_at nd hy hx
    omega
end
section
variable {P : Program} {w W_ : World} {K : PySem.W.Frag} {mg : Str → Option Value} {base : Heap}
def sp_irr (K : PySem.W.Frag) (mm : List (Str × Addr)) : Sp := fun vs H Q _ => ∃ (p : Addr) (L : Lt), vs = [.ref p] ∧ IsLat K mm H p L ∧ L.n ≤ 1000 ∧ ∀ l H', Same H H' → H l = none → H' l = some (.lst (natV L.irrs)) → Q (.ref l) H'
theorem ok_irr (T : Tx K mg W_) : FnOk P w K mg base CX0 1 T.a_Lattice_irreducibles T.d_Lattice_irreducibles ["self"] (sp_irr K T.mm) := by
  refine T.F_Lattice_irreducibles.ok sc_Lattice_irreducibles (fun vs H Q E h => ?_) (fun cdv A outer s H vs Q E hr h => ?_)
  · obtain ⟨p, L, rfl, _⟩ := h
    rfl
  obtain ⟨p, L, rfl, ⟨C, dx, fs, tn, td, tu, A⟩, hn, q⟩ := h
  refine ⟨_, pss_one (ps_ret (pe_lc (own := [("place", 1)]) (g := gName 1) rfl sc_Lattice_irreducibles.nd (pi_range1 (by rfl) T.n_range (pa_cons (pe_fld (pv 0) rfl) pa_nil)) (blkOk_by (N := N_Lattice_irreducibles) (sc := defScope St_Lattice_irreducibles) (by decide +kernel)) (fun _ _ _ _ _ => (pg_name (i := 1) sc_Lattice_irreducibles.nd rfl (Or.inl rfl))) (fun _ _ _ _ _ => (pts_one (pt_cmpR (kx_op_in_seq K) (pe_op op_and (pe_ix (kx_ix_tup K) (kx_pe_fld K (pe_fld (pv 0) rfl)) (pv 1) (fun _ _ => rfl)) (pe_un un_inv (pe_op op_shl pe_int (pv 1)))) (kx_pe_fld K (pe_fld (pv 0) rfl)) (by rfl)))) (fun _ _ _ _ _ => (pv 1)))), ?_⟩
  refine ⟨_, rfl, p, C, dx, fs, _, rfl, A.at_, A.c.cl, A.c.na _ (by decide), A.size, _, rfl, by omega, by omega, fun D hD => ?_⟩
  refine lc_fold walk_range hD (fun i _ ys => i ≤ L.n ∧ ys = natV ((List.range i).filter L.irr)) (fun _ => ⟨Nat.zero_le _, rfl⟩) (fun i _ _ xs _ h => h) ?_ (fun _ _ => trivial) ?_ ?_
  · rintro i _ ys ⟨hi, rfl⟩
    rw [natV_length]
    have := filter_le L.irr i
    omega
  · rintro i x H2 H3 ys Nx Ex hi s2 ⟨_, rfl⟩ ⟨rfl, ex⟩ k1 k2
    have hi : i < L.n := hi
    obtain rfl := yfn0 ex
    have A2 := A.same s2
    refine ⟨rfl, ?_⟩
    refine ⟨_, rfl, p, C, dx, fs, _, rfl, A2.at_, A.c.cl, A.c.na _ (by decide), A.downs, _, rfl, td, _, _, _, rfl, rfl, A2.td.2, atI_nat (at_map hi), ?_⟩
    refine ⟨_, rfl, _, _, rfl, rfl, ⟨Int.natCast_nonneg _, by omega, by decide⟩, _, rfl, _, _, rfl, rfl, ?_⟩
    refine ⟨_, rfl, p, C, dx, fs, _, rfl, A2.at_, A.c.cl, A.c.na _ (by decide), A.downs, td, _, rfl, .inr A2.td.2, rfl, flat_ints _ _, _, rfl, ?_⟩
    have e : (if false = true then !inV (V.int (Builtin.bitAnd (L.down i : Int) (Builtin.bitNot (1 * 2 ^ ((i : Int)).toNat)))) (downsV L) else inV (V.int (Builtin.bitAnd (L.down i : Int) (Builtin.bitNot (1 * 2 ^ ((i : Int)).toNat)))) (downsV L)) = L.irr i := by
      show inV (V.int (Builtin.bitAnd (L.down i : Int) (Builtin.bitNot (1 * 2 ^ ((i : Int)).toNat)))) (downsV L) = L.irr i
      rw [one_shl, ← mask_one hi]
      show inV (V.int (Builtin.bitAnd (mask L.n (fun a => L.le a i) : Int) (Builtin.bitNot (mask L.n (fun j => j == i) : Int)))) (downsV L) = L.irr i
      rw [andnot_int]
      show inV _ ((List.range L.n).map fun b => V.int (L.down b : Nat)) = _
      rw [inV_map]
      exact (any_first _ _).symm
    rw [e]
    refine ite2 (fun c => ?_) (fun c => ?_)
    · refine ⟨_, rfl, k1 _ _ (Same.refl _) ⟨hi, ?_⟩⟩
      rw [filter_snoc, if_pos c, natV_append]
      rfl
    · refine k2 _ (Same.refl _) ⟨hi, ?_⟩
      rw [filter_snoc, if_neg c, List.append_nil]
  · rintro H2 ys s2 h2 ⟨_, rfl⟩
    exact q D H2 s2 hD h2
/-- parts_among(numbers, number): which of the numbers lie within one -/
def sp_parts (K : PySem.W.Frag) : Sp := fun vs H Q _ => ∃ (a : Addr) (n g : Nat) (f : Nat → Nat), vs = [.ref a, .int (g : Nat)] ∧ SqL K H a ((List.range n).map fun i => V.int (f i : Nat)) ∧ n ≤ 1000 ∧
  ∀ H', Same H H' → Q (.int (mask n fun i => part (f i) g : Nat)) H'
theorem ok_parts (T : Tx K mg W_) : FnOk P w K mg base CX0 1 T.a_parts_among T.d_parts_among ["numbers", "number"] (sp_parts K) := by
  refine T.F_parts_among.ok sc_parts_among (fun vs H Q E h => ?_) (fun cdv A outer s H vs Q E hr h => ?_)
  · obtain ⟨a, n, g, f, rfl, _⟩ := h
    rfl
  obtain ⟨a, n, g, f, rfl, hs, hn, q⟩ := h
  refine ⟨_, pss_one (ps_ret (pe_callB (cr_sum rfl) (by rfl) T.n_sum (by decide +kernel) (pa_cons (pe_lc (own := [("place", 2), ("other", 3)]) (g := gTup K 2 (gCons (gName 2) (gCons (gName 3) gNil))) rfl sc_parts_among.nd (pi_enum (by rfl) T.n_enumerate (pa_cons (pv 0) pa_nil)) (blkOk_by (N := N_parts_among) (sc := defScope St_parts_among) (by decide +kernel)) (fun _ _ _ _ _ => (pg_tup rfl (pgs_cons (pg_name (i := 2) sc_parts_among.nd rfl (Or.inl rfl)) (pgs_cons (pg_name (i := 3) sc_parts_among.nd rfl (Or.inl rfl)) pgs_nil)))) (fun _ _ _ _ _ => (pts_one (pt_cmpR op_eq (pe_op op_and (pv 3) (pe_un un_inv (pv 1))) pe_int (nomark _)))) (fun _ _ _ _ _ => (pe_op op_shl pe_int (pv 2)))) pa_nil))), ?_⟩
  refine ⟨_, rfl, a, _, rfl, hs, fun D hD => ?_⟩
  refine lc_fold walk_enum hD (fun i _ ys => i ≤ n ∧ ys = (((List.range i).filter fun i => part (f i) g).map fun i => ((2 ^ i : Nat) : Int)).map V.int) (fun _ => ⟨Nat.zero_le _, rfl⟩) (fun i _ _ xs _ h => h) ?_ (fun H2 s2 => (s2.seq hs)) ?_ ?_
  · rintro i _ ys ⟨hi, rfl⟩
    rw [List.length_map, List.length_map]
    have := filter_le (fun i => part (f i) g) i
    omega
  · rintro i x H2 H3 ys Nx Ex hi s2 ⟨_, rfl⟩ ⟨t, x1, x2, rfl, ht, rfl, e1, e2⟩ k1 k2
    cases e1
    obtain ⟨hi, rfl⟩ := at_map' e2
    have s3 : Same H2 (upd H2 t (.tup [.int (i : Nat), .int (f i : Nat)])) := Same.new ht _
    have h3 : upd H2 t (.tup [.int (i : Nat), .int (f i : Nat)]) t = some (.tup [.int (i : Nat), .int (f i : Nat)]) := upd_same
    generalize upd H2 t (.tup [.int (i : Nat), .int (f i : Nat)]) = H3 at s3 h3 ⊢
    refine ⟨t, _, rfl, SqT.of (K := K) h3, rfl, _, _, rfl, _, _, rfl, ⟨rfl, rfl, ?_⟩⟩
    refine ⟨_, rfl, _, rfl, _, rfl, _, _, rfl, rfl, rfl, _, rfl, ?_⟩
    rw [part_is]
    refine ite2 (fun c => ?_) (fun c => ?_)
    · refine ⟨_, rfl, _, _, rfl, rfl, ⟨Int.natCast_nonneg _, by omega, by decide⟩, k1 _ _ s3 ⟨hi, ?_⟩⟩
      rw [filter_snoc, if_pos c, List.map_append, List.map_append]
      show _ ++ [V.int (1 * 2 ^ ((i : Int)).toNat)] = _
      rw [one_shl]
      rfl
    · refine k2 _ s3 ⟨hi, ?_⟩
      rw [filter_snoc, if_neg c, List.append_nil]
  · rintro H2 ys s2 h2 ⟨_, rfl⟩
    rw [List.length_map, List.length_range] at h2
    refine ⟨D, _, rfl, SqL.of (K := K) h2, ?_⟩
    rw [sum_mask]
    exact q H2 s2
end
section
variable {P : Program} {w W_ : World} {K : PySem.W.Frag} {mg : Str → Option Value} {base : Heap}
local macro_rules | `(tactic| walk_at "lk") => `(tactic| (simp only [lookup_putF]; repeat (first | rw [if_pos rfl] | rw [if_neg (by decide)])))
/-- what stands at b but for p and its changes -/
theorem upd_at {H : Hp} {p b : Addr} {o u : HO} (n : b ≠ p) (h : H b = some u) : upd H p o b = some u := by rw [upd_ne n]; exact h
theorem put_len (f : Str) (v : V) (fs : List (Str × V)) : (putF f v fs).length ≤ fs.length + 1 := by have := length_putF f v fs; omega
def sp_lat_init (K : PySem.W.Frag) (mm : List (Str × Addr)) : Sp := fun vs H Q _ => ∃ (p na da C dx : Addr) (fs0 : List (Str × V)) (L : Lt), vs = [.ref p, .str L.label, .ref na, .ref da, .int (L.depth : Nat)] ∧ H p = some (.ins C dx fs0) ∧ LatC K mm C ∧ fs0.length ≤ 10 ∧
  (∀ q ∈ mm, fs0.lookup q.1 = none) ∧ na ≠ p ∧ da ≠ p ∧ SqL K H na (L.names.map V.str) ∧ (SqL K H da (downsV L) ∨ (NdT K H da ∧ SqT K H da (downsV L))) ∧ L.n ≤ 64 ∧
  ∀ H' fs tn td tu, But p H H' → LatAt K mm H' p L C dx fs tn td tu → (∀ f, f ∉ latAttrs → fs.lookup f = fs0.lookup f) → Q .non H'
theorem ok_lat_init (T : Tx K mg W_) : FnOk P w K mg base CX0 2 T.a_Lattice_init T.d_Lattice_init ["self", "label", "names", "downs", "depth"] (sp_lat_init K T.mm) := by
  have G_first_place := ok_first (P := P) (w := w) (base := base) T
  refine T.F_Lattice_init.ok sc_Lattice_init (fun vs H Q E h => ?_) (fun cdv A outer s H vs Q E hr h => ?_)
  · obtain ⟨p, na, da, C, dx, fs0, L, rfl, _⟩ := h
    rfl
  obtain ⟨p, na, da, C, dx, fs0, L, rfl, hp, lc, z0, no, nna, nda, hna, hda, hn, q⟩ := h
  refine ⟨_, pss_cons (ps_set (i := 5) sc_Lattice_init.nd rfl (Or.inr rfl) (pe_listRg rfl (by rfl) T.n_list (prg_1 (by rfl) T.n_range (pe_callB call_len_seq (by rfl) T.n_len (by decide +kernel) (pa_cons (pv 2) pa_nil)))))
    (pss_cons (ps_fld (pv 0) (pv 1) rfl)
    (pss_cons (ps_fld (pv 0) (pe_callB call_len_seq (by rfl) T.n_len (by decide +kernel) (pa_cons (pv 2) pa_nil)) rfl)
    (pss_cons (ps_fld (pv 0) (pv 4) rfl)
    (pss_cons (ps_fld (pv 0) (pe_callTy call_tupleN (by rfl) T.n_tuple (by decide +kernel) (pa_cons (pv 2) pa_nil)) rfl)
    (pss_cons (ps_fld (pv 0) (pe_callTy call_tupleN (by rfl) T.n_tuple (by decide +kernel) (pa_cons (pv 3) pa_nil)) rfl)
    (pss_cons (ps_fld (pv 0) (pe_callTy call_tupleN (by rfl) T.n_tuple (by decide +kernel) (pa_cons (pe_lc (own := [("a", 7)]) (g := gName 7) (tt := tYes) rfl sc_Lattice_init.nd (pi_list (pv 5)) (blkOk_by (N := N_Lattice_init) (sc := defScope St_Lattice_init) (by decide +kernel)) (fun _ _ _ _ _ => (pg_name (i := 7) sc_Lattice_init.nd rfl (Or.inr rfl))) (fun _ _ _ _ _ => pts_nil) (fun _ _ _ _ _ => (pe_callB (kx_cr_sum K) (by rfl) T.n_sum (by decide +kernel) (pa_cons (pe_lc (own := [("b", 6)]) (g := gName 6) rfl sc_Lattice_init.nd (kx_pi_list K (pi_list (pv 5))) (blkOk_by (N := N_Lattice_init) (by first | rfl | kernel_rfl)) (fun _ _ _ _ _ => (pg_name (i := 6) sc_Lattice_init.nd rfl (Or.inl rfl))) (fun _ _ _ _ _ => (pts_one (pt_cmpR op_eq (pe_op op_and (pe_op op_shr (pe_ix (kx_ix_seq K) (pv 3) (pv 6) (fun _ _ => rfl)) (pv 7)) pe_int) pe_int (nomark _)))) (fun _ _ _ _ _ => (pe_op op_shl pe_int (pv 6)))) pa_nil)))) pa_nil)) rfl)
    (pss_cons (ps_set (i := 8) sc_Lattice_init.nd rfl (Or.inl rfl) (pe_op op_sub (pe_op op_shl pe_int (pe_callB call_len_seq (by rfl) T.n_len (by decide +kernel) (pa_cons (pv 2) pa_nil))) pe_int))
    (pss_cons (ps_fld (pv 0) (pe_call G_first_place (hr.mono (by omega)) (by rfl) T.g_first_place T.F_first_place.kp T.b_first_place .nil pass0 (pa_cons (pe_fld (pv 0) rfl) (pa_cons (pv 8) pa_nil))) rfl)
    (pss_one (ps_fld (pv 0) (pe_call G_first_place (hr.mono (by omega)) (by rfl) T.g_first_place T.F_first_place.kp T.b_first_place .nil pass0 (pa_cons (pe_fld (pv 0) rfl) (pa_cons (pv 8) pa_nil))) rfl)))))))))), ?_⟩
  have en : ((L.names.map V.str).length : Nat) = L.n := List.length_map _
  refine ⟨_, rfl, na, _, rfl, .inl hna, _, rfl, ?_⟩
  rw [en]
  refine ⟨RgOk.of_le (by decide) (by omega) (by decide) (by omega), newQ (.lst (rgV 0 (L.n : Nat))) fun pl hpl s1 h1 => ?_⟩
  rw [rg_nat] at s1 h1
  rw [rg_nat]
  generalize upd H pl (.lst (natV (List.range L.n))) = H1 at s1 h1 ⊢
  -- label
  have p1 := s1 _ _ hp
  have na1 : SqL K H1 na _ := s1.seq hna
  have da1 : SqL K H1 da (downsV L) ∨ (NdT K H1 da ∧ SqT K H1 da (downsV L)) := hda.imp (fun x => s1.seq x) (fun x => ⟨x.1.keep s1.keeps, s1.keeps.sqT x.2⟩)
  have b1 : But p H H1 := s1.but p
  have npl : pl ≠ p := ne_of h1 p1 (by intro z; cases z)
  refine ⟨_, rfl, _, rfl, p, C, dx, _, rfl, p1, lc.cl, lc.na _ (by decide), by omega, ?_⟩
  have b2 := b1.upd (.ins C dx (putF "label" (.str L.label) fs0))
  have p2 : upd H1 p (.ins C dx (putF "label" (.str L.label) fs0)) p = _ := upd_same
  have c2 : But p H1 (upd H1 p (.ins C dx (putF "label" (.str L.label) fs0))) := (But.refl p H1).upd _
  generalize upd H1 p (.ins C dx (putF "label" (.str L.label) fs0)) = H2 at b2 p2 c2 ⊢
  have na2 : SqL K H2 na _ := c2.seq nna na1
  have k2 := c2.keeps p1 trivial
  have da2 : SqL K H2 da (downsV L) ∨ (NdT K H2 da ∧ SqT K H2 da (downsV L)) := da1.imp (fun x => c2.seq nda x) (fun x => ⟨x.1.keep k2, k2.sqT x.2⟩)
  have h2 := c2 _ _ npl h1
  -- size
  have z1 := put_len "label" (.str L.label) fs0
  generalize hf1 : putF "label" (.str L.label) fs0 = fs1 at p2 z1
  refine ⟨_, rfl, na, _, rfl, .inl na2, _, rfl, p, C, dx, _, rfl, p2, lc.cl, lc.na _ (by decide), by omega, ?_⟩
  rw [en]
  have b3 := b2.upd (.ins C dx (putF "size" (.int (L.n : Nat)) fs1))
  have p3 : upd H2 p (.ins C dx (putF "size" (.int (L.n : Nat)) fs1)) p = _ := upd_same
  have c3 : But p H2 (upd H2 p (.ins C dx (putF "size" (.int (L.n : Nat)) fs1))) := (But.refl p H2).upd _
  generalize upd H2 p (.ins C dx (putF "size" (.int (L.n : Nat)) fs1)) = H3 at b3 p3 c3 ⊢
  have z2 := put_len "size" (.int (L.n : Nat)) fs1
  generalize hf2 : putF "size" (.int (L.n : Nat)) fs1 = fs2 at p3 z2
  -- depth
  refine ⟨_, rfl, _, rfl, p, C, dx, _, rfl, p3, lc.cl, lc.na _ (by decide), by omega, ?_⟩
  have b4 := b3.upd (.ins C dx (putF "depth" (.int (L.depth : Nat)) fs2))
  have p4 : upd H3 p (.ins C dx (putF "depth" (.int (L.depth : Nat)) fs2)) p = _ := upd_same
  have c4 : But p H2 (upd H3 p (.ins C dx (putF "depth" (.int (L.depth : Nat)) fs2))) := c3.upd _
  generalize upd H3 p (.ins C dx (putF "depth" (.int (L.depth : Nat)) fs2)) = H4 at b4 p4 c4 ⊢
  have z3 := put_len "depth" (.int (L.depth : Nat)) fs2
  generalize hf3 : putF "depth" (.int (L.depth : Nat)) fs2 = fs3 at p4 z3
  have k4 := c4.keeps p2 trivial
  have na4 : SqL K H4 na _ := c4.seq nna na2
  have da4 : SqL K H4 da (downsV L) ∨ (NdT K H4 da ∧ SqT K H4 da (downsV L)) := da2.imp (fun x => c4.seq nda x) (fun x => ⟨x.1.keep k4, k4.sqT x.2⟩)
  have h4 := c4 _ _ npl h2
  -- value_names
  refine ⟨_, rfl, na, _, rfl, .inl ⟨na4, fun tn on htn dtn => ?_⟩⟩
  have s5 : Same H4 (upd H4 tn (.frz on (.tup (L.names.map V.str)))) := Same.new htn _
  have t5 : upd H4 tn (.frz on (.tup (L.names.map V.str))) tn = _ := upd_same
  generalize upd H4 tn (.frz on (.tup (L.names.map V.str))) = H5 at s5 t5 ⊢
  have p5 := s5 _ _ p4
  refine ⟨_, rfl, p, C, dx, _, rfl, p5, lc.cl, lc.na _ (by decide), by omega, ?_⟩
  have c6 : But p H5 (upd H5 p (.ins C dx (putF "value_names" (.ref tn) fs3))) := (But.refl p H5).upd _
  have b6 := (b4.trans (s5.but p)).trans c6
  have p6 : upd H5 p (.ins C dx (putF "value_names" (.ref tn) fs3)) p = _ := upd_same
  generalize upd H5 p (.ins C dx (putF "value_names" (.ref tn) fs3)) = H6 at b6 p6 c6 ⊢
  have k6 := c6.keeps p5 trivial
  have z4 := put_len "value_names" (.ref tn) fs3
  generalize hf4 : putF "value_names" (.ref tn) fs3 = fs4 at p6 z4
  have tn6 : NdT K H6 tn ∧ SqT K H6 tn (L.names.map V.str) := ⟨.inl ⟨on, _, k6.frz _ _ _ t5, dtn⟩, .inl (.inr ⟨on, k6.frz _ _ _ t5⟩)⟩
  have da6 : SqL K H6 da (downsV L) ∨ (NdT K H6 da ∧ SqT K H6 da (downsV L)) := da4.imp (fun x => c6.seq nda (s5.seq x)) (fun x => ⟨(x.1.keep s5.keeps).keep k6, k6.sqT (s5.keeps.sqT x.2)⟩)
  have h6 := c6 _ _ npl (s5 _ _ h4)
  have na6 : SqL K H6 na _ := c6.seq nna (s5.seq na4)
  -- downs
  dsimp only
  refine fld_run (fun v H' => ∃ td, v = .ref td ∧ Same H6 H' ∧ NdT K H' td ∧ SqT K H' td (downsV L)) (fun Q' q' => ?_) ?_
  · refine ⟨_, rfl, da, downsV L, rfl, da6.imp (fun x => ⟨x, fun td o ht dt => q' _ _ ⟨td, rfl, Same.new ht _, .inl ⟨o, _, upd_same, dt⟩, .inl (.inr ⟨o, upd_same⟩)⟩⟩) (fun x => ⟨x.2, q' _ _ ⟨da, rfl, Same.refl _, x⟩⟩)⟩
  rintro _ H7 ⟨td, rfl, s7, td7⟩
  have p7 := s7 _ _ p6
  refine ⟨_, rfl, p, C, dx, _, rfl, p7, lc.cl, lc.na _ (by decide), by omega, ?_⟩
  have c8 : But p H7 (upd H7 p (.ins C dx (putF "downs" (.ref td) fs4))) := (But.refl p H7).upd _
  have b8 := (b6.trans (s7.but p)).trans c8
  have p8 : upd H7 p (.ins C dx (putF "downs" (.ref td) fs4)) p = _ := upd_same
  generalize upd H7 p (.ins C dx (putF "downs" (.ref td) fs4)) = H8 at b8 p8 c8 ⊢
  have k8 := c8.keeps p7 trivial
  have k68 : Keeps H6 H8 := s7.keeps.trans k8
  have z5 := put_len "downs" (.ref td) fs4
  generalize hf5 : putF "downs" (.ref td) fs4 = fs5 at p8 z5
  have tn8 : NdT K H8 tn ∧ SqT K H8 tn (L.names.map V.str) := ⟨tn6.1.keep k68, k68.sqT tn6.2⟩
  have td8 : NdT K H8 td ∧ SqT K H8 td (downsV L) := ⟨td7.1.keep k8, k8.sqT td7.2⟩
  have da8 : SqL K H8 da (downsV L) ∨ SqT K H8 da (downsV L) := da6.imp (fun x => c8.seq nda (s7.seq x)) (fun x => k68.sqT x.2)
  have h8 := c8 _ _ npl (s7 _ _ h6)
  have na8 : SqL K H8 na _ := c8.seq nna (s7.seq na6)
  -- ups
  refine ⟨_, rfl, pl, rfl, ⟨_, SqL.of (K := K) h8⟩, fun D hD => ?_⟩
  refine lc_fold (walk_list (K := K) (a := pl) (xs := natV (List.range L.n))) hD (fun i _ ys => i ≤ L.n ∧ ys = (List.range i).map fun a => V.int (L.up a : Nat)) (fun _ => ⟨Nat.zero_le _, rfl⟩) (fun i _ _ xs _ h => h) ?_ (fun H9 s9 => s9.seq (SqL.of (K := K) h8)) ?_ ?_
  · rintro i _ ys ⟨hi, rfl⟩
    rw [List.length_map, List.length_range]; omega
  · rintro i x H9 _ ys Nx Ex hi s9 ⟨_, rfl⟩ ⟨rfl, ex⟩ k1 k2'
    obtain ⟨hi, rfl⟩ := at_map' ex
    refine ⟨rfl, ?_⟩
    refine lcY ?_
    refine ⟨_, rfl, pl, rfl, ⟨_, SqL.of (K := K) (s9 _ _ h8)⟩, fun D2 hD2 => ?_⟩
    refine lc_fold (walk_list (K := K) (a := pl) (xs := natV (List.range L.n))) hD2 (fun j _ ys => j ≤ L.n ∧ ys = (((List.range j).filter fun b => L.le i b).map fun b => ((2 ^ b : Nat) : Int)).map V.int) (fun _ => ⟨Nat.zero_le _, rfl⟩) (fun i _ _ xs _ h => h) ?_ (fun H10 s10 => s10.seq (SqL.of (K := K) (s9 _ _ h8))) ?_ ?_
    · rintro j _ ys ⟨hj, rfl⟩
      rw [List.length_map, List.length_map]
      have := filter_le (fun b => L.le i b) j
      omega
    · rintro j x H10 _ ys Nx2 Ex2 hj s10 ⟨_, rfl⟩ ⟨rfl, ex⟩ k3 k4'
      obtain ⟨hj, rfl⟩ := at_map' ex
      refine ⟨rfl, ?_⟩
      refine ans_run (b := L.le i j) (fun Q' q' => ?_) ?_
      · have e : decide (V.int (Builtin.bitAnd ((L.down j : Int) / 2 ^ ((i : Int)).toNat) 1) = V.int 1) = L.le i j := by
          rw [dec_int, Int.toNat_natCast, bit_is]
          show (mask L.n fun i => L.le i j).testBit i = _
          rw [mask_bit, decide_eq_true hi, Bool.true_and]
        rw [← e] at q'
        refine ⟨_, rfl, _, rfl, ?_⟩
        rcases da8 with d | d
        · exact .inl ⟨da, _, _, _, rfl, rfl, (s9.trans s10).seq d, atI_nat (at_map hj), _, rfl, _, _, rfl, rfl, Int.natCast_nonneg _, _, _, rfl, rfl, rfl, _, rfl, q'⟩
        · exact .inr (.inl ⟨da, _, _, _, rfl, rfl, (s9.trans s10).keeps.sqT d, atI_nat (at_map hj), _, rfl, _, _, rfl, rfl, Int.natCast_nonneg _, _, _, rfl, rfl, rfl, _, rfl, q'⟩)
      · refine ite2 (fun c => ?_) (fun c => ?_)
        · refine ⟨_, rfl, _, _, rfl, rfl, ⟨Int.natCast_nonneg _, by omega, by decide⟩, k3 _ _ (Same.refl _) ⟨hj, ?_⟩⟩
          rw [filter_snoc, if_pos c, List.map_append, List.map_append]
          show _ ++ [V.int (1 * 2 ^ ((j : Int)).toNat)] = _
          rw [one_shl]
          rfl
        · refine k4' _ (Same.refl _) ⟨hj, ?_⟩
          rw [filter_snoc, if_neg c, List.append_nil]
    · rintro H10 ys s10 h10 ⟨_, rfl⟩
      rw [natV_length, List.length_range] at h10
      refine ⟨D2, _, rfl, SqL.of (K := K) h10, ?_⟩
      rw [sum_mask]
      refine k1 _ _ s10 ⟨hi, ?_⟩
      rw [List.range_succ, List.map_append]
      rfl
  rintro H9 ys s9 h9 ⟨_, rfl⟩
  rw [natV_length, List.length_range] at h9
  refine ⟨D, _, rfl, .inl ⟨SqL.of (K := K) h9, fun tu ou htu dtu => ?_⟩⟩
  have s10 : Same H9 (upd H9 tu (.frz ou (.tup (upsV L)))) := Same.new htu _
  have t10 : upd H9 tu (.frz ou (.tup (upsV L))) tu = _ := upd_same
  show (_ : Hp → Prop) (upd H9 tu (.frz ou (.tup (upsV L))))
  generalize upd H9 tu (.frz ou (.tup (upsV L))) = H10 at s10 t10 ⊢
  have p10 := s10 _ _ (s9 _ _ p8)
  refine ⟨_, rfl, p, C, dx, _, rfl, p10, lc.cl, lc.na _ (by decide), by omega, ?_⟩
  have c11 : But p H10 (upd H10 p (.ins C dx (putF "ups" (.ref tu) fs5))) := (But.refl p H10).upd _
  have b11 := (b8.trans ((s9.trans s10).but p)).trans c11
  have p11 : upd H10 p (.ins C dx (putF "ups" (.ref tu) fs5)) p = _ := upd_same
  generalize upd H10 p (.ins C dx (putF "ups" (.ref tu) fs5)) = H11 at b11 p11 c11 ⊢
  have k11 := c11.keeps p10 trivial
  have k811 : Keeps H8 H11 := (s9.trans s10).keeps.trans k11
  have z6 := put_len "ups" (.ref tu) fs5
  generalize hf6 : putF "ups" (.ref tu) fs5 = fs6 at p11 z6
  have tn11 : NdT K H11 tn ∧ SqT K H11 tn (L.names.map V.str) := ⟨tn8.1.keep k811, k811.sqT tn8.2⟩
  have td11 : NdT K H11 td ∧ SqT K H11 td (downsV L) := ⟨td8.1.keep k811, k811.sqT td8.2⟩
  have tu11 : NdT K H11 tu ∧ SqT K H11 tu (upsV L) := ⟨.inl ⟨ou, _, k11.frz _ _ _ t10, dtu⟩, .inl (.inr ⟨ou, k11.frz _ _ _ t10⟩)⟩
  have na11 : SqL K H11 na _ := c11.seq nna (s10.seq (s9.seq na8))
  -- whole
  refine ⟨_, rfl, na, _, rfl, .inl na11, ?_⟩
  rw [en]
  refine ⟨_, _, rfl, rfl, ⟨Int.natCast_nonneg _, by omega, by decide⟩, _, _, rfl, rfl, ?_⟩
  have ew : (1 : Int) * 2 ^ ((L.n : Int)).toNat - 1 = ((2 ^ L.n - 1 : Nat) : Int) := by
    rw [one_shl]
    have : 1 ≤ 2 ^ L.n := Nat.one_le_two_pow
    omega
  -- bottom_at
  refine ⟨_, rfl, p, C, dx, fs6, _, rfl, p11, lc.cl, lc.na _ (by decide), (by rw [← hf6, lookup_putF, if_pos rfl]), _, rfl, tu, L.n, 2 ^ L.n - 1, L.up, (by rw [← ew]; rfl), tu11.1, tu11.2, by omega, fun H12 s12 => ?_⟩
  have p12 := s12 _ _ p11
  refine ⟨_, rfl, p, C, dx, _, rfl, p12, lc.cl, lc.na _ (by decide), by omega, ?_⟩
  have c13 : But p H12 (upd H12 p (.ins C dx (putF "bottom_at" (optV L.bot) fs6))) := (But.refl p H12).upd _
  have b13 := (b11.trans (s12.but p)).trans c13
  have p13 : upd H12 p (.ins C dx (putF "bottom_at" (optV L.bot) fs6)) p = _ := upd_same
  show (_ : Hp → Prop) (upd H12 p (.ins C dx (putF "bottom_at" (optV L.bot) fs6)))
  generalize upd H12 p (.ins C dx (putF "bottom_at" (optV L.bot) fs6)) = H13 at b13 p13 c13 ⊢
  have k13 := c13.keeps p12 trivial
  have k1113 : Keeps H11 H13 := s12.keeps.trans k13
  have z7 := put_len "bottom_at" (optV L.bot) fs6
  generalize hf7 : putF "bottom_at" (optV L.bot) fs6 = fs7 at p13 z7
  -- top_at
  refine ⟨_, rfl, p, C, dx, fs7, _, rfl, p13, lc.cl, lc.na _ (by decide), (by rw [← hf7, lookup_putF, if_neg (by decide), ← hf6, lookup_putF, if_neg (by decide), ← hf5, lookup_putF, if_pos rfl]), _, rfl, td, L.n, 2 ^ L.n - 1, L.down, (by rw [← ew]; rfl), td11.1.keep k1113, k1113.sqT td11.2, by omega, fun H14 s14 => ?_⟩
  have p14 := s14 _ _ p13
  refine ⟨_, rfl, p, C, dx, _, rfl, p14, lc.cl, lc.na _ (by decide), by omega, ?_⟩
  have c15 : But p H14 (upd H14 p (.ins C dx (putF "top_at" (optV L.top) fs7))) := (But.refl p H14).upd _
  have b15 := (b13.trans (s14.but p)).trans c15
  have p15 : upd H14 p (.ins C dx (putF "top_at" (optV L.top) fs7)) p = _ := upd_same
  show (_ : Hp → Prop) (upd H14 p (.ins C dx (putF "top_at" (optV L.top) fs7)))
  generalize upd H14 p (.ins C dx (putF "top_at" (optV L.top) fs7)) = H15 at b15 p15 c15 ⊢
  have k15 : Keeps H11 H15 := (k1113.trans s14.keeps).trans (c15.keeps p14 trivial)
  have look : ∀ f, (putF "top_at" (optV L.top) fs7).lookup f = if f = "top_at" then some (optV L.top) else if f = "bottom_at" then some (optV L.bot) else if f = "ups" then some (.ref tu) else if f = "downs" then some (.ref td) else
      if f = "value_names" then some (.ref tn) else if f = "depth" then some (.int (L.depth : Nat)) else if f = "size" then some (.int (L.n : Nat)) else if f = "label" then some (.str L.label) else fs0.lookup f := fun f => by
    rw [lookup_putF, ← hf7, lookup_putF, ← hf6, lookup_putF, ← hf5, lookup_putF, ← hf4, lookup_putF, ← hf3, lookup_putF, ← hf2, lookup_putF, ← hf1, lookup_putF]
  have other : ∀ f, f ∉ latAttrs → (putF "top_at" (optV L.top) fs7).lookup f = fs0.lookup f := fun f hf => by
    simp only [latAttrs, List.mem_cons, List.not_mem_nil, or_false, not_or] at hf
    obtain ⟨e1, e2, e3, e4, e5, e6, e7, e8⟩ := hf
    rw [look, if_neg e8, if_neg e7, if_neg e6, if_neg e5, if_neg e4, if_neg e3, if_neg e2, if_neg e1]
  refine q H15 _ tn td tu b15 ⟨p15, lc, fun x hx => ?_, ?_, ?_, ?_, ?_, ?_, ?_, ?_, ?_, ⟨tn11.1.keep k15, k15.sqT tn11.2⟩, ⟨td11.1.keep k15, k15.sqT td11.2⟩, ⟨tu11.1.keep k15, k15.sqT tu11.2⟩⟩ other
  · rw [other _ (T.mm_out x hx)]
    exact no x hx
  all_goals (rw [look]; repeat (first | rw [if_pos rfl] | rw [if_neg (by decide)]))
end
section
theorem empty_app (x : Str) : Str.empty ++ x = x := by
  obtain ⟨a⟩ := x
  show (⟨#[] ++ a⟩ : Str) = ⟨a⟩
  rw [Array.empty_append]
theorem log_small {i : Nat} (h : i < 2 ^ 64) : ((i : Nat) : Int).natAbs.log2 < 1920 := by
  rw [Int.natAbs_natCast]
  rcases Nat.eq_zero_or_pos i with e | e
  · subst e; decide
  · exact Nat.lt_trans ((Nat.log2_lt (by omega)).mpr h) (by decide)
def natS (i : Nat) : Str := Str.ofString (toString ((i : Nat) : Int))
theorem mask_upto {n i : Nat} (h : i < n) : mask n (fun a => decide (a ≤ i)) = 2 ^ (i + 1) - 1 := by
  refine Nat.eq_of_testBit_eq fun j => ?_
  rw [mask_bit, Nat.testBit_two_pow_sub_one]
  by_cases c : j ≤ i
  · have : j < n := by omega
    have c2 : j < i + 1 := by omega
    simp [c, this, c2]
  · have c2 : ¬ j < i + 1 := by omega
    simp [c, c2]
theorem natS_len {i : Nat} (h : i ≤ 100) : (natS i).length ≤ 3 := by
  have q : ∀ j : Fin 101, (natS j.val).length ≤ 3 := by decide +kernel
  exact q ⟨i, by omega⟩
theorem small_line {n : Nat} (h : n ≤ 1000000) : n ≤ sizeLine := Nat.le_trans h (by decide)
def chainL (n : Nat) : Lt := { label := ("(chain " : Str) ++ natS n ++ (")" : Str), names := (List.range n).map natS, le := fun a b => decide (a ≤ b), depth := 1 }
theorem chainL_n (n : Nat) : (chainL n).n = n := by simp [chainL, Lt.n]
variable {w W_ : World} {K : PySem.W.Frag} {mg : Str → Option Value} {base : Heap}
def sp_chain (K : PySem.W.Frag) (mm : List (Str × Addr)) (C : Addr) : Sp := fun vs H Q _ => ∃ (p dx : Addr) (n : Nat), vs = [.ref p, .int (n : Nat)] ∧ H p = some (.ins C dx []) ∧ 1 ≤ n ∧ n ≤ 64 ∧
  ∀ H', But p H H' → IsLat K mm H' p (chainL n) → Q .non H'
theorem ok_chain (T : Tx K mg W_) : FnOk PL w K mg base CX0 3 T.a_ChainLattice_init T.d_ChainLattice_init ["self", "count"] (sp_chain K T.mm T.a_ChainLattice) := by
  have G_Lattice_init := ok_lat_init (P := PL) (w := w) (base := base) T
  obtain ⟨u4, B4⟩ := T.b4_Lattice_init
  refine T.F_ChainLattice_init.ok sc_ChainLattice_init (by rfl) (by rfl) (by rfl) ⟨_, rfl, rfl⟩ (by decide +kernel) T.ci_ChainLattice T.n_super T.st_any (fun vs H Q E h => ?_) (fun cda cc A outer s H vs Q E hr S h => ?_)
  · obtain ⟨p, dx, n, rfl, _⟩ := h
    rfl
  obtain ⟨p, dx, n, rfl, hp, n1, n64, q⟩ := h
  refine ⟨_, psa_cons (ps_if (pt_not (pt_chain op_le op_le pe_int (pv 1) (pe_glob (v := .int 64) (by rfl) T.g_MOST_VALUES.choose_spec ⟨_, rfl⟩))) (pss_one ps_dead) pss_nil)
    (psa_cons (ps_setLc (i := 2) (own := [("number", 3)]) (g := gName 3) (tt := tYes) rfl sc_ChainLattice_init.nd rfl rfl (sw_true rfl rfl rfl (by decide +kernel)) (pi_range1 (by rfl) T.n_range (pa_cons (pv 1) pa_nil)) (blkOk_by (N := N_ChainLattice_init) (sc := defScope St_ChainLattice_init) (by decide +kernel)) (fun _ _ _ _ _ => (pg_name (i := 3) sc_ChainLattice_init.nd rfl (Or.inl rfl))) (fun _ _ _ _ _ => pts_nil) (fun _ _ _ _ _ => (pe_callTy call_str_int (by rfl) T.n_str (by decide +kernel) (pa_cons (pv 3) pa_nil))))
    (psa_super (dvs := [.int 1]) S rfl (pa_cons (pe_joined (.cons pe_str (.cons (pe_fmt (pv 1)) (.cons pe_str PJ.nil)))) (pa_cons (pv 2) (pa_cons (pe_lc (own := [("number", 3)]) (g := gName 3) (tt := tYes) rfl sc_ChainLattice_init.nd (pi_range1 (by rfl) T.n_range (pa_cons (pv 1) pa_nil)) (blkOk_by (N := N_ChainLattice_init) (sc := defScope St_ChainLattice_init) (by decide +kernel)) (fun _ _ _ _ _ => (pg_name (i := 3) sc_ChainLattice_init.nd rfl (Or.inl rfl))) (fun _ _ _ _ _ => pts_nil) (fun _ _ _ _ _ => (pe_op op_sub (pe_op op_shl pe_int (pv 3)) pe_int))) pa_nil))) G_Lattice_init (hr.mono (by omega)) B4 (.cons ⟨_, rfl⟩ .nil) pass0 T.ty_Lattice T.fi_Lattice (by decide) rfl rfl rfl rfl rfl (psa_any pss_nil))), ?_⟩
  refine ⟨_, rfl, _, _, rfl, rfl, _, rfl, ?_⟩
  refine iteY (by omega) ?_
  refine ⟨_, _, rfl, rfl, _, rfl, ?_⟩
  rw [decide_eq_true (by omega : (n : Int) ≤ 64)]
  refine iteF ?_
  refine ⟨_, rfl, _, rfl, by omega, by omega, fun D hD => ?_⟩
  refine lc_fold walk_range hD (fun i _ ys => i ≤ n ∧ ys = ((List.range i).map natS).map V.str) (fun _ => ⟨Nat.zero_le _, rfl⟩) (fun i _ _ xs _ h => h) ?_ (fun _ _ => trivial) ?_ ?_
  · rintro i _ ys ⟨hi, rfl⟩
    rw [List.length_map, List.length_map, List.length_range]; omega
  · rintro i x H2 H3 ys Nx Ex hi s2 ⟨_, rfl⟩ ⟨rfl, ex⟩ k1 k2
    have hi : i < n := hi
    obtain rfl := yfn0 ex
    refine ⟨rfl, ?_⟩
    refine lcY ?_
    refine ⟨_, rfl, _, rfl, log_small (by omega), k1 _ _ (Same.refl _) ⟨hi, ?_⟩⟩
    rw [List.range_succ, List.map_append, List.map_append]
    rfl
  rintro H2 ys s2 h2 ⟨_, rfl⟩
  have p2 := s2 _ _ hp
  refine ⟨p, _, dx, _, rfl, p2, T.mr_ChainLattice, T.su_ChainLattice, ?_⟩
  have lbl : (chainL n).label = Str.empty ++ ("(chain " : Str) ++ natS n ++ (")" : Str) := by rw [empty_app]; rfl
  have nl := natS_len (i := n) (by omega)
  refine ⟨"(chain ", rfl, by decide, _, rfl, .inr ⟨_, rfl, log_small (by omega), natS n, rfl, small_line (by rw [Str.length_append, Str.length_append]; have : (Str.empty).length = 0 := rfl; have : ("(chain " : Str).length = 7 := rfl; omega),
    ")", rfl, small_line (by rw [Str.length_append, Str.length_append, Str.length_append]; have : (Str.empty).length = 0 := rfl; have : ("(chain " : Str).length = 7 := rfl; have : (")" : Str).length = 1 := rfl; omega), _, rfl, _, rfl, _, rfl, by omega, by omega, fun D2 hD2 => ?_⟩⟩
  refine lc_fold walk_range hD2 (fun i _ ys => i ≤ n ∧ ys = (List.range i).map fun b => V.int ((chainL n).down b : Nat)) (fun _ => ⟨Nat.zero_le _, rfl⟩) (fun i _ _ xs _ h => h) ?_ (fun _ _ => trivial) ?_ ?_
  · rintro i _ ys ⟨hi, rfl⟩
    rw [List.length_map, List.length_range]; omega
  · rintro i x H3 H4 ys Nx Ex hi s3 ⟨_, rfl⟩ ⟨rfl, ex⟩ k1 k2
    have hi : i < n := hi
    obtain rfl := yfn0 ex
    refine ⟨rfl, ?_⟩
    refine lcY ?_
    have e : (2 : Int) * 2 ^ ((i : Int)).toNat - 1 = (((chainL n).down i : Nat) : Int) := by
      show _ = ((mask (chainL n).n (fun a => decide (a ≤ i)) : Nat) : Int)
      rw [chainL_n, mask_upto hi, Int.toNat_natCast]
      have : 1 ≤ 2 ^ i := Nat.one_le_two_pow
      have e3 : ((2 ^ (i + 1) - 1 : Nat) : Int) = ((2 ^ (i + 1) : Nat) : Int) - 1 := by rw [Nat.pow_succ]; omega
      rw [e3, Nat.pow_succ, Int.natCast_mul, Int.natCast_pow, Int.mul_comm]
      rfl
    refine ⟨_, rfl, _, _, rfl, rfl, ⟨Int.natCast_nonneg _, by omega, by decide⟩, _, _, rfl, rfl, k1 _ _ (Same.refl _) ⟨hi, ?_⟩⟩
    rw [List.range_succ, List.map_append]
    show _ ++ [V.int (2 * 2 ^ ((i : Int)).toNat - 1)] = _
    rw [e]
    rfl
  rintro H3 ys s3 h3 ⟨_, rfl⟩
  have p3 := s3 _ _ p2
  have h23 := s3 _ _ h2
  refine ⟨p, D, D2, _, dx, [], chainL n, by rw [lbl]; rfl, p3, T.lc_ChainLattice, by decide, fun _ _ => rfl, ne_of h23 p3 (by intro z; cases z), ne_of h3 p3 (by intro z; cases z), SqL.of (K := K) h23, .inl (SqL.of (K := K) (by rw [h3]; unfold downsV; rw [chainL_n]; rfl)), by rw [chainL_n]; exact n64, fun H4 fs tn td tu b4 A _ => ?_⟩
  exact q H4 (((s2.trans s3).but p).trans b4) ⟨_, _, _, _, _, _, A⟩
end
section
/-- one digit of a number, as a text -/
def digS (m k : Nat) : Str := if m.testBit k then ("1" : Str) else ("0" : Str)
theorem digS_is (m k : Nat) : (Str.ofString (toString (Builtin.bitAnd ((m : Int) / 2 ^ k) 1)) : Str) = digS m k := by
  rw [bit_int]
  unfold digS
  cases m.testBit k <;> rfl
theorem digS_log (m k : Nat) : (Builtin.bitAnd ((m : Int) / 2 ^ k) 1).natAbs.log2 < 1920 := by
  rw [bit_int]
  cases m.testBit k <;> decide
theorem digS_len (m k : Nat) : (digS m k).length = 1 := by
  unfold digS
  cases m.testBit k <;> rfl
def setDigs (c m : Nat) : List Str := (List.range c).map fun j => digS m (c - 1 - j)
def setName (c m : Nat) : Str := PySem.Txt.join (("" : Str)) (setDigs c m)
def setsL (c : Nat) : Lt := { label := ("(sets " : Str) ++ natS c ++ (")" : Str), names := (List.range (2 ^ c)).map (setName c), le := fun a b => part a b, depth := 1 }
theorem setsL_n (c : Nat) : (setsL c).n = 2 ^ c := by simp [setsL, Lt.n]
theorem setDigs_sum (c m : Nat) : ((setDigs c m).map (·.length)).sum = c := by
  unfold setDigs
  rw [List.map_map]
  have : ((fun x : Str => x.length) ∘ fun j => digS m (c - 1 - j)) = fun _ => 1 := by funext j; exact digS_len _ _
  rw [this, List.map_const']
  simp
variable {w W_ : World} {K : PySem.W.Frag} {mg : Str → Option Value} {base : Heap}
def sp_sets (K : PySem.W.Frag) (mm : List (Str × Addr)) (C : Addr) : Sp := fun vs H Q _ => ∃ (p dx : Addr) (c : Nat), vs = [.ref p, .int (c : Nat)] ∧ H p = some (.ins C dx []) ∧ 1 ≤ c ∧ c ≤ 6 ∧
  ∀ H', But p H H' → IsLat K mm H' p (setsL c) → Q .non H'
theorem ok_sets (T : Tx K mg W_) : FnOk PL w K mg base CX0 3 T.a_SetLattice_init T.d_SetLattice_init ["self", "count"] (sp_sets K T.mm T.a_SetLattice) := by
  have G_Lattice_init := ok_lat_init (P := PL) (w := w) (base := base) T
  have G_parts_among := ok_parts (P := PL) (w := w) (base := base) T
  obtain ⟨u4, B4⟩ := T.b4_Lattice_init
  refine T.F_SetLattice_init.ok sc_SetLattice_init (by rfl) (by rfl) (by rfl) ⟨_, rfl, rfl⟩ (by decide +kernel) T.ci_SetLattice T.n_super T.st_any (fun vs H Q E h => ?_) (fun cda cc A outer s H vs Q E hr S h => ?_)
  · obtain ⟨p, dx, c, rfl, _⟩ := h
    rfl
  obtain ⟨p, dx, c, rfl, hp, c1, c6, q⟩ := h
  have two : 2 ^ c ≤ 64 := Nat.le_trans (Nat.pow_le_pow_right (by decide) c6) (by decide)
  refine ⟨_, psa_cons (ps_if (pt_not (pt_chain op_le op_le pe_int (pv 1) pe_int)) (pss_one ps_dead) pss_nil)
    (psa_cons (ps_set (i := 2) sc_SetLattice_init.nd rfl (Or.inr rfl) (pe_listRg rfl (by rfl) T.n_list (prg_1 (by rfl) T.n_range (pe_op op_shl pe_int (pv 1)))))
    (psa_cons (ps_setLc (i := 3) (own := [("number", 5)]) (g := gName 5) (tt := tYes) rfl sc_SetLattice_init.nd rfl rfl (sw_true rfl rfl rfl (by decide +kernel)) (pi_list (pv 2)) (blkOk_by (N := N_SetLattice_init) (sc := defScope St_SetLattice_init) (by decide +kernel)) (fun _ _ _ _ _ => (pg_name (i := 5) sc_SetLattice_init.nd rfl (Or.inr rfl))) (fun _ _ _ _ _ => pts_nil) (fun _ _ _ _ _ => (kx_pe_join K (pe_join pe_str (pe_lc (own := [("shift", 4)]) (g := gName 4) (tt := tYes) rfl sc_SetLattice_init.nd (pi_range3 (by rfl) T.n_range (pa_cons (pe_op op_sub (pv 1) pe_int) (pa_cons (pe_un un_neg pe_int) (pa_cons (pe_un un_neg pe_int) pa_nil)))) (blkOk_by (N := N_SetLattice_init) (by first | rfl | kernel_rfl)) (fun _ _ _ _ _ => (pg_name (i := 4) sc_SetLattice_init.nd rfl (Or.inl rfl))) (fun _ _ _ _ _ => pts_nil) (fun _ _ _ _ _ => (pe_callTy call_str_int (by rfl) T.n_str (by decide +kernel) (pa_cons (pe_op op_and (pe_op op_shr (pv 5) (pv 4)) pe_int) pa_nil))))))))
    (psa_super (dvs := [.int 1]) S rfl (pa_cons (pe_joined (.cons pe_str (.cons (pe_fmt (pv 1)) (.cons pe_str PJ.nil)))) (pa_cons (pv 3) (pa_cons (pe_lc (own := [("number", 5)]) (g := gName 5) (tt := tYes) rfl sc_SetLattice_init.nd (pi_list (pv 2)) (blkOk_by (N := N_SetLattice_init) (sc := defScope St_SetLattice_init) (by decide +kernel)) (fun _ _ _ _ _ => (pg_name (i := 5) sc_SetLattice_init.nd rfl (Or.inl rfl))) (fun _ _ _ _ _ => pts_nil) (fun _ _ _ _ _ => (pe_call G_parts_among (hr.mono (by omega)) (by rfl) T.g_parts_among T.F_parts_among.kp T.b_parts_among .nil pass0 (pa_cons (pv 2) (pa_cons (pv 5) pa_nil))))) pa_nil))) G_Lattice_init (hr.mono (by omega)) B4 (.cons ⟨_, rfl⟩ .nil) pass0 T.ty_Lattice T.fi_Lattice (by decide) rfl rfl rfl rfl rfl (psa_any pss_nil)))), ?_⟩
  refine ⟨_, rfl, _, _, rfl, rfl, _, rfl, ?_⟩
  refine iteY (by omega) ?_
  refine ⟨_, _, rfl, rfl, _, rfl, ?_⟩
  rw [decide_eq_true (by omega : (c : Int) ≤ 6)]
  refine iteF ?_
  have e2 : (1 : Int) * 2 ^ ((c : Int)).toNat = ((2 ^ c : Nat) : Int) := one_shl c
  refine ⟨_, rfl, _, _, rfl, rfl, ⟨Int.natCast_nonneg _, by omega, by decide⟩, _, rfl, ?_⟩
  rw [e2]
  have two' : ((2 ^ c : Nat) : Int) ≤ 64 := Int.ofNat_le.mpr two
  refine ⟨RgOk.of_le (by decide) (Int.le_trans two' (by decide)) (by decide) (Int.natCast_nonneg _), newQ (.lst (rgV 0 ((2 ^ c : Nat) : Int))) fun pl hpl s1 h1 => ?_⟩
  rw [rg_nat] at s1 h1
  rw [rg_nat]
  generalize upd H pl (.lst (natV (List.range (2 ^ c)))) = H1 at s1 h1 ⊢
  have p1 := s1 _ _ hp
  -- names
  refine ⟨_, rfl, pl, rfl, ⟨_, SqL.of (K := K) h1⟩, fun D hD => ?_⟩
  refine lc_fold (walk_list (K := K) (a := pl) (xs := natV (List.range (2 ^ c)))) hD (fun i _ ys => i ≤ 2 ^ c ∧ ys = ((List.range i).map (setName c)).map V.str) (fun _ => ⟨Nat.zero_le _, rfl⟩) (fun i _ _ xs _ h => h) ?_ (fun H9 s9 => s9.seq (SqL.of (K := K) h1)) ?_ ?_
  · rintro i _ ys ⟨hi, rfl⟩
    rw [List.length_map, List.length_map, List.length_range]; omega
  · rintro i x H2 H3 ys Nx Ex hi s2 ⟨_, rfl⟩ ⟨rfl, ex⟩ k1 k2
    obtain ⟨hi, rfl⟩ := at_map' ex
    refine ⟨rfl, ?_⟩
    refine lcY ?_
    refine ⟨⟨_, rfl⟩, ?_⟩
    refine ⟨_, rfl, _, _, rfl, rfl, _, rfl, _, rfl, (c : Int) - 1, -1, -1, _, rfl, RgC.neg (by omega) (by omega) (by omega) (by omega), fun D2 hD2 => ?_⟩
    have ec : ((c : Int) - 1 - -1).toNat = c := by omega
    refine lc_fold walk_rangeC hD2 (fun j _ ys => j ≤ c ∧ ys = ((List.range j).map fun j => digS i (c - 1 - j)).map V.str) (fun _ => ⟨Nat.zero_le _, rfl⟩) (fun i _ _ xs _ h => h) ?_ (fun _ _ => trivial) ?_ ?_
    · rintro j _ ys ⟨hj, rfl⟩
      rw [List.length_map, List.length_map, List.length_range]; omega
    · rintro j x H4 H5 ys Nx2 Ex2 hj s4 ⟨_, rfl⟩ ⟨rfl, rfl⟩ k3 k4
      rw [ec] at hj
      have es : ((c : Int) - 1 + (j : Nat) * -1).toNat = c - 1 - j := by omega
      refine ⟨rfl, ?_⟩
      refine lcY ?_
      refine ⟨_, rfl, _, rfl, _, _, rfl, rfl, (by show (0 : Int) ≤ (c : Int) - 1 + (j : Nat) * -1; omega), _, _, rfl, rfl, _, rfl, ?_, ?_⟩
      · show (Builtin.bitAnd ((i : Int) / 2 ^ ((c : Int) - 1 + (j : Nat) * -1).toNat) 1).natAbs.log2 < 1920
        exact digS_log _ _
      · have ed : (Str.ofString (toString (Builtin.bitAnd ((i : Int) / 2 ^ ((c : Int) - 1 + (j : Nat) * -1).toNat) 1)) : Str) = digS i (c - 1 - j) := by rw [es]; exact digS_is _ _
        have := k3 (.str (digS i (c - 1 - j))) _ (Same.refl _) ⟨hj, by rw [List.range_succ, List.map_append, List.map_append]; rfl⟩
        rw [← ed] at this
        exact this
    · rintro H4 ys s4 h4 ⟨_, rfl⟩
      rw [ec] at h4
      refine ⟨"", D2, setDigs c i, rfl, rfl, .inl (SqL.of (K := K) h4), ?_, k1 _ _ s4 ⟨hi, ?_⟩⟩
      · rw [setDigs_sum]
        show c + (setDigs c i).length * 0 ≤ _
        omega
      · rw [List.range_succ, List.map_append, List.map_append]
        rfl
  rintro H2 ys s2 h2 ⟨_, rfl⟩
  rw [natV_length, List.length_range] at h2
  have p2 := s2 _ _ p1
  have l2 := s2 _ _ h1
  refine ⟨p, _, dx, _, rfl, p2, T.mr_SetLattice, T.su_SetLattice, ?_⟩
  have lbl : (setsL c).label = Str.empty ++ ("(sets " : Str) ++ natS c ++ (")" : Str) := by rw [empty_app]; rfl
  have nl := natS_len (i := c) (by omega)
  refine ⟨"(sets ", rfl, by decide, _, rfl, .inr ⟨_, rfl, log_small (by omega), natS c, rfl, small_line (by rw [Str.length_append, Str.length_append]; have : (Str.empty).length = 0 := rfl; have : ("(sets " : Str).length = 6 := rfl; omega),
    ")", rfl, small_line (by rw [Str.length_append, Str.length_append, Str.length_append]; have : (Str.empty).length = 0 := rfl; have : ("(sets " : Str).length = 6 := rfl; have : (")" : Str).length = 1 := rfl; omega), _, rfl, ?_⟩⟩
  refine ⟨_, rfl, pl, rfl, ⟨_, SqL.of (K := K) l2⟩, fun D2 hD2 => ?_⟩
  refine lc_fold (walk_list (K := K) (a := pl) (xs := natV (List.range (2 ^ c)))) hD2 (fun i _ ys => i ≤ 2 ^ c ∧ ys = (List.range i).map fun b => V.int ((setsL c).down b : Nat)) (fun _ => ⟨Nat.zero_le _, rfl⟩) (fun i _ _ xs _ h => h) ?_ (fun H9 s9 => s9.seq (SqL.of (K := K) l2)) ?_ ?_
  · rintro i _ ys ⟨hi, rfl⟩
    rw [List.length_map, List.length_range]; omega
  · rintro i x H3 H4 ys Nx Ex hi s3 ⟨_, rfl⟩ ⟨rfl, ex⟩ k1 k2
    obtain ⟨hi, rfl⟩ := at_map' ex
    refine ⟨rfl, ?_⟩
    refine lcY ?_
    refine ⟨_, rfl, _, rfl, pl, 2 ^ c, i, fun i => i, rfl, s3.seq (SqL.of (K := K) l2), by omega, fun H5 s5 => k1 _ _ s5 ⟨hi, ?_⟩⟩
    rw [List.range_succ, List.map_append]
    show _ = _ ++ [V.int ((mask (setsL c).n fun a => part a i : Nat) : Int)]
    rw [setsL_n]
  rintro H3 ys s3 h3 ⟨_, rfl⟩
  rw [natV_length, List.length_range] at h3
  have p3 := s3 _ _ p2
  have h23 := s3 _ _ h2
  refine ⟨p, D, D2, _, dx, [], setsL c, by rw [lbl]; rfl, p3, T.lc_SetLattice, by decide, fun _ _ => rfl, ne_of h23 p3 (by intro z; cases z), ne_of h3 p3 (by intro z; cases z), SqL.of (K := K) h23, .inl (SqL.of (K := K) (by rw [h3]; unfold downsV; rw [setsL_n])), by rw [setsL_n]; exact two, fun H4 fs tn td tu b4 A _ => ?_⟩
  exact q H4 ((((s1.trans s2).trans s3).but p).trans b4) ⟨_, _, _, _, _, _, A⟩
end
/-! ### a method that may raise, called in a try; the errors' __init__ -/
section
open PySem.Spec PyProof.Rows
variable {X : Cx}
/-- o.m(e, ..) where what is raised is wished for at the slots -/
def tMethGS (K : PySem.W.Frag) (m : Str) (f : Addr) (sp : Sp) (E : L2.St → XK) (ta : TE) (t : TA) : TE := fun σ H Q => ta σ H fun x H1 => ∃ a C dx fs, x = .ref a ∧ H1 a = some (.ins C dx fs) ∧ Cls K C ∧ Meth K C m f ∧ fs.lookup m = none ∧
  t σ H1 fun vs H2 => sp (x :: vs) H2 Q (E σ)
theorem pe_methGS {o e : Expr} {es : List Expr} {ta : TE} {t : TA} {m : Str} {apos pos : Pos} {CX : CXT} {k : Nat} {f : Addr} {fd : FuncData} {ps : List Str} {sp : Sp} {E : L2.St → XK} {pl : Sem Bool} (he : PE X o ta) (F : FnOk X.prog X.w X.K X.mg X.base CX k f fd ps sp) (hr : Room k X.A) (hb : Binds X.K fd ps []) (hx : ∀ σ, PassesAt CX X σ (E σ)) (ha : PA X (e :: es) t)
    (hst : starEach (e :: es) X.env = (false, eval e X.env) :: starEach es X.env := by rfl) (hpl : (backTo pos (starEach es X.env)).any (·.1) = false := by rfl)
    (ht : eval (.Call (.Attribute o m apos) (e :: es) [] pos) X.env = (do
      let ov ← eval o X.env
      standAt apos.atName
      let (g, first) ← holding [ov] (getMethod ov m pl)
      callWith pos g first (backTo pos (starEach (e :: es) X.env)) (backToKw pos (keywordEach [] X.env))) := by rfl) :
    PE X (.Call (.Attribute o m apos) (e :: es) [] pos) (tMethGS X.K m f sp E ta t) := by
  refine ⟨fun pins s σ H Q I h => ?_⟩
  refine PySem.W.methodCall_KW (pl := pl) (thn (he.run pins s σ H _ I h) fun u s1 ⟨x, H1, I1, rx, a, C, dx, fs, ex, ea, c, hm, l, q⟩ => ?_) ht
  subst ex
  obtain rfl : u = Value.ref a := rx
  refine getmeth_ok I1 ea c hm l (PySem.W.callWith_K (first := [.ref a]) (h₀ := X.base) I.ok.mod.kin hm.kp (thn (ha.run pos pins s1 σ H1 _ I1 q) fun us s2 ⟨vs, H2, I2, r, q2⟩ => ⟨I2.kIn, ?_⟩) hst hpl)
  exact run_fnS (us := .ref a :: us) (vs := .ref a :: vs) F hr hb (hx σ) I2 (.cons rfl r) q2
theorem kx_methGS {X : Cx} (K : PySem.W.Frag) {e : Expr} {ta : TE} {t : TA} {m : Str} {f : Addr} {sp : Sp} {E : L2.St → XK} (p : PE X e (tMethGS X.K m f sp E ta t)) (h : X.K = K := by rfl) : PE X e (tMethGS K m f sp E ta t) := h ▸ p
/-- the __init__ of an error with a name, at an error that is being made -/
def sp_xname (C : Addr) (n : Str) : Sp := fun vs H Q _ => ∃ (a : Addr) (v : V), vs = [.ref a, v] ∧ H a = some (exo a C none) ∧ ∀ d, H d = none → d ≠ a → Q .non (upd (upd H d (exd d [(n, v)])) a (exo a C (some d)))
/-- what stands behind a raise -/
theorem made_xd {H : Hp} {a d C : Addr} {fs : List (Str × V)} (ha : H a = none) (hd : upd H a (exo a C none) d = none) (ne : d ≠ a) :
    Same H (upd (del (upd (upd (upd H a (exo a C none)) d (exd d fs)) a (exo a C (some d))) a) d (.xd fs)) ∧ H d = none := by
  have hd' : H d = none := by rw [upd_ne ne] at hd; exact hd
  refine ⟨fun b o hb => ?_, hd'⟩
  have nb : b ≠ a := ne_of_none hb ha
  have nd : b ≠ d := ne_of_none hb hd'
  rw [upd_ne nd, del_ne nb, upd_ne nb, upd_ne nd, upd_ne nb]
  exact hb
end
section
variable {w W_ : World} {K : PySem.W.Frag} {mg : Str → Option Value} {base : Heap}
theorem ok_UnknownValue (T : Tx K mg W_) : FnOk PL w K mg base CX0 1 T.a_UnknownValue_init T.d_UnknownValue_init ["self", "name"] (sp_xname T.a_UnknownValue "name") := by
  refine T.F_UnknownValue_init.ok sc_UnknownValue_init (by rfl) (by rfl) (by rfl) ⟨_, rfl, rfl⟩ (by decide +kernel) T.ci_UnknownValue T.n_super T.st_any (fun vs H Q E h => ?_) (fun cda cc A outer s H vs Q E hr S h => ?_)
  · obtain ⟨a, v, rfl, _⟩ := h
    rfl
  obtain ⟨a, v, rfl, ha, q⟩ := h
  refine ⟨_, psa_superG xb_LE S rfl (pa_cons pe_str pa_nil) (by decide) rfl rfl rfl rfl rfl (psa_any (pss_one (ps_setG xb_LE (pv 0) (pv 1) rfl))), ?_⟩
  refine ⟨a, T.a_UnknownValue, rfl, ha, T.x_UnknownValue, T.mr_UnknownValue, T.su_UnknownValue, by decide, ha, ?_⟩
  exact ⟨_, rfl, _, rfl, a, T.a_UnknownValue, rfl, T.x_UnknownValue, T.na_UnknownValue, ha, q⟩
/-- at_name of any name -/
def sp_at_nameX (K : PySem.W.Frag) (mm : List (Str × Addr)) (C : Addr) : Sp := fun vs H Q E => ∃ (p : Addr) (L : Lt) (x : Str), vs = [.ref p, .str x] ∧ IsLat K mm H p L ∧ L.names.Nodup ∧ (∀ a H', L.names[a]? = some x → Same H H' → Q (.int (a : Nat)) H') ∧
  (x ∉ L.names → ∀ d H', H d = none → Same H H' → H' d = some (.xd [(("name" : Str), .str x)]) → E (.ref C) (some d) H')
theorem ok_at_nameX (T : Tx K mg W_) : FnOk PL w K mg base (L2.CX PL w) 3 T.a_Lattice_at_name T.d_Lattice_at_name ["self", "name"] (sp_at_nameX K T.mm T.a_UnknownValue) := by
  have G_UnknownValue_init := ok_UnknownValue (w := w) (base := base) T
  refine T.F_Lattice_at_name.okX sc_Lattice_at_name (fun vs H Q E h => ?_) (fun cdv A outer s H vs Q E hr h => ?_)
  · obtain ⟨p, L, x, rfl, _⟩ := h
    rfl
  obtain ⟨p, L, x, rfl, ⟨C, dx, fs, tn, td, tu, A⟩, nd, q, qe⟩ := h
  refine ⟨_, pss_cons (ps_if (pt_cmpR op_notIn_seq (pv 1) (pe_fld (pv 0) rfl) (by rfl)) (pss_one (ps_raise rfl (takes_of rfl rfl rfl rfl) (pmk_G xb_LE T.x_UnknownValue T.i_UnknownValue T.t_UnknownValue G_UnknownValue_init (hr.mono (by omega)) T.b_UnknownValue_init .nil pass0 (by rfl) T.g_UnknownValue (pa_cons (pv 1) pa_nil)))) pss_nil)
    (pss_one (ps_ret (pe_tbm PySem.F.plainAttrs_tuple PySem.F.slot_tuple_index PySem.F.type_tuple_index mt_tindexF (pe_fld (pv 0) rfl) (pa_cons (pv 1) pa_nil)))), ?_⟩
  refine ⟨_, rfl, _, rfl, p, C, dx, fs, _, rfl, A.at_, A.c.cl, A.c.na _ (by decide), A.names, tn, _, rfl, .inr A.tn.2, rfl, flat_strs _, _, rfl, ?_⟩
  have e : (if true = true then !inV (.str x) (L.names.map V.str) else inV (.str x) (L.names.map V.str)) = !decide (x ∈ L.names) := by
    show (!inV (.str x) (L.names.map V.str)) = _
    rw [inV_strs]
  rw [e]
  by_cases hx : x ∈ L.names
  · rw [decide_eq_true hx]
    refine iteF ?_
    obtain ⟨a, ha⟩ := List.getElem?_of_mem hx
    refine ⟨_, rfl, p, C, dx, fs, _, rfl, A.at_, A.c.cl, A.c.na _ (by decide), A.names, tn, _, rfl, A.tn.1, A.tn.2, _, rfl, tn, _, _, a, _, rfl, rfl, A.tn.2, rfl, flat_strs _, (by rw [List.getElem?_map, ha]; rfl), (by rw [eqV_str]; exact beq_self_eq_true x), fun j z hj hz => ?_, q a H ha (Same.refl _)⟩
    rw [List.getElem?_map] at hz
    obtain ⟨y, hy, rfl⟩ := Option.map_eq_some_iff.mp hz
    rw [eqV_str]
    exact beq_eq_false_iff_ne.mpr fun z => by
      subst z
      have := nodup_at nd hy ha
      omega
  · rw [decide_eq_false hx]
    refine iteT ?_
    refine ⟨_, rfl, (by show 1 ≤ 1000; decide), fun a ha => ⟨a, _, rfl, upd_same, fun d hd ne => ⟨rfl, d, _, upd_same, (by rw [upd_ne ne]; exact upd_same), ?_, ?_⟩⟩⟩
    · exact (made_xd (fs := []) ha hd ne).2
    · obtain ⟨s1, hd0⟩ := made_xd (fs := [(("name" : Str), V.str x)]) ha hd ne
      exact qe hx d _ hd0 s1 upd_same
end
/-! ### the plain law: joins and meets, chains and sets -/
namespace Lt
structure Ord (L : Lt) : Prop where
  refl : ∀ a, a < L.n → L.le a a = true
  anti : ∀ a b, a < L.n → b < L.n → L.le a b = true → L.le b a = true → a = b
theorem up_eq (L : Lt) (k : Nat) (p : Nat → Bool) : (L.up k == mask L.n p) = true ↔ ∀ i, i < L.n → L.le k i = p i := by
  rw [beq_iff_eq]; exact mask_eq
theorem down_eq (L : Lt) (k : Nat) (p : Nat → Bool) : (L.down k == mask L.n p) = true ↔ ∀ i, i < L.n → L.le i k = p i := by
  rw [beq_iff_eq]; exact mask_eq
theorem join_eq (L : Lt) (a b : Nat) : L.join a b = first L.n fun k => L.up k == mask L.n fun i => L.le a i && L.le b i := by
  unfold join
  rw [show L.up a &&& L.up b = mask L.n fun i => L.le a i && L.le b i from mask_and _ _ _]
theorem meet_eq (L : Lt) (a b : Nat) : L.meet a b = first L.n fun k => L.down k == mask L.n fun i => L.le i a && L.le i b := by
  unfold meet
  rw [show L.down a &&& L.down b = mask L.n fun i => L.le i a && L.le i b from mask_and _ _ _]
theorem Ord.ups {L : Lt} (o : L.Ord) {p : Nat → Bool} {k : Nat} (hk : k < L.n) (h : ∀ i, i < L.n → L.le k i = p i) : (first L.n fun k => L.up k == mask L.n p) = some k := by
  refine first_is hk ((up_eq L k p).mpr h) fun j hj => Bool.eq_false_iff.mpr fun z => ?_
  have z := (up_eq L j p).mp z
  have hj' : j < L.n := by omega
  have e := o.anti j k hj' hk (by rw [z k hk, ← h k hk]; exact o.refl k hk) (by rw [h j hj', ← z j hj']; exact o.refl j hj')
  omega
theorem Ord.downs {L : Lt} (o : L.Ord) {p : Nat → Bool} {k : Nat} (hk : k < L.n) (h : ∀ i, i < L.n → L.le i k = p i) : (first L.n fun k => L.down k == mask L.n p) = some k := by
  refine first_is hk ((down_eq L k p).mpr h) fun j hj => Bool.eq_false_iff.mpr fun z => ?_
  have z := (down_eq L j p).mp z
  have hj' : j < L.n := by omega
  have e := o.anti j k hj' hk (by rw [h j hj', ← z j hj']; exact o.refl j hj') (by rw [z k hk, ← h k hk]; exact o.refl k hk)
  omega
theorem Ord.join {L : Lt} (o : L.Ord) {a b k : Nat} (hk : k < L.n) (h : ∀ i, i < L.n → L.le k i = (L.le a i && L.le b i)) : L.join a b = some k := by rw [join_eq]; exact o.ups hk h
theorem Ord.meet {L : Lt} (o : L.Ord) {a b k : Nat} (hk : k < L.n) (h : ∀ i, i < L.n → L.le i k = (L.le i a && L.le i b)) : L.meet a b = some k := by rw [meet_eq]; exact o.downs hk h
theorem Ord.bot {L : Lt} (o : L.Ord) {k : Nat} (hk : k < L.n) (h : ∀ i, i < L.n → L.le k i = true) : L.bot = some k := by
  unfold Lt.bot
  rw [← mask_all]
  exact o.ups hk h
theorem Ord.top {L : Lt} (o : L.Ord) {k : Nat} (hk : k < L.n) (h : ∀ i, i < L.n → L.le i k = true) : L.top = some k := by
  unfold Lt.top
  rw [← mask_all]
  exact o.downs hk h
theorem irr_iff (L : Lt) (a : Nat) : L.irr a = true ↔ ∃ k, k < L.n ∧ ∀ i, i < L.n → L.le i k = (L.le i a && !(i == a)) := by
  unfold irr
  rw [List.any_eq_true]
  constructor
  · rintro ⟨k, hk, h⟩
    exact ⟨k, List.mem_range.mp hk, (down_eq L k _).mp h⟩
  · rintro ⟨k, hk, h⟩
    exact ⟨k, List.mem_range.mpr hk, (down_eq L k _).mpr h⟩
end Lt
theorem chain_ord (n : Nat) : (chainL n).Ord := ⟨fun a _ => by simp [chainL], fun a b _ _ h1 h2 => by simp [chainL] at h1 h2; omega⟩
theorem chain_join {n a b : Nat} (ha : a < n) (hb : b < n) : (chainL n).join a b = some (max a b) :=
  (chain_ord n).join (by rw [chainL_n]; omega) fun i _ => by
    show decide (max a b ≤ i) = (decide (a ≤ i) && decide (b ≤ i))
    rw [← Bool.decide_and]
    exact decide_eq_decide.mpr (by omega)
theorem chain_meet {n a b : Nat} (ha : a < n) (hb : b < n) : (chainL n).meet a b = some (min a b) :=
  (chain_ord n).meet (by rw [chainL_n]; omega) fun i _ => by
    show decide (i ≤ min a b) = (decide (i ≤ a) && decide (i ≤ b))
    rw [← Bool.decide_and]
    exact decide_eq_decide.mpr (by omega)
theorem chain_bot {n : Nat} (h : 1 ≤ n) : (chainL n).bot = some 0 := (chain_ord n).bot (by rw [chainL_n]; omega) fun i _ => by simp [chainL]
theorem chain_top {n : Nat} (h : 1 ≤ n) : (chainL n).top = some (n - 1) := (chain_ord n).top (by rw [chainL_n]; omega) fun i hi => by rw [chainL_n] at hi; simp [chainL]; omega
theorem chain_irr {n a : Nat} (ha : a < n) : (chainL n).irr a = decide (1 ≤ a) := by
  rw [Bool.eq_iff_iff, Lt.irr_iff, decide_eq_true_iff]
  rw [chainL_n]
  constructor
  · rintro ⟨k, hk, h⟩
    have := h k hk
    simp [chainL] at this
    omega
  · intro h
    refine ⟨a - 1, by omega, fun i hi => ?_⟩
    show decide (i ≤ a - 1) = (decide (i ≤ a) && !(i == a))
    rw [Bool.eq_iff_iff]
    simp
    omega
theorem range_pos : ∀ n : Nat, (List.range n).filter (fun a => decide (1 ≤ a)) = (List.range (n - 1)).map (· + 1)
  | 0 => rfl
  | 1 => rfl
  | n + 2 => by
    rw [List.range_succ, List.filter_append, range_pos (n + 1)]
    show _ = (List.range (n + 1)).map (· + 1)
    rw [List.range_succ (n := n), List.map_append]
    simp [List.filter]
theorem chain_irrs (n : Nat) : (chainL n).irrs = (List.range (n - 1)).map (· + 1) := by
  unfold Lt.irrs
  rw [chainL_n, ← range_pos]
  refine List.filter_congr fun a ha => ?_
  exact chain_irr (List.mem_range.mp ha)
theorem part_bits {a b : Nat} : part a b = true ↔ ∀ j, a.testBit j = true → b.testBit j = true := by
  unfold part
  rw [beq_iff_eq]
  constructor
  · intro h j hj
    have := congrArg (Nat.testBit · j) h
    simp only [Nat.testBit_and, hj, Bool.true_and] at this
    exact this
  · intro h
    refine Nat.eq_of_testBit_eq fun j => ?_
    rw [Nat.testBit_and]
    cases e : a.testBit j with
    | false => rfl
    | true => rw [h j e]; rfl
theorem part_refl (a : Nat) : part a a = true := part_bits.mpr fun _ h => h
theorem part_anti {a b : Nat} (h1 : part a b = true) (h2 : part b a = true) : a = b := by
  refine Nat.eq_of_testBit_eq fun j => ?_
  rw [Bool.eq_iff_iff]
  exact ⟨part_bits.mp h1 j, part_bits.mp h2 j⟩
theorem part_or (a b i : Nat) : part (a ||| b) i = (part a i && part b i) := by
  rw [Bool.eq_iff_iff, Bool.and_eq_true, part_bits, part_bits, part_bits]
  constructor
  · intro h
    exact ⟨fun j hj => h j (by rw [Nat.testBit_or, hj, Bool.true_or]), fun j hj => h j (by rw [Nat.testBit_or, hj, Bool.or_true])⟩
  · rintro ⟨h1, h2⟩ j hj
    rw [Nat.testBit_or, Bool.or_eq_true] at hj
    exact hj.elim (h1 j) (h2 j)
theorem part_and (a b i : Nat) : part i (a &&& b) = (part i a && part i b) := by
  rw [Bool.eq_iff_iff, Bool.and_eq_true, part_bits, part_bits, part_bits]
  constructor
  · intro h
    exact ⟨fun j hj => by have := h j hj; rw [Nat.testBit_and, Bool.and_eq_true] at this; exact this.1, fun j hj => by have := h j hj; rw [Nat.testBit_and, Bool.and_eq_true] at this; exact this.2⟩
  · rintro ⟨h1, h2⟩ j hj
    rw [Nat.testBit_and, h1 j hj, h2 j hj]; rfl
theorem sets_ord (c : Nat) : (setsL c).Ord := ⟨fun a _ => part_refl a, fun a b _ _ h1 h2 => part_anti h1 h2⟩
theorem sets_join {c a b : Nat} (ha : a < 2 ^ c) (hb : b < 2 ^ c) : (setsL c).join a b = some (a ||| b) :=
  (sets_ord c).join (by rw [setsL_n]; exact Nat.or_lt_two_pow ha hb) fun i _ => part_or a b i
theorem sets_meet {c a b : Nat} (ha : a < 2 ^ c) : (setsL c).meet a b = some (a &&& b) :=
  (sets_ord c).meet (by rw [setsL_n]; exact Nat.lt_of_le_of_lt Nat.and_le_left ha) fun i _ => part_and a b i
theorem sets_bot (c : Nat) : (setsL c).bot = some 0 := (sets_ord c).bot (by rw [setsL_n]; exact Nat.pow_pos (by decide)) fun i _ => part_bits.mpr fun j h => by simp at h
theorem sets_top (c : Nat) : (setsL c).top = some (2 ^ c - 1) := (sets_ord c).top (by rw [setsL_n]; have := Nat.pow_pos (n := c) (show 0 < 2 by decide); omega) fun i hi => by
  rw [setsL_n] at hi
  refine part_bits.mpr fun j h => ?_
  rw [Nat.testBit_two_pow_sub_one]
  refine decide_eq_true (Nat.lt_of_not_le fun z => ?_)
  rw [Nat.testBit_lt_two_pow (Nat.lt_of_lt_of_le hi (Nat.pow_le_pow_right (by decide) z))] at h
  cases h
theorem sets_irrs : ∀ c, c ≤ 6 → (setsL c).irrs = (List.range c).map (2 ^ ·) := by
  have q : ∀ c : Fin 7, (setsL c.val).irrs = (List.range c.val).map (2 ^ ·) := by decide +kernel
  exact fun c h => q ⟨c, by omega⟩
theorem sets_nodup : ∀ c, c ≤ 6 → (setsL c).names.Nodup := by
  have q : ∀ c : Fin 7, (setsL c.val).names.Nodup := by decide +kernel
  exact fun c h => q ⟨c, by omega⟩
theorem chain_nodup {n : Nat} (h : n ≤ 64) : (chainL n).names.Nodup := by
  have q : (chainL 64).names.Nodup := by decide +kernel
  have e : (chainL n).names = (chainL 64).names.take n := by
    show (List.range n).map natS = ((List.range 64).map natS).take n
    rw [← List.map_take, List.take_range, Nat.min_eq_left h]
  rw [e]
  exact q.sublist (List.take_sublist _ _)
section
/-- a statement: what is known behind it -/
theorem st_run {t u : TS} {D : Ends} {σ : L2.St} {H : Hp} (Pv : L2.St → Hp → Prop) (h : ∀ D' : Ends, D'.rt = D.rt → (∀ σ' H', Pv σ' H' → D'.nx σ' H') → t D' σ H) (q : ∀ σ' H', Pv σ' H' → u D σ' H') : tSeq t u D σ H := h _ rfl q
theorem rg_run {te : TE} {g : TG} {tb u : TS} {D : Ends} {σ : L2.St} {H : Hp} (Pv : Int → Hp → Prop) (h : ∀ Q' : V → Hp → Prop, (∀ n H', Pv n H' → Q' (.int n) H') → te σ H Q')
    (q : ∀ n H', Pv n H' → tSeq (tFor (iRng1 (tCons (tC (.int n)) tNil)) g tb) u D σ H') : tSeq (tFor (iRng1 (tCons te tNil)) g tb) u D σ H := h _ fun n H' p => q n H' p
/-- behind a new instance's __init__ -/
theorem made_same {H H' : Hp} {x dx : Addr} {o o2 : HO} (hx : H x = none) (hd : H dx = none) (b : But x (upd (upd H dx o) x o2) H') : Same H H' := fun c u hc => by
  have n1 := ne_of_none hc hx
  have n2 := ne_of_none hc hd
  exact b c u n1 (by rw [upd_ne n1, upd_ne n2]; exact hc)
theorem natV_int (l : List Nat) : natV l = (l.map fun i : Nat => (i : Int)).map V.int := by unfold natV; rw [List.map_map]; rfl
end
theorem str_at' {xs : List Str} {d : Int} (h0 : 0 ≤ d) (h1 : d < xs.length) : ∃ x, x ∈ xs ∧ atI (xs.map V.str) d = some (.str x) := by
  have hl : d.toNat < xs.length := by omega
  refine ⟨xs[d.toNat], List.getElem_mem hl, ?_⟩
  have e : d = (d.toNat : Int) := by omega
  have r : atI (xs.map V.str) (d.toNat : Int) = some (.str xs[d.toNat]) := atI_nat (by rw [List.getElem?_map, List.getElem?_eq_getElem hl]; rfl)
  rw [← e] at r
  exact r
section
variable {w W_ : World} {K : PySem.W.Frag} {mg : Str → Option Value} {base : Heap}
def dueV (s : Bool) (a b : Nat) : List Dv := if s then [.bl (part a b), .int ((a ||| b : Nat) : Int), .int ((a &&& b : Nat) : Int)] else [.bl (decide (a ≤ b)), .int ((max a b : Nat) : Int), .int ((min a b : Nat) : Int)]
def sp_due (K : PySem.W.Frag) : Sp := fun vs H Q _ => ∃ (s : Bool) (a b : Nat), vs = [.bl s, .int (a : Nat), .int (b : Nat)] ∧ ∀ l H', Same H H' → Ld K H' (.lst (dueV s a b)) (.ref l) → Q (.ref l) H'
theorem ok_due (T : Tx K mg W_) : FnOk PL w K mg base CX0 1 T.a__law_due T.d__law_due ["sets", "a", "b"] (sp_due K) := by
  refine T.F__law_due.ok sc__law_due (fun vs H Q E h => ?_) (fun cdv A outer s H vs Q E hr h => ?_)
  · obtain ⟨s, a, b, rfl, _⟩ := h
    rfl
  obtain ⟨s, a, b, rfl, q⟩ := h
  refine ⟨_, pss_cons (ps_if (pt_val (pv 0)) (pss_one (ps_ret (pe_lst (pa_cons (pe_cmpR op_eq (pe_op op_and (pv 1) (pv 2)) (pv 1) (nomark _)) (pa_cons (pe_op op_or (pv 1) (pv 2)) (pa_cons (pe_op op_and (pv 1) (pv 2)) pa_nil)))))) pss_nil)
    (pss_one (ps_ret (pe_lst (pa_cons (pe_cmpR op_le (pv 1) (pv 2) (nomark _)) (pa_cons (pe_callB (call_max2 rfl) (by rfl) T.n_max (by decide +kernel) (pa_cons (pe_callTy call_int1 (by rfl) T.n_int (by decide +kernel) (pa_cons (pv 1) pa_nil)) (pa_cons (pe_callTy call_int1 (by rfl) T.n_int (by decide +kernel) (pa_cons (pv 2) pa_nil)) pa_nil))) (pa_cons (pe_callB (call_min2 rfl) (by rfl) T.n_min (by decide +kernel) (pa_cons (pe_callTy call_int1 (by rfl) T.n_int (by decide +kernel) (pa_cons (pv 1) pa_nil)) (pa_cons (pe_callTy call_int1 (by rfl) T.n_int (by decide +kernel) (pa_cons (pv 2) pa_nil)) pa_nil))) pa_nil)))))), ?_⟩
  refine ⟨_, rfl, _, rfl, ?_⟩
  refine ite2 (fun c => ?_) (fun c => ?_)
  · subst c
    refine ⟨_, rfl, _, rfl, _, _, rfl, rfl, _, rfl, rfl, _, rfl, _, rfl, _, _, rfl, rfl, _, rfl, _, rfl, _, _, rfl, rfl, (by show 3 ≤ sizeLine; decide), ?_⟩
    have e : decide (V.int (Builtin.bitAnd (a : Int) (b : Int)) = V.int (a : Int)) = part a b := by
      rw [dec_int, and_int_nat]
      unfold part
      by_cases h : a &&& b = a
      · rw [h]; simp
      · rw [beq_eq_false_iff_ne.mpr h]; exact decide_eq_false (by omega)
    have e1 := or_int_nat a b
    have e2 := and_int_nat a b
    refine fun p hp => q p _ (Same.new hp _) ⟨p, _, rfl, upd_same, _, _, rfl, ?_, _, _, rfl, ?_, _, _, rfl, ?_, rfl⟩
    · show V.bl (decide (V.int (Builtin.bitAnd (a : Int) (b : Int)) = V.int (a : Int))) = _
      rw [e]
    · show V.int (Builtin.bitOr (a : Int) (b : Int)) = _
      rw [e1]
    · show V.int (Builtin.bitAnd (a : Int) (b : Int)) = _
      rw [e2]
  · have c : s = false := Bool.eq_false_iff.mpr c
    subst c
    refine ⟨_, rfl, _, rfl, _, _, rfl, rfl, _, rfl, .inl ⟨_, rfl, _, rfl, .inl ⟨_, rfl, _, _, rfl, _, rfl, .inl ⟨_, rfl, _, rfl, .inl ⟨_, rfl, _, _, rfl, (by show 3 ≤ sizeLine; decide), ?_⟩⟩⟩⟩⟩
    refine fun p hp => q p _ (Same.new hp _) ⟨p, _, rfl, upd_same, _, _, rfl, ?_, _, _, rfl, ?_, _, _, rfl, ?_, rfl⟩
    · show V.bl (decide ((a : Int) ≤ (b : Int))) = V.bl (decide (a ≤ b))
      rw [decide_eq_decide.mpr Int.ofNat_le]
    · show V.int (if (b : Int) > (a : Int) then (b : Int) else (a : Int)) = V.int ((max a b : Nat) : Int)
      by_cases h : a < b
      · rw [if_pos (by omega), Nat.max_eq_right (by omega)]
      · rw [if_neg (by omega), Nat.max_eq_left (by omega)]
    · show V.int (if (b : Int) < (a : Int) then (b : Int) else (a : Int)) = V.int ((min a b : Nat) : Int)
      by_cases h : b < a
      · rw [if_pos (by omega), Nat.min_eq_right (by omega)]
      · rw [if_neg (by omega), Nat.min_eq_left (by omega)]
/-- what the law knows of its lattice -/
structure Kind (s : Bool) (c : Nat) (L : Lt) : Prop where
  n : L.n = if s then 2 ^ c else c
  pos : 1 ≤ c
  n64 : L.n ≤ 64
  n1 : 1 ≤ L.n
  nd : L.names.Nodup
  lab : L.label = (if s then ("(sets " : Str) else ("(chain " : Str)) ++ natS c ++ (")" : Str)
  bot : L.bot = some 0
  top : L.top = some (L.n - 1)
  irr : L.irrs = if s then (List.range c).map (2 ^ ·) else (List.range (c - 1)).map (· + 1)
  rel : ∀ a b, a < L.n → b < L.n → ∃ j m, L.join a b = some j ∧ L.meet a b = some m ∧ [Dv.bl (L.le a b), .int (j : Int), .int (m : Int)] = dueV s a b
  name : ∀ a, a < L.n → L.names[a]? = some (if s then setName c a else natS a)
  len : ∀ x ∈ L.names, x.length ≤ 10
theorem kind_sets {c : Nat} (c1 : 1 ≤ c) (c6 : c ≤ 6) : Kind true c (setsL c) where
  n := setsL_n c
  pos := c1
  n64 := by rw [setsL_n]; exact Nat.le_trans (Nat.pow_le_pow_right (by decide) c6) (by decide)
  n1 := by rw [setsL_n]; exact Nat.pow_pos (by decide)
  nd := sets_nodup c c6
  lab := rfl
  bot := sets_bot c
  top := by rw [setsL_n]; exact sets_top c
  irr := sets_irrs c c6
  rel := fun a b ha hb => ⟨_, _, sets_join (by rwa [setsL_n] at ha) (by rwa [setsL_n] at hb), sets_meet (by rwa [setsL_n] at ha), rfl⟩
  name := fun a ha => by
    rw [setsL_n] at ha
    show ((List.range (2 ^ c)).map (setName c))[a]? = _
    rw [List.getElem?_map, List.getElem?_range ha]; rfl
  len := by
    have q : ∀ c : Fin 7, ∀ x ∈ (setsL c.val).names, x.length ≤ 10 := by decide +kernel
    exact q ⟨c, by omega⟩
theorem kind_chain {c : Nat} (c1 : 1 ≤ c) (c64 : c ≤ 64) : Kind false c (chainL c) where
  n := chainL_n c
  pos := c1
  n64 := by rw [chainL_n]; exact c64
  n1 := by rw [chainL_n]; exact c1
  nd := chain_nodup c64
  lab := rfl
  bot := chain_bot c1
  top := by rw [chainL_n]; exact chain_top c1
  irr := chain_irrs c
  rel := fun a b ha hb => ⟨_, _, chain_join (by rwa [chainL_n] at ha) (by rwa [chainL_n] at hb), chain_meet (by rwa [chainL_n] at ha) (by rwa [chainL_n] at hb), rfl⟩
  name := fun a ha => by
    rw [chainL_n] at ha
    show ((List.range c).map natS)[a]? = _
    rw [List.getElem?_map, List.getElem?_range ha]; rfl
  len := fun x hx => by
    obtain ⟨i, hi, rfl⟩ := List.mem_map.mp hx
    have := natS_len (i := i) (by have := List.mem_range.mp hi; omega)
    omega
/-- a string that is no name is refused -/
def sp_unknown (K : PySem.W.Frag) (mm : List (Str × Addr)) : Sp := fun vs H Q _ => ∃ (p a : Addr) (L : Lt) (x : Str), vs = [.ref p, .str x, .ref a] ∧ IsLat K mm H p L ∧ SqL K H a (L.names.map V.str) ∧ L.names.Nodup ∧ x.length ≤ 1000 ∧ ∀ H', Same H H' → Q (.bl true) H'
theorem ok_unknown (T : Tx K mg W_) : FnOk PL w K mg base CX0 5 T.a__law_unknown T.d__law_unknown ["lattice", "word", "names"] (sp_unknown K T.mm) := by
  have GX_Lattice_at_name := ok_at_nameX (w := w) (base := base) T
  refine T.F__law_unknown.ok sc__law_unknown (fun vs H Q E h => ?_) (fun cdv A outer s H vs Q E hr h => ?_)
  · obtain ⟨p, a, L, x, rfl, _⟩ := h
    rfl
  obtain ⟨p, a, L, x, rfl, ⟨C, dx, fs, tn, td, tu, A⟩, ha, nd, hl, q⟩ := h
  refine ⟨_, pss_cons (ps_if (pt_cmpR op_in_seq (pv 1) (pv 2) (by rfl)) (pss_one (ps_ret pe_bl)) pss_nil)
    (pss_cons (ps_set (i := 3) sc__law_unknown.nd rfl (Or.inl rfl) pe_str)
    (pss_cons (ps_try_as (i := 4) (Wout := fun _ _ _ _ => False) rfl rfl sc__law_unknown.nd rfl rfl ⟨rfl, by decide, Or.inl T.g_UnknownValue⟩ takes0
      (fun W pn xe tk _ => (pss_one (ps_expr (kx_methGS K (pe_methGS (pv 0) GX_Lattice_at_name (hr.mono (by omega)) T.b_Lattice_at_name (fun σ => passAt tk σ) (pa_cons (pv 1) pa_nil))))))
      (fun a oe cls d pn hz hf => (pss_one (ps_set (i := 3) sc__law_unknown.nd rfl (Or.inl rfl) (pe_op op_add_str (pe_xf T.f_UnknownValue T.na_UnknownValue hz hf (pv 4)) pe_str)))))
    (pss_one (ps_ret (pe_cmpR op_eq (pv 3) (pe_op op_add_str (pv 1) pe_str) (nomark _)))))), ?_⟩
  refine ⟨_, rfl, _, rfl, a, _, rfl, .inl ha, rfl, flat_strs _, _, rfl, ?_⟩
  have e : (if false = true then !inV (.str x) (L.names.map V.str) else inV (.str x) (L.names.map V.str)) = decide (x ∈ L.names) := inV_strs x L.names
  rw [e]
  refine ite2 (fun c => ?_) (fun c => ?_)
  · exact q H (Same.refl _)
  have c : x ∉ L.names := fun h => c (decide_eq_true h)
  refine ⟨_, rfl, p, C, dx, fs, rfl, A.at_, A.c.cl, A.c.me _ T.in_at_name, A.no _ T.in_at_name, _, rfl, p, L, x, rfl, ⟨C, dx, fs, tn, td, tu, A⟩, nd, fun i H' hi _ => absurd (List.mem_of_getElem? hi) c, fun _ d H' hd s1 hx => ?_⟩
  refine ⟨true, T.te_UnknownValue_UnknownValue, fun _ b hb => ?_, fun z => nomatch z⟩
  refine ⟨_, rfl, rfl, rfl, d, _, _, rfl, hx, rfl, _, _, rfl, rfl, small_line (by have : ("!" : Str).length = 1 := rfl; omega), ?_⟩
  refine ⟨_, rfl, _, rfl, _, _, rfl, rfl, small_line (by have : ("!" : Str).length = 1 := rfl; omega), rfl, ?_⟩
  rw [decide_eq_true rfl]
  exact q H' s1
theorem digS_mod (m k : Nat) : (Str.ofString (toString (((m : Int) / 2 ^ k) % 2)) : Str) = digS m k ∧ (((m : Int) / 2 ^ k) % 2).natAbs.log2 < 1920 := by
  have e : ((m : Int) / 2 ^ k) % 2 = Builtin.bitAnd ((m : Int) / 2 ^ k) 1 := by
    have := Bits.bitAnd_mask (x := (m : Int) / 2 ^ k) 1 (Int.ediv_nonneg (Int.natCast_nonneg _) (by exact Int.le_of_lt (Int.pow_pos (by decide))))
    simpa using this.symm
  rw [e]
  exact ⟨digS_is _ _, digS_log _ _⟩
def spLaw (K : PySem.W.Frag) : Sp := fun vs H Q _ => ∃ (a : Addr) (ns : List Int), vs = [.ref a] ∧ SqL K H a (ns.map V.int) ∧ ns.length ≤ 63 ∧ ∀ H', Q (.bl true) H'
theorem ok_law (T : Tx K mg W_) : FnOk PL w K mg base CX0 60 T.a_law T.d_law ["script"] (spLaw K) := by
  have G__law_cells := ok__law_cells (P := PL) (w := w) (base := base) T
  have G__law_pick := ok__law_pick (P := PL) (w := w) (base := base) T
  have G__law_like := ok_like (P := PL) (w := w) (base := base) T 3
  have G__law_due := ok_due (w := w) (base := base) T
  have G__law_unknown := ok_unknown (w := w) (base := base) T
  have G_SetLattice_init := ok_sets (w := w) (base := base) T
  have G_ChainLattice_init := ok_chain (w := w) (base := base) T
  have G_Lattice_within_at := ok_within (P := PL) (w := w) (base := base) T
  have G_Lattice_join_at := ok_join (P := PL) (w := w) (base := base) T
  have G_Lattice_meet_at := ok_meet (P := PL) (w := w) (base := base) T
  have G_Lattice_name_at := ok_name_at (P := PL) (w := w) (base := base) T
  have G_Lattice_at_name := ok_at_name (P := PL) (w := w) (base := base) T
  have G_Lattice_irreducibles := ok_irr (P := PL) (w := w) (base := base) T
  refine T.F_law.ok sc_law (fun vs H Q E h => ?_) (fun cdv A outer s H vs Q E hr h => ?_)
  · obtain ⟨a, ns, rfl, _⟩ := h
    rfl
  obtain ⟨a, ns, rfl, hS, h63, q⟩ := h
  refine ⟨_, pss_cons (ps_set (i := 1) sc_law.nd rfl (Or.inl rfl) (pe_call G__law_cells (hr.mono (by omega)) (by rfl) T.g__law_cells T.F__law_cells.kp T.b__law_cells .nil pass0 (pa_cons (pv 0) pa_nil)))
    (pss_cons (ps_set (i := 2) sc_law.nd rfl (Or.inl rfl) (pe_cmpR op_eq (pe_call G__law_pick (hr.mono (by omega)) (by rfl) T.g__law_pick T.F__law_pick.kp T.b__law_pick .nil pass0 (pa_cons (pv 1) (pa_cons pe_int pa_nil))) pe_int (nomark _)))
    (pss_cons (ps_set (i := 3) sc_law.nd rfl (Or.inl rfl) (pe_cmpR op_eq (pe_call G__law_pick (hr.mono (by omega)) (by rfl) T.g__law_pick T.F__law_pick.kp T.b__law_pick .nil pass0 (pa_cons (pv 1) (pa_cons pe_int pa_nil))) pe_int (nomark _)))
    (pss_cons (ps_set (i := 4) sc_law.nd rfl (Or.inr rfl) (pe_ifExp (pt_val (pv 2)) (pe_ifExp (pt_val (pv 3)) pe_int (pe_op op_add pe_int (pe_call G__law_pick (hr.mono (by omega)) (by rfl) T.g__law_pick T.F__law_pick.kp T.b__law_pick .nil pass0 (pa_cons (pv 1) (pa_cons pe_int pa_nil))))) (pe_ifExp (pt_val (pv 3)) pe_int (pe_op op_add pe_int (pe_call G__law_pick (hr.mono (by omega)) (by rfl) T.g__law_pick T.F__law_pick.kp T.b__law_pick .nil pass0 (pa_cons (pv 1) (pa_cons pe_int pa_nil)))))))
    (pss_cons (ps_set (i := 5) sc_law.nd rfl (Or.inr rfl) (pe_ifExp (pt_val (pv 2)) (pe_make T.M_SetLattice G_SetLattice_init (hr.mono (by omega)) (by rfl) T.g_SetLattice T.b_SetLattice_init .nil pass0 (pa_cons (pv 4) pa_nil)) (pe_make T.M_ChainLattice G_ChainLattice_init (hr.mono (by omega)) (by rfl) T.g_ChainLattice T.b_ChainLattice_init .nil pass0 (pa_cons (pv 4) pa_nil))))
    (pss_cons (ps_set (i := 6) sc_law.nd rfl (Or.inl rfl) (pe_ifExp (pt_val (pv 2)) (pe_op op_shl pe_int (pv 4)) (pv 4)))
    (pss_cons (ps_set (i := 7) sc_law.nd rfl (Or.inl rfl) (pe_op op_add_str (pe_op op_add_str (pe_ix ix_list (pe_lst (pa_cons pe_str (pa_cons pe_str pa_nil))) (pe_callTy call_int1 (by rfl) T.n_int (by decide +kernel) (pa_cons (pv 2) pa_nil)) (fun _ _ => rfl)) (pe_callTy call_str_int (by rfl) T.n_str (by decide +kernel) (pa_cons (pv 4) pa_nil))) pe_str))
    (pss_cons (ps_set (i := 8) sc_law.nd rfl (Or.inl rfl) (pe_lst (pa_cons (pe_fld (pv 5) rfl) (pa_cons (pe_fld (pv 5) rfl) (pa_cons (pe_fld (pv 5) rfl) (pa_cons (pe_fld (pv 5) rfl) pa_nil))))))
    (pss_cons (ps_if (pt_not (pt_val (pe_call G__law_like (hr.mono (by omega)) (by rfl) T.g__law_like T.F__law_like.kp T.b__law_like .nil pass0 (pa_cons (pv 8) (pa_cons (pe_lst (pa_cons (pv 7) (pa_cons (pv 6) (pa_cons pe_int (pa_cons (pe_op op_sub (pv 6) pe_int) pa_nil))))) pa_nil))))) (pss_one (ps_ret pe_bl)) pss_nil)
    (pss_cons (ps_set (i := 9) sc_law.nd rfl (Or.inl rfl) (pe_ifExp (pt_val (pv 2)) (pe_lc (own := [("k", 10)]) (g := gName 10) (tt := tYes) rfl sc_law.nd (pi_range1 (by rfl) T.n_range (pa_cons (pv 4) pa_nil)) (blkOk_by (N := N_law) (sc := defScope St_law) (by decide +kernel)) (fun _ _ _ _ _ => (pg_name (i := 10) sc_law.nd rfl (Or.inl rfl))) (fun _ _ _ _ _ => pts_nil) (fun _ _ _ _ _ => (pe_op op_shl pe_int (pv 10)))) (pe_lc (own := [("k", 10)]) (g := gName 10) (tt := tYes) rfl sc_law.nd (pi_range2 (by rfl) T.n_range (pa_cons pe_int (pa_cons (pv 6) pa_nil))) (blkOk_by (N := N_law) (sc := defScope St_law) (by decide +kernel)) (fun _ _ _ _ _ => (pg_name (i := 10) sc_law.nd rfl (Or.inl rfl))) (fun _ _ _ _ _ => pts_nil) (fun _ _ _ _ _ => (pv 10)))))
    (pss_cons (ps_if (pt_not (pt_val (pe_call G__law_like (hr.mono (by omega)) (by rfl) T.g__law_like T.F__law_like.kp T.b__law_like .nil pass0 (pa_cons (pe_methG0 (pv 5) G_Lattice_irreducibles (hr.mono (by omega)) T.b_Lattice_irreducibles .nil pass0) (pa_cons (pv 9) pa_nil))))) (pss_one (ps_ret pe_bl)) pss_nil)
    (pss_cons (ps_for PassesOwn.never rfl (pi_range1 (by rfl) T.n_range (pa_cons (pe_op op_add pe_int (pe_call G__law_pick (hr.mono (by omega)) (by rfl) T.g__law_pick T.F__law_pick.kp T.b__law_pick .nil pass0 (pa_cons (pv 1) (pa_cons pe_int pa_nil)))) pa_nil)) (pg_name (i := 10) sc_law.nd rfl (Or.inl rfl)) (pss_cons (ps_set (i := 11) sc_law.nd rfl (Or.inr rfl) (pe_call G__law_pick (hr.mono (by omega)) (by rfl) T.g__law_pick T.F__law_pick.kp T.b__law_pick .nil pass0 (pa_cons (pv 1) (pa_cons (pv 6) pa_nil))))
    (pss_cons (ps_set (i := 12) sc_law.nd rfl (Or.inl rfl) (pe_ifExp (pt_cmpR op_eq (pe_call G__law_pick (hr.mono (by omega)) (by rfl) T.g__law_pick T.F__law_pick.kp T.b__law_pick .nil pass0 (pa_cons (pv 1) (pa_cons pe_int pa_nil))) pe_int (nomark _)) (pv 11) (pe_call G__law_pick (hr.mono (by omega)) (by rfl) T.g__law_pick T.F__law_pick.kp T.b__law_pick .nil pass0 (pa_cons (pv 1) (pa_cons (pv 6) pa_nil)))))
    (pss_cons (ps_set (i := 8) sc_law.nd rfl (Or.inl rfl) (pe_lst (pa_cons (pe_methG (pv 5) G_Lattice_within_at (hr.mono (by omega)) T.b_Lattice_within_at .nil pass0 (pa_cons (pv 11) (pa_cons (pv 12) pa_nil))) (pa_cons (pe_methG (pv 5) G_Lattice_join_at (hr.mono (by omega)) T.b_Lattice_join_at .nil pass0 (pa_cons (pv 11) (pa_cons (pv 12) pa_nil))) (pa_cons (pe_methG (pv 5) G_Lattice_meet_at (hr.mono (by omega)) T.b_Lattice_meet_at .nil pass0 (pa_cons (pv 11) (pa_cons (pv 12) pa_nil))) pa_nil)))))
    (pss_cons (ps_if (pt_not (pt_val (pe_call G__law_like (hr.mono (by omega)) (by rfl) T.g__law_like T.F__law_like.kp T.b__law_like .nil pass0 (pa_cons (pv 8) (pa_cons (pe_call G__law_due (hr.mono (by omega)) (by rfl) T.g__law_due T.F__law_due.kp T.b__law_due .nil pass0 (pa_cons (pv 2) (pa_cons (pv 11) (pa_cons (pv 12) pa_nil)))) pa_nil))))) (pss_one (ps_ret pe_bl)) pss_nil)
    (pss_cons (ps_set (i := 13) sc_law.nd rfl (Or.inl rfl) (pe_callTy call_str_int (by rfl) T.n_str (by decide +kernel) (pa_cons (pv 11) pa_nil)))
    (pss_cons (ps_if (pt_val (pv 2)) (pss_one (ps_set (i := 13) sc_law.nd rfl (Or.inl rfl) (pe_join pe_str (pe_lc (own := [("j", 14)]) (g := gName 14) (tt := tYes) rfl sc_law.nd (pi_range1 (by rfl) T.n_range (pa_cons (pv 4) pa_nil)) (blkOk_by (N := N_law) (sc := defScope St_law) (by decide +kernel)) (fun _ _ _ _ _ => (pg_name (i := 14) sc_law.nd rfl (Or.inl rfl))) (fun _ _ _ _ _ => pts_nil) (fun _ _ _ _ _ => (pe_callTy call_str_int (by rfl) T.n_str (by decide +kernel) (pa_cons (pe_op op_mod (pe_callTy call_int1 (by rfl) T.n_int (by decide +kernel) (pa_cons (pe_op op_shr (pv 11) (pe_op op_sub (pe_op op_sub (pv 4) pe_int) (pv 14))) pa_nil)) pe_int) pa_nil))))))) pss_nil)
    (pss_cons (ps_if (pt_not (pt_val (pe_call G__law_like (hr.mono (by omega)) (by rfl) T.g__law_like T.F__law_like.kp T.b__law_like .nil pass0 (pa_cons (pe_lst (pa_cons (pe_methG (pv 5) G_Lattice_name_at (hr.mono (by omega)) T.b_Lattice_name_at .nil pass0 (pa_cons (pv 11) pa_nil)) (pa_cons (pe_methG (pv 5) G_Lattice_at_name (hr.mono (by omega)) T.b_Lattice_at_name .nil pass0 (pa_cons (pv 13) pa_nil)) pa_nil))) (pa_cons (pe_lst (pa_cons (pv 13) (pa_cons (pv 11) pa_nil))) pa_nil))))) (pss_one (ps_ret pe_bl)) pss_nil)
    (pss_cons (ps_set (i := 15) sc_law.nd rfl (Or.inl rfl) (pe_lst (pa_cons (pe_op op_add_str pe_str (pv 13)) (pa_cons (pe_slice sl_str (pv 13) (po_some pe_int) po_none) (pa_cons (pe_op op_add_str (pe_op op_add_str pe_str (pv 13)) pe_str) (pa_cons (pe_op op_add_str (pv 13) pe_str) (pa_cons (pe_op op_add_str pe_str (pv 13)) (pa_cons (pe_op op_add_str pe_str (pv 13)) (pa_cons pe_str (pa_cons pe_str pa_nil))))))))))
    (pss_cons (ps_set (i := 16) sc_law.nd rfl (Or.inl rfl) (pe_ix ix_list (pv 15) (pe_call G__law_pick (hr.mono (by omega)) (by rfl) T.g__law_pick T.F__law_pick.kp T.b__law_pick .nil pass0 (pa_cons (pv 1) (pa_cons pe_int pa_nil))) (fun _ _ => rfl)))
    (pss_one (ps_if (pt_not (pt_val (pe_call G__law_unknown (hr.mono (by omega)) (by rfl) T.g__law_unknown T.F__law_unknown.kp T.b__law_unknown .nil pass0 (pa_cons (pv 5) (pa_cons (pv 16) (pa_cons (pe_lc (own := [("b", 12)]) (g := gName 12) (tt := tYes) rfl sc_law.nd (pi_range1 (by rfl) T.n_range (pa_cons (pv 6) pa_nil)) (blkOk_by (N := N_law) (sc := defScope St_law) (by decide +kernel)) (fun _ _ _ _ _ => (pg_name (i := 12) sc_law.nd rfl (Or.inl rfl))) (fun _ _ _ _ _ => pts_nil) (fun _ _ _ _ _ => (kx_methG K (pe_methG (pv 5) G_Lattice_name_at (hr.mono (by omega)) T.b_Lattice_name_at .nil pass0 (pa_cons (pv 12) pa_nil))))) pa_nil)))))) (pss_one (ps_ret pe_bl)) pss_nil))))))))))))
    (pss_one (ps_ret pe_bl))))))))))))), ?_⟩
  refine ⟨_, rfl, a, ns, rfl, hS, h63, fun p c m cs H1 sm cp hc pos hp m0 m1 => ?_⟩
  have src1 : Src K c H1 p := ⟨cs, 0, 1, m, ⟨hp, SqL.of (K := K) hc, cp, Nat.zero_le _, by decide, pos, m0, m1⟩⟩
  refine ⟨_, rfl, p, c, 2, rfl, src1, by decide, fun j H2 b2 s2 j0 j1 => ⟨rfl, ?_⟩⟩
  generalize decide (V.int j = V.int 0) = s
  refine ⟨_, rfl, p, c, 8, rfl, s2, by decide, fun g H3 b3 s3 g0 g1 => ⟨rfl, ?_⟩⟩
  generalize decide (V.int g = V.int 0) = gr
  dsimp only [gName]
  refine set_run (fun v H' => ∃ n : Nat, v = .int (n : Nat) ∧ 1 ≤ n ∧ n ≤ (if s then 6 else 64) ∧ But p H3 H' ∧ Src K c H' p) (fun Q' q' => ?_) ?_
  · refine ⟨_, rfl, _, rfl, ?_⟩
    refine ite2 (fun cs => ?_) (fun cs => ?_)
    · refine ⟨_, rfl, _, rfl, ?_⟩
      refine ite2 (fun cg => ?_) (fun cg => ?_)
      · exact q' _ _ ⟨6, rfl, by decide, by rw [if_pos cs]; decide, But.refl _ _, s3⟩
      · refine ⟨_, rfl, p, c, 3, rfl, s3, by decide, fun d H4 b4 s4 d0 d1 => ⟨_, _, rfl, rfl, q' _ _ ⟨(1 + d).toNat, by rw [Int.toNat_of_nonneg (by omega)], by omega, by rw [if_pos cs]; omega, b4, s4⟩⟩⟩
    · refine ⟨_, rfl, _, rfl, ?_⟩
      refine ite2 (fun cg => ?_) (fun cg => ?_)
      · exact q' _ _ ⟨64, rfl, by decide, by rw [if_neg cs]; decide, But.refl _ _, s3⟩
      · refine ⟨_, rfl, p, c, 12, rfl, s3, by decide, fun d H4 b4 s4 d0 d1 => ⟨_, _, rfl, rfl, q' _ _ ⟨(1 + d).toNat, by rw [Int.toNat_of_nonneg (by omega)], by omega, by rw [if_neg cs]; omega, b4, s4⟩⟩⟩
  rintro _ H4 ⟨n, rfl, n1, n2, b4, s4⟩
  dsimp only [gName]
  refine set_run (fun v H' => ∃ (z : Addr) (L : Lt), v = .ref z ∧ IsLat K T.mm H' z L ∧ Kind s n L ∧ Same H4 H') (fun Q' q' => ?_) ?_
  · refine ⟨_, rfl, _, rfl, ?_⟩
    refine ite2 (fun cs => ?_) (fun cs => ?_)
    · rw [if_pos cs] at n2
      exact ⟨_, rfl, fun x dx hx hdx ne => ⟨x, dx, n, rfl, upd_same, n1, n2, fun H' b hl => ⟨rfl, q' _ _ ⟨x, _, rfl, hl, by rw [cs]; exact kind_sets n1 n2, made_same hx hdx b⟩⟩⟩⟩
    · rw [if_neg cs] at n2
      exact ⟨_, rfl, fun x dx hx hdx ne => ⟨x, dx, n, rfl, upd_same, n1, n2, fun H' b hl => ⟨rfl, q' _ _ ⟨x, _, rfl, hl, by rw [Bool.eq_false_iff.mpr cs]; exact kind_chain n1 n2, made_same hx hdx b⟩⟩⟩⟩
  rintro _ H5 ⟨z, L, rfl, hL, kd, sm5⟩
  have s5 := s4.same sm5
  dsimp only [gName]
  refine set_run (fun v H' => v = .int (L.n : Nat) ∧ H5 = H') (fun Q' q' => ?_) ?_
  · refine ⟨_, rfl, _, rfl, ?_⟩
    refine ite2 (fun cs => ?_) (fun cs => ?_)
    · refine ⟨_, rfl, _, _, rfl, rfl, ⟨Int.natCast_nonneg _, ?_, by decide⟩, ?_⟩
      · rw [if_pos cs] at n2; omega
      · have := q' (.int (L.n : Nat)) H5 ⟨rfl, rfl⟩
        rw [kd.n, if_pos cs, ← one_shl] at this
        exact this
    · refine ⟨_, rfl, ?_⟩
      have := q' (.int (L.n : Nat)) H5 ⟨rfl, rfl⟩
      rw [kd.n, if_neg cs] at this
      exact this
  rintro _ _ ⟨rfl, rfl⟩
  dsimp only [gName]
  have nl := natS_len (i := n) (by have := n2; split at this <;> omega)
  refine set_run (fun v H' => v = .str L.label ∧ Same H5 H') (fun Q' q' => ?_) ?_
  · refine ⟨(by show 2 ≤ sizeLine; decide), newQ (.lst [.str "(chain ", .str "(sets "]) fun l hl sl hll => ?_⟩
    generalize upd H5 l (.lst [.str "(chain ", .str "(sets "]) = H6 at sl hll ⊢
    refine ⟨_, rfl, .inr ⟨_, rfl, l, _, _, .str (if s then ("(sets " : Str) else ("(chain " : Str)), rfl, rfl, SqL.of (K := K) hll, ?_, ?_⟩⟩
    · cases s
      · exact atI_nat (j := 0) rfl
      · exact atI_nat (j := 1) rfl
    have l7 : (if s then ("(sets " : Str) else ("(chain " : Str)).length ≤ 7 := by cases s <;> decide
    have l1 : (")" : Str).length = 1 := rfl
    refine ⟨_, rfl, _, rfl, log_small (by have := n2; split at this <;> omega), _, _, rfl, rfl, small_line (by show _ + (natS n).length ≤ _; omega), _, _, rfl, rfl, small_line (by show (_ ++ natS n).length + _ ≤ _; rw [Str.length_append]; omega), ?_⟩
    have := q' _ _ ⟨rfl, sl⟩
    rw [kd.lab] at this
    exact this
  rintro _ H6 ⟨rfl, sm6⟩
  have hL6 := hL.same sm6
  obtain ⟨C, dx, fs, tn, td, tu, A6⟩ := id hL6
  refine ⟨_, rfl, z, C, dx, fs, _, rfl, A6.at_, A6.c.cl, A6.c.na _ (by decide), A6.label, _, rfl, z, C, dx, fs, _, rfl, A6.at_, A6.c.cl, A6.c.na _ (by decide), A6.size, _, rfl, z, C, dx, fs, _, rfl, A6.at_, A6.c.cl, A6.c.na _ (by decide), A6.bot, _, rfl, z, C, dx, fs, _, rfl, A6.at_, A6.c.cl, A6.c.na _ (by decide), A6.top, (by show 4 ≤ sizeLine; decide), newQ (.lst [.str L.label, .int (L.n : Nat), optV L.bot, optV L.top]) fun l8 hl8 sm8 h8 => ?_⟩
  generalize upd H6 l8 (.lst [.str L.label, .int (L.n : Nat), optV L.bot, optV L.top]) = H8 at sm8 h8 ⊢
  have n1' := kd.n1
  have subn : (L.n : Int) - 1 = ((L.n - 1 : Nat) : Int) := by omega
  refine ⟨_, rfl, _, rfl, _, rfl, _, rfl, _, _, rfl, rfl, (by show 4 ≤ sizeLine; decide), newQ (.lst [.str L.label, .int (L.n : Nat), .int 0, .int ((L.n : Int) - 1)]) fun l9 hl9 sm9 h9 => ?_⟩
  generalize upd H8 l9 (.lst [.str L.label, .int (L.n : Nat), .int 0, .int ((L.n : Int) - 1)]) = H9 at sm9 h9 ⊢
  rw [kd.bot, kd.top] at h8
  rw [subn] at h9
  refine ⟨.lst [.str L.label, .int (L.n : Int), .int 0, .int ((L.n - 1 : Nat) : Int)], _, _, rfl, ⟨l8, _, rfl, sm9 _ _ h8, _, _, rfl, rfl, _, _, rfl, rfl, _, _, rfl, rfl, _, _, rfl, rfl, rfl⟩, ⟨l9, _, rfl, h9, _, _, rfl, rfl, _, _, rfl, rfl, _, _, rfl, rfl, _, _, rfl, rfl, rfl⟩, by simp [Dv.depth, Dv.depthA], by simp [Dv.wide, Dv.wideA], fun H10 sm10 => ⟨_, rfl, ?_⟩⟩
  refine iteF ?_
  have s10 : Src K c H10 p := (((s5.same sm6).same sm8).same sm9).same sm10
  have hL10 : IsLat K T.mm H10 z L := ((hL6.same sm8).same sm9).same sm10
  refine nx_run ?_
  dsimp only
  refine set_run (fun v H' => ∃ l, v = .ref l ∧ H' l = some (.lst (natV L.irrs)) ∧ Same H10 H') (fun Q' q' => ?_) ?_
  · refine ⟨_, rfl, _, rfl, ?_⟩
    refine ite2 (fun cs => ?_) (fun cs => ?_)
    · rw [if_pos cs] at n2
      refine ⟨_, rfl, _, rfl, by omega, by omega, fun D hD => ?_⟩
      refine lc_fold walk_range hD (fun i _ ys => i ≤ n ∧ ys = natV ((List.range i).map (2 ^ ·))) (fun _ => ⟨Nat.zero_le _, rfl⟩) (fun i _ _ xs _ h => h) ?_ (fun _ _ => trivial) ?_ ?_
      · rintro i _ ys ⟨hi, rfl⟩
        rw [natV_length, List.length_map, List.length_range]; omega
      · rintro i x H11 H12 ys Nx Ex hi s11 ⟨_, rfl⟩ ⟨rfl, ex⟩ k1 k2
        have hi : i < n := hi
        obtain rfl := yfn0 ex
        refine ⟨rfl, ?_⟩
        refine lcY ?_
        refine ⟨_, rfl, _, _, rfl, rfl, ⟨Int.natCast_nonneg _, by omega, by decide⟩, k1 _ _ (Same.refl _) ⟨hi, ?_⟩⟩
        rw [List.range_succ, List.map_append, natV_append]
        show _ ++ [V.int (1 * 2 ^ ((i : Int)).toNat)] = _
        rw [one_shl]
        rfl
      · rintro H11 ys s11 h11 ⟨_, rfl⟩
        exact q' _ _ ⟨D, rfl, by rw [kd.irr, if_pos cs]; exact h11, s11⟩
    · have en := kd.n
      rw [if_neg cs] at n2 en
      refine ⟨_, rfl, 1, (L.n : Int), rfl, ⟨by decide, by decide, by have := kd.n64; omega, by have := kd.n64; omega⟩, fun D hD => ?_⟩
      have ez : ((L.n : Int) - 1).toNat = n - 1 := by omega
      rw [ez]
      refine lc_fold (walk_range (lo := 1)) hD (fun i _ ys => i ≤ n - 1 ∧ ys = natV ((List.range i).map (· + 1))) (fun _ => ⟨Nat.zero_le _, rfl⟩) (fun i _ _ xs _ h => h) ?_ (fun _ _ => trivial) ?_ ?_
      · rintro i _ ys ⟨hi, rfl⟩
        rw [natV_length, List.length_map, List.length_range]; omega
      · rintro i x H11 H12 ys Nx Ex hi s11 ⟨_, rfl⟩ ⟨rfl, rfl⟩ k1 k2
        refine ⟨rfl, ?_⟩
        refine lcY ?_
        refine ⟨_, rfl, k1 _ _ (Same.refl _) ⟨hi, ?_⟩⟩
        rw [List.range_succ, List.map_append, natV_append]
        show _ ++ [V.int (1 + (i : Int))] = _ ++ [V.int ((i + 1 : Nat) : Int)]
        rw [Int.add_comm]
        rfl
      · rintro H11 ys s11 h11 ⟨_, rfl⟩
        exact q' _ _ ⟨D, rfl, by rw [kd.irr, if_neg cs]; exact h11, s11⟩
  rintro _ H11 ⟨l9', rfl, h11, sm11⟩
  have hL11 := hL10.same sm11
  have s11 := s10.same sm11
  obtain ⟨C2, dx2, fs2, tn2, td2, tu2, A11⟩ := id hL11
  have irz : L.irrs.length ≤ 64 := Nat.le_trans (filter_le _ _) kd.n64
  refine ⟨_, rfl, z, C2, dx2, fs2, rfl, A11.at_, A11.c.cl, A11.c.me _ T.in_irreducibles, A11.no _ T.in_irreducibles, z, L, rfl, hL11, by have := kd.n64; omega, fun l12 H12 sm12 _ h12 => ?_⟩
  refine ⟨_, rfl, .lst (Dv.ints L.irrs), _, _, rfl, ⟨l12, _, rfl, h12, lda_ints _⟩, ⟨l9', _, rfl, sm12 _ _ h11, lda_ints _⟩, ?_, ⟨by unfold Dv.ints; rw [List.length_map]; omega, Dv.ints_wide _⟩, fun H13 sm13 => ⟨_, rfl, ?_⟩⟩
  · have := Dv.ints_depth L.irrs
    simp only [Dv.depth]
    omega
  refine iteF ?_
  refine nx_run ?_
  dsimp only
  have s13 : Src K c H13 p := (s11.same sm12).same sm13
  have hL13 : IsLat K T.mm H13 z L := (hL11.same sm12).same sm13
  refine rg_run (fun m H' => 0 ≤ m ∧ m ≤ 30 ∧ But p H13 H' ∧ Src K c H' p) (fun Q' q' => ?_) ?_
  · exact ⟨_, rfl, p, c, 20, rfl, s13, by decide, fun d H14 b14 s14 d0 d1 => ⟨_, _, rfl, rfl, q' _ _ ⟨by omega, by omega, b14, s14⟩⟩⟩
  rintro m H14 ⟨m0, m1, b14, s14⟩
  refine ⟨_, rfl, by omega, by omega, ?_⟩
  refine for_it walk_range (fun i σ H' => ∃ (v8 v10 v11 v12 v13 v14 v15 v16 : Option V), σ = [some (.ref a), some (.ref p), some (.bl s), some (.bl gr), some (.int (n : Nat)), some (.ref z), some (.int (L.n : Nat)), some (.str L.label), v8, some (.ref l9'), v10, v11, v12, v13, v14, v15, v16] ∧ Src K c H' p ∧ IsLat K T.mm H' z L) ?_ (fun _ _ _ _ _ => trivial) ?_ ?_
  · exact ⟨_, _, _, _, _, _, _, _, rfl, s14, hL13.drawn s13 b14⟩
  · rintro i x σ H15 H15' hi ⟨v8, v10, v11, v12, v13, v14, v15, v16, rfl, s15, hL15⟩ ⟨e1, rfl⟩
    obtain rfl : H15 = H15' := e1.symm
    have n64 := kd.n64
    refine ⟨_, rfl, _, rfl, p, c, (L.n : Int), rfl, s15, by omega, fun d H16 b16 s16 d0 d1 => ?_⟩
    obtain ⟨u, rfl⟩ : ∃ u : Nat, d = (u : Int) := ⟨d.toNat, by omega⟩
    have hu : u < L.n := by omega
    have hL16 := hL15.drawn s15 b16
    dsimp only [gName]
    refine set_run (fun v H' => ∃ b : Nat, v = .int (b : Nat) ∧ b < L.n ∧ But p H16 H' ∧ Src K c H' p) (fun Q' q' => ?_) ?_
    · refine ⟨_, rfl, p, c, 6, rfl, s16, by decide, fun d2 H17 b17 s17 _ _ => ⟨rfl, _, rfl, ?_⟩⟩
      refine ite2 (fun cb => ?_) (fun cb => ?_)
      · exact ⟨_, rfl, q' _ _ ⟨u, rfl, hu, b17, s17⟩⟩
      · exact ⟨_, rfl, _, rfl, p, c, (L.n : Int), rfl, s17, by omega, fun d3 H18 b18 s18 e0 e1 => q' _ _ ⟨d3.toNat, by rw [Int.toNat_of_nonneg e0], by omega, b17.trans b18, s18⟩⟩
    rintro _ H17 ⟨b, rfl, hb, b17, s17⟩
    have hL17 := hL16.drawn s16 b17
    obtain ⟨C3, dx3, fs3, tn3, td3, tu3, A17⟩ := id hL17
    obtain ⟨jj, mm, ej, em, edue⟩ := kd.rel u b hu hb
    refine ⟨_, rfl, z, C3, dx3, fs3, rfl, A17.at_, A17.c.cl, A17.c.me _ T.in_within_at, A17.no _ T.in_within_at, _, rfl, _, rfl, z, L, u, b, rfl, hL17, hu, hb, fun H18 sm18 => ?_⟩
    have A18 := A17.same sm18
    refine ⟨_, rfl, z, C3, dx3, fs3, rfl, A18.at_, A18.c.cl, A18.c.me _ T.in_join_at, A18.no _ T.in_join_at, _, rfl, _, rfl, z, L, u, b, rfl, hL17.same sm18, by omega, hu, hb, fun H19 sm19 => ?_⟩
    have A19 := A18.same sm19
    refine ⟨_, rfl, z, C3, dx3, fs3, rfl, A19.at_, A19.c.cl, A19.c.me _ T.in_meet_at, A19.no _ T.in_meet_at, _, rfl, _, rfl, z, L, u, b, rfl, (hL17.same sm18).same sm19, by omega, hu, hb, fun H20 sm20 => ?_⟩
    refine ⟨(by show 3 ≤ sizeLine; decide), newQ (.lst [.bl (L.le u b), optV (L.join u b), optV (L.meet u b)]) fun l21 hl21 sm21 h21 => ?_⟩
    generalize upd H20 l21 (.lst [.bl (L.le u b), optV (L.join u b), optV (L.meet u b)]) = H21 at sm21 h21 ⊢
    rw [ej, em] at h21
    refine ⟨_, rfl, _, rfl, _, rfl, _, rfl, s, u, b, rfl, fun l22 H22 sm22 ld22 => ?_⟩
    have hl21' : Ld K H22 (.lst (dueV s u b)) (.ref l21) := by
      rw [← edue]
      exact ⟨l21, _, rfl, sm22 _ _ h21, _, _, rfl, rfl, _, _, rfl, rfl, _, _, rfl, rfl, rfl⟩
    refine ⟨.lst (dueV s u b), _, _, rfl, hl21', ld22, ?_, ?_, fun H23 sm23 => ⟨_, rfl, ?_⟩⟩
    · rw [← edue]; simp [Dv.depth, Dv.depthA]
    · rw [← edue]; simp [Dv.wide, Dv.wideA]
    refine iteF ?_
    have sm1723 := ((((sm18.trans sm19).trans sm20).trans sm21).trans sm22).trans sm23
    have s23 := s17.same sm1723
    have hL23 := hL17.same sm1723
    refine nx_run ?_
    dsimp only
    refine ⟨_, rfl, _, rfl, log_small (by omega), ?_⟩
    dsimp only [gName]
    have hnm := kd.name u hu
    refine st_run (fun σ' H' => σ' = [some (.ref a), some (.ref p), some (.bl s), some (.bl gr), some (.int (n : Nat)), some (.ref z), some (.int (L.n : Nat)), some (.str L.label), some (.ref l21), some (.ref l9'), some (.int (0 + (i : Int))), some (.int (u : Nat)), some (.int (b : Nat)), some (.str (if s then setName n u else natS u)), v14, v15, v16] ∧ Same H23 H') (fun D' _ hD' => ?_) ?_
    · refine ⟨_, rfl, _, rfl, ?_⟩
      refine ite2 (fun cs => ?_) (fun cs => ?_)
      · rw [if_pos cs] at n2
        refine ⟨⟨_, rfl⟩, _, rfl, _, rfl, by omega, by omega, fun D hD => ?_⟩
        refine lc_fold walk_range hD (fun i _ ys => i ≤ n ∧ ys = ((List.range i).map fun j => digS u (n - 1 - j)).map V.str) (fun _ => ⟨Nat.zero_le _, rfl⟩) (fun i _ _ xs _ h => h) ?_ (fun _ _ => trivial) ?_ ?_
        · rintro i _ ys ⟨hi, rfl⟩
          rw [List.length_map, List.length_map, List.length_range]; omega
        · rintro j x H24 H25 ys Nx Ex hj s24 ⟨_, rfl⟩ ⟨rfl, ex⟩ k1 k2
          have hj : j < n := hj
          obtain rfl := yfn0 ex
          refine ⟨rfl, ?_⟩
          refine lcY ?_
          have ej : ((n : Int) - 1 - (j : Int)) = ((n - 1 - j : Nat) : Int) := by omega
          refine ⟨_, rfl, _, rfl, _, _, rfl, rfl, _, rfl, _, _, rfl, rfl, _, _, rfl, rfl, (by show (0 : Int) ≤ (n : Int) - 1 - (j : Int); omega), .inl ⟨_, rfl, _, _, rfl, rfl, (by show (0 : Int) < 2; decide), _, rfl, ?_, ?_⟩⟩
          · show (((u : Int) / 2 ^ ((n : Int) - 1 - (j : Int)).toNat) % 2).natAbs.log2 < 1920
            exact (digS_mod _ _).2
          · have := k1 (.str (digS u (n - 1 - j))) _ (Same.refl _) ⟨hj, by rw [List.range_succ, List.map_append, List.map_append]; rfl⟩
            rw [← (digS_mod _ _).1, ← Int.toNat_natCast (n - 1 - j), ← ej] at this
            exact this
        · rintro H24 ys s24 h24 ⟨_, rfl⟩
          refine ⟨"", D, setDigs n u, rfl, rfl, .inl (SqL.of (K := K) h24), ?_, hD' _ _ ⟨?_, s24⟩⟩
          · rw [setDigs_sum]
            show n + (setDigs n u).length * 0 ≤ _
            omega
          · rw [if_pos cs]; rfl
      · refine hD' _ _ ⟨?_, Same.refl _⟩
        rw [if_neg cs]; rfl
    rintro _ H24 ⟨rfl, sm24⟩
    generalize (if s then setName n u else natS u) = nm at hnm
    have hL24 := hL23.same sm24
    have s24 := s23.same sm24
    have nl10 := kd.len nm (List.mem_of_getElem? hnm)
    obtain ⟨C4, dx4, fs4, tn4, td4, tu4, A24⟩ := id hL24
    refine ⟨_, rfl, z, C4, dx4, fs4, rfl, A24.at_, A24.c.cl, A24.c.me _ T.in_name_at, A24.no _ T.in_name_at, _, rfl, z, L, u, nm, rfl, hL24, hnm, fun H25 sm25 => ?_⟩
    have A25 := A24.same sm25
    refine ⟨_, rfl, z, C4, dx4, fs4, rfl, A25.at_, A25.c.cl, A25.c.me _ T.in_at_name, A25.no _ T.in_at_name, _, rfl, z, L, u, nm, rfl, hL24.same sm25, kd.nd, hnm, fun H26 sm26 => ?_⟩
    refine ⟨(by show 2 ≤ sizeLine; decide), newQ (.lst [.str nm, .int (u : Nat)]) fun l27 hl27 sm27 h27 => ?_⟩
    generalize upd H26 l27 (.lst [.str nm, .int (u : Nat)]) = H27 at sm27 h27 ⊢
    refine ⟨_, rfl, _, rfl, (by show 2 ≤ sizeLine; decide), newQ (.lst [.str nm, .int (u : Nat)]) fun l28 hl28 sm28 h28 => ?_⟩
    generalize upd H27 l28 (.lst [.str nm, .int (u : Nat)]) = H28 at sm28 h28 ⊢
    refine ⟨.lst [.str nm, .int (u : Nat)], _, _, rfl, ⟨l27, _, rfl, sm28 _ _ h27, _, _, rfl, rfl, _, _, rfl, rfl, rfl⟩, ⟨l28, _, rfl, h28, _, _, rfl, rfl, _, _, rfl, rfl, rfl⟩, by simp [Dv.depth, Dv.depthA], by simp [Dv.wide, Dv.wideA], fun H29 sm29 => ⟨_, rfl, ?_⟩⟩
    refine iteF ?_
    have sm2429 := (((sm25.trans sm26).trans sm27).trans sm28).trans sm29
    have s29 := s24.same sm2429
    have hL29 := hL24.same sm2429
    refine nx_run ?_
    dsimp only
    have one : ∀ x : Str, x.length ≤ 2 → x.length + nm.length ≤ sizeLine ∧ nm.length + x.length ≤ sizeLine := fun x hx => ⟨small_line (by omega), small_line (by omega)⟩
    have o1 : ("1" : Str).length = 1 := rfl
    have o0 : ("0" : Str).length = 1 := rfl
    refine ⟨_, rfl, _, _, rfl, rfl, (one "0" (by decide)).1, _, rfl, 1, rfl, nm, rfl, small_line (by omega), _, rfl, _, _, rfl, rfl, (one "1" (by decide)).1, _, _, rfl, rfl, small_line (by show (_ ++ _ : Str).length + _ ≤ _; rw [Str.length_append]; omega), _, rfl, _, _, rfl, rfl, (one "_" (by decide)).2, _, rfl, _, _, rfl, rfl, (one " " (by decide)).1, _, rfl, _, _, rfl, rfl, (one "+" (by decide)).1, ?_⟩
    refine ⟨(by show 8 ≤ sizeLine; decide), newQ (.lst ([("0" : Str) ++ nm, cutS nm (some 1) none, ("1" : Str) ++ nm ++ ("0" : Str), nm ++ ("_" : Str), (" " : Str) ++ nm, ("+" : Str) ++ nm, ("-1" : Str), ("" : Str)].map V.str)) fun l30 hl30 sm30 h30 => ?_⟩
    have lens : ∀ x ∈ [("0" : Str) ++ nm, cutS nm (some 1) none, ("1" : Str) ++ nm ++ ("0" : Str), nm ++ ("_" : Str), (" " : Str) ++ nm, ("+" : Str) ++ nm, ("-1" : Str), ("" : Str)], x.length ≤ 1000 := by
      have c1 := cutS_length nm (some 1) none
      have o2 : ("_" : Str).length = 1 := rfl
      have o3 : (" " : Str).length = 1 := rfl
      have o4 : ("+" : Str).length = 1 := rfl
      intro x hx
      simp only [List.mem_cons, List.not_mem_nil, or_false] at hx
      rcases hx with rfl | rfl | rfl | rfl | rfl | rfl | rfl | rfl
      · rw [Str.length_append]; omega
      · omega
      · rw [Str.length_append, Str.length_append]; omega
      · rw [Str.length_append]; omega
      · rw [Str.length_append]; omega
      · rw [Str.length_append]; omega
      · decide
      · decide
    have s30 := s29.same sm30
    have hL30 := hL29.same sm30
    have np30 : l30 ≠ p := s29.ne hl30
    refine ⟨_, rfl, _, rfl, p, c, 8, rfl, s30, by decide, fun d H31 b31 s31 d0 d1 => ?_⟩
    obtain ⟨wd, hw, ew⟩ := str_at' (xs := [("0" : Str) ++ nm, cutS nm (some 1) none, ("1" : Str) ++ nm ++ ("0" : Str), nm ++ ("_" : Str), (" " : Str) ++ nm, ("+" : Str) ++ nm, ("-1" : Str), ("" : Str)]) d0 (by show d < 8; omega)
    refine ⟨l30, _, _, _, rfl, rfl, b31.seq np30 (SqL.of (K := K) h30), ew, ?_⟩
    have hL31 := hL30.drawn s30 b31
    have wl := lens wd hw
    refine ⟨_, rfl, _, rfl, _, rfl, _, rfl, by omega, by omega, fun D hD => ?_⟩
    refine lc_fold walk_range hD (fun i _ ys => i ≤ L.n ∧ ys = (L.names.take i).map V.str) (fun _ => ⟨Nat.zero_le _, rfl⟩) (fun i _ _ xs _ h => h) ?_ (fun _ _ => trivial) ?_ ?_
    · rintro i _ ys ⟨hi, rfl⟩
      rw [List.length_map, List.length_take]; omega
    · rintro j x H32 H33 ys Nx Ex hj sm32 ⟨_, rfl⟩ ⟨rfl, ex⟩ k1 k2
      have hj : j < L.n := hj
      obtain rfl := yfn0 ex
      refine ⟨rfl, ?_⟩
      refine lcY ?_
      have hL32 := hL31.same sm32
      obtain ⟨C5, dx5, fs5, tn5, td5, tu5, A32⟩ := id hL32
      have hjn : L.names[j]? = some L.names[j] := List.getElem?_eq_getElem hj
      refine ⟨_, rfl, z, C5, dx5, fs5, rfl, A32.at_, A32.c.cl, A32.c.me _ T.in_name_at, A32.no _ T.in_name_at, _, rfl, z, L, j, _, rfl, hL32, hjn, fun H34 sm34 => k1 _ _ sm34 ⟨hj, ?_⟩⟩
      rw [take_snoc hjn, List.map_append]
      rfl
    · rintro H32 ys sm32 h32 ⟨_, rfl⟩
      have et : L.names.take L.n = L.names := List.take_length
      have h32 : H32 D = some (.lst (L.names.map V.str)) := by
        have := h32
        rw [show ((L.n : Int)).toNat = L.n from rfl, et] at this
        exact this
      refine ⟨z, D, L, wd, rfl, hL31.same sm32, SqL.of (K := K) h32, kd.nd, wl, fun H33 sm33 => ⟨_, rfl, ?_⟩⟩
      refine iteF ?_
      exact ⟨_, _, _, _, _, _, _, _, rfl, (s31.same sm32).same sm33, (hL31.same sm32).same sm33⟩
  · rintro σ H15 ⟨v8, v10, v11, v12, v13, v14, v15, v16, rfl, s15, hL15⟩
    exact q _
end
theorem all_mk {l : PySem.W.OpenLaw} {W_ : World} {K : PySem.W.Frag} {h : Heap} {mg : Str → Option Value} {fa : Addr} (X : K.In h) (G : h.Ns mainGlobals mg) (hfa : mg "law" = some (.ref fa))
    {f_first_place f_parts_among f__law_cells f__law_pick f__law_like f__law_due f__law_unknown f_law f_Lattice f_Lattice_init td_Lattice_init f_Lattice_within_at f_Lattice_join_at f_Lattice_meet_at f_Lattice_name_at f_Lattice_at_name f_Lattice_irreducibles f_ChainLattice f_ChainLattice_init cda_ChainLattice_init cc_ChainLattice_init f_SetLattice f_SetLattice_init cda_SetLattice_init cc_SetLattice_init f_NameMissing f_UnknownValue f_UnknownValue_init cda_UnknownValue_init cc_UnknownValue_init : Addr}
    {od_first_place an_first_place : Option Addr} {sl_first_place : Array (Option Value)} {oc_first_place kV_first_place dc_first_place pm_first_place cd_first_place ct_first_place : Value} {od_parts_among an_parts_among : Option Addr} {sl_parts_among : Array (Option Value)} {oc_parts_among kV_parts_among dc_parts_among pm_parts_among cd_parts_among ct_parts_among : Value} {od__law_cells an__law_cells : Option Addr} {sl__law_cells : Array (Option Value)} {oc__law_cells kV__law_cells dc__law_cells pm__law_cells cd__law_cells ct__law_cells : Value} {od__law_pick an__law_pick : Option Addr} {sl__law_pick : Array (Option Value)} {oc__law_pick kV__law_pick dc__law_pick pm__law_pick cd__law_pick ct__law_pick : Value} {od__law_like an__law_like : Option Addr} {sl__law_like : Array (Option Value)} {oc__law_like kV__law_like dc__law_like pm__law_like cd__law_like ct__law_like : Value} {od__law_due an__law_due : Option Addr} {sl__law_due : Array (Option Value)} {oc__law_due kV__law_due dc__law_due pm__law_due cd__law_due ct__law_due : Value} {od__law_unknown an__law_unknown : Option Addr} {sl__law_unknown : Array (Option Value)} {oc__law_unknown kV__law_unknown dc__law_unknown pm__law_unknown cd__law_unknown ct__law_unknown : Value} {od_law an_law : Option Addr} {sl_law : Array (Option Value)} {oc_law kV_law dc_law pm_law cd_law ct_law : Value} {u_MOST_VALUES : Tok} {od_Lattice_init an_Lattice_init : Option Addr} {sl_Lattice_init : Array (Option Value)} {oc_Lattice_init kV_Lattice_init dc_Lattice_init pm_Lattice_init cd_Lattice_init ct_Lattice_init : Value} {du0_Lattice_init : Tok} {dn_Lattice_init : Nat} {od_Lattice_within_at an_Lattice_within_at : Option Addr} {sl_Lattice_within_at : Array (Option Value)} {oc_Lattice_within_at kV_Lattice_within_at dc_Lattice_within_at pm_Lattice_within_at cd_Lattice_within_at ct_Lattice_within_at : Value} {od_Lattice_join_at an_Lattice_join_at : Option Addr} {sl_Lattice_join_at : Array (Option Value)} {oc_Lattice_join_at kV_Lattice_join_at dc_Lattice_join_at pm_Lattice_join_at cd_Lattice_join_at ct_Lattice_join_at : Value} {od_Lattice_meet_at an_Lattice_meet_at : Option Addr} {sl_Lattice_meet_at : Array (Option Value)} {oc_Lattice_meet_at kV_Lattice_meet_at dc_Lattice_meet_at pm_Lattice_meet_at cd_Lattice_meet_at ct_Lattice_meet_at : Value} {od_Lattice_name_at an_Lattice_name_at : Option Addr} {sl_Lattice_name_at : Array (Option Value)} {oc_Lattice_name_at kV_Lattice_name_at dc_Lattice_name_at pm_Lattice_name_at cd_Lattice_name_at ct_Lattice_name_at : Value} {od_Lattice_at_name an_Lattice_at_name : Option Addr} {sl_Lattice_at_name : Array (Option Value)} {oc_Lattice_at_name kV_Lattice_at_name dc_Lattice_at_name pm_Lattice_at_name cd_Lattice_at_name ct_Lattice_at_name : Value} {od_Lattice_irreducibles an_Lattice_irreducibles : Option Addr} {sl_Lattice_irreducibles : Array (Option Value)} {oc_Lattice_irreducibles kV_Lattice_irreducibles dc_Lattice_irreducibles pm_Lattice_irreducibles cd_Lattice_irreducibles ct_Lattice_irreducibles : Value} {od_ChainLattice_init an_ChainLattice_init vb_ChainLattice_init cb_ChainLattice_init : Option Addr} {sl_ChainLattice_init ve_ChainLattice_init ce_ChainLattice_init : Array (Option Value)} {vs_ChainLattice_init : Array Value} {fl_ChainLattice_init : Str} {tf_ChainLattice_init : Tok} {oc_ChainLattice_init kV_ChainLattice_init dc_ChainLattice_init pm_ChainLattice_init ct_ChainLattice_init va_ChainLattice_init ca_ChainLattice_init : Value} {od_SetLattice_init an_SetLattice_init vb_SetLattice_init cb_SetLattice_init : Option Addr} {sl_SetLattice_init ve_SetLattice_init ce_SetLattice_init : Array (Option Value)} {vs_SetLattice_init : Array Value} {fl_SetLattice_init : Str} {tf_SetLattice_init : Tok} {oc_SetLattice_init kV_SetLattice_init dc_SetLattice_init pm_SetLattice_init ct_SetLattice_init va_SetLattice_init ca_SetLattice_init : Value} {nm_NameMissing qn_NameMissing : Str} {ns_NameMissing : Addr} {bs_NameMissing sub_NameMissing : List Value} {sn_NameMissing : List Str} {ab_NameMissing : Bool} {col_NameMissing : Option Bool} {ddc_NameMissing : Option Addr} {k0_NameMissing k1_NameMissing k2_NameMissing k3_NameMissing k5_NameMissing : Option Value} {nm_UnknownValue qn_UnknownValue : Str} {ns_UnknownValue : Addr} {bs_UnknownValue sub_UnknownValue : List Value} {sn_UnknownValue : List Str} {ab_UnknownValue : Bool} {col_UnknownValue : Option Bool} {ddc_UnknownValue : Option Addr} {k0_UnknownValue k1_UnknownValue k2_UnknownValue k3_UnknownValue k5_UnknownValue : Option Value} {od_UnknownValue_init an_UnknownValue_init vb_UnknownValue_init cb_UnknownValue_init : Option Addr} {sl_UnknownValue_init ve_UnknownValue_init ce_UnknownValue_init : Array (Option Value)} {vs_UnknownValue_init : Array Value} {fl_UnknownValue_init : Str} {tf_UnknownValue_init : Tok} {oc_UnknownValue_init kV_UnknownValue_init dc_UnknownValue_init pm_UnknownValue_init ct_UnknownValue_init va_UnknownValue_init ca_UnknownValue_init : Value} {cd_UnknownValue : ClassData} {cd_ChainLattice : ClassData} {cd_SetLattice : ClassData}
    (z_abs : PySem.W.nsIn K mainGlobals "abs" = some none)
    (z_bool : PySem.W.nsIn K mainGlobals "bool" = some none)
    (z_dict : PySem.W.nsIn K mainGlobals "dict" = some none)
    (z_enumerate : PySem.W.nsIn K mainGlobals "enumerate" = some none)
    (z_int : PySem.W.nsIn K mainGlobals "int" = some none)
    (z_isinstance : PySem.W.nsIn K mainGlobals "isinstance" = some none)
    (z_len : PySem.W.nsIn K mainGlobals "len" = some none)
    (z_list : PySem.W.nsIn K mainGlobals "list" = some none)
    (z_max : PySem.W.nsIn K mainGlobals "max" = some none)
    (z_min : PySem.W.nsIn K mainGlobals "min" = some none)
    (z_range : PySem.W.nsIn K mainGlobals "range" = some none)
    (z_str : PySem.W.nsIn K mainGlobals "str" = some none)
    (z_sum : PySem.W.nsIn K mainGlobals "sum" = some none)
    (z_super : PySem.W.nsIn K mainGlobals "super" = some none)
    (z_tuple : PySem.W.nsIn K mainGlobals "tuple" = some none)
    (g_first_place : PySem.W.nsIn K mainGlobals "first_place" = some (some (.ref f_first_place)))
    (l_first_place : K.lookup f_first_place = some ⟨oc_first_place, od_first_place, .func (PySem.W.fnOf "first_place" "first_place" (defArgs St_first_place) (defBody St_first_place) (defScope St_first_place) .none kV_first_place dc_first_place pm_first_place an_first_place cd_first_place ct_first_place), sl_first_place⟩)
    (c_first_place : PySem.W.codeIn K cd_first_place "first_place" = true)
    (k_first_place : PySem.W.keepIn K (.ref f_first_place) = true)
    (g_parts_among : PySem.W.nsIn K mainGlobals "parts_among" = some (some (.ref f_parts_among)))
    (l_parts_among : K.lookup f_parts_among = some ⟨oc_parts_among, od_parts_among, .func (PySem.W.fnOf "parts_among" "parts_among" (defArgs St_parts_among) (defBody St_parts_among) (defScope St_parts_among) .none kV_parts_among dc_parts_among pm_parts_among an_parts_among cd_parts_among ct_parts_among), sl_parts_among⟩)
    (c_parts_among : PySem.W.codeIn K cd_parts_among "parts_among" = true)
    (k_parts_among : PySem.W.keepIn K (.ref f_parts_among) = true)
    (g__law_cells : PySem.W.nsIn K mainGlobals "_law_cells" = some (some (.ref f__law_cells)))
    (l__law_cells : K.lookup f__law_cells = some ⟨oc__law_cells, od__law_cells, .func (PySem.W.fnOf "_law_cells" "_law_cells" (defArgs St__law_cells) (defBody St__law_cells) (defScope St__law_cells) .none kV__law_cells dc__law_cells pm__law_cells an__law_cells cd__law_cells ct__law_cells), sl__law_cells⟩)
    (c__law_cells : PySem.W.codeIn K cd__law_cells "_law_cells" = true)
    (k__law_cells : PySem.W.keepIn K (.ref f__law_cells) = true)
    (g__law_pick : PySem.W.nsIn K mainGlobals "_law_pick" = some (some (.ref f__law_pick)))
    (l__law_pick : K.lookup f__law_pick = some ⟨oc__law_pick, od__law_pick, .func (PySem.W.fnOf "_law_pick" "_law_pick" (defArgs St__law_pick) (defBody St__law_pick) (defScope St__law_pick) .none kV__law_pick dc__law_pick pm__law_pick an__law_pick cd__law_pick ct__law_pick), sl__law_pick⟩)
    (c__law_pick : PySem.W.codeIn K cd__law_pick "_law_pick" = true)
    (k__law_pick : PySem.W.keepIn K (.ref f__law_pick) = true)
    (g__law_like : PySem.W.nsIn K mainGlobals "_law_like" = some (some (.ref f__law_like)))
    (l__law_like : K.lookup f__law_like = some ⟨oc__law_like, od__law_like, .func (PySem.W.fnOf "_law_like" "_law_like" (defArgs St__law_like) (defBody St__law_like) (defScope St__law_like) .none kV__law_like dc__law_like pm__law_like an__law_like cd__law_like ct__law_like), sl__law_like⟩)
    (c__law_like : PySem.W.codeIn K cd__law_like "_law_like" = true)
    (k__law_like : PySem.W.keepIn K (.ref f__law_like) = true)
    (g__law_due : PySem.W.nsIn K mainGlobals "_law_due" = some (some (.ref f__law_due)))
    (l__law_due : K.lookup f__law_due = some ⟨oc__law_due, od__law_due, .func (PySem.W.fnOf "_law_due" "_law_due" (defArgs St__law_due) (defBody St__law_due) (defScope St__law_due) .none kV__law_due dc__law_due pm__law_due an__law_due cd__law_due ct__law_due), sl__law_due⟩)
    (c__law_due : PySem.W.codeIn K cd__law_due "_law_due" = true)
    (k__law_due : PySem.W.keepIn K (.ref f__law_due) = true)
    (g__law_unknown : PySem.W.nsIn K mainGlobals "_law_unknown" = some (some (.ref f__law_unknown)))
    (l__law_unknown : K.lookup f__law_unknown = some ⟨oc__law_unknown, od__law_unknown, .func (PySem.W.fnOf "_law_unknown" "_law_unknown" (defArgs St__law_unknown) (defBody St__law_unknown) (defScope St__law_unknown) .none kV__law_unknown dc__law_unknown pm__law_unknown an__law_unknown cd__law_unknown ct__law_unknown), sl__law_unknown⟩)
    (c__law_unknown : PySem.W.codeIn K cd__law_unknown "_law_unknown" = true)
    (k__law_unknown : PySem.W.keepIn K (.ref f__law_unknown) = true)
    (g_law : PySem.W.nsIn K mainGlobals "law" = some (some (.ref f_law)))
    (l_law : K.lookup f_law = some ⟨oc_law, od_law, .func (PySem.W.fnOf "law" "law" (defArgs St_law) (defBody St_law) (defScope St_law) .none kV_law dc_law pm_law an_law cd_law ct_law), sl_law⟩)
    (c_law : PySem.W.codeIn K cd_law "law" = true)
    (k_law : PySem.W.keepIn K (.ref f_law) = true)
    (g_MOST_VALUES : PySem.W.nsIn K mainGlobals "MOST_VALUES" = some (some (.int 64 u_MOST_VALUES)))
    (g_Lattice : PySem.W.nsIn K mainGlobals "Lattice" = some (some (.ref f_Lattice)))
    (pg_Lattice : PySem.W.plainGet K f_Lattice Str.empty = true)
    (hd_Lattice : PySem.W.hasDictIn K f_Lattice = true)
    (po_Lattice : PySem.W.plainOver K f_Lattice = true)
    (sa_Lattice : PySem.W.findIn K (.ref f_Lattice) "__setattr__" = some (some (.builtin "object.__setattr__")))
    (mk_Lattice : PySem.W.makesIn K f_Lattice = true)
    (kc_Lattice : PySem.W.keepIn K (.ref f_Lattice) = true)
    (na_Lattice_label : PySem.W.findIn K (.ref f_Lattice) "label" = some none)
    (na_Lattice_size : PySem.W.findIn K (.ref f_Lattice) "size" = some none)
    (na_Lattice_depth : PySem.W.findIn K (.ref f_Lattice) "depth" = some none)
    (na_Lattice_value_names : PySem.W.findIn K (.ref f_Lattice) "value_names" = some none)
    (na_Lattice_downs : PySem.W.findIn K (.ref f_Lattice) "downs" = some none)
    (na_Lattice_ups : PySem.W.findIn K (.ref f_Lattice) "ups" = some none)
    (na_Lattice_bottom_at : PySem.W.findIn K (.ref f_Lattice) "bottom_at" = some none)
    (na_Lattice_top_at : PySem.W.findIn K (.ref f_Lattice) "top_at" = some none)
    (h_Lattice_init : PySem.W.findIn K (.ref f_Lattice) "__init__" = some (some (.ref f_Lattice_init)))
    (i_Lattice_init : PySem.W.isFn K (.ref f_Lattice_init) = true)
    (l_Lattice_init : K.lookup f_Lattice_init = some ⟨oc_Lattice_init, od_Lattice_init, .func (PySem.W.fnOf "__init__" "Lattice.__init__" (defArgs St_Lattice_init) (defBody St_Lattice_init) (defScope St_Lattice_init) (.ref td_Lattice_init) kV_Lattice_init dc_Lattice_init pm_Lattice_init an_Lattice_init cd_Lattice_init ct_Lattice_init), sl_Lattice_init⟩)
    (c_Lattice_init : PySem.W.codeIn K cd_Lattice_init "Lattice.__init__" = true)
    (k_Lattice_init : PySem.W.keepIn K (.ref f_Lattice_init) = true)
    (dd_Lattice_init : K.lookup td_Lattice_init = some (⟨.type "tuple", none, .seq #[.int 1 du0_Lattice_init] dn_Lattice_init, #[]⟩ : Obj))
    (h_Lattice_within_at : PySem.W.findIn K (.ref f_Lattice) "within_at" = some (some (.ref f_Lattice_within_at)))
    (i_Lattice_within_at : PySem.W.isFn K (.ref f_Lattice_within_at) = true)
    (l_Lattice_within_at : K.lookup f_Lattice_within_at = some ⟨oc_Lattice_within_at, od_Lattice_within_at, .func (PySem.W.fnOf "within_at" "Lattice.within_at" (defArgs St_Lattice_within_at) (defBody St_Lattice_within_at) (defScope St_Lattice_within_at) .none kV_Lattice_within_at dc_Lattice_within_at pm_Lattice_within_at an_Lattice_within_at cd_Lattice_within_at ct_Lattice_within_at), sl_Lattice_within_at⟩)
    (c_Lattice_within_at : PySem.W.codeIn K cd_Lattice_within_at "Lattice.within_at" = true)
    (k_Lattice_within_at : PySem.W.keepIn K (.ref f_Lattice_within_at) = true)
    (h_Lattice_join_at : PySem.W.findIn K (.ref f_Lattice) "join_at" = some (some (.ref f_Lattice_join_at)))
    (i_Lattice_join_at : PySem.W.isFn K (.ref f_Lattice_join_at) = true)
    (l_Lattice_join_at : K.lookup f_Lattice_join_at = some ⟨oc_Lattice_join_at, od_Lattice_join_at, .func (PySem.W.fnOf "join_at" "Lattice.join_at" (defArgs St_Lattice_join_at) (defBody St_Lattice_join_at) (defScope St_Lattice_join_at) .none kV_Lattice_join_at dc_Lattice_join_at pm_Lattice_join_at an_Lattice_join_at cd_Lattice_join_at ct_Lattice_join_at), sl_Lattice_join_at⟩)
    (c_Lattice_join_at : PySem.W.codeIn K cd_Lattice_join_at "Lattice.join_at" = true)
    (k_Lattice_join_at : PySem.W.keepIn K (.ref f_Lattice_join_at) = true)
    (h_Lattice_meet_at : PySem.W.findIn K (.ref f_Lattice) "meet_at" = some (some (.ref f_Lattice_meet_at)))
    (i_Lattice_meet_at : PySem.W.isFn K (.ref f_Lattice_meet_at) = true)
    (l_Lattice_meet_at : K.lookup f_Lattice_meet_at = some ⟨oc_Lattice_meet_at, od_Lattice_meet_at, .func (PySem.W.fnOf "meet_at" "Lattice.meet_at" (defArgs St_Lattice_meet_at) (defBody St_Lattice_meet_at) (defScope St_Lattice_meet_at) .none kV_Lattice_meet_at dc_Lattice_meet_at pm_Lattice_meet_at an_Lattice_meet_at cd_Lattice_meet_at ct_Lattice_meet_at), sl_Lattice_meet_at⟩)
    (c_Lattice_meet_at : PySem.W.codeIn K cd_Lattice_meet_at "Lattice.meet_at" = true)
    (k_Lattice_meet_at : PySem.W.keepIn K (.ref f_Lattice_meet_at) = true)
    (h_Lattice_name_at : PySem.W.findIn K (.ref f_Lattice) "name_at" = some (some (.ref f_Lattice_name_at)))
    (i_Lattice_name_at : PySem.W.isFn K (.ref f_Lattice_name_at) = true)
    (l_Lattice_name_at : K.lookup f_Lattice_name_at = some ⟨oc_Lattice_name_at, od_Lattice_name_at, .func (PySem.W.fnOf "name_at" "Lattice.name_at" (defArgs St_Lattice_name_at) (defBody St_Lattice_name_at) (defScope St_Lattice_name_at) .none kV_Lattice_name_at dc_Lattice_name_at pm_Lattice_name_at an_Lattice_name_at cd_Lattice_name_at ct_Lattice_name_at), sl_Lattice_name_at⟩)
    (c_Lattice_name_at : PySem.W.codeIn K cd_Lattice_name_at "Lattice.name_at" = true)
    (k_Lattice_name_at : PySem.W.keepIn K (.ref f_Lattice_name_at) = true)
    (h_Lattice_at_name : PySem.W.findIn K (.ref f_Lattice) "at_name" = some (some (.ref f_Lattice_at_name)))
    (i_Lattice_at_name : PySem.W.isFn K (.ref f_Lattice_at_name) = true)
    (l_Lattice_at_name : K.lookup f_Lattice_at_name = some ⟨oc_Lattice_at_name, od_Lattice_at_name, .func (PySem.W.fnOf "at_name" "Lattice.at_name" (defArgs St_Lattice_at_name) (defBody St_Lattice_at_name) (defScope St_Lattice_at_name) .none kV_Lattice_at_name dc_Lattice_at_name pm_Lattice_at_name an_Lattice_at_name cd_Lattice_at_name ct_Lattice_at_name), sl_Lattice_at_name⟩)
    (c_Lattice_at_name : PySem.W.codeIn K cd_Lattice_at_name "Lattice.at_name" = true)
    (k_Lattice_at_name : PySem.W.keepIn K (.ref f_Lattice_at_name) = true)
    (h_Lattice_irreducibles : PySem.W.findIn K (.ref f_Lattice) "irreducibles" = some (some (.ref f_Lattice_irreducibles)))
    (i_Lattice_irreducibles : PySem.W.isFn K (.ref f_Lattice_irreducibles) = true)
    (l_Lattice_irreducibles : K.lookup f_Lattice_irreducibles = some ⟨oc_Lattice_irreducibles, od_Lattice_irreducibles, .func (PySem.W.fnOf "irreducibles" "Lattice.irreducibles" (defArgs St_Lattice_irreducibles) (defBody St_Lattice_irreducibles) (defScope St_Lattice_irreducibles) .none kV_Lattice_irreducibles dc_Lattice_irreducibles pm_Lattice_irreducibles an_Lattice_irreducibles cd_Lattice_irreducibles ct_Lattice_irreducibles), sl_Lattice_irreducibles⟩)
    (c_Lattice_irreducibles : PySem.W.codeIn K cd_Lattice_irreducibles "Lattice.irreducibles" = true)
    (k_Lattice_irreducibles : PySem.W.keepIn K (.ref f_Lattice_irreducibles) = true)
    (g_ChainLattice : PySem.W.nsIn K mainGlobals "ChainLattice" = some (some (.ref f_ChainLattice)))
    (pg_ChainLattice : PySem.W.plainGet K f_ChainLattice Str.empty = true)
    (hd_ChainLattice : PySem.W.hasDictIn K f_ChainLattice = true)
    (po_ChainLattice : PySem.W.plainOver K f_ChainLattice = true)
    (sa_ChainLattice : PySem.W.findIn K (.ref f_ChainLattice) "__setattr__" = some (some (.builtin "object.__setattr__")))
    (mk_ChainLattice : PySem.W.makesIn K f_ChainLattice = true)
    (kc_ChainLattice : PySem.W.keepIn K (.ref f_ChainLattice) = true)
    (na_ChainLattice_label : PySem.W.findIn K (.ref f_ChainLattice) "label" = some none)
    (na_ChainLattice_size : PySem.W.findIn K (.ref f_ChainLattice) "size" = some none)
    (na_ChainLattice_depth : PySem.W.findIn K (.ref f_ChainLattice) "depth" = some none)
    (na_ChainLattice_value_names : PySem.W.findIn K (.ref f_ChainLattice) "value_names" = some none)
    (na_ChainLattice_downs : PySem.W.findIn K (.ref f_ChainLattice) "downs" = some none)
    (na_ChainLattice_ups : PySem.W.findIn K (.ref f_ChainLattice) "ups" = some none)
    (na_ChainLattice_bottom_at : PySem.W.findIn K (.ref f_ChainLattice) "bottom_at" = some none)
    (na_ChainLattice_top_at : PySem.W.findIn K (.ref f_ChainLattice) "top_at" = some none)
    (h_ChainLattice_init : PySem.W.findIn K (.ref f_ChainLattice) "__init__" = some (some (.ref f_ChainLattice_init)))
    (i_ChainLattice_init : PySem.W.isFn K (.ref f_ChainLattice_init) = true)
    (l_ChainLattice_init : K.lookup f_ChainLattice_init = some ⟨oc_ChainLattice_init, od_ChainLattice_init, .func (PySem.W.ksFn "__init__" "ChainLattice.__init__" (defArgs St_ChainLattice_init) (defBody St_ChainLattice_init) (defScope St_ChainLattice_init) .none kV_ChainLattice_init dc_ChainLattice_init pm_ChainLattice_init an_ChainLattice_init (.ref cda_ChainLattice_init) ct_ChainLattice_init cc_ChainLattice_init), sl_ChainLattice_init⟩)
    (c_ChainLattice_init : PySem.W.codeIn K (.ref cda_ChainLattice_init) "ChainLattice.__init__" = true)
    (k_ChainLattice_init : PySem.W.keepIn K (.ref f_ChainLattice_init) = true)
    (q_ChainLattice_init : K.lookup cc_ChainLattice_init = some ⟨ca_ChainLattice_init, cb_ChainLattice_init, .cell (some (.ref f_ChainLattice)), ce_ChainLattice_init⟩)
    (v_ChainLattice_init : K.lookup cda_ChainLattice_init = some ⟨va_ChainLattice_init, vb_ChainLattice_init, .fields vs_ChainLattice_init, ve_ChainLattice_init⟩)
    (vf_ChainLattice_init : vs_ChainLattice_init[2]? = some (.str fl_ChainLattice_init tf_ChainLattice_init))
    (vg_ChainLattice_init : ((PL.main.file : Str) == fl_ChainLattice_init) = true)
    (g_SetLattice : PySem.W.nsIn K mainGlobals "SetLattice" = some (some (.ref f_SetLattice)))
    (pg_SetLattice : PySem.W.plainGet K f_SetLattice Str.empty = true)
    (hd_SetLattice : PySem.W.hasDictIn K f_SetLattice = true)
    (po_SetLattice : PySem.W.plainOver K f_SetLattice = true)
    (sa_SetLattice : PySem.W.findIn K (.ref f_SetLattice) "__setattr__" = some (some (.builtin "object.__setattr__")))
    (mk_SetLattice : PySem.W.makesIn K f_SetLattice = true)
    (kc_SetLattice : PySem.W.keepIn K (.ref f_SetLattice) = true)
    (na_SetLattice_label : PySem.W.findIn K (.ref f_SetLattice) "label" = some none)
    (na_SetLattice_size : PySem.W.findIn K (.ref f_SetLattice) "size" = some none)
    (na_SetLattice_depth : PySem.W.findIn K (.ref f_SetLattice) "depth" = some none)
    (na_SetLattice_value_names : PySem.W.findIn K (.ref f_SetLattice) "value_names" = some none)
    (na_SetLattice_downs : PySem.W.findIn K (.ref f_SetLattice) "downs" = some none)
    (na_SetLattice_ups : PySem.W.findIn K (.ref f_SetLattice) "ups" = some none)
    (na_SetLattice_bottom_at : PySem.W.findIn K (.ref f_SetLattice) "bottom_at" = some none)
    (na_SetLattice_top_at : PySem.W.findIn K (.ref f_SetLattice) "top_at" = some none)
    (h_SetLattice_init : PySem.W.findIn K (.ref f_SetLattice) "__init__" = some (some (.ref f_SetLattice_init)))
    (i_SetLattice_init : PySem.W.isFn K (.ref f_SetLattice_init) = true)
    (l_SetLattice_init : K.lookup f_SetLattice_init = some ⟨oc_SetLattice_init, od_SetLattice_init, .func (PySem.W.ksFn "__init__" "SetLattice.__init__" (defArgs St_SetLattice_init) (defBody St_SetLattice_init) (defScope St_SetLattice_init) .none kV_SetLattice_init dc_SetLattice_init pm_SetLattice_init an_SetLattice_init (.ref cda_SetLattice_init) ct_SetLattice_init cc_SetLattice_init), sl_SetLattice_init⟩)
    (c_SetLattice_init : PySem.W.codeIn K (.ref cda_SetLattice_init) "SetLattice.__init__" = true)
    (k_SetLattice_init : PySem.W.keepIn K (.ref f_SetLattice_init) = true)
    (q_SetLattice_init : K.lookup cc_SetLattice_init = some ⟨ca_SetLattice_init, cb_SetLattice_init, .cell (some (.ref f_SetLattice)), ce_SetLattice_init⟩)
    (v_SetLattice_init : K.lookup cda_SetLattice_init = some ⟨va_SetLattice_init, vb_SetLattice_init, .fields vs_SetLattice_init, ve_SetLattice_init⟩)
    (vf_SetLattice_init : vs_SetLattice_init[2]? = some (.str fl_SetLattice_init tf_SetLattice_init))
    (vg_SetLattice_init : ((PL.main.file : Str) == fl_SetLattice_init) = true)
    (g_NameMissing : PySem.W.nsIn K mainGlobals "NameMissing" = some (some (.ref f_NameMissing)))
    (g_UnknownValue : PySem.W.nsIn K mainGlobals "UnknownValue" = some (some (.ref f_UnknownValue)))
    (xl_NameMissing : K.lookup f_NameMissing = some (excClassObj nm_NameMissing qn_NameMissing f_NameMissing ns_NameMissing bs_NameMissing [.type "LookupError", .type "Exception", .type "BaseException", .type "object"] true sn_NameMissing sub_NameMissing ab_NameMissing col_NameMissing ddc_NameMissing k0_NameMissing k1_NameMissing k2_NameMissing k3_NameMissing k5_NameMissing "LookupError.__new__"))
    (xsa_NameMissing : PySem.W.findIn K (.ref f_NameMissing) "__setattr__" = some (some (.builtin "object.__setattr__")))
    (xex_NameMissing : PySem.W.subIn K (.ref f_NameMissing) (.type "BaseException") = some true)
    (xty_NameMissing : PySem.W.typeIn K (.ref f_NameMissing) = some (.type "type"))
    (xkc_NameMissing : PySem.W.keepIn K (.ref f_NameMissing) = true)
    (xga_NameMissing : PySem.W.findIn K (.ref f_NameMissing) "__getattribute__" = some (some (.builtin "BaseException.__getattribute__")))
    (xgg_NameMissing : PySem.W.findIn K (.ref f_NameMissing) "__getattr__" = some none)
    (xhd_NameMissing : PySem.W.hasDictIn K f_NameMissing = true)
    (xl_UnknownValue : K.lookup f_UnknownValue = some (excClassObj nm_UnknownValue qn_UnknownValue f_UnknownValue ns_UnknownValue bs_UnknownValue [.ref f_NameMissing, .type "LookupError", .type "Exception", .type "BaseException", .type "object"] true sn_UnknownValue sub_UnknownValue ab_UnknownValue col_UnknownValue ddc_UnknownValue k0_UnknownValue k1_UnknownValue k2_UnknownValue k3_UnknownValue k5_UnknownValue "LookupError.__new__"))
    (xsa_UnknownValue : PySem.W.findIn K (.ref f_UnknownValue) "__setattr__" = some (some (.builtin "object.__setattr__")))
    (xex_UnknownValue : PySem.W.subIn K (.ref f_UnknownValue) (.type "BaseException") = some true)
    (xty_UnknownValue : PySem.W.typeIn K (.ref f_UnknownValue) = some (.type "type"))
    (xkc_UnknownValue : PySem.W.keepIn K (.ref f_UnknownValue) = true)
    (xga_UnknownValue : PySem.W.findIn K (.ref f_UnknownValue) "__getattribute__" = some (some (.builtin "BaseException.__getattribute__")))
    (xgg_UnknownValue : PySem.W.findIn K (.ref f_UnknownValue) "__getattr__" = some none)
    (xhd_UnknownValue : PySem.W.hasDictIn K f_UnknownValue = true)
    (sb_UnknownValue_UnknownValue : PySem.W.subIn K (.ref f_UnknownValue) (.ref f_UnknownValue) = some true)
    (h_UnknownValue_init : PySem.W.findIn K (.ref f_UnknownValue) "__init__" = some (some (.ref f_UnknownValue_init)))
    (l_UnknownValue_init : K.lookup f_UnknownValue_init = some ⟨oc_UnknownValue_init, od_UnknownValue_init, .func (PySem.W.ksFn "__init__" "UnknownValue.__init__" (defArgs St_UnknownValue_init) (defBody St_UnknownValue_init) (defScope St_UnknownValue_init) .none kV_UnknownValue_init dc_UnknownValue_init pm_UnknownValue_init an_UnknownValue_init (.ref cda_UnknownValue_init) ct_UnknownValue_init cc_UnknownValue_init), sl_UnknownValue_init⟩)
    (c_UnknownValue_init : PySem.W.codeIn K (.ref cda_UnknownValue_init) "UnknownValue.__init__" = true)
    (k_UnknownValue_init : PySem.W.keepIn K (.ref f_UnknownValue_init) = true)
    (q_UnknownValue_init : K.lookup cc_UnknownValue_init = some ⟨ca_UnknownValue_init, cb_UnknownValue_init, .cell (some (.ref f_UnknownValue)), ce_UnknownValue_init⟩)
    (v_UnknownValue_init : K.lookup cda_UnknownValue_init = some ⟨va_UnknownValue_init, vb_UnknownValue_init, .fields vs_UnknownValue_init, ve_UnknownValue_init⟩)
    (vf_UnknownValue_init : vs_UnknownValue_init[2]? = some (.str fl_UnknownValue_init tf_UnknownValue_init))
    (vg_UnknownValue_init : ((PL.main.file : Str) == fl_UnknownValue_init) = true)
    (xt_UnknownValue : PySem.W.typeIn K (.ref f_UnknownValue_init) = some (.type "function"))
    (mr_UnknownValue : PySem.W.mroIn K f_UnknownValue (.ref f_UnknownValue) = some true)
    (su_UnknownValue : PySem.W.ks_superIn K f_UnknownValue f_UnknownValue "__init__" = some (some (.builtin "LookupError.__init__")))
    (ci_UnknownValue : PySem.W.clsIn K f_UnknownValue = some cd_UnknownValue)
    (na_UnknownValue : PySem.W.findIn K (.ref f_UnknownValue) "name" = some none)
    (mr_ChainLattice : PySem.W.mroIn K f_ChainLattice (.ref f_ChainLattice) = some true)
    (su_ChainLattice : PySem.W.ks_superIn K f_ChainLattice f_ChainLattice "__init__" = some (some (.ref f_Lattice_init)))
    (ci_ChainLattice : PySem.W.clsIn K f_ChainLattice = some cd_ChainLattice)
    (hh_ChainLattice_within_at : PySem.W.findIn K (.ref f_ChainLattice) "within_at" = some (some (.ref f_Lattice_within_at)))
    (hh_ChainLattice_join_at : PySem.W.findIn K (.ref f_ChainLattice) "join_at" = some (some (.ref f_Lattice_join_at)))
    (hh_ChainLattice_meet_at : PySem.W.findIn K (.ref f_ChainLattice) "meet_at" = some (some (.ref f_Lattice_meet_at)))
    (hh_ChainLattice_name_at : PySem.W.findIn K (.ref f_ChainLattice) "name_at" = some (some (.ref f_Lattice_name_at)))
    (hh_ChainLattice_at_name : PySem.W.findIn K (.ref f_ChainLattice) "at_name" = some (some (.ref f_Lattice_at_name)))
    (hh_ChainLattice_irreducibles : PySem.W.findIn K (.ref f_ChainLattice) "irreducibles" = some (some (.ref f_Lattice_irreducibles)))
    (mr_SetLattice : PySem.W.mroIn K f_SetLattice (.ref f_SetLattice) = some true)
    (su_SetLattice : PySem.W.ks_superIn K f_SetLattice f_SetLattice "__init__" = some (some (.ref f_Lattice_init)))
    (ci_SetLattice : PySem.W.clsIn K f_SetLattice = some cd_SetLattice)
    (hh_SetLattice_within_at : PySem.W.findIn K (.ref f_SetLattice) "within_at" = some (some (.ref f_Lattice_within_at)))
    (hh_SetLattice_join_at : PySem.W.findIn K (.ref f_SetLattice) "join_at" = some (some (.ref f_Lattice_join_at)))
    (hh_SetLattice_meet_at : PySem.W.findIn K (.ref f_SetLattice) "meet_at" = some (some (.ref f_Lattice_meet_at)))
    (hh_SetLattice_name_at : PySem.W.findIn K (.ref f_SetLattice) "name_at" = some (some (.ref f_Lattice_name_at)))
    (hh_SetLattice_at_name : PySem.W.findIn K (.ref f_SetLattice) "at_name" = some (some (.ref f_Lattice_at_name)))
    (hh_SetLattice_irreducibles : PySem.W.findIn K (.ref f_SetLattice) "irreducibles" = some (some (.ref f_Lattice_irreducibles)))
    (ty_Lattice : PySem.W.typeIn K (.ref f_Lattice_init) = some (.type "function"))
    (fi_Lattice : PySem.W.fnIn K f_Lattice_init = true)
    (st_any : PySem.W.nsIn K PySem.cStatics "thirdparty.any" = some none)
    : ∃ fd : FuncData, (∀ (s : Shared) (v : Value), BindsTo s fd ⟨[v], []⟩ [("script", v)]) ∧ ∀ base : Heap, K.In base → base.Ns mainGlobals mg → FnOk PL W_ K mg base L2.CX0 60 fa fd ["script"] (spLaw K) := by
  have e := hfa.symm.trans (PySem.W.mg_of X G g_law)
  cases e
  have F_first_place := fun_mk (st := St_first_place) l_first_place c_first_place k_first_place
  have b_first_place := F_first_place.binds (ps := ["sets", "wanted"]) fun _ _ _ _ _ _ us hl => match us, hl with | [_, _], _ => rfl
  have F_parts_among := fun_mk (st := St_parts_among) l_parts_among c_parts_among k_parts_among
  have b_parts_among := F_parts_among.binds (ps := ["numbers", "number"]) fun _ _ _ _ _ _ us hl => match us, hl with | [_, _], _ => rfl
  have F__law_cells := fun_mk (st := St__law_cells) l__law_cells c__law_cells k__law_cells
  have b__law_cells := F__law_cells.binds (ps := ["script"]) fun _ _ _ _ _ _ us hl => match us, hl with | [_], _ => rfl
  have F__law_pick := fun_mk (st := St__law_pick) l__law_pick c__law_pick k__law_pick
  have b__law_pick := F__law_pick.binds (ps := ["source", "many"]) fun _ _ _ _ _ _ us hl => match us, hl with | [_, _], _ => rfl
  have F__law_like := fun_mk (st := St__law_like) l__law_like c__law_like k__law_like
  have b__law_like := F__law_like.binds (ps := ["found", "due"]) fun _ _ _ _ _ _ us hl => match us, hl with | [_, _], _ => rfl
  have F__law_due := fun_mk (st := St__law_due) l__law_due c__law_due k__law_due
  have b__law_due := F__law_due.binds (ps := ["sets", "a", "b"]) fun _ _ _ _ _ _ us hl => match us, hl with | [_, _, _], _ => rfl
  have F__law_unknown := fun_mk (st := St__law_unknown) l__law_unknown c__law_unknown k__law_unknown
  have b__law_unknown := F__law_unknown.binds (ps := ["lattice", "word", "names"]) fun _ _ _ _ _ _ us hl => match us, hl with | [_, _, _], _ => rfl
  have F_law := fun_mk (st := St_law) l_law c_law k_law
  have b_law := F_law.binds (ps := ["script"]) fun _ _ _ _ _ _ us hl => match us, hl with | [_], _ => rfl
  have F_Lattice_init : FunD K "__init__" "Lattice.__init__" St_Lattice_init f_Lattice_init _ td_Lattice_init := ⟨⟨_, _, _, _, _, _, _, _, _, rfl, l_Lattice_init, c_Lattice_init⟩, k_Lattice_init⟩
  have b4_Lattice_init := F_Lattice_init.bindsD (ps := ["self", "label", "names", "downs", "depth"]) (its := [.int 1 du0_Lattice_init]) dd_Lattice_init 4 0 rfl fun _ _ _ _ _ _ us hl => match us, hl with | [_, _, _, _], _ => ⟨_, rfl, rfl⟩
  have b5_Lattice_init := F_Lattice_init.bindsD (ps := ["self", "label", "names", "downs", "depth"]) (its := [.int 1 du0_Lattice_init]) dd_Lattice_init 5 1 rfl fun _ _ _ _ _ _ us hl => match us, hl with | [_, _, _, _, _], _ => ⟨_, rfl, rfl⟩
  have F_Lattice_within_at := fun_mk (st := St_Lattice_within_at) l_Lattice_within_at c_Lattice_within_at k_Lattice_within_at
  have b_Lattice_within_at := F_Lattice_within_at.binds (ps := ["self", "first", "second"]) fun _ _ _ _ _ _ us hl => match us, hl with | [_, _, _], _ => rfl
  have F_Lattice_join_at := fun_mk (st := St_Lattice_join_at) l_Lattice_join_at c_Lattice_join_at k_Lattice_join_at
  have b_Lattice_join_at := F_Lattice_join_at.binds (ps := ["self", "first", "second"]) fun _ _ _ _ _ _ us hl => match us, hl with | [_, _, _], _ => rfl
  have F_Lattice_meet_at := fun_mk (st := St_Lattice_meet_at) l_Lattice_meet_at c_Lattice_meet_at k_Lattice_meet_at
  have b_Lattice_meet_at := F_Lattice_meet_at.binds (ps := ["self", "first", "second"]) fun _ _ _ _ _ _ us hl => match us, hl with | [_, _, _], _ => rfl
  have F_Lattice_name_at := fun_mk (st := St_Lattice_name_at) l_Lattice_name_at c_Lattice_name_at k_Lattice_name_at
  have b_Lattice_name_at := F_Lattice_name_at.binds (ps := ["self", "place"]) fun _ _ _ _ _ _ us hl => match us, hl with | [_, _], _ => rfl
  have F_Lattice_at_name := fun_mk (st := St_Lattice_at_name) l_Lattice_at_name c_Lattice_at_name k_Lattice_at_name
  have b_Lattice_at_name := F_Lattice_at_name.binds (ps := ["self", "name"]) fun _ _ _ _ _ _ us hl => match us, hl with | [_, _], _ => rfl
  have F_Lattice_irreducibles := fun_mk (st := St_Lattice_irreducibles) l_Lattice_irreducibles c_Lattice_irreducibles k_Lattice_irreducibles
  have b_Lattice_irreducibles := F_Lattice_irreducibles.binds (ps := ["self"]) fun _ _ _ _ _ _ us hl => match us, hl with | [_], _ => rfl
  have F_ChainLattice_init := funK_mk (st := St_ChainLattice_init) (PL := PL) l_ChainLattice_init c_ChainLattice_init k_ChainLattice_init q_ChainLattice_init v_ChainLattice_init vf_ChainLattice_init vg_ChainLattice_init
  have b_ChainLattice_init := F_ChainLattice_init.binds (ps := ["self", "count"]) fun _ _ _ _ _ _ _ us hl => match us, hl with | [_, _], _ => rfl
  have F_SetLattice_init := funK_mk (st := St_SetLattice_init) (PL := PL) l_SetLattice_init c_SetLattice_init k_SetLattice_init q_SetLattice_init v_SetLattice_init vf_SetLattice_init vg_SetLattice_init
  have b_SetLattice_init := F_SetLattice_init.binds (ps := ["self", "count"]) fun _ _ _ _ _ _ _ us hl => match us, hl with | [_, _], _ => rfl
  have F_UnknownValue_init := funK_mk (st := St_UnknownValue_init) (PL := PL) l_UnknownValue_init c_UnknownValue_init k_UnknownValue_init q_UnknownValue_init v_UnknownValue_init vf_UnknownValue_init vg_UnknownValue_init
  have b_UnknownValue_init := F_UnknownValue_init.binds (ps := ["self", "name"]) fun _ _ _ _ _ _ _ us hl => match us, hl with | [_, _], _ => rfl
  let T : Tx K mg W_ := { n_abs := PySem.W.mg_none_of X G z_abs, n_bool := PySem.W.mg_none_of X G z_bool, n_dict := PySem.W.mg_none_of X G z_dict, n_enumerate := PySem.W.mg_none_of X G z_enumerate, n_int := PySem.W.mg_none_of X G z_int, n_isinstance := PySem.W.mg_none_of X G z_isinstance, n_len := PySem.W.mg_none_of X G z_len, n_list := PySem.W.mg_none_of X G z_list, n_max := PySem.W.mg_none_of X G z_max, n_min := PySem.W.mg_none_of X G z_min, n_range := PySem.W.mg_none_of X G z_range, n_str := PySem.W.mg_none_of X G z_str, n_sum := PySem.W.mg_none_of X G z_sum, n_super := PySem.W.mg_none_of X G z_super, n_tuple := PySem.W.mg_none_of X G z_tuple, a_first_place := f_first_place, d_first_place := _, F_first_place := F_first_place, b_first_place := b_first_place, g_first_place := PySem.W.mg_of X G g_first_place, a_parts_among := f_parts_among, d_parts_among := _, F_parts_among := F_parts_among, b_parts_among := b_parts_among, g_parts_among := PySem.W.mg_of X G g_parts_among, a__law_cells := f__law_cells, d__law_cells := _, F__law_cells := F__law_cells, b__law_cells := b__law_cells, g__law_cells := PySem.W.mg_of X G g__law_cells, a__law_pick := f__law_pick, d__law_pick := _, F__law_pick := F__law_pick, b__law_pick := b__law_pick, g__law_pick := PySem.W.mg_of X G g__law_pick, a__law_like := f__law_like, d__law_like := _, F__law_like := F__law_like, b__law_like := b__law_like, g__law_like := PySem.W.mg_of X G g__law_like, a__law_due := f__law_due, d__law_due := _, F__law_due := F__law_due, b__law_due := b__law_due, g__law_due := PySem.W.mg_of X G g__law_due, a__law_unknown := f__law_unknown, d__law_unknown := _, F__law_unknown := F__law_unknown, b__law_unknown := b__law_unknown, g__law_unknown := PySem.W.mg_of X G g__law_unknown, a_law := fa, d_law := _, F_law := F_law, b_law := b_law, g_law := PySem.W.mg_of X G g_law, g_MOST_VALUES := ⟨_, PySem.W.mg_of X G g_MOST_VALUES⟩, a_Lattice := f_Lattice, g_Lattice := PySem.W.mg_of X G g_Lattice, c_Lattice := ⟨pg_Lattice, hd_Lattice, po_Lattice, sa_Lattice⟩, n_Lattice_label := na_Lattice_label, n_Lattice_size := na_Lattice_size, n_Lattice_depth := na_Lattice_depth, n_Lattice_value_names := na_Lattice_value_names, n_Lattice_downs := na_Lattice_downs, n_Lattice_ups := na_Lattice_ups, n_Lattice_bottom_at := na_Lattice_bottom_at, n_Lattice_top_at := na_Lattice_top_at, b4_Lattice_init := ⟨_, b4_Lattice_init⟩, b5_Lattice_init := b5_Lattice_init, a_Lattice_init := f_Lattice_init, d_Lattice_init := _, t_Lattice_init := td_Lattice_init, F_Lattice_init := F_Lattice_init, dd_Lattice_init := ⟨_, _, dd_Lattice_init⟩, M_Lattice := ⟨mk_Lattice, h_Lattice_init, i_Lattice_init, kc_Lattice⟩, a_Lattice_within_at := f_Lattice_within_at, d_Lattice_within_at := _, F_Lattice_within_at := F_Lattice_within_at, b_Lattice_within_at := b_Lattice_within_at, m_Lattice_within_at := ⟨h_Lattice_within_at, i_Lattice_within_at, k_Lattice_within_at⟩, a_Lattice_join_at := f_Lattice_join_at, d_Lattice_join_at := _, F_Lattice_join_at := F_Lattice_join_at, b_Lattice_join_at := b_Lattice_join_at, m_Lattice_join_at := ⟨h_Lattice_join_at, i_Lattice_join_at, k_Lattice_join_at⟩, a_Lattice_meet_at := f_Lattice_meet_at, d_Lattice_meet_at := _, F_Lattice_meet_at := F_Lattice_meet_at, b_Lattice_meet_at := b_Lattice_meet_at, m_Lattice_meet_at := ⟨h_Lattice_meet_at, i_Lattice_meet_at, k_Lattice_meet_at⟩, a_Lattice_name_at := f_Lattice_name_at, d_Lattice_name_at := _, F_Lattice_name_at := F_Lattice_name_at, b_Lattice_name_at := b_Lattice_name_at, m_Lattice_name_at := ⟨h_Lattice_name_at, i_Lattice_name_at, k_Lattice_name_at⟩, a_Lattice_at_name := f_Lattice_at_name, d_Lattice_at_name := _, F_Lattice_at_name := F_Lattice_at_name, b_Lattice_at_name := b_Lattice_at_name, m_Lattice_at_name := ⟨h_Lattice_at_name, i_Lattice_at_name, k_Lattice_at_name⟩, a_Lattice_irreducibles := f_Lattice_irreducibles, d_Lattice_irreducibles := _, F_Lattice_irreducibles := F_Lattice_irreducibles, b_Lattice_irreducibles := b_Lattice_irreducibles, m_Lattice_irreducibles := ⟨h_Lattice_irreducibles, i_Lattice_irreducibles, k_Lattice_irreducibles⟩, a_ChainLattice := f_ChainLattice, g_ChainLattice := PySem.W.mg_of X G g_ChainLattice, c_ChainLattice := ⟨pg_ChainLattice, hd_ChainLattice, po_ChainLattice, sa_ChainLattice⟩, n_ChainLattice_label := na_ChainLattice_label, n_ChainLattice_size := na_ChainLattice_size, n_ChainLattice_depth := na_ChainLattice_depth, n_ChainLattice_value_names := na_ChainLattice_value_names, n_ChainLattice_downs := na_ChainLattice_downs, n_ChainLattice_ups := na_ChainLattice_ups, n_ChainLattice_bottom_at := na_ChainLattice_bottom_at, n_ChainLattice_top_at := na_ChainLattice_top_at, a_ChainLattice_init := f_ChainLattice_init, d_ChainLattice_init := _, F_ChainLattice_init := F_ChainLattice_init, b_ChainLattice_init := b_ChainLattice_init, M_ChainLattice := ⟨mk_ChainLattice, h_ChainLattice_init, i_ChainLattice_init, kc_ChainLattice⟩, a_SetLattice := f_SetLattice, g_SetLattice := PySem.W.mg_of X G g_SetLattice, c_SetLattice := ⟨pg_SetLattice, hd_SetLattice, po_SetLattice, sa_SetLattice⟩, n_SetLattice_label := na_SetLattice_label, n_SetLattice_size := na_SetLattice_size, n_SetLattice_depth := na_SetLattice_depth, n_SetLattice_value_names := na_SetLattice_value_names, n_SetLattice_downs := na_SetLattice_downs, n_SetLattice_ups := na_SetLattice_ups, n_SetLattice_bottom_at := na_SetLattice_bottom_at, n_SetLattice_top_at := na_SetLattice_top_at, a_SetLattice_init := f_SetLattice_init, d_SetLattice_init := _, F_SetLattice_init := F_SetLattice_init, b_SetLattice_init := b_SetLattice_init, M_SetLattice := ⟨mk_SetLattice, h_SetLattice_init, i_SetLattice_init, kc_SetLattice⟩, a_NameMissing := f_NameMissing, g_NameMissing := PySem.W.mg_of X G g_NameMissing, a_UnknownValue := f_UnknownValue, g_UnknownValue := PySem.W.mg_of X G g_UnknownValue, x_NameMissing := ⟨⟨_, _, _, _, _, _, _, _, _, _, _, _, _, _, _, xl_NameMissing, .nil⟩, xsa_NameMissing, xex_NameMissing, xty_NameMissing, xkc_NameMissing⟩, f_NameMissing := ⟨xga_NameMissing, xgg_NameMissing, xex_NameMissing, xhd_NameMissing⟩, x_UnknownValue := ⟨⟨_, _, _, _, _, _, _, _, _, _, _, _, _, _, _, xl_UnknownValue, (.cons .nil)⟩, xsa_UnknownValue, xex_UnknownValue, xty_UnknownValue, xkc_UnknownValue⟩, f_UnknownValue := ⟨xga_UnknownValue, xgg_UnknownValue, xex_UnknownValue, xhd_UnknownValue⟩, te_UnknownValue_UnknownValue := PySem.W.exm_ref xex_UnknownValue xhd_UnknownValue xty_UnknownValue sb_UnknownValue_UnknownValue, a_UnknownValue_init := f_UnknownValue_init, d_UnknownValue_init := _, F_UnknownValue_init := F_UnknownValue_init, b_UnknownValue_init := b_UnknownValue_init, i_UnknownValue := h_UnknownValue_init, t_UnknownValue := xt_UnknownValue, mr_UnknownValue := mr_UnknownValue, su_UnknownValue := su_UnknownValue, ci_UnknownValue := ⟨_, ci_UnknownValue⟩, na_UnknownValue := na_UnknownValue, mr_ChainLattice := mr_ChainLattice, su_ChainLattice := su_ChainLattice, ci_ChainLattice := ⟨_, ci_ChainLattice⟩, m_ChainLattice_within_at := ⟨hh_ChainLattice_within_at, i_Lattice_within_at, k_Lattice_within_at⟩, m_ChainLattice_join_at := ⟨hh_ChainLattice_join_at, i_Lattice_join_at, k_Lattice_join_at⟩, m_ChainLattice_meet_at := ⟨hh_ChainLattice_meet_at, i_Lattice_meet_at, k_Lattice_meet_at⟩, m_ChainLattice_name_at := ⟨hh_ChainLattice_name_at, i_Lattice_name_at, k_Lattice_name_at⟩, m_ChainLattice_at_name := ⟨hh_ChainLattice_at_name, i_Lattice_at_name, k_Lattice_at_name⟩, m_ChainLattice_irreducibles := ⟨hh_ChainLattice_irreducibles, i_Lattice_irreducibles, k_Lattice_irreducibles⟩, mr_SetLattice := mr_SetLattice, su_SetLattice := su_SetLattice, ci_SetLattice := ⟨_, ci_SetLattice⟩, m_SetLattice_within_at := ⟨hh_SetLattice_within_at, i_Lattice_within_at, k_Lattice_within_at⟩, m_SetLattice_join_at := ⟨hh_SetLattice_join_at, i_Lattice_join_at, k_Lattice_join_at⟩, m_SetLattice_meet_at := ⟨hh_SetLattice_meet_at, i_Lattice_meet_at, k_Lattice_meet_at⟩, m_SetLattice_name_at := ⟨hh_SetLattice_name_at, i_Lattice_name_at, k_Lattice_name_at⟩, m_SetLattice_at_name := ⟨hh_SetLattice_at_name, i_Lattice_at_name, k_Lattice_at_name⟩, m_SetLattice_irreducibles := ⟨hh_SetLattice_irreducibles, i_Lattice_irreducibles, k_Lattice_irreducibles⟩, ty_Lattice := ty_Lattice, fi_Lattice := fi_Lattice, st_any := st_any }
  exact ⟨T.d_law, fun s v => .of_eq rfl, fun base _ _ => ok_law T⟩
end Lw
open PySem PySem.W PyProof.Rows
set_option maxRecDepth 100000 in
set_option maxHeartbeats 0 in
theorem PySem.Challenge.cw_latticewish_k03_chains_and_sets_holds : PySem.Challenge.rw_latticewish_k03_chains_and_sets.Holds := by
  w_on; o_law; k_head; (case hw => w_witness2)
  k_fill
  refine L2.walk_of (n := 63) (k := 60) (x := "script") (CX := fun w => L2.CX0) (sp := fun w => Lw.spLaw _) rfl (by decide) rfl ⟨rfl, by decide, by decide⟩ (fun w h Y => PySem.W.kIn_of Y) ?F (fun _ _ a ns hl _ hS => ⟨a, ns, rfl, hS, hl, fun _ => rfl⟩) fun _ _ _ _ _ z => z
  case F =>
    intro w mg fa h KX G hmg
    refine' Lw.all_mk (l := PySem.Challenge.rw_latticewish_k03_chains_and_sets) KX G hmg ?z_abs ?z_bool ?z_dict ?z_enumerate ?z_int ?z_isinstance ?z_len ?z_list ?z_max ?z_min ?z_range ?z_str ?z_sum ?z_super ?z_tuple ?g_first_place ?l_first_place ?c_first_place ?k_first_place ?g_parts_among ?l_parts_among ?c_parts_among ?k_parts_among ?g__law_cells ?l__law_cells ?c__law_cells ?k__law_cells ?g__law_pick ?l__law_pick ?c__law_pick ?k__law_pick ?g__law_like ?l__law_like ?c__law_like ?k__law_like ?g__law_due ?l__law_due ?c__law_due ?k__law_due ?g__law_unknown ?l__law_unknown ?c__law_unknown ?k__law_unknown ?g_law ?l_law ?c_law ?k_law ?g_MOST_VALUES ?g_Lattice ?pg_Lattice ?hd_Lattice ?po_Lattice ?sa_Lattice ?mk_Lattice ?kc_Lattice ?na_Lattice_label ?na_Lattice_size ?na_Lattice_depth ?na_Lattice_value_names ?na_Lattice_downs ?na_Lattice_ups ?na_Lattice_bottom_at ?na_Lattice_top_at ?h_Lattice_init ?i_Lattice_init ?l_Lattice_init ?c_Lattice_init ?k_Lattice_init ?dd_Lattice_init ?h_Lattice_within_at ?i_Lattice_within_at ?l_Lattice_within_at ?c_Lattice_within_at ?k_Lattice_within_at ?h_Lattice_join_at ?i_Lattice_join_at ?l_Lattice_join_at ?c_Lattice_join_at ?k_Lattice_join_at ?h_Lattice_meet_at ?i_Lattice_meet_at ?l_Lattice_meet_at ?c_Lattice_meet_at ?k_Lattice_meet_at ?h_Lattice_name_at ?i_Lattice_name_at ?l_Lattice_name_at ?c_Lattice_name_at ?k_Lattice_name_at ?h_Lattice_at_name ?i_Lattice_at_name ?l_Lattice_at_name ?c_Lattice_at_name ?k_Lattice_at_name ?h_Lattice_irreducibles ?i_Lattice_irreducibles ?l_Lattice_irreducibles ?c_Lattice_irreducibles ?k_Lattice_irreducibles ?g_ChainLattice ?pg_ChainLattice ?hd_ChainLattice ?po_ChainLattice ?sa_ChainLattice ?mk_ChainLattice ?kc_ChainLattice ?na_ChainLattice_label ?na_ChainLattice_size ?na_ChainLattice_depth ?na_ChainLattice_value_names ?na_ChainLattice_downs ?na_ChainLattice_ups ?na_ChainLattice_bottom_at ?na_ChainLattice_top_at ?h_ChainLattice_init ?i_ChainLattice_init ?l_ChainLattice_init ?c_ChainLattice_init ?k_ChainLattice_init ?q_ChainLattice_init ?v_ChainLattice_init ?vf_ChainLattice_init ?vg_ChainLattice_init ?g_SetLattice ?pg_SetLattice ?hd_SetLattice ?po_SetLattice ?sa_SetLattice ?mk_SetLattice ?kc_SetLattice ?na_SetLattice_label ?na_SetLattice_size ?na_SetLattice_depth ?na_SetLattice_value_names ?na_SetLattice_downs ?na_SetLattice_ups ?na_SetLattice_bottom_at ?na_SetLattice_top_at ?h_SetLattice_init ?i_SetLattice_init ?l_SetLattice_init ?c_SetLattice_init ?k_SetLattice_init ?q_SetLattice_init ?v_SetLattice_init ?vf_SetLattice_init ?vg_SetLattice_init ?g_NameMissing ?g_UnknownValue ?xl_NameMissing ?xsa_NameMissing ?xex_NameMissing ?xty_NameMissing ?xkc_NameMissing ?xga_NameMissing ?xgg_NameMissing ?xhd_NameMissing ?xl_UnknownValue ?xsa_UnknownValue ?xex_UnknownValue ?xty_UnknownValue ?xkc_UnknownValue ?xga_UnknownValue ?xgg_UnknownValue ?xhd_UnknownValue ?sb_UnknownValue_UnknownValue ?h_UnknownValue_init ?l_UnknownValue_init ?c_UnknownValue_init ?k_UnknownValue_init ?q_UnknownValue_init ?v_UnknownValue_init ?vf_UnknownValue_init ?vg_UnknownValue_init ?xt_UnknownValue ?mr_UnknownValue ?su_UnknownValue ?ci_UnknownValue ?na_UnknownValue ?mr_ChainLattice ?su_ChainLattice ?ci_ChainLattice ?hh_ChainLattice_within_at ?hh_ChainLattice_join_at ?hh_ChainLattice_meet_at ?hh_ChainLattice_name_at ?hh_ChainLattice_at_name ?hh_ChainLattice_irreducibles ?mr_SetLattice ?su_SetLattice ?ci_SetLattice ?hh_SetLattice_within_at ?hh_SetLattice_join_at ?hh_SetLattice_meet_at ?hh_SetLattice_name_at ?hh_SetLattice_at_name ?hh_SetLattice_irreducibles ?ty_Lattice ?fi_Lattice ?st_any
    (case z_abs => k_is)
    (case z_bool => k_is)
    (case z_dict => k_is)
    (case z_enumerate => k_is)
    (case z_int => k_is)
    (case z_isinstance => k_is)
    (case z_len => k_is)
    (case z_list => k_is)
    (case z_max => k_is)
    (case z_min => k_is)
    (case z_range => k_is)
    (case z_str => k_is)
    (case z_sum => k_is)
    (case z_super => k_is)
    (case z_tuple => k_is)
    (case g_first_place => k_is)
    (case l_first_place => k_is)
    (case c_first_place => k_is)
    (case k_first_place => k_is)
    (case g_parts_among => k_is)
    (case l_parts_among => k_is)
    (case c_parts_among => k_is)
    (case k_parts_among => k_is)
    (case g__law_cells => k_is)
    (case l__law_cells => k_is)
    (case c__law_cells => k_is)
    (case k__law_cells => k_is)
    (case g__law_pick => k_is)
    (case l__law_pick => k_is)
    (case c__law_pick => k_is)
    (case k__law_pick => k_is)
    (case g__law_like => k_is)
    (case l__law_like => k_is)
    (case c__law_like => k_is)
    (case k__law_like => k_is)
    (case g__law_due => k_is)
    (case l__law_due => k_is)
    (case c__law_due => k_is)
    (case k__law_due => k_is)
    (case g__law_unknown => k_is)
    (case l__law_unknown => k_is)
    (case c__law_unknown => k_is)
    (case k__law_unknown => k_is)
    (case g_law => k_is)
    (case l_law => k_is)
    (case c_law => k_is)
    (case k_law => k_is)
    (case g_MOST_VALUES => k_is)
    (case g_Lattice => k_is)
    (case pg_Lattice => k_is)
    (case hd_Lattice => k_is)
    (case po_Lattice => k_is)
    (case sa_Lattice => k_is)
    (case mk_Lattice => k_is)
    (case kc_Lattice => k_is)
    (case na_Lattice_label => k_is)
    (case na_Lattice_size => k_is)
    (case na_Lattice_depth => k_is)
    (case na_Lattice_value_names => k_is)
    (case na_Lattice_downs => k_is)
    (case na_Lattice_ups => k_is)
    (case na_Lattice_bottom_at => k_is)
    (case na_Lattice_top_at => k_is)
    (case h_Lattice_init => k_is)
    (case i_Lattice_init => k_is)
    (case l_Lattice_init => k_is)
    (case c_Lattice_init => k_is)
    (case k_Lattice_init => k_is)
    (case dd_Lattice_init => k_is)
    (case h_Lattice_within_at => k_is)
    (case i_Lattice_within_at => k_is)
    (case l_Lattice_within_at => k_is)
    (case c_Lattice_within_at => k_is)
    (case k_Lattice_within_at => k_is)
    (case h_Lattice_join_at => k_is)
    (case i_Lattice_join_at => k_is)
    (case l_Lattice_join_at => k_is)
    (case c_Lattice_join_at => k_is)
    (case k_Lattice_join_at => k_is)
    (case h_Lattice_meet_at => k_is)
    (case i_Lattice_meet_at => k_is)
    (case l_Lattice_meet_at => k_is)
    (case c_Lattice_meet_at => k_is)
    (case k_Lattice_meet_at => k_is)
    (case h_Lattice_name_at => k_is)
    (case i_Lattice_name_at => k_is)
    (case l_Lattice_name_at => k_is)
    (case c_Lattice_name_at => k_is)
    (case k_Lattice_name_at => k_is)
    (case h_Lattice_at_name => k_is)
    (case i_Lattice_at_name => k_is)
    (case l_Lattice_at_name => k_is)
    (case c_Lattice_at_name => k_is)
    (case k_Lattice_at_name => k_is)
    (case h_Lattice_irreducibles => k_is)
    (case i_Lattice_irreducibles => k_is)
    (case l_Lattice_irreducibles => k_is)
    (case c_Lattice_irreducibles => k_is)
    (case k_Lattice_irreducibles => k_is)
    (case g_ChainLattice => k_is)
    (case pg_ChainLattice => k_is)
    (case hd_ChainLattice => k_is)
    (case po_ChainLattice => k_is)
    (case sa_ChainLattice => k_is)
    (case mk_ChainLattice => k_is)
    (case kc_ChainLattice => k_is)
    (case na_ChainLattice_label => k_is)
    (case na_ChainLattice_size => k_is)
    (case na_ChainLattice_depth => k_is)
    (case na_ChainLattice_value_names => k_is)
    (case na_ChainLattice_downs => k_is)
    (case na_ChainLattice_ups => k_is)
    (case na_ChainLattice_bottom_at => k_is)
    (case na_ChainLattice_top_at => k_is)
    (case h_ChainLattice_init => k_is)
    (case i_ChainLattice_init => k_is)
    (case l_ChainLattice_init => k_is)
    (case c_ChainLattice_init => k_is)
    (case k_ChainLattice_init => k_is)
    (case q_ChainLattice_init => k_is)
    (case v_ChainLattice_init => k_is)
    (case vf_ChainLattice_init => rfl)
    (case vg_ChainLattice_init => decide +kernel)
    (case g_SetLattice => k_is)
    (case pg_SetLattice => k_is)
    (case hd_SetLattice => k_is)
    (case po_SetLattice => k_is)
    (case sa_SetLattice => k_is)
    (case mk_SetLattice => k_is)
    (case kc_SetLattice => k_is)
    (case na_SetLattice_label => k_is)
    (case na_SetLattice_size => k_is)
    (case na_SetLattice_depth => k_is)
    (case na_SetLattice_value_names => k_is)
    (case na_SetLattice_downs => k_is)
    (case na_SetLattice_ups => k_is)
    (case na_SetLattice_bottom_at => k_is)
    (case na_SetLattice_top_at => k_is)
    (case h_SetLattice_init => k_is)
    (case i_SetLattice_init => k_is)
    (case l_SetLattice_init => k_is)
    (case c_SetLattice_init => k_is)
    (case k_SetLattice_init => k_is)
    (case q_SetLattice_init => k_is)
    (case v_SetLattice_init => k_is)
    (case vf_SetLattice_init => rfl)
    (case vg_SetLattice_init => decide +kernel)
    (case g_NameMissing => k_is)
    (case g_UnknownValue => k_is)
    (case xl_NameMissing => k_is)
    (case xsa_NameMissing => k_is)
    (case xex_NameMissing => k_is)
    (case xty_NameMissing => k_is)
    (case xkc_NameMissing => k_is)
    (case xga_NameMissing => k_is)
    (case xgg_NameMissing => k_is)
    (case xhd_NameMissing => k_is)
    (case xl_UnknownValue => k_is)
    (case xsa_UnknownValue => k_is)
    (case xex_UnknownValue => k_is)
    (case xty_UnknownValue => k_is)
    (case xkc_UnknownValue => k_is)
    (case xga_UnknownValue => k_is)
    (case xgg_UnknownValue => k_is)
    (case xhd_UnknownValue => k_is)
    (case sb_UnknownValue_UnknownValue => first | rfl | k_is)
    (case h_UnknownValue_init => k_is)
    (case l_UnknownValue_init => k_is)
    (case c_UnknownValue_init => k_is)
    (case k_UnknownValue_init => k_is)
    (case q_UnknownValue_init => k_is)
    (case v_UnknownValue_init => k_is)
    (case vf_UnknownValue_init => rfl)
    (case vg_UnknownValue_init => decide +kernel)
    (case xt_UnknownValue => k_is)
    (case mr_UnknownValue => k_is)
    (case su_UnknownValue => ks_is)
    (case ci_UnknownValue => k_is)
    (case na_UnknownValue => k_is)
    (case mr_ChainLattice => k_is)
    (case su_ChainLattice => ks_is)
    (case ci_ChainLattice => k_is)
    (case hh_ChainLattice_within_at => k_is)
    (case hh_ChainLattice_join_at => k_is)
    (case hh_ChainLattice_meet_at => k_is)
    (case hh_ChainLattice_name_at => k_is)
    (case hh_ChainLattice_at_name => k_is)
    (case hh_ChainLattice_irreducibles => k_is)
    (case mr_SetLattice => k_is)
    (case su_SetLattice => ks_is)
    (case ci_SetLattice => k_is)
    (case hh_SetLattice_within_at => k_is)
    (case hh_SetLattice_join_at => k_is)
    (case hh_SetLattice_meet_at => k_is)
    (case hh_SetLattice_name_at => k_is)
    (case hh_SetLattice_at_name => k_is)
    (case hh_SetLattice_irreducibles => k_is)
    (case ty_Lattice => k_is)
    (case fi_Lattice => k_is)
    (case st_any => k_is)
#print axioms PySem.Challenge.cw_latticewish_k03_chains_and_sets_holds
