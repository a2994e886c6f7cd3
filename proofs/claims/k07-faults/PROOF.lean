import PyProof.Rows.All
import Wide.All
import OpenK.AllK
import Wide.FinOn
import HandS.ForMost
import KE.OsRunLaw
import HandS.Walk
import HandS.Zip
import KE.GoesMore
import HandS.Deep
import HandS.DictComp
import HandS.IsInst
import HandS.RaiseMore
import HandS.ExcOwn
import KE.KSuper
import HandS.ClsMeth
import KE.RegKSuper
import HandS.ExcInit
import HandS.ExcSuper
import KE.KExcSuper
import KE.KExcInit
import HandS.ExcIs
import HandS.ExcField
import HandS.TryOnly
import HandS.Strs
import HandS.FStr
import HandS.Conv
import HandS.Defaults
import HandS.SetFor
import HandS.CallLocal
import PySem.Challenge.RW_latticewish_k07_first_fault
set_option Elab.async false
set_option linter.all false
set_option maxRecDepth 100000
set_option maxHeartbeats 4000000
namespace Lw
open PySem L2
local macro_rules | `(tactic| walk_at "up") => `(tactic| first | assumption | (refine Same.at (by assumption) ?_; walk_at "up") | (refine Same.seq (by assumption) ?_; walk_at "up"))
local macro_rules | `(tactic| walk_at "rd") => `(tactic| repeat (first | (refine ⟨_, rfl, ?_⟩) | (refine ⟨_, _, rfl, rfl, ?_⟩) | (refine ⟨(by decide), ?_⟩)))
theorem _root_.L2.Same.new {H : Hp} {p : Addr} (h : H p = none) (o : HO) : Same H (upd H p o) := fun b u q => by rw [upd_ne (ne_of_none q h)]; exact q
theorem _root_.L2.Same.mut {H H' : Hp} {p : Addr} (s : Same H H') (h : H p = none) (o : HO) : Same H (upd H' p o) := fun b u q => by
  rw [upd_ne (ne_of_none q h)]; exact s b u q
theorem _root_.L2.Same.at {H H' : Hp} {p : Addr} {o : HO} (s : Same H H') (h : H p = some o) : H' p = some o := s p o h
/-- a new object, its heap told by what is known of it -/
theorem newO {H : Hp} {o : HO} {Q : Addr → Hp → Prop} (h : ∀ p H', H p = none → Same H H' → H' p = some o → Q p H') : ∀ p, H p = none → Q p (upd H p o) :=
  fun p hp => h p _ hp (Same.new hp o) upd_same
/-- the same, the object said, the heap as it is -/
theorem newQ {H : Hp} (o : HO) {G : Addr → Prop} (h : ∀ p, H p = none → Same H (upd H p o) → upd H p o p = some o → G p) : ∀ p, H p = none → G p :=
  fun p hp => h p hp (Same.new hp o) upd_same
theorem ans_run {t : TT} {σ : L2.St} {H : Hp} {Q : Bool → Hp → Prop} (b : Bool) (h : ∀ Q' : Bool → Hp → Prop, Q' b H → t σ H Q') (q : Q b H) : t σ H Q := h Q q
theorem iteN {c A B : Prop} [Decidable c] (hc : ¬ c) (h : B) : if decide c = true then A else B := by
  rw [decide_eq_false hc]
  exact iteF h
theorem iteY {c A B : Prop} [Decidable c] (hc : c) (h : A) : if decide c = true then A else B := by
  rw [decide_eq_true hc]
  exact iteT h
theorem lcY {σ : L2.St} {H : Hp} {A B : Hp → Prop} (h : A H) : tYes σ H (fun b H3 => if b = true then A H3 else B H3) := by
  show (if true = true then A H else B H)
  exact iteT h
theorem abs_map (ns : List Int) : ∀ z ∈ ns.map (fun i : Int => if i < 0 then -i else i), 0 ≤ z := by
  intro z hz
  obtain ⟨i, _, rfl⟩ := List.mem_map.mp hz
  split <;> omega
theorem map_at {ns : List Int} {i : Nat} {x : V} (h : (ns.map V.int)[i]? = some x) : ∃ z, ns[i]? = some z ∧ x = .int z := by
  rw [List.getElem?_map] at h
  cases e : ns[i]? with
  | none => rw [e] at h; cases h
  | some z => rw [e] at h; exact ⟨z, rfl, (Option.some.inj h).symm⟩
theorem take_snoc {α : Type} {l : List α} {i : Nat} {x : α} (h : l[i]? = some x) : l.take (i + 1) = l.take i ++ [x] := by
  obtain ⟨hl, rfl⟩ := List.getElem?_eq_some_iff.mp h
  rw [List.take_succ, List.getElem?_eq_getElem hl]; rfl
/-- what draws are made of -/
structure SrcIs (K : PySem.W.Frag) (H : Hp) (p c : Addr) (cs : List Int) (i : Nat) (l m : Int) : Prop where
  at_ : H p = some (.lst [.ref c, .int i, .int l, .int m])
  cel : SqL K H c (cs.map V.int)
  ne : c ≠ p
  hi : i ≤ cs.length
  hl : 0 ≤ l
  hc : ∀ z ∈ cs, 0 ≤ z
  m0 : 0 ≤ m
  m1 : m < 2147483563
def Src (K : PySem.W.Frag) (c : Addr) (H : Hp) (p : Addr) : Prop := ∃ cs i l m, SrcIs K H p c cs i l m
/-- all but p is as it was -/
def But (p : Addr) (H H' : Hp) : Prop := ∀ b o, b ≠ p → H b = some o → H' b = some o
theorem But.refl (p : Addr) (H : Hp) : But p H H := fun _ _ _ h => h
theorem But.trans {p : Addr} {H H1 H2 : Hp} (a : But p H H1) (b : But p H1 H2) : But p H H2 := fun c o n h => b c o n (a c o n h)
theorem But.upd {p : Addr} {H H' : Hp} (s : But p H H') (o : HO) : But p H (upd H' p o) := fun b u n h => by rw [upd_ne n]; exact s b u n h
theorem _root_.L2.Same.but {H H' : Hp} (s : Same H H') (p : Addr) : But p H H' := fun b o _ h => s b o h
theorem But.seq {K : PySem.W.Frag} {H H' : Hp} {p a : Addr} {xs : List V} (e : But p H H') (n : a ≠ p) (h : SqL K H a xs) : SqL K H' a xs := by
  rcases h with (h | ⟨o, h⟩) | h
  · exact .inl (.inl (e _ _ n h))
  · exact .inl (.inr ⟨o, e _ _ n h⟩)
  · exact .inr h
theorem SrcIs.put {K : PySem.W.Frag} {H : Hp} {p c : Addr} {cs : List Int} {i : Nat} {l m : Int} (h : SrcIs K H p c cs i l m) {i' : Nat} {l' m' : Int} (a : i' ≤ cs.length) (b : 0 ≤ l') (d : 0 ≤ m') (e : m' < 2147483563) :
    SrcIs K (upd H p (.lst [.ref c, .int i', .int l', .int m'])) p c cs i' l' m' :=
  ⟨upd_same, (But.upd (But.refl p H) _).seq h.ne h.cel, h.ne, a, b, h.hc, d, e⟩
theorem smallM {n : Nat} (h : n ≤ 1000000) : n < sizeLine := Nat.lt_of_le_of_lt h (by decide)
/-- a comprehension: R i H ys: what is known of the list made so far; F: what is kept of the heap; the list itself stands at D -/
theorem lc_foldF {J : It} {n : Nat} {G : Hp → Prop} {Yw : Nat → Hp → V → Hp → Prop} (w : Walk J n G Yw) {g : TG} {tt : TT} {te : TE} {vs : List Nat} {σ : L2.St} {H1 : Hp} {D : Addr} {Qd : Hp → Prop}
    (F : Hp → Prop) (R : Nat → Hp → List V → Prop) (f0 : F (upd H1 D (.lst []))) (fD : ∀ H ys zs, F H → H D = some (.lst ys) → F (upd H D (.lst zs))) (r0 : R 0 (upd H1 D (.lst [])) [])
    (rD : ∀ i H ys zs xs, R i H xs → H D = some (.lst ys) → R i (upd H D (.lst zs)) xs) (len : ∀ i H ys, R i H ys → ys.length ≤ 1000000) (hG : ∀ H, F H → G H)
    (hs : ∀ i x H H' ys (Nx : V → Hp → Prop) (Ex : Hp → Prop), i < n → F H → H D = some (.lst ys) → R i H ys → Yw i H x H' →
      (∀ y H2, F H2 → H2 D = some (.lst ys) → R (i + 1) H2 (ys ++ [y]) → Nx y H2) → (∀ H2, F H2 → H2 D = some (.lst ys) → R (i + 1) H2 ys → Ex H2) →
      g x (wipe σ vs) H' fun σ2 H2 => wipe σ2 vs = wipe σ vs ∧ tt σ2 H2 fun b H3 => if b = true then te σ2 H3 Nx else Ex H3)
    (hd : ∀ H ys, F H → H D = some (.lst ys) → R n H ys → Qd H) :
    ∃ W : Nat → Nat → Hp → Prop, (∃ m, W 0 m (upd H1 D (.lst []))) ∧ ∀ i m H, W i m H →
      (J.stop i H ∧ Qd H) ∨ (J.go i H ∧ ∃ Nx : Hp → Prop, (∀ H', Nx H' → ∃ m', m' < m ∧ W (i + 1) m' H') ∧ ∀ x H', J.yld i H x H' → g x (wipe σ vs) H' fun σ2 H2 => wipe σ2 vs = wipe σ vs ∧ tt σ2 H2 fun b H3 =>
        if b = true then te σ2 H3 fun y H4 => ∃ acc, H4 D = some (.lst acc) ∧ acc.length < sizeLine ∧ Nx (upd H4 D (.lst (acc ++ [y]))) else Nx H3) := by
  refine lc_it w (fun i H => F H ∧ ∃ ys, H D = some (.lst ys) ∧ R i H ys) ⟨f0, [], upd_same, r0⟩ (fun i H _ h => hG H h.1) ?_ ?_
  · rintro i x H H' hi ⟨f, ys, hy, r⟩ y
    refine hs i x H H' ys _ _ hi f hy r y (fun z H2 f2 h2 r2 => ?_) (fun H2 f2 h2 r2 => ⟨f2, ys, h2, r2⟩)
    exact ⟨ys, h2, smallM (len i H ys r), fD _ _ _ f2 h2, _, upd_same, rD _ _ _ _ _ r2 h2⟩
  · rintro H ⟨f, ys, hy, r⟩
    exact hd H ys f hy r
theorem snoc_at {α : Type} {l : List α} {x y : α} {j : Nat} (h : (l ++ [x])[j]? = some y) : l[j]? = some y ∨ (j = l.length ∧ y = x) := by
  rcases Nat.lt_or_ge j l.length with hj | hj
  · rw [List.getElem?_append_left hj] at h; exact .inl h
  · rw [List.getElem?_append_right hj] at h
    have := (List.getElem?_eq_some_iff.mp h).1
    simp at this
    have e : j = l.length := by omega
    subst e
    rw [Nat.sub_self] at h
    cases h
    exact .inr ⟨rfl, rfl⟩
theorem _root_.L2.Room.un2 {k : Nat} {A : Around} (r : Room k A) : A.units + 200 < cLine := by have := r.un; omega
theorem ixN_nat {n : Nat} {z : Int} (h0 : 0 ≤ z) (h : z.toNat < n) : ixN n z = some z.toNat := by
  unfold ixN
  rw [if_pos h0, if_pos (by omega : z < (n : Int))]
theorem sIx_some (n d k : Nat) : HT.sIx n d (some (k : Int)) = min k n := by first | exact HT.sIx_nat n d k | exact HT.sIx_some n d k | simp [HT.sIx]
theorem sIx_none (n d : Nat) : HT.sIx n d none = d := by first | rfl | simp [HT.sIx]
theorem cut1 (x : V) (xs : List V) : cutV (x :: xs) (some 1) none = xs := by
  unfold cutV
  rw [show (some (1 : Int)) = some ((1 : Nat) : Int) from rfl, sIx_some, sIx_none]
  have e : min 1 (x :: xs).length = 1 := by rw [List.length_cons]; omega
  rw [e]
  show List.take ((x :: xs).length - 1) xs = xs
  exact List.take_of_length_le (by rw [List.length_cons]; omega)
theorem cut1_not (x : V) (xs : List V) : ¬ (HT.sIx (x :: xs).length 0 (some 1) = 0 ∧ HT.sIx (x :: xs).length (x :: xs).length none = (x :: xs).length) := by
  rw [show (some (1 : Int)) = some ((1 : Nat) : Int) from rfl, sIx_some, List.length_cons]
  omega
/-! ### further rules: data compared and looked for at greater depths, dict.update, get of a written dict, zip of a tuple and a list -/
section
open PySem.Spec PyProof.Rows
variable {X : Cx}
/-- a datum that may be compared: n deep at most -/
def Shp (n : Nat) (d : PyData) : Prop := d.canLay0 = true ∧ d.depth ≤ n
def rEqX (K : PySem.W.Frag) : R2 := fun x y H Q => ∃ d e, Dp K H x d ∧ Dp K H y e ∧ Shp 190 d ∧ Shp 190 e ∧ Q (.bl (PyData.eqv d e)) H
def rNeX (K : PySem.W.Frag) : R2 := fun x y H Q => ∃ d e, Dp K H x d ∧ Dp K H y e ∧ Shp 190 d ∧ Shp 190 e ∧ Q (.bl (!PyData.eqv d e)) H
theorem op_eqX (hu : X.A.units + 200 < cLine) : OpR X (compareOp .Eq) (rEqX X.K) := by
  intro pins s σ H x y v u Q I rx ry ⟨d, e, hd, he, ⟨c1, d1⟩, ⟨c2, d2⟩, q⟩
  obtain ⟨as, r1⟩ := Dp.reads I d x v hd rx
  obtain ⟨bs, r2⟩ := Dp.reads I e y u he ry
  exact SeqAt.compareEq_reads r1 r2 c1 c2 (by have := Nat.min_le_left d.depth e.depth; omega) ⟨.bl _, H, I, rfl, q⟩
theorem op_neX (hu : X.A.units + 200 < cLine) : OpR X (compareOp .NotEq) (rNeX X.K) := by
  intro pins s σ H x y v u Q I rx ry ⟨d, e, hd, he, ⟨c1, d1⟩, ⟨c2, d2⟩, q⟩
  obtain ⟨as, r1⟩ := Dp.reads I d x v hd rx
  obtain ⟨bs, r2⟩ := Dp.reads I e y u he ry
  exact SeqAt.compareNe_reads r1 r2 c1 c2 (by have := Nat.min_le_left d.depth e.depth; omega) ⟨.bl _, H, I, rfl, q⟩
/-- x in (a, b, ..): data of any kind in a tuple -/
def rInTX (K : PySem.W.Frag) : R2 := fun x y H Q => ∃ d ds, Dp K H x d ∧ Dp K H y (.tuple ds) ∧ Shp 190 d ∧ PyData.canLayAll0 ds = true ∧ Q (.bl (ds.any fun z => PyData.eqv z d)) H
theorem op_inTX (hu : X.A.units + 200 < cLine) : OpR X (compareOp .In) (rInTX X.K) := by
  intro pins s σ H x y v u Q I rx ry ⟨d, ds, hd, he, ⟨c1, d1⟩, c2, q⟩
  obtain ⟨as, r1⟩ := Dp.reads I d x v hd rx
  obtain ⟨bs, r2⟩ := Dp.reads I (.tuple ds) y u he ry
  exact SeqAt.in_tuple_reads r2 r1 c2 c1 (by have := Nat.min_le_right (PyData.depthAll ds) d.depth; omega) ⟨.bl _, H, I, rfl, q⟩
/-- x in [a, b, ..]: the same in a list -/
def rInLX (K : PySem.W.Frag) : R2 := fun x y H Q => ∃ d ds, Dp K H x d ∧ Dp K H y (.list ds) ∧ Shp 190 d ∧ PyData.canLayAll0 ds = true ∧ Q (.bl (ds.any fun z => PyData.eqv z d)) H
theorem op_inLX (hu : X.A.units + 200 < cLine) : OpR X (compareOp .In) (rInLX X.K) := by
  intro pins s σ H x y v u Q I rx ry ⟨d, ds, hd, he, ⟨c1, d1⟩, c2, q⟩
  obtain ⟨as, r1⟩ := Dp.reads I d x v hd rx
  obtain ⟨bs, r2⟩ := Dp.reads I (.list ds) y u he ry
  exact SeqAt.in_list_reads r2 r1 c2 c1 (by have := Nat.min_le_right (PyData.depthAll ds) d.depth; omega) ⟨.bl _, H, I, rfl, q⟩
/-- blanks, n times -/
def rRepS : R2 := fun x y H Q => ∃ z n, x = .str z ∧ y = .int n ∧ MulOk z n ∧ Q (.str (Txt.mul z n)) H
theorem op_rep_str : OpR X (binaryOp .Mult) rRepS := by
  intro pins s σ H x y v u Q I rx ry ⟨z, n, e1, e2, ok, q⟩
  subst e1
  subst e2
  obtain ⟨t, rfl⟩ := rx
  obtain ⟨t2, rfl⟩ := ry
  exact SB.mul ok fun t' k => ⟨.str (Txt.mul z n), H, I.tok _, ⟨_, rfl⟩, q⟩
/-- d.update(e), two dicts of the call's own -/
def rUpdate : V → List V → Hp → VK → Prop := fun x vs H Q => ∃ (a b : Addr) (kvs more : List (Key × V)), x = .ref a ∧ vs = [.ref b] ∧ a ≠ b ∧ H a = some (.dK kvs) ∧ H b = some (.dK more) ∧ kvs.length + more.length ≤ sizeLine ∧ Q .non (upd H a (.dK (mergeK kvs more)))
theorem mt_update : MtR X "dict.update" rUpdate := by
  intro pins s σ H x vs v us Q I rx rv ⟨a, b, kvs, more, e1, e2, ne, ha, hb, hz, q⟩
  subst e1 e2
  cases rx
  obtain ⟨u, rfl, ru⟩ := rv.one
  cases ru
  obtain ⟨z1, lo1, ws, k1, D1⟩ := I.hok a _ ha
  obtain ⟨z2, lo2, rs, k2, D2⟩ := I.hok b _ hb
  have l1 := k1.length
  have l2 := k2.length
  refine call_meetsIn PySem.F.slot_dict_update D1.typeIs PySem.F.entry_dict_update (PySem.F.args_dict_update_2 _ _) (meets_dict_update (mixKind X.prog X.w) a b ne lo2)
    ⟨ws, rs, D1, D2, by omega, fun h' m1 m2 sb => ?_⟩
  have hm : Mut (H a) := by rw [ha]; trivial
  have new : ObjOk X.prog X.w (upd H a (.dK (mergeK kvs more))) h' a (.dK (mergeK kvs more)) :=
    ⟨Nat.le_trans (length_mergeK more kvs) hz, lo1, _, k2.merge k1, m1⟩
  obtain ⟨ob, _, _, q1, _⟩ := id m1
  refine ⟨.non, _, I.write (t' := s.toks) hm (.inl rfl) (fun c o n e => (sb.2 c n).trans e) ⟨ob, q1⟩ new, rfl, q⟩
/-- a dict that stands in the written part, its keys texts -/
structure KdAt (K : PySem.W.Frag) (w : World) (a : Addr) : Prop where
  at_ : ∃ es n, K.lookup a = some ⟨.type "dict", none, .dict es n, #[]⟩ ∧ PySem.W.KeysLit w.params es.toList
  low : (a == sysModules) = false
/-- D.get(k, d) of a written dict: r is what stands at k -/
theorem pe_kget2 {o e f : Expr} {td ty tx : TE} {apos cpos : Pos} (ho : PE X o td) (he : PE X e ty) (hf : PE X f tx) (m : M2 X o "get" apos e f cpos) :
    PE X (.Call (.Attribute o "get" apos) [e, f] [] cpos) (fun σ H Q => td σ H fun x H1 => ∃ a, x = .ref a ∧ KdAt X.K X.w a ∧ ty σ H1 fun y H2 => tx σ H2 fun z H3 =>
      ∃ (k : Str) (r : Option Value), y = .str k ∧ PySem.W.nsIn X.K a k = some r ∧ ∃ v, RelO (some v) (some (r.getD (.none))) ∧ Q (if r.isSome then v else z) H3) := by
  refine ⟨fun pins s σ H Q I h => ?_⟩
  refine wpAny_Call_method m.base m.few m.line PySem.F.plainAttrs_dict PySem.F.slot_dict_get PySem.F.type_dict_get (thn (ho.run pins s σ H _ I h) fun u s1 ⟨x, H1, I1, rx, a, ex, ⟨⟨es, n, hl, hk⟩, lo⟩, q1⟩ => ?_)
  subst ex
  obtain rfl : u = Value.ref a := rx
  have hm := PySem.W.mapOf_K (prog := X.prog) (w := X.w) I1.kIn hl hk
  refine ⟨hm.typeIs, fun b eb => ?_, ?_⟩
  · cases eb
    exact ⟨_, I1.kIn _ _ hl, rfl⟩
  rw [m.trees]
  refine Calls.callWith_builtin rfl (Calls.evalArgs_plain (Calls.spliced_cons (thn (he.run pins s1 σ H1 _ I1 q1) fun iv s2 ⟨y, H2, I2, ry, q2⟩ =>
    Calls.spliced_cons (thn (hf.run pins s2 σ H2 _ I2 q2) fun fv s3 ⟨z, H3, I3, rz, k, r, ey, hn, v, rv, q3⟩ => Calls.spliced_nil ?_))))
  subst ey
  obtain ⟨t, rfl⟩ := ry
  have hm3 := PySem.W.mapOf_K (prog := X.prog) (w := X.w) I3.kIn hl hk
  refine call_meetsIn PySem.F.slot_dict_get hm3.typeIs PySem.F.entry_dict_get (PySem.F.args_dict_get_3 _ _ _) (meets_dict_get_default (strKind X.prog X.w) a (strKind_is X.prog X.w k t) lo fv) ⟨_, hm3, ?_⟩
  rw [PySem.W.find_K hl hn]
  cases r with
  | none => exact ⟨_, H3, I3.tok _, rz, q3⟩
  | some u => exact ⟨_, H3, I3.tok _, rv, q3⟩
end

section
open PySem.Spec PyProof.Rows
/-- zip of the tuple at a and the list at b: their items in new pairs -/
def ItzM (K : PySem.W.Frag) (a b : Addr) : It where
  go := fun i H => ∃ (xs ys : List V) (x y : V), SqT K H a xs ∧ SqL K H b ys ∧ xs[i]? = some x ∧ ys[i]? = some y
  yld := fun i H v H' => ∃ T x y, v = .ref T ∧ H T = none ∧ H' = upd H T (.tup [x, y]) ∧ (∀ xs, SqT K H a xs → xs[i]? = some x) ∧ ∀ ys, SqL K H b ys → ys[i]? = some y
  stop := fun i H => ∃ xs ys : List V, SqT K H a xs ∧ SqL K H b ys ∧ i ≤ xs.length ∧ i ≤ ys.length ∧ (i = xs.length ∨ i = ys.length)
theorem turn_zipM {P : Program} {w : World} {K : PySem.W.Frag} {elts : List Expr} {kk : Nat} {tpos : Pos} {a b z TI TO i1 i2 : Addr} (D : ZipApart z TI TO i1 i2 a b) :
    Turn P w K (.Tuple elts kk tpos) (ItzM K a b) [z, TI, TO, i1, i2] z (fun i h => IsZip h z TI TO .none ∧ IsTupOf2 h TI (.ref i1) (.ref i2) ∧ (∃ x y, IsTupOf2 h TO x y) ∧ h.IsTupleIter i1 a i ∧ h.IsListIter i2 b i) := by
  have S : ZipSep2 z TI TO i1 i2 [i1, a] [i2, b] := by
    obtain ⟨d1, d2, d3, d4, d5, d6, d7, d8, d9, d10, d11, d12, d13, d14, d15, d16, d17, d18⟩ := D
    exact ⟨d1, d2, d5, d6, by simp, by simp [d3.symm, d11.symm], by simp [d8, d12.symm], d7, by simp, by simp [d4.symm, d15.symm], by simp [d9, d16.symm], by simp [d10, d17.symm], by simp [d10.symm, d14.symm]⟩
  have five : ∀ {c : Addr} {p : Addr → Prop}, c ∈ [z, TI, TO, i1, i2] → p z → p TI → p TO → p i1 → p i2 → p c := fun {c p} hc p1 p2 p3 p4 p5 => by
    rcases (by simpa using hc : c = z ∨ c = TI ∨ c = TO ∨ c = i1 ∨ c = i2) with r | r | r | r | r <;> rw [r] <;> assumption
  constructor
  case mem => simp
  case obj =>
    intro i h ⟨hz, hTI, ⟨x, y, hTO⟩, ⟨o1, e1, _, f1⟩, ⟨o2, e2, _, f2⟩⟩ c hc
    refine five (p := fun c => ∃ o, h.get? c = some o ∧ ∀ v, o.data ≠ .cell v) hc ⟨_, hz, fun v q => nomatch q⟩ ⟨_, hTI, fun v q => nomatch q⟩ ⟨_, hTO, fun v q => nomatch q⟩ ⟨o1, e1, fun v q => ?_⟩ ⟨o2, e2, fun v q => ?_⟩
    · rw [f1] at q; cases q
    · rw [f2] at q; cases q
  case keep =>
    intro i h h' ⟨hz, hTI, ⟨x, y, hTO⟩, h1, h2⟩ k
    exact ⟨k _ (by simp) _ hz, k _ (by simp) _ hTI, ⟨_, _, k _ (by simp) _ hTO⟩, h1.at fun o q => k _ (by simp) o q, h2.at fun o q => k _ (by simp) o q⟩
  case item =>
    intro X hP hw hK hc i pins s σ H E I hf ⟨hz, hTI, ⟨x0, y0, hTO⟩, h1, h2⟩ ⟨xs, ys, x, y, hqx, hqy, hx, hy⟩
    subst hP hw hK
    have hh := I.ok.hd hc
    obtain ⟨its, rv, p, _⟩ := I.tuple hqx
    obtain ⟨its2, rv2, p2, _⟩ := I.list hqy
    obtain ⟨u, hu, ru⟩ := rv.get hx
    obtain ⟨u2, hu2, ru2⟩ := rv2.get hy
    have hzl : z < s.heap.objs.size := Heap.lt_size hz
    have g1 : i < its.toArray.size := by simpa using (List.getElem?_eq_some_iff.mp hu).1
    have g2 : i < its2.toArray.size := by simpa using (List.getElem?_eq_some_iff.mp hu2).1
    refine wpAny_pyNext_zipD2_item S (Draws.tuple (A := X.A.in1) hh i1 a D.l1i1 its.toArray) (Draws.list (A := X.A.in1) hh i2 b D.l2i2 its2.toArray) hz hTI hTO ⟨h1, p⟩ ⟨h2, p2.isList⟩ g1 g2 fun v1 v2 h' tk w1 w2 z' TO' s1 s2 hT hsz hk => ?_
    have ev1 : v1 = u := by
      have q : its[i]? = some v1 := by simpa using w1
      rw [hu] at q; exact (Option.some.inj q).symm
    have ev2 : v2 = u2 := by
      have q : its2[i]? = some v2 := by simpa using w2
      rw [hu2] at q; exact (Option.some.inj q).symm
    subst ev1 ev2
    refine ⟨_, rfl, wpAny_letOwnedTupleGo_zip (s := { s with heap := h', toks := tk }) z' fun h'' z'' sb => ?_⟩
    have hT2 : h''.get? s.heap.objs.size = some { cls := .type "tuple", data := .seq #[v1, v2] } := (sb.2 _ (Nat.ne_of_gt hzl)).trans hT
    have new : ObjOk X.prog X.w (upd H s.heap.objs.size (.tup [x, y])) h'' s.heap.objs.size (.tup [x, y]) :=
      ⟨by show 2 ≤ sizeLine; decide, [v1, v2], .cons ru (.cons ru2 .nil), ⟨_, hT2, rfl, _, rfl⟩⟩
    have out : ∀ {c : Addr}, c ∉ [z, TI, TO, i1, i2] → c ≠ z ∧ c ≠ TO ∧ c ≠ i1 ∧ c ≠ i2 := fun {c} hc => by
      simp only [List.mem_cons, not_or] at hc
      exact ⟨hc.1, hc.2.2.1, hc.2.2.2.1, hc.2.2.2.2.1⟩
    have I1 : Inv X pins σ (upd H s.heap.objs.size (.tup [x, y])) { s with heap := h'', toks := tk } :=
      I.turnedNew (t' := tk) (ch := [z, TI, TO, i1, i2]) (fun c o hb q => let ⟨n1, n2, n3, n4⟩ := out hb; (sb.2 c n1).trans (hk c o n1 n2 n3 n4 q)) hf (Nat.le_refl _) new
    refine ⟨.ref s.heap.objs.size, _, I1, rfl, ⟨_, x, y, rfl, I.hok.fresh (Nat.le_refl _), rfl, fun l hl => ?_, fun l hl => ?_⟩, ⟨z'', ?_, ⟨v1, v2, ?_⟩, ?_, ?_⟩, fun c hcm => ?_⟩
    · rw [I.tuple_inj hl hqx]; exact hx
    · rw [I.list_inj hl hqy]; exact hy
    · exact (sb.2 _ D.TIz).trans (hk _ _ D.TIz D.TITO D.TIi1 D.TIi2 hTI)
    · exact (sb.2 _ D.TOz).trans TO'
    · exact s1.1.at fun o q => (sb.2 _ D.i1z).trans q
    · exact s2.1.at fun o q => (sb.2 _ D.i2z).trans q
    · have lt1 : i1 < s.heap.objs.size := by obtain ⟨_, e1, _⟩ := h1; exact Heap.lt_size e1
      have lt2 : i2 < s.heap.objs.size := by obtain ⟨_, e1, _⟩ := h2; exact Heap.lt_size e1
      have hlt : c < s.heap.objs.size := five (p := fun c => c < s.heap.objs.size) hcm hzl (Heap.lt_size hTI) (Heap.lt_size hTO) lt1 lt2
      rw [upd_ne (Nat.ne_of_lt hlt)]
      exact (hf c hcm).1
  case done =>
    intro X hP hw hK hc i pins s σ H E I hf ⟨hz, hTI, ⟨x0, y0, hTO⟩, h1, h2⟩ ⟨xs, ys, hqx, hqy, b1, b2, hend⟩
    subst hP hw hK
    have hh := I.ok.hd hc
    obtain ⟨its, rv, p, _⟩ := I.tuple hqx
    obtain ⟨its2, rv2, p2, _⟩ := I.list hqy
    have l1 : xs.length = its.toArray.size := by simpa using rv.length
    have l2 : ys.length = its2.toArray.size := by simpa using rv2.length
    refine wpAny_pyNext_zipD2_end S (Draws.tuple (A := X.A.in1) hh i1 a D.l1i1 its.toArray) (Draws.list (A := X.A.in1) hh i2 b D.l2i2 its2.toArray) hz hTI hTO ⟨h1, p⟩ ⟨h2, p2.isList⟩ (by omega) (by omega) (by omega) fun h' tk hk => ⟨rfl, ?_⟩
    refine I.turnedL (t' := tk) (ch := [z, TI, TO, i1, i2]) (fun c o hb q => ?_) hf
    simp only [List.mem_cons, not_or] at hb
    exact hk c o hb.1 hb.2.2.1 hb.2.2.2.1 hb.2.2.2.2.1 q
  case self => exact fun A i s Q E st h => wpAny_pyIter_zip st.1 h
def iZipM (K : PySem.W.Frag) (ta : TA) : TI := fun σ H R => ta σ H fun vs H1 => ∃ a b xs ys, vs = [.ref a, .ref b] ∧ SqT K H1 a xs ∧ SqL K H1 b ys ∧ R (ItzM K a b) H1
theorem pi_zipM {X : Cx} {e e2 : Expr} {ta : TA} {p pos tpos : Pos} {elts : List Expr} {kk : Nat} (hg : Gl X "zip") (hm : X.mg "zip" = none) (ha : PA X [e, e2] ta)
    (hs : starEach [e, e2] X.env = (false, eval e X.env) :: starEach [e2] X.env := by rfl) (hpl : (backTo pos (starEach [e2] X.env)).any (·.1) = false := by rfl) :
    PI X (.Tuple elts kk tpos) (.Call (.Name "zip" p) [e, e2] [] pos) (iZipM X.K ta) := by
  refine ⟨fun pins s σ H R I h => ?_⟩
  refine Call_ (ld_blt I hg hm PyProof.Rows.boot_zip (PyProof.Rows.callWith_type1 (thn (ha.run pos pins s σ H _ I h) fun us s1 ⟨vs, H1, I1, r1, a, b, xs, ys, ex, hqx, hqy, q⟩ => ?_) hs hpl))
  subst ex
  obtain ⟨u, u', rfl, r, r'⟩ := r1.two
  cases r
  cases r'
  obtain ⟨its, rv, p1, _⟩ := I1.tuple hqx
  obtain ⟨its2, rv2, p2, _⟩ := I1.list hqy
  have la : a < s1.heap.objs.size := by obtain ⟨o1, ho1, _⟩ := id p1; exact Heap.lt_size ho1
  refine zip_begins2 (begins_tuple a its.toArray) (begins_list b its2.toArray) p1 p2.isList fun h' hz hTI hTO h1 h2 hsz hk => wpAny_pyIter_zip hz ?_
  have I2 : Inv X pins σ H1 { s1 with heap := h' } := I1.kept (t' := s1.toks) hk
  refine ⟨s1.heap.objs.size + 4, [s1.heap.objs.size + 4, s1.heap.objs.size + 2, s1.heap.objs.size + 3, s1.heap.objs.size, s1.heap.objs.size + 1], _, _, H1, rfl, I2, turn_zipM (PySem.W.ktu_apart s1.heap.objs.size a b la p2.lt), ⟨hz, hTI, ⟨_, _, hTO⟩, ⟨_, h1, rfl, rfl⟩, ⟨_, h2, rfl, rfl⟩⟩, fun c hcm => ?_, q⟩
  have hle : s1.heap.objs.size ≤ c := by
    rcases (by simpa using hcm : c = s1.heap.objs.size + 4 ∨ c = s1.heap.objs.size + 2 ∨ c = s1.heap.objs.size + 3 ∨ c = s1.heap.objs.size ∨ c = s1.heap.objs.size + 1) with r | r | r | r | r <;> rw [r]
    · exact Nat.le_add_right _ _
    · exact Nat.le_add_right _ _
    · exact Nat.le_add_right _ _
    · exact Nat.le_refl _
    · exact Nat.le_add_right _ _
  exact I1.fpOk hle (I1.hok.fresh hle)
/-- a loop over such a zip, as many items on both sides -/
theorem for_zipM {K : PySem.W.Frag} {a b : Addr} {xs ys : List V} {g : TG} {tb : TS} {D : Ends} {σ : L2.St} {H : Hp} (hl : xs.length = ys.length) (Pv : Nat → L2.St → Hp → Prop) (h0 : Pv 0 σ H) (hq : ∀ i σ H, Pv i σ H → SqT K H a xs ∧ SqL K H b ys)
    (hs : ∀ (i : Nat) (x y : V) (T : Addr) (σ : L2.St) (H : Hp), xs[i]? = some x → ys[i]? = some y → Pv i σ H → H T = none → g (.ref T) σ (upd H T (.tup [x, y])) fun σ2 H2 => tb { D with nx := Pv (i + 1), ct := Pv (i + 1), bk := D.nx } σ2 H2) (hd : ∀ σ H, Pv xs.length σ H → D.nx σ H) :
    ∃ W : Nat → Nat → L2.St → Hp → Prop, (∃ m, W 0 m σ H) ∧ ∀ i m σ H, W i m σ H →
      ((ItzM K a b).stop i H ∧ D.nx σ H) ∨ ((ItzM K a b).go i H ∧ ∃ N : L2.St → Hp → Prop, (∀ σ' H', N σ' H' → ∃ m', m' < m ∧ W (i + 1) m' σ' H') ∧ ∀ v H', (ItzM K a b).yld i H v H' → g v σ H' fun σ2 H2 => tb { D with nx := N, ct := N, bk := D.nx } σ2 H2) := by
  refine ⟨fun i m σ H => m = xs.length - i ∧ i ≤ xs.length ∧ Pv i σ H, ⟨xs.length, rfl, Nat.zero_le _, h0⟩, fun i m σ H ⟨em, hi, p⟩ => ?_⟩
  subst em
  obtain ⟨qx, qy⟩ := hq i σ H p
  rcases Nat.lt_or_ge i xs.length with hlt | hge
  · refine .inr ⟨⟨xs, ys, _, _, qx, qy, List.getElem?_eq_getElem hlt, List.getElem?_eq_getElem (by omega : i < ys.length)⟩, Pv (i + 1), fun σ' H' p' => ⟨xs.length - (i + 1), by omega, rfl, hlt, p'⟩, fun v H' ⟨T, x', y', e1, hT, e2, f1, f2⟩ => ?_⟩
    subst e1 e2
    exact hs i x' y' T σ H (f1 xs qx) (f2 ys qy) p hT
  · have e : i = xs.length := by omega
    subst e
    exact .inl ⟨⟨xs, ys, qx, qy, Nat.le_refl _, by omega, .inl rfl⟩, hd σ H p⟩
end
/-! ### rules for a comprehension's block: the written part by its name -/
section
variable {X : Cx} (K : PySem.W.Frag)
theorem kx_ix_tup (h : X.K = K := by rfl) : IxR X (rIxT K) := h ▸ ix_tup
theorem kx_ix_list (h : X.K = K := by rfl) : IxR X (rIxL K) := h ▸ ix_list
theorem kx_ix_kdict (w : World) (h : X.K = K := by rfl) (hw : X.w = w := by rfl) : IxR X (rIxD K w) := by subst h hw; exact ix_kdict
theorem kx_op_eqX (hu : X.A.units + 200 < cLine) (h : X.K = K := by rfl) : OpR X (compareOp .Eq) (rEqX K) := h ▸ op_eqX hu
theorem kx_op_neX (hu : X.A.units + 200 < cLine) (h : X.K = K := by rfl) : OpR X (compareOp .NotEq) (rNeX K) := h ▸ op_neX hu
theorem kx_op_in_seq (h : X.K = K := by rfl) : OpR X (compareOp .In) (rIn K false) := h ▸ op_in_seq
theorem kx_op_notIn_seq (h : X.K = K := by rfl) : OpR X (compareOp .NotIn) (rIn K true) := h ▸ op_notIn_seq
theorem kx_call_isi (h : X.K = K := by rfl) : CallR X (.builtin "isinstance") (rIsi K) := h ▸ call_isi
def rLenQ (K : PySem.W.Frag) : List V → Hp → VK → Prop := fun xs H Q => ∃ p ys, xs = [.ref p] ∧ (SqL K H p ys ∨ SqT K H p ys) ∧ Q (.int ys.length) H
theorem kx_call_len_seq (h : X.K = K := by rfl) : CallR X (.builtin "len") (rLenQ K) := h ▸ call_len_seq
theorem kx_bm {e : Expr} {ty : String} {r : V → List V → Hp → VK → Prop} {to : TE} {t : TA} (p : PE X e (tBM X.K ty r to t)) (h : X.K = K := by rfl) : PE X e (tBM K ty r to t) := h ▸ p
theorem kx_bm0 {e : Expr} {ty : String} {r : V → List V → Hp → VK → Prop} {to : TE} (p : PE X e (tBM0 X.K ty r to)) (h : X.K = K := by rfl) : PE X e (tBM0 K ty r to) := h ▸ p
theorem kx_cr_sum (hc : X.calm = true := by rfl) (h : X.K = K := by rfl) : CallR X (.builtin "sum") (rSum K) := h ▸ cr_sum hc
end

section
variable {X : Cx}
/-- a new thing is locked as soon as it is there (a dict that is walked and dropped) -/
def tFrz (t : TE) : TE := fun σ H Q => t σ H fun x H1 => ∃ d u, x = .ref d ∧ H1 d = some u ∧ Mut (some u) ∧ ∀ od, Q x (upd H1 d (.frz od u))
theorem pe_frz {e : Expr} {t : TE} (he : PE X e t) : PE X e (tFrz t) := by
  refine ⟨fun pins s σ H Q I hw => ?_⟩
  refine thn (he.run pins s σ H _ I hw) fun v s1 ⟨x, H1, I1, r, d, u, ex, hd, mu, q⟩ => ?_
  obtain ⟨od, I2⟩ := I1.lock hd mu
  exact ⟨x, _, I2, r, q od⟩
end
/-! ### the plain law: sets of places as numbers, lattices -/
/-- the number whose binary digits are the places below n with p -/
def mask (n : Nat) (p : Nat → Bool) : Nat := match n with
  | 0 => 0
  | n + 1 => mask n p + if p n then 2 ^ n else 0
theorem mask_lt (p : Nat → Bool) : ∀ n, mask n p < 2 ^ n
  | 0 => by show 0 < 1; omega
  | n + 1 => by
    have h := mask_lt p n
    show mask n p + (if p n then 2 ^ n else 0) < 2 ^ (n + 1)
    rw [Nat.pow_succ]
    split <;> omega
theorem mask_bit (p : Nat → Bool) : ∀ n i, (mask n p).testBit i = (decide (i < n) && p i)
  | 0, i => by
    show Nat.testBit 0 i = _
    simp
  | n + 1, i => by
    have h := mask_lt p n
    have ih := mask_bit p n i
    show (mask n p + if p n then 2 ^ n else 0).testBit i = _
    by_cases c : p n = true
    · rw [if_pos c, Nat.add_comm]
      by_cases e : i = n
      · subst e
        rw [Nat.testBit_two_pow_add_eq, ih, c]
        simp
      · rcases Nat.lt_or_ge i n with l | l
        · rw [Nat.testBit_two_pow_add_gt (by omega), ih]
          have : i < n + 1 := by omega
          simp [l, this]
        · have l2 : ¬ i < n + 1 := by omega
          have z : 2 ^ n + mask n p < 2 ^ i := Nat.lt_of_lt_of_le (by rw [Nat.pow_succ]; omega : 2 ^ n + mask n p < 2 ^ (n + 1)) (Nat.pow_le_pow_right (by decide) (by omega))
          rw [Nat.testBit_lt_two_pow z]
          simp [l2]
    · rw [if_neg c, Nat.add_zero, ih]
      by_cases e : i = n
      · subst e
        simp [Bool.not_eq_true _ ▸ c]
      · have : (i < n) ↔ (i < n + 1) := by omega
        simp [this]
theorem mask_ext {n : Nat} {p q : Nat → Bool} (h : ∀ i, i < n → p i = q i) : mask n p = mask n q := by
  refine Nat.eq_of_testBit_eq fun i => ?_
  rw [mask_bit, mask_bit]
  by_cases c : i < n
  · rw [h i c]
  · simp [c]
theorem mask_eq {n : Nat} {p q : Nat → Bool} : mask n p = mask n q ↔ ∀ i, i < n → p i = q i := by
  refine ⟨fun h i hi => ?_, mask_ext⟩
  have := congrArg (Nat.testBit · i) h
  simpa [mask_bit, hi] using this
theorem mask_and (n : Nat) (p q : Nat → Bool) : mask n p &&& mask n q = mask n fun i => p i && q i := by
  refine Nat.eq_of_testBit_eq fun i => ?_
  rw [Nat.testBit_and, mask_bit, mask_bit, mask_bit]
  cases decide (i < n) <;> simp
theorem mask_or (n : Nat) (p q : Nat → Bool) : mask n p ||| mask n q = mask n fun i => p i || q i := by
  refine Nat.eq_of_testBit_eq fun i => ?_
  rw [Nat.testBit_or, mask_bit, mask_bit, mask_bit]
  cases decide (i < n) <;> simp
theorem mask_all (n : Nat) : mask n (fun _ => true) = 2 ^ n - 1 := by
  refine Nat.eq_of_testBit_eq fun i => ?_
  rw [mask_bit, Nat.testBit_two_pow_sub_one]
  simp
theorem mask_one {n a : Nat} (h : a < n) : mask n (fun i => i == a) = 2 ^ a := by
  refine Nat.eq_of_testBit_eq fun i => ?_
  rw [mask_bit, Nat.testBit_two_pow]
  by_cases e : i = a
  · subst e; simp [h]
  · simp [e, Ne.symm e]
theorem mask_of {n m : Nat} (h : m < 2 ^ n) : m = mask n m.testBit := by
  refine Nat.eq_of_testBit_eq fun i => ?_
  rw [mask_bit]
  by_cases c : i < n
  · simp [c]
  · rw [Nat.testBit_lt_two_pow (Nat.lt_of_lt_of_le h (Nat.pow_le_pow_right (by decide) (by omega)))]
    simp [c]
/-! #### the same as whole numbers of the program -/
theorem bit_int (m a : Nat) : Builtin.bitAnd ((m : Int) / 2 ^ a) 1 = if m.testBit a then 1 else 0 := by
  have e : Builtin.bitAnd ((m : Int) / 2 ^ a) 1 = ((m : Int) / 2 ^ a) % 2 := by
    have := Bits.bitAnd_mask (x := (m : Int) / 2 ^ a) 1 (Int.ediv_nonneg (Int.natCast_nonneg _) (by exact Int.le_of_lt (Int.pow_pos (by decide))))
    simpa using this
  rw [e, Nat.testBit_eq_decide_div_mod_eq]
  have e2 : ((m : Int) / 2 ^ a) % 2 = ((m / 2 ^ a % 2 : Nat) : Int) := by
    rw [Int.natCast_emod, Int.natCast_ediv, Int.natCast_pow]
    rfl
  rw [e2]
  rcases Nat.mod_two_eq_zero_or_one (m / 2 ^ a) with h | h <;> rw [h] <;> rfl
theorem bit_is (m a : Nat) : decide (Builtin.bitAnd ((m : Int) / 2 ^ a) 1 = 1) = m.testBit a := by
  rw [bit_int]
  cases m.testBit a <;> rfl
theorem and_int_nat (a b : Nat) : Builtin.bitAnd (a : Int) (b : Int) = ((a &&& b : Nat) : Int) := by
  rw [PyProof.Rows.bitAnd_pp (Int.natCast_nonneg _) (Int.natCast_nonneg _)]
  rfl
theorem or_int_nat (a b : Nat) : Builtin.bitOr (a : Int) (b : Int) = ((a ||| b : Nat) : Int) := by
  rw [Bits.bitOr_pp (Int.natCast_nonneg _) (Int.natCast_nonneg _)]
  rfl
/-- a & ~b -/
theorem andnot_int (n : Nat) (p q : Nat → Bool) : Builtin.bitAnd (mask n p : Int) (Builtin.bitNot (mask n q : Int)) = (mask n (fun i => p i && !q i) : Int) := by
  have hneg : ¬ (0 ≤ Builtin.bitNot (mask n q : Int)) := by show ¬ (0 ≤ -(mask n q : Int) - 1); omega
  have hpos : (0 : Int) ≤ (mask n p : Int) := Int.natCast_nonneg _
  have nn : Builtin.bitNot (Builtin.bitNot (mask n q : Int)) = (mask n q : Int) := by show -(-(mask n q : Int) - 1) - 1 = _; omega
  have e : Builtin.bitAnd (mask n p : Int) (Builtin.bitNot (mask n q : Int)) = (mask n p : Int) - ((mask n p &&& mask n q : Nat) : Int) := by
    unfold Builtin.bitAnd
    rw [show decide ((0 : Int) ≤ (mask n p : Int)) = true from decide_eq_true hpos, show decide ((0 : Int) ≤ Builtin.bitNot (mask n q : Int)) = false from decide_eq_false hneg]
    show (mask n p : Int) - (((mask n p : Int).toNat &&& (Builtin.bitNot (Builtin.bitNot (mask n q : Int))).toNat : Nat) : Int) = _
    rw [nn]
    rfl
  rw [e, mask_and]
  have s : ∀ m, mask m (fun i => p i && q i) + mask m (fun i => p i && !q i) = mask m p := fun m => by
    induction m with
    | zero => rfl
    | succ m ih =>
      show (mask m _ + if (p m && q m) = true then 2 ^ m else 0) + (mask m _ + if (p m && !q m) = true then 2 ^ m else 0) = mask m p + if p m = true then 2 ^ m else 0
      rw [← ih]
      cases p m <;> cases q m <;> simp <;> omega
  have := s n
  omega
/-- the sum of 2 ** i over the places with p -/
theorem sum_mask (p : Nat → Bool) : ∀ n, ((((List.range n).filter p).map fun i => ((2 ^ i : Nat) : Int))).sum = (mask n p : Int)
  | 0 => rfl
  | n + 1 => by
    rw [List.range_succ, List.filter_append, List.map_append, List.sum_append, sum_mask p n]
    show _ = ((mask n p + if p n then 2 ^ n else 0 : Nat) : Int)
    by_cases c : p n = true
    · simp [List.filter, c]
    · simp [List.filter, c]
/-- the first place below n with p -/
def first : Nat → (Nat → Bool) → Option Nat := fun n p => (List.range n).find? p
theorem first_some {n k : Nat} {p : Nat → Bool} (h : first n p = some k) : k < n ∧ p k = true ∧ ∀ j, j < k → p j = false := by
  unfold first at h
  obtain ⟨h1, as, bs, h2, h3⟩ := List.find?_eq_some_iff_append.mp h
  have hk : k < n := List.mem_range.mp (List.mem_of_find?_eq_some h)
  refine ⟨hk, h1, fun j hj => ?_⟩
  have hl : as.length = k := by
    have e1 : (List.range n)[as.length]? = some k := by rw [h2, List.getElem?_append_right (Nat.le_refl _), Nat.sub_self]; rfl
    have e2 := (List.getElem?_eq_some_iff.mp e1).1
    rw [List.getElem?_range (by simpa using e2)] at e1
    exact Option.some.inj e1
  have e1 : (List.range n)[j]? = some j := List.getElem?_range (by omega)
  rw [h2, List.getElem?_append_left (by omega)] at e1
  have := h3 j (List.mem_of_getElem? e1)
  simpa using this
theorem first_none {n : Nat} {p : Nat → Bool} (h : first n p = none) : ∀ j, j < n → p j = false := fun j hj => by
  have := List.find?_eq_none.mp h j (List.mem_range.mpr hj)
  simpa using this
theorem first_is {n k : Nat} {p : Nat → Bool} (hk : k < n) (h1 : p k = true) (h2 : ∀ j, j < k → p j = false) : first n p = some k := by
  cases e : first n p with
  | none => have := first_none e k hk; rw [h1] at this; cases this
  | some m =>
    obtain ⟨a, b, c⟩ := first_some e
    rcases Nat.lt_trichotomy m k with l | l | l
    · have := h2 m l; rw [b] at this; cases this
    · rw [l]
    · have := c k l; rw [h1] at this; cases this
theorem first_not {n : Nat} {p : Nat → Bool} (h : ∀ j, j < n → p j = false) : first n p = none := by
  cases e : first n p with
  | none => rfl
  | some m =>
    obtain ⟨a, b, _⟩ := first_some e
    rw [h m a] at b; cases b
theorem first_ext {n : Nat} {p q : Nat → Bool} (h : ∀ i, i < n → p i = q i) : first n p = first n q := by
  cases e : first n p with
  | none => exact (first_not fun j hj => by rw [← h j hj]; exact first_none e j hj).symm
  | some m =>
    obtain ⟨a, b, c⟩ := first_some e
    exact (first_is a (by rw [← h m a]; exact b) fun j hj => by rw [← h j (by omega)]; exact c j hj).symm
/-- a lattice: its label, names, order and depth -/
structure Lt where
  label : Str
  names : List Str
  le : Nat → Nat → Bool
  depth : Nat
namespace Lt
def n (L : Lt) : Nat := L.names.length
def down (L : Lt) (b : Nat) : Nat := mask L.n fun a => L.le a b
def up (L : Lt) (a : Nat) : Nat := mask L.n fun b => L.le a b
def join (L : Lt) (a b : Nat) : Option Nat := first L.n fun k => L.up k == (L.up a &&& L.up b)
def meet (L : Lt) (a b : Nat) : Option Nat := first L.n fun k => L.down k == (L.down a &&& L.down b)
def bot (L : Lt) : Option Nat := first L.n fun k => L.up k == 2 ^ L.n - 1
def top (L : Lt) : Option Nat := first L.n fun k => L.down k == 2 ^ L.n - 1
def irr (L : Lt) (a : Nat) : Bool := (List.range L.n).any fun k => L.down k == mask L.n (fun i => L.le i a && !(i == a))
def irrs (L : Lt) : List Nat := (List.range L.n).filter L.irr
end Lt
def optV : Option Nat → V
  | none => .non
  | some k => .int k
def natV (l : List Nat) : List V := l.map fun k => V.int (k : Nat)
/-! ### defs that say super(): the frame with the class's cell -/
section
open PySem.W PyProof.Rows PySem.Calls
theorem lookup_class {cc c : Addr} {x : Str} (h : ([("__class__", cc)] : List (Str × Addr)).lookup x = some c) : x = "__class__" ∧ c = cc := by
  by_cases e : x = "__class__"
  · subst e
    simp at h
    exact ⟨rfl, h.symm⟩
  · have : (x == ("__class__" : Str)) = false := beq_eq_false_iff_ne.mpr e
    simp [List.lookup, this] at h
theorem start_get {N : List Str} {vs : List V} {i : Nat} {v : V} (h : (L2.start N vs)[i]? = some (some v)) : vs[i]? = some v := by
  rcases Nat.lt_or_ge i vs.length with hi | hi
  · simpa [L2.start, List.getElem?_append_left, hi] using h
  · simp only [L2.start, List.getElem?_append, List.length_map, Nat.not_lt.mpr hi, if_false, List.getElem?_replicate] at h
    split at h <;> cases h
end
section
open PySem.W PyProof.Rows PySem.Calls ClX
variable {X : Cx} {c : Code} {st : Stmt} {ss rest : List Stmt} {t u : TS}
/-- a suite run where the frame's own code stands below -/
structure PSa (X : Cx) (c : Code) (ss : List Stmt) (t : TS) : Prop where
  run : ∀ (pins : List (Addr × Obj)) (s : Shared) (σ : L2.St) (H : Hp) (D : Ends), Inv X pins σ H s → t D σ H → _root_.PySem.wpAt (model X.prog X.w) X.A c (execs ss X.env) (SP X pins D) X.xe s
theorem psa_any (h : PSs X ss t) : PSa X c ss t := ⟨fun pins s σ H D I q => _root_.PySem.wpAt_of_wpAny (h.run pins s σ H D I q)⟩
theorem psa_cons (h1 : PS X st t) (h2 : PSa X c rest u) : PSa X c (st :: rest) (tSeq t u) := by
  refine ⟨fun pins s σ H D I h => ?_⟩
  refine ks_wpAt_execs_cons (_root_.PySem.wpAt_of_wpAny (thn (h1.run pins s σ H { D with nx := u D } I h) fun f s1 q => ?_))
  match f, q with
  | .next, ⟨σ', H', I', q⟩ => exact h2.run pins s1 σ' H' D I' q
  | .ret v, q => exact q
  | .brk, q => exact q
  | .cont, q => exact q
/-- a local name, or one with a cell of the frame's own -/
def locK (sc : Scope) (x : Str) : Bool := match sc.names.lookup x with
  | some .local => true
  | some .cell => true
  | _ => false
theorem locK_vis {sc : Scope} {x : Str} (h : locK sc x = true) : Vis sc x := by
  unfold locK at h
  split at h
  · exact .inl ‹_›
  · exact .inr (.inl ‹_›)
  · cases h
theorem load_self {M : Model} {A : Around} {E : Value → Shared → Prop} {env : Env} {s : Shared} {me : Str} {u : Value} {m0 : Str → Option Value} {Q : Value → Shared → Prop} (hk : env.scope.kind = .function) (ka : locK env.scope me = true) (hn : s.heap.Ns env.locals m0) (lk : Look env s.heap m0 me u) (h : Q u s) : wpAny M A (loadName env me) Q E s := by
  rcases lk with ⟨a, q⟩ | ⟨a, c, e1, e2⟩
  · exact wpAny_loadName_local hk a hn q h
  · unfold locK at ka
    rcases a with a | a
    · exact wpAny_loadName_cell hk a e1 e2 h
    · have a' : env.scope.names.lookup me = some .free := a
      rw [a'] at ka
      cases ka
/-- what a frame with the class's cell knows of itself -/
structure SupX (X : Cx) (f cd cc D : Addr) (me : Str) : Prop where
  ks : X.env.scope.names.lookup ("super" : Str) = some .globalImplicit
  kc : X.env.scope.names.lookup ("__class__" : Str) = some .free
  ka : locK X.env.scope me = true
  fn : X.env.func = some f
  fd : ∃ o : Obj, X.K.lookup f = some o ∧ ∃ d : FuncData, o.data = .func d ∧ ∃ ar : Arg, (d.params.posonlyargs ++ d.params.args).head? = some ar ∧ ar.arg = me
  co : X.env.code = .ref cd
  cv : ∃ o : Obj, X.K.lookup cd = some o ∧ ∃ vs, o.data = .fields vs ∧ ∃ (file : Str) (tf : Tok), vs[2]? = some (.str file tf) ∧ ((X.prog.main.file : Str) == file) = true
  top : (X.prog.main.scope.names.lookup ("super" : Str)).isSome = false
  cl : X.env.cells.lookup ("__class__" : Str) = some cc
  cc : ∃ (a : Value) (b : Option Addr) (e : Array (Option Value)), X.K.lookup cc = some ⟨a, b, .cell (some (.ref D)), e⟩
  cls : ∃ cdD, clsIn X.K D = some cdD
  mg : X.mg "super" = none
  st : nsIn X.K cStatics "thirdparty.any" = some none
/-- super().m(..) where self stands in slot 0 -/
def tSup (K : PySem.W.Frag) (D : Addr) (m : Str) (f2 : Addr) (sp : Sp) (dvs : List V) (E : XK) (ta : TA) : TS := fun Dn σ H => ∃ (a C : Addr) (dx : Addr) (fs : List (Str × V)), σ[0]? = some (some (.ref a)) ∧ H a = some (.ins C dx fs) ∧ mroIn K C (.ref D) = some true ∧
  ks_superIn K C D m = some (some (.ref f2)) ∧ ta σ H fun vs H1 => sp (.ref a :: (vs ++ dvs)) H1 (fun _ H2 => Dn.nx σ H2) E
theorem cls_obj {K : PySem.W.Frag} {h : Heap} {D : Addr} {cd : ClassData} (k : K.In h) (e : clsIn K D = some cd) : ∃ oD, h.get? D = some oD ∧ oD.data = .cls cd := by
  unfold clsIn at e
  split at e
  · rename_i ho
    cases e
    exact ⟨_, k _ _ ho, rfl⟩
  · cases e
theorem run_fnC {pins : List (Addr × Obj)} {σ : L2.St} {H : Hp} {s : Shared} {CX : CXT} {k : Nat} {f : Addr} {fd : FuncData} {ps : List Str} {sp : Sp} {E : XK} {Q : VK} {us ds : List Value} {vs dvs : List V} (F : FnOk X.prog X.w X.K X.mg X.base CX k f fd ps sp) (hr : Room k X.A) (hb : Binds X.K fd ps ds) (hd : Vals dvs ds)
    (hx : Passes CX X E) (I : Inv X pins σ H s) (r : Vals vs us) (h : sp (vs ++ dvs) H Q E) :
    codeAny (model X.prog X.w) X.A (.call (.ref f) ⟨us, []⟩) (fun r s' => match r with | .ok (.ret v) => EP X pins σ Q v s' | .ok _ => False | .error e => X.xe e s') s := by
  have r2 : Vals (vs ++ dvs) (us ++ ds) := r.append hd
  have hl : (us ++ ds).length = ps.length := r2.length.symm.trans (F.len _ _ _ _ h)
  refine codeAny_mono (F.run X.A X.stack s H ⟨us, []⟩ (us ++ ds) (vs ++ dvs) Q E hr I.env0 (hb s us I.kIn hl) r2 h) fun r s' hq => ?_
  match r, hq with
  | .error e, hq => exact hx pins σ H s e s' I hq
  | .ok (.ret u), hq => exact I.after hq
  | .ok .next, hq => exact hq.elim
  | .ok .brk, hq => exact hq.elim
  | .ok .cont, hq => exact hq.elim
theorem psa_super {f cd cc D f2 : Addr} {me m : Str} {body : List Stmt} {p0 p1 apos pos pos' : Pos} {e : Expr} {es : List Expr} {ta : TA} {CX : CXT} {k : Nat} {fd2 : FuncData} {ps : List Str} {sp : Sp} {ds : List Value} {dvs : List V} {E : XK} {pl : Sem Bool}
    (S : SupX X f cd cc D me) (hN : X.N[0]? = some me) (ha : PA X (e :: es) ta) (F : FnOk X.prog X.w X.K X.mg X.base CX k f2 fd2 ps sp) (hr : Room k X.A) (hb : Binds X.K fd2 ps ds) (hd : Vals dvs ds) (hx : Passes CX X E)
    (ht : typeIn X.K (.ref f2) = some (.type "function")) (hf2 : fnIn X.K f2 = true) (hm : (m == ("__class__" : Str)) = false)
    (hst : starEach (e :: es) X.env = (false, eval e X.env) :: starEach es X.env) (hpl : (backTo pos (starEach es X.env)).any (·.1) = false)
    (hev : eval (.Call (.Attribute (.Call (.Name "super" p0) [] [] p1) m apos) (e :: es) [] pos) X.env = (do
      let ov ← attributeBase (.Call (.Name "super" p0) [] [] p1) m X.env (eval (.Call (.Name "super" p0) [] [] p1) X.env)
      standAt apos.atName
      let (g, first) ← holding [ov] (getMethod ov m pl)
      callWith pos g first (backTo pos (starEach (e :: es) X.env)) []) )
    (hi : interactive X.env = false) (hs : swapsWith (.Call (.Attribute (.Call (.Name "super" p0) [] [] p1) m apos) (e :: es) [] pos) none pos'.line X.env = pure false) (h2 : PSa X (.func body X.env) rest u) :
    PSa X (.func body X.env) (.Expr (.Call (.Attribute (.Call (.Name "super" p0) [] [] p1) m apos) (e :: es) [] pos) pos' :: rest) (tSeq (tSup X.K D m f2 sp dvs E ta) u) := by
  refine ⟨fun pins s σ H Dn I h => ?_⟩
  obtain ⟨a, C, dx, fs, h0, hins, hmro, hsup, h⟩ := h
  obtain ⟨hh, gg, dd, tt, os⟩ := s
  have KX : X.K.In hh := I.kIn
  obtain ⟨o1, l1, d1, e1, ar, hp1, har⟩ := S.fd
  obtain ⟨o2, l2, vs2, e2, file, tf, hv2, hfile⟩ := S.cv
  obtain ⟨ca, cb, ce, lc⟩ := S.cc
  obtain ⟨cdD, hcd⟩ := S.cls
  obtain ⟨oD, hD1, hD2⟩ := cls_obj KX hcd
  obtain ⟨m0, hn0, hlook⟩ := I.loc
  obtain ⟨uv, ru, lk⟩ := hlook 0 me (.ref a) hN h0 (locK_vis S.ka)
  obtain rfl : uv = Value.ref a := ru
  obtain ⟨mb, hb1, hb2⟩ := I.mod.blt
  refine ks_wpAt_execs_cons (ks_wpAt_Expr_any (ks_wpAt_MethodCall ?_ hev) hi hs)
  refine ks_wpAt_super_base S.ks S.kc hm S.fn (KX _ _ l1) e1 hp1 S.co (KX _ _ l2) e2 hv2 hfile S.top ?_
  refine ks_loadName_global I.ok.kind S.ks (loadGlobal_builtin (by rw [I.ok.glob]; exact I.mod.glob.keeps I.bk) S.mg (by rw [I.ok.blt]; exact hb1.keeps I.bk) ((hb2 _ (by decide)).trans (by first | rfl | decide +kernel)) ⟨rfl, ?_⟩)
  refine wpAny_loadName_free I.ok.kind S.kc S.cl ⟨_, KX _ _ lc, rfl⟩ ?_
  rw [har]
  refine load_self I.ok.kind S.ka hn0 lk ?_
  refine ks_wpAny_isType_cls hD1 hD2 ⟨rfl, ?_⟩
  obtain ⟨mA, O, _, _, _, _⟩ := ins_get I.hok hins
  have xC : a ≠ C := fun e => by
    have h1 := O.obj
    obtain ⟨oC, c1, c2⟩ : ∃ oC, hh.get? C = some oC ∧ ∃ cd2, oC.data = .cls cd2 := by
      cases hc : clsIn X.K C with
      | none => unfold ks_superIn at hsup; rw [hc] at hsup; cases hsup
      | some cd2 => obtain ⟨oC, c1, c2⟩ := cls_obj KX hc; exact ⟨oC, c1, cd2, c2⟩
    obtain ⟨cd2, c2⟩ := c2
    rw [e, c1] at h1
    rw [Option.some.inj h1] at c2
    cases c2
  refine ks_wpAny_call_super hD1 hD2 O.obj rfl (fun c z => nomatch z) (looks_mroIn KX hmro) (fun h' hso hk' => ?_)
  have I1 : Inv X ((hh.objs.size, ks_superObj D a C) :: pins) σ H ⟨h', gg, dd, tt, os⟩ := pin_new (t' := tt) I hk' (Nat.le_refl _) hso (fun v z => nomatch z)
  have K1 : X.K.In h' := I1.kIn
  cases hc : clsIn X.K C with
  | none => unfold ks_superIn at hsup; rw [hc] at hsup; cases hsup
  | some cdC =>
    unfold ks_superIn at hsup
    rw [hc] at hsup
    obtain ⟨of, hof, hofc⟩ : ∃ of, h'.get? f2 = some of ∧ of.cls = .type "function" := by
      have ht' : (X.K.lookup f2).map (·.cls) = some (.type "function") := ht
      cases z : X.K.lookup f2 with
      | none => rw [z] at ht'; cases ht'
      | some of => rw [z] at ht'; exact ⟨of, K1 _ _ z, Option.some.inj ht'⟩
    refine ks_wpAny_getMethod_super hso (looks_opaque K1 S.st) (l₀ := cdC.mro) (fun A Q E s k q => wpAny_bind ((looks_clsIn K1 hc) A _ E s k (wpAny_pure q))) rfl K1 hsup hof hofc xC hm ?_
    have I2 : Inv X ((h'.objs.size, methodObj (.ref f2) (.ref a)) :: (hh.objs.size, ks_superObj D a C) :: pins) σ H { (⟨h', gg, dd, tt, os⟩ : Shared) with heap := h'.push (methodObj (.ref f2) (.ref a)), toks := tt + 1 } := met_new I1
    refine callwith_cm I2 (base_none I1 (Nat.le_refl _)) hf2 (thn (ha.run pos _ _ σ H _ I2 h) fun us s3 ⟨vs, H1, I3, r3, q3⟩ => ⟨⟨pin_at I3, I3.kIn⟩, ?_⟩) hst hpl
    refine wpAny_call (method_call (pin_at I3) (codeAny_mono (run_fnC (us := .ref a :: us) (vs := .ref a :: vs) F hr hb hd hx I3 (.cons rfl r3) q3) fun r s4 hq => ?_))
    match r, hq with
    | .ok (.ret _), ⟨_, H', I', _, q⟩ => exact h2.run pins s4 σ H' Dn (unpin (unpin I')) q
    | .ok .next, hq => exact hq
    | .ok .brk, hq => exact hq
    | .ok .cont, hq => exact hq
    | .error e, hq => exact hq
end
/-! ### super().__init__(..) of an exception over ValueError -/
section
open PySem.W PyProof.Rows PySem.Calls ClX
theorem mro_VE {K : PySem.W.Frag} {C : Addr} (T : OexC K C) {y : String} (hy : PySem.HandSPX.veTail.contains (.type y) = true) : mroIn K C (.type y) = some true := by
  obtain ⟨nm, q, N, bs, bm, sn, sub, ab, col, dd, k0, k1, k2, k3, k5, hC, hbm⟩ := T.cls
  have hcl : clsIn K C = some { name := nm, bases := bs, mro := .ref C :: bm, ns := N, qualname := q, hasDict := true, slotNames := sn, subclasses := sub, abstract := ab, collection := col, hasDel := false } := by
    unfold clsIn
    rw [hC] <;> rfl
  have e := PySem.HandSPX.refsVE_contains y bm hbm
  unfold mroIn
  rw [hcl, Option.bind_some]
  show (if (List.isEmpty (Value.ref C :: bm)) = true then _ else some ((Value.ref C :: bm).contains (.type y))) = some true
  rw [if_neg (by simp)]
  rw [List.contains_cons, e, hy, Bool.or_true]
section
variable {prog : Program} {w : World} {A : Around} {E : Value → Shared → Prop} {h : Heap} {g : Array GenState} {d : Drawn} {t : Nat} {os : OsState}
variable {nm q : Str} {C N : Addr} {bs bm : List Value} {hdct : Bool} {sn : List Str} {sub : List Value} {ab : Bool} {col : Option Bool} {dd : Option Addr} {k0 k1 k2 k3 k5 : Option Value}
theorem mw_run {u e t0 : Addr} {rest : List Value} {Q : Value → Shared → Prop} (hC : h.get? C = some (excClassObj nm q C N bs bm hdct sn sub ab col dd k0 k1 k2 k3 k5 "ValueError.__new__")) (he : h.get? e = some (PySem.HandSPX.excO C t0))
    (hu : h.get? u = some (kxs_mw "ValueError.__init__" e)) (hz : rest.length ≤ sizeLine) (hq : ∀ h' t1, (∀ b o, b ≠ e → h.get? b = some o → h'.get? b = some o) → h'.get? e = some (PySem.HandSPX.excO C t1) → Q .none ⟨h', g, d, t, os⟩) :
    wpAny (model prog w) A (call (.ref u) rest) Q E ⟨h, g, d, t, os⟩ := by
  refine wpAny_call (codeAny_of_tree ?_)
  show wpAny _ A.in1 (callAny (.ref u) ⟨rest, []⟩) _ _ _
  simp only [callAny]
  refine wpAny_bind (wpAny_load hu ?_)
  simp only [kxs_mw]
  refine KFB.if_so (by decide) ?_
  refine wpAny_bind (PySem.ESX.check_bound F.excBase_ValueError hC he rfl ?_)
  refine wpAny_bind (wpAny_pure (wpAny_pure ?_))
  refine ⟨Code.quiet_builtin _ (by decide +kernel), codeAny_builtin F.excBase_ValueError.initEntry ?_⟩
  rw [Around.under_plainId F.excBase_ValueError.init.plain _]
  wp_walk
  refine hq _ h.objs.size (fun b o hb ho => ?_) ?_
  · rw [Heap.get?_update_other _ _ (Ne.symm hb)]; exact Heap.get?_push_of_some _ ho
  · rw [Heap.get?_update_self _ (Heap.get?_push_of_some _ he) rfl]; rfl
end
/-- super().m(..) where self is an exception that is being made -/
def tSupX (K : PySem.W.Frag) (D : Addr) (m : Str) (ta : TA) : TS := fun Dn σ H => ∃ (a C : Addr), σ[0]? = some (some (.ref a)) ∧ H a = some (exo a C none) ∧ OexC K C ∧ mroIn K C (.ref D) = some true ∧
  ks_superIn K C D m = some (some (.builtin "ValueError.__init__")) ∧ ta σ H fun vs H1 => vs.length ≤ 1000 ∧ H1 a = some (exo a C none) ∧ Dn.nx σ H1
variable {X : Cx} {c : Code} {st : Stmt} {ss rest : List Stmt} {t u : TS}
theorem psa_superX {f cd cc D : Addr} {me m : Str} {body : List Stmt} {p0 p1 apos pos pos' : Pos} {e : Expr} {es : List Expr} {ta : TA} {pl : Sem Bool}
    (S : SupX X f cd cc D me) (hN : X.N[0]? = some me) (ha : PA X (e :: es) ta) (hm : (m == ("__class__" : Str)) = false)
    (hst : starEach (e :: es) X.env = (false, eval e X.env) :: starEach es X.env) (hpl : (backTo pos (starEach es X.env)).any (·.1) = false)
    (hev : eval (.Call (.Attribute (.Call (.Name "super" p0) [] [] p1) m apos) (e :: es) [] pos) X.env = (do
      let ov ← attributeBase (.Call (.Name "super" p0) [] [] p1) m X.env (eval (.Call (.Name "super" p0) [] [] p1) X.env)
      standAt apos.atName
      let (g, first) ← holding [ov] (getMethod ov m pl)
      callWith pos g first (backTo pos (starEach (e :: es) X.env)) []) )
    (hi : interactive X.env = false) (hs : swapsWith (.Call (.Attribute (.Call (.Name "super" p0) [] [] p1) m apos) (e :: es) [] pos) none pos'.line X.env = pure false) (h2 : PSa X (.func body X.env) rest u) :
    PSa X (.func body X.env) (.Expr (.Call (.Attribute (.Call (.Name "super" p0) [] [] p1) m apos) (e :: es) [] pos) pos' :: rest) (tSeq (tSupX X.K D m ta) u) := by
  refine ⟨fun pins s σ H Dn I h => ?_⟩
  obtain ⟨a, C, h0, hins, TC, hmro, hsup, h⟩ := h
  obtain ⟨hh, gg, dd, tt, os⟩ := s
  have KX : X.K.In hh := I.kIn
  obtain ⟨o1, l1, d1, e1, ar, hp1, har⟩ := S.fd
  obtain ⟨o2, l2, vs2, e2, file, tf, hv2, hfile⟩ := S.cv
  obtain ⟨ca, cb, ce, lc⟩ := S.cc
  obtain ⟨cdD, hcd⟩ := S.cls
  obtain ⟨oD, hD1, hD2⟩ := cls_obj KX hcd
  obtain ⟨m0, hn0, hlook⟩ := I.loc
  obtain ⟨uv, ru, lk⟩ := hlook 0 me (.ref a) hN h0 (locK_vis S.ka)
  obtain rfl : uv = Value.ref a := ru
  obtain ⟨mb, hb1, hb2⟩ := I.mod.blt
  refine ks_wpAt_execs_cons (ks_wpAt_Expr_any (ks_wpAt_MethodCall ?_ hev) hi hs)
  refine ks_wpAt_super_base S.ks S.kc hm S.fn (KX _ _ l1) e1 hp1 S.co (KX _ _ l2) e2 hv2 hfile S.top ?_
  refine ks_loadName_global I.ok.kind S.ks (loadGlobal_builtin (by rw [I.ok.glob]; exact I.mod.glob.keeps I.bk) S.mg (by rw [I.ok.blt]; exact hb1.keeps I.bk) ((hb2 _ (by decide)).trans (by first | rfl | decide +kernel)) ⟨rfl, ?_⟩)
  refine wpAny_loadName_free I.ok.kind S.kc S.cl ⟨_, KX _ _ lc, rfl⟩ ?_
  rw [har]
  refine load_self I.ok.kind S.ka hn0 lk ?_
  refine ks_wpAny_isType_cls hD1 hD2 ⟨rfl, ?_⟩
  obtain ⟨nm, q, N, bs, bm, sn, sub, ab, col, dd0, k0, k1, k2, k3, k5, hC, hbm⟩ := id TC.cls
  obtain ⟨t1, ho⟩ := exo_at I.hok hins
  have hcl : clsIn X.K C = some { name := nm, bases := bs, mro := .ref C :: bm, ns := N, qualname := q, hasDict := true, slotNames := sn, subclasses := sub, abstract := ab, collection := col, hasDel := false } := by
    unfold clsIn
    rw [hC] <;> rfl
  have xC : a ≠ C := fun e => by
    have c1 := KX _ _ hC
    rw [← e, ho] at c1
    have c2 := congrArg Obj.data (Option.some.inj c1)
    cases c2
  refine ks_wpAny_call_super hD1 hD2 ho rfl (fun c z => nomatch z) (looks_mroIn KX hmro) (fun h' hso hk' => ?_)
  have I1 : Inv X ((hh.objs.size, ks_superObj D a C) :: pins) σ H ⟨h', gg, dd, tt, os⟩ := pin_new (t' := tt) I hk' (Nat.le_refl _) hso (fun v z => nomatch z)
  have K1 : X.K.In h' := I1.kIn
  obtain ⟨t2, ho2⟩ := exo_at I1.hok hins
  have J1 : InstAt h' a { cls := .ref C, dict := none, data := .fields #[.ref t2, .none, .none, .none, .bool false, .none] } C none := ⟨ho2, rfl, rfl, trivial⟩
  have isVE : Looks (model X.prog X.w) h' (isInstance (.ref a) (.type "ValueError")) true := J1.type.andThen (looks_mroIn K1 (mro_VE TC (by decide +kernel)))
  unfold ks_superIn at hsup
  rw [hcl] at hsup
  refine kxs_getMethod kxs_ValueError hso (looks_opaque K1 S.st) (l₀ := .ref C :: bm) (fun A Q E s k q => wpAny_bind ((looks_clsIn K1 hcl) A _ E s k (wpAny_pure q))) rfl K1 hsup isVE xC hm ?_
  have I2 : Inv X ((h'.objs.size, kxs_mw "ValueError.__init__" a) :: (hh.objs.size, ks_superObj D a C) :: pins) σ H { (⟨h', gg, dd, tt, os⟩ : Shared) with heap := h'.push (kxs_mw "ValueError.__init__" a), toks := tt + 1 } :=
    pin_new I1 (fun _ _ z => Heap.get?_push_of_some _ z) (Nat.le_refl _) (Heap.get?_push_size h' rfl) (fun v z => nomatch z)
  have hL : h'.objs.size ≠ X.env.locals := (I2.pin (h'.objs.size, kxs_mw "ValueError.__init__" a) (List.mem_append_right _ List.mem_cons_self)).2.2.1
  refine kxs_callWith1 (news_at hL (base_none I1 (Nat.le_refl _)) (pin_at I2)) List.mem_cons_self (thn (ha.run pos _ _ σ H _ I2 h) fun us s3 ⟨vs, H1, I3, r3, hl3, e3, q3⟩ => ⟨pin_at I3, ?_⟩) hst hpl
  obtain ⟨t3, ho3⟩ := exo_at I3.hok e3
  have hmw := pin_at I3
  obtain ⟨h3, g3, d3, k3', os3⟩ := s3
  have hlen : us.length ≤ sizeLine := by rw [← r3.length, sizeLine_eq]; omega
  refine mw_run (I3.kIn _ _ hC) ho3 hmw hlen (fun h4 t4 kk hx4 => ?_)
  have J := I3.write (t' := k3') (x := a) (e := a) (o := exo a C none) (by rw [e3]; exact True.intro) (.inl rfl) kk ⟨_, hx4⟩ (exo_ok hx4)
  have eu : upd H1 a (exo a C none) = H1 := by
    funext b
    by_cases hb : b = a
    · rw [hb, upd_same, e3]
    · rw [upd_ne hb]
  rw [eu] at J
  exact h2.run pins _ σ H1 Dn (unpin (unpin J)) q3
end
/-! ### the entry of a def with cells of its own and the class's cell -/
section
open PySem.W PyProof.Rows PySem.Calls
variable {M : Model} {A : Around} {E : Value → Shared → Prop} {s0 s : Shared} {m cm : Str → Option Value} {env : Env} {cs : List (Str × Addr)}
theorem stS_loc {n : Str} {v : Value} {Q : Unit → Shared → Prop} (x : InCallC s0 env.locals m cs cm s) (hk : env.scope.kind = .function) (hl : env.kindOf n = some .local)
    (h : ∀ s', InCallC s0 env.locals (fun y => if y = n then some v else m y) cs cm s' → Q () s') : wpAny M A (storeName env n v) Q E s := by
  refine wpAny_storeName_local hl x.toInCall.ns (fun h' hn' hs' => h _ ?_) (by rw [hk]; rfl)
  have le : ∀ b o, s0.heap.get? b = some o → b ≠ env.locals := fun b o e => Nat.ne_of_lt (Nat.lt_of_lt_of_le (Heap.lt_size e) x.toInCall.fresh)
  obtain ⟨h₁, tk, es⟩ := x.toInCall.same
  exact ⟨⟨⟨h', _, by rw [es]⟩, hn', fun b o e => hs'.extBut b o (le b o e) (x.toInCall.keep b o e), x.toInCall.fresh⟩,
    fun k c hc => (x.cell k c hc).sameBut hs' (Nat.ne_of_gt (x.above k c (PySem.mem_of_lookup hc))), x.apart, x.above⟩
theorem stS_cell {n : Str} {c : Addr} {v : Value} {Q : Unit → Shared → Prop} (x : InCallC s0 env.locals m cs cm s) (hk : env.scope.kind = .function) (hl : env.kindOf n = some .cell) (he : env.cells.lookup n = some c) (hc : cs.lookup n = some c)
    (h : ∀ s', InCallC s0 env.locals m cs (fun y => if y = n then some v else cm y) s' → Q () s') : wpAny M A (storeName env n v) Q E s := by
  have up := x.above n c (PySem.mem_of_lookup hc)
  refine wpAny_storeName_cell hk hl he (x.cell n c hc) fun h' hc' hs' => h _ ?_
  have le : ∀ b o, s0.heap.get? b = some o → b ≠ c := fun b o e => Nat.ne_of_lt (Nat.lt_trans (Nat.lt_of_lt_of_le (Heap.lt_size e) x.toInCall.fresh) up)
  obtain ⟨h₁, tk, es⟩ := x.toInCall.same
  refine ⟨⟨⟨h', _, by rw [es]⟩, x.toInCall.ns.sameBut hs' (Nat.ne_of_lt up), fun b o e => hs'.extBut b o (le b o e) (x.toInCall.keep b o e), x.toInCall.fresh⟩, fun k c' hk' => ?_, x.apart, x.above⟩
  by_cases hkn : k = n
  · subst hkn
    rw [hc] at hk'
    cases hk'
    simpa using hc'
  · rw [if_neg hkn]
    exact (x.cell k c' hk').sameBut hs' fun e => hkn (name_of_addr x.apart (PySem.mem_of_lookup hk') (e ▸ PySem.mem_of_lookup hc))
theorem bindS (f : Str × Value → PUnit → Sem (ForInStep PUnit)) (hf : ∀ n v u, f (n, v) u = (do storeName env n v; pure (.yield ⟨⟩))) (hk : env.scope.kind = .function) :
    ∀ (binds : List (Str × Value)) (m cm : Str → Option Value) (s : Shared) (Q : PUnit → Shared → Prop), InCallC s0 env.locals m cs cm s →
      (∀ y ∈ binds, env.kindOf y.1 = some .local ∨ (env.kindOf y.1 = some .cell ∧ ∃ c, cs.lookup y.1 = some c ∧ env.cells.lookup y.1 = some c)) →
      (∀ s', InCallC s0 env.locals (bindL env.kindOf binds m) cs (bindC env.kindOf binds cm) s' → Q ⟨⟩ s') → wpAny M A (forIn binds ⟨⟩ f) Q E s
  | [], m, cm, s, Q, x, _, h => by rw [List.forIn_nil]; exact wpAny_pure (h s x)
  | (n, v) :: r, m, cm, s, Q, x, hy, h => by
    have hr := fun y (q : y ∈ r) => hy y (.tail _ q)
    rw [List.forIn_cons, hf]
    rcases hy (n, v) (.head _) with hl | ⟨hl, c, hc, he⟩
    · refine wpAny_bind (wpAny_bind (stS_loc x hk hl fun s' x' => wpAny_pure (bindS f hf hk r _ _ s' Q x' hr fun s2 x2 => h s2 ?_)))
      show InCallC s0 env.locals (bindL env.kindOf r (if env.kindOf n = some .local then _ else m)) cs (bindC env.kindOf r (if env.kindOf n = some .local then cm else _)) s2
      rw [if_pos hl, if_pos hl]; exact x2
    · have hnl : ¬ env.kindOf n = some .local := by rw [hl]; decide
      refine wpAny_bind (wpAny_bind (stS_cell x hk hl he hc fun s' x' => wpAny_pure (bindS f hf hk r _ _ s' Q x' hr fun s2 x2 => h s2 ?_)))
      show InCallC s0 env.locals (bindL env.kindOf r (if env.kindOf n = some .local then _ else m)) cs (bindC env.kindOf r (if env.kindOf n = some .local then cm else _)) s2
      rw [if_neg hnl, if_neg hnl]; exact x2
theorem cells_app : ∀ (names : List (Str × NameKind)) (n : Nat) (acc cl : List (Str × Addr)), cellsFrom n names (acc ++ cl) = cellsFrom n names acc ++ cl
  | [], _, _, _ => rfl
  | (x, k) :: r, n, acc, cl => by
    unfold cellsFrom
    split
    · exact cells_app r (n + 1) ((x, n) :: acc) cl
    · exact cells_app r n acc cl
theorem newEnvS {scope : Scope} {globals : Addr} {cl : List (Str × Addr)} {binds : List (Str × Value)} {qual : Str} {func : Option Addr} {code : Value} {builtins : Addr} {Q : Env → Shared → Prop} (hk : scope.kind = .function)
    (hkind : ∀ y ∈ binds, scope.names.lookup y.1 = some .local ∨ (scope.names.lookup y.1 = some .cell ∧ ∃ c, (cellsFrom (s.heap.objs.size + 1) scope.names []).lookup y.1 = some c ∧ (cellsFrom (s.heap.objs.size + 1) scope.names [] ++ cl).lookup y.1 = some c))
    (hQ : ∀ env, env = newEnv scope s.heap.objs.size globals (cellsFrom (s.heap.objs.size + 1) scope.names [] ++ cl) qual func code none builtins →
      ∀ s', InCallC s env.locals (bindL env.kindOf binds fun _ => none) (cellsFrom (s.heap.objs.size + 1) scope.names []) (bindC env.kindOf binds fun _ => none) s' → Q env s') :
    wpAny M A (newFunctionEnv scope globals cl binds qual func code none builtins) Q E s := by
  simp only [newFunctionEnv, Option.isSome_none, Bool.false_eq_true, if_false]
  refine wpAny_bind (wpAny_alloc ?_)
  refine wpAny_bind (wpAny_layCells _ (fun x kind cells => by cases hkc : kind == NameKind.cell <;> simp [hkc]) scope.names cl _ _ ?_)
  have sz : (s.heap.push { cls := .type "frame", data := .dict #[] }).objs.size = s.heap.objs.size + 1 := Heap.size_push ..
  have ok := cellsFrom_ok scope.names (s.heap.push { cls := .type "frame", data := .dict #[] }) (s.heap.objs.size + 1) [] ⟨fun _ _ hm => (nomatch hm), List.Pairwise.nil⟩ (by rw [sz]; exact Nat.le_refl _)
  rw [sz] at ok
  have ec := cells_app scope.names (s.heap.objs.size + 1) [] cl
  rw [List.nil_append] at ec
  show wpAny M A _ Q E _
  rw [show ({ s with heap := s.heap.push { cls := .type "frame", data := .dict #[] } } : Shared).heap.objs.size = s.heap.objs.size + 1 from sz, ec]
  refine wpAny_bind (bindS (s0 := s) (cs := cellsFrom (s.heap.objs.size + 1) scope.names []) (env := newEnv scope s.heap.objs.size globals (cellsFrom (s.heap.objs.size + 1) scope.names [] ++ cl) qual func code none builtins)
    _ (fun _ _ _ => rfl) hk binds (fun _ => none) (fun _ => none) _ _ ?_ hkind fun s' x => wpAny_pure (hQ _ rfl s' x))
  exact ⟨⟨⟨_, _, rfl⟩, (Heap.Ns.new s.heap (.type "frame")).keeps (pushCells_keeps _ _), fun b o e => pushCells_keeps _ _ b o (Heap.get?_push_of_some _ e), Nat.le_refl _⟩,
    fun n c hc => (ok.empty n c (PySem.mem_of_lookup hc)).1, ok.apart, fun n c hm => (ok.empty n c hm).2⟩
end
section
open PySem.W PyProof.Rows PySem.Calls
/-- the frame: its own cells, and the class's -/
abbrev envK (qual : Str) (scope : Scope) (L f : Addr) (cd : Value) (cc : Addr) : Env := envX qual scope L f cd (cellsFrom (L + 1) scope.names [] ++ [((("__class__" : Str)), cc)])
def cxK (CX : CXT) (P : Program) (w : World) (K : PySem.W.Frag) (mg : Str → Option Value) (base : Heap) (N : List Str) (qual : Str) (scope : Scope) (f : Addr) (cd : Value) (cc : Addr) (A : Around) (outer : List Env) (s : Shared) (H : Hp) (E : XK) : Cx where
  prog := P
  w := w
  K := K
  mg := mg
  base := base
  A := A.deeper (envK qual scope s.heap.objs.size f cd cc)
  N := N
  s_0 := s
  H_0 := H
  env := envK qual scope s.heap.objs.size f cd cc
  outer := outer
  stack := envK qual scope s.heap.objs.size f cd cc :: outer
  ex := []
  calm := true
  fn := fun x => x != "__class__"
  pn := []
  xe := fun e s' => wpAny (model P w) (A.deeper (envK qual scope s.heap.objs.size f cd cc)) (leaving (envK qual scope s.heap.objs.size f cd cc) e) (fun _ s'' => CX outer H s E e s'') (fun e' s'' => CX outer H s E e' s'') s'
structure FnScopeK (N ps : List Str) (sc : Scope) : Prop where
  kind : sc.kind = .function
  co : sc.isCoroutine = false
  gen : sc.isGenerator = false
  nd : N.Nodup
  pre : N.take ps.length = ps
  par : ∀ x ∈ ps, (sc.names.lookup x = some .local ∨ sc.names.lookup x = some .cell)
  noC : ∀ y ∈ sc.names, y.2 = .cell → y.1 ≠ "__class__"
  free : ∀ y ∈ sc.names, y.2 = .free → y.1 = "__class__"
theorem cells_mem {x : Str} {c : Addr} : ∀ {names : List (Str × NameKind)} {n : Nat} {acc : List (Str × Addr)}, (x, c) ∈ cellsFrom n names acc → (x, c) ∈ acc ∨ (x, NameKind.cell) ∈ names
  | [], _, _, h => .inl h
  | (y, k) :: r, n, acc, h => by
    unfold cellsFrom at h
    split at h
    · rename_i hk
      rcases cells_mem h with h | h
      · rcases List.mem_cons.mp h with h | h
        · have ek : k = NameKind.cell := eq_of_beq hk
          cases h
          exact .inr (by rw [ek]; exact .head _)
        · exact .inl h
      · exact .inr (.tail _ h)
    · rcases cells_mem h with h | h
      · exact .inl h
      · exact .inr (.tail _ h)
theorem look_app {cs : List (Str × Addr)} {x : Str} {c cc : Addr} (h : (cs ++ [((("__class__" : Str)), cc)]).lookup x = some c) : cs.lookup x = some c ∨ (x = "__class__" ∧ c = cc) := by
  rw [List.lookup_append] at h
  cases e : cs.lookup x with
  | some d => rw [e] at h; exact .inl h
  | none =>
    rw [e] at h
    exact .inr (lookup_class (by simpa using h))
theorem look_own {cs : List (Str × Addr)} {x : Str} {c cc : Addr} (h : cs.lookup x = some c) : (cs ++ [((("__class__" : Str)), cc)]).lookup x = some c := by
  rw [List.lookup_append, h]; rfl
theorem look_class {cs : List (Str × Addr)} {cc : Addr} (h : cs.lookup (("__class__" : Str)) = none) : (cs ++ [((("__class__" : Str)), cc)]).lookup (("__class__" : Str)) = some cc := by
  rw [List.lookup_append, h]
  show ([("__class__", cc)] : List (Str × Addr)).lookup (("__class__" : Str)) = some cc
  simp [List.lookup]
theorem no_class {N ps : List Str} {sc : Scope} (S : FnScopeK N ps sc) (n : Nat) : (cellsFrom n sc.names []).lookup (("__class__" : Str)) = none := by
  cases e : (cellsFrom n sc.names []).lookup (("__class__" : Str)) with
  | none => rfl
  | some c =>
    rcases cells_mem (PySem.mem_of_lookup e) with h | h
    · cases h
    · exact absurd rfl (S.noC _ h rfl)
theorem inv_startK {CX : CXT} {P : Program} {w : World} {K : PySem.W.Frag} {mg : Str → Option Value} {base : Heap} {N ps : List Str} {qual : Str} {scope : Scope} {f cc : Addr} {cd : Value} {A : Around} {outer : List Env} {s s1 : Shared} {H : Hp} {E : XK} {us : List Value} {vs : List V}
    {ccl : Value} {cld : Option Addr} {cv : Value} {csl : Array (Option Value)}
    (S : FnScopeK N ps scope) (hd : A.handled = none) (e0 : Env0 P w K mg base A outer s H) (hl : vs.length = ps.length) (r : Vals vs us) (hcc : K.lookup cc = some ⟨ccl, cld, .cell (some cv), csl⟩)
    (x : InCallC s s.heap.objs.size (bindL (envK qual scope s.heap.objs.size f cd cc).kindOf (ps.zip us) fun _ => none) (cellsFrom (s.heap.objs.size + 1) scope.names []) (bindC (envK qual scope s.heap.objs.size f cd cc).kindOf (ps.zip us) fun _ => none) s1) :
    Inv (cxK CX P w K mg base N qual scope f cd cc A outer s H E) [] (L2.start N vs) H s1 := by
  have hpl : ps.length ≤ N.length := by have := congrArg List.length S.pre; rw [List.length_take] at this; omega
  have cb : base.get? cc = some ⟨ccl, cld, .cell (some cv), csl⟩ := e0.mod.kin _ _ hcc
  have sb := e0.bs _ _ cb
  have cl : cc < s.heap.objs.size := Heap.lt_size sb.1
  obtain ⟨h1, tk, es, hk⟩ := x.done
  subst es
  have noA : ∀ b : Addr, b ∉ (cxK CX P w K mg base N qual scope f cd cc A outer s H E).ex := fun b z => absurd (show b ∈ ([] : List Addr) from z) (by simp)
  have lk : ∀ {y : Str} {c : Addr}, (cxK CX P w K mg base N qual scope f cd cc A outer s H E).env.cells.lookup y = some c → (cellsFrom (s.heap.objs.size + 1) scope.names []).lookup y = some c ∨ (y = "__class__" ∧ c = cc) := fun h => look_app h
  have ab : ∀ {y : Str} {c : Addr}, (cellsFrom (s.heap.objs.size + 1) scope.names []).lookup y = some c → s.heap.objs.size < c := fun h => x.above _ _ (PySem.mem_of_lookup h)
  refine ⟨⟨e0.mod, S.kind, rfl, rfl, Nat.le_refl _, fun y z c h1 h2 => ?_, fun y hy => ?_, fun y c hf h => ?_, fun _ => hd, Around.frames_deeper e0.frames, .inr ⟨rfl, rfl⟩, fun b z => absurd z (noA b), e0.bs, e0.bsz, fun b _ _ => noA b, fun b z => absurd z (noA b), e0.funs, e0.frf⟩,
    rfl, e0.bare, Un.kept hk, ⟨_, x.toInCall.ns, fun i y v h1 h2 h3 => ?_⟩, fun y c h => ?_, e0.hok.fresh (Nat.le_refl _), fun y c h => ?_, fun p hp => absurd (show p ∈ ([] : List (Addr × Obj)) from hp) (by simp), e0.hok.kept hk, ?_⟩
  · rcases lk h1 with a | ⟨a, b⟩ <;> rcases lk h2 with a' | ⟨a', b'⟩
    · exact name_of_addr x.apart (PySem.mem_of_lookup a) (PySem.mem_of_lookup a')
    · have q := ab a; rw [b'] at q; exact absurd cl (Nat.lt_asymm q)
    · have q := ab a'; rw [b] at q; exact absurd cl (Nat.lt_asymm q)
    · exact a.trans a'.symm
  · have hy : scope.names.lookup y = some .cell ∨ scope.names.lookup y = some .free := hy
    rcases hy with hy | hy
    · obtain ⟨c, e⟩ := cell_has (n := s.heap.objs.size + 1) hy
      exact ⟨c, look_own e⟩
    · have ey : y = "__class__" := S.free _ (PySem.mem_of_lookup hy) rfl
      subst ey
      exact ⟨cc, look_class (no_class S _)⟩
  · rcases lk h with a | ⟨a, _⟩
    · exact Nat.le_of_lt (ab a)
    · subst a
      have : (("__class__" : Str) != "__class__") = true := hf
      simp at this
  · have ha := start_get h2
    obtain ⟨u, hu, rv⟩ := r.get ha
    have il : i < ps.length := hl ▸ (List.getElem?_eq_some_iff.mp ha).1
    have hp : ps[i]? = some y := (congrArg (·[i]?) S.pre).symm.trans ((List.getElem?_take_of_lt il).trans h1)
    have ndP : ps.Nodup := S.pre ▸ S.nd.sublist (List.take_sublist _ _)
    refine ⟨u, rv, ?_⟩
    rcases S.par y (List.mem_of_getElem? hp) with k | k
    · exact .inl ⟨k, bindL_get ndP hp hu k⟩
    · obtain ⟨c, e⟩ := cell_has (n := s.heap.objs.size + 1) k
      have q := x.cell y c e
      rw [bindC_get ndP hp hu (by show scope.names.lookup y ≠ _; rw [k]; decide)] at q
      exact .inr ⟨.inl k, c, look_own e, q⟩
  · rcases lk h with a | ⟨_, rfl⟩
    · exact ⟨_, x.cell y c a⟩
    · exact ⟨_, _, hk _ _ sb.1, rfl⟩
  · rcases lk h with a | ⟨_, rfl⟩
    · exact e0.hok.fresh (Nat.le_of_lt (ab a))
    · exact sb.2
  · show (L2.start N vs).length = N.length
    simp only [L2.start, List.length_append, List.length_map, List.length_replicate]
    omega
/-- a def that says super(), by its body -/
theorem fnK_of {CX : CXT} {P : Program} {w : World} {K : PySem.W.Frag} {mg : Str → Option Value} {base : Heap} {k : Nat} {f cc : Addr} {name qual : Str} {params : Arguments} {body : List Stmt} {scope : Scope} {dV kV doc pm cdv ct oc : Value} {an od : Option Addr}
    {osl : Array (Option Value)} {N ps : List Str} {sp : Sp} {ccl : Value} {cld : Option Addr} {cv : Value} {csl : Array (Option Value)} (lk : K.lookup f = some ⟨oc, od, .func (ksFn name qual params body scope dV kV doc pm an cdv ct cc), osl⟩)
    (hcc : K.lookup cc = some ⟨ccl, cld, .cell (some cv), csl⟩) (hcd : PySem.W.codeIn K cdv qual = true) (S : FnScopeK N ps scope) (len : ∀ vs H Q E, sp vs H Q E → vs.length = ps.length)
    (hbody : ∀ (A : Around) (outer : List Env) (s : Shared) (H : Hp) (vs : List V) (Q : VK) (E : XK), Room k (A.deeper (envK qual scope s.heap.objs.size f cdv cc)) → sp vs H Q E →
      ∃ t, PSa (cxK CX P w K mg base N qual scope f cdv cc A outer s H E) (.func body (envK qual scope s.heap.objs.size f cdv cc)) body t ∧ t { nx := fun _ H' => Q .non H', rt := Q } (L2.start N vs) H) :
    FnOk P w K mg base CX (k + 1) f (ksFn name qual params body scope dV kV doc pm an cdv ct cc) ps sp := by
  refine ⟨len, fun A outer s H args us vs Q E hr e0 hb r hsp => ?_⟩
  have hl := len _ _ _ _ hsp
  have KX : K.In s.heap := e0.mod.kin.keeps fun b o e => (e0.bs b o e).1
  have lim : s.heap.NoLimit := e0.mod.nolimit.keeps fun b o e => (e0.bs b o e).1
  obtain ⟨t, ht, hq⟩ := hbody A outer s H vs Q E (hr.deeper _) hsp
  have hkind : ∀ y ∈ ps.zip us, scope.names.lookup y.1 = some .local ∨ (scope.names.lookup y.1 = some .cell ∧ ∃ c, (cellsFrom (s.heap.objs.size + 1) scope.names []).lookup y.1 = some c ∧ (cellsFrom (s.heap.objs.size + 1) scope.names [] ++ [((("__class__" : Str)), cc)]).lookup y.1 = some c) := fun y hy => by
    rcases S.par y.1 (List.of_mem_zip (a := y.1) (b := y.2) hy).1 with q | q
    · exact .inl q
    · obtain ⟨c, e⟩ := cell_has (n := s.heap.objs.size + 1) q
      exact .inr ⟨q, c, e, look_own e⟩
  refine codeAny_call_function hr.depth (KX _ _ lk) rfl S.co S.gen rfl (codeRec_of KX hcd) (hb _ _ _ _ ?_)
  refine newEnvS S.kind hkind fun env he s1 x => ?_
  subst he
  refine ⟨lim.keeps x.toInCall.keep, ks_codeAny_funcAt ?_⟩
  have I : Inv (cxK CX P w K mg base N qual scope f cdv cc A outer s H E) [] (L2.start N vs) H s1 := inv_startK S hr.hd e0 hl r hcc x
  refine ks_wpAt_mono (ht.run [] _ (L2.start N vs) H _ I hq) (fun fl s' hs => ?_) fun e s' hs => hs
  have fin : ∀ {σ' : L2.St} {H' : Hp} {v : V} {u : Value}, Inv (cxK CX P w K mg base N qual scope f cdv cc A outer s H E) [] σ' H' s' → RelV v u → Q v H' → CE outer P w H s Q u s' :=
    fun {σ' H' v u} J rv q => ⟨v, H', J.os, J.bare, J.base, J.hok, rv, q⟩
  match fl, hs with
  | .ret u, ⟨v, σ', H', J, rv, q⟩ => exact fin J rv q
  | .next, ⟨σ', H', J, q⟩ => exact fin (v := V.non) (u := Value.none) J rfl q
  | .brk, ⟨_, _, _, q⟩ => exact q.elim
  | .cont, ⟨_, _, _, q⟩ => exact q.elim
end
section
/-- a def of the text that says super(): its record, its cell, its code's file -/
structure FunK (K : PySem.W.Frag) (PL : Program) (x qual : Str) (st : Stmt) (f : Addr) (fd : FuncData) (D : Addr) : Prop where
  ex : ∃ (oc : Value) (od : Option Addr) (kV doc pm : Value) (an : Option Addr) (cda : Addr) (ct : Value) (osl : Array (Option Value)) (cc : Addr), fd = PySem.W.ksFn x qual (defArgs st) (defBody st) (defScope st) .none kV doc pm an (.ref cda) ct cc ∧
    K.lookup f = some ⟨oc, od, .func fd, osl⟩ ∧ PySem.W.codeIn K (.ref cda) qual = true ∧ (∃ a b e, K.lookup cc = some ⟨a, b, .cell (some (.ref D)), e⟩) ∧
    ∃ o : Obj, K.lookup cda = some o ∧ ∃ vs, o.data = .fields vs ∧ ∃ (file : Str) (tf : Tok), vs[2]? = some (.str file tf) ∧ ((PL.main.file : Str) == file) = true
  kp : PySem.W.keepIn K (.ref f) = true
theorem funK_mk {K : PySem.W.Frag} {PL : Program} {x qual : Str} {st : Stmt} {f D cda cc : Addr} {oc : Value} {od an vb cb : Option Addr} {osl ve ce : Array (Option Value)} {kV doc pm ct va ca : Value} {vs : Array Value} {fl : Str} {tf : Tok}
    (l : K.lookup f = some ⟨oc, od, .func (PySem.W.ksFn x qual (defArgs st) (defBody st) (defScope st) .none kV doc pm an (.ref cda) ct cc), osl⟩) (c : PySem.W.codeIn K (.ref cda) qual = true) (k : PySem.W.keepIn K (.ref f) = true)
    (q : K.lookup cc = some ⟨ca, cb, .cell (some (.ref D)), ce⟩) (v : K.lookup cda = some ⟨va, vb, .fields vs, ve⟩) (vf : vs[2]? = some (.str fl tf)) (vg : ((PL.main.file : Str) == fl) = true) :
    FunK K PL x qual st f (PySem.W.ksFn x qual (defArgs st) (defBody st) (defScope st) .none kV doc pm an (.ref cda) ct cc) D :=
  ⟨⟨oc, od, kV, doc, pm, an, cda, ct, osl, cc, rfl, l, c, ⟨_, _, _, q⟩, _, v, vs, rfl, fl, tf, vf, vg⟩, k⟩
theorem FunK.binds {K : PySem.W.Frag} {PL : Program} {x qual : Str} {st : Stmt} {f D : Addr} {fd : FuncData} {ps : List Str} (F : FunK K PL x qual st f fd D)
    (h : ∀ (kV doc pm : Value) (an : Option Addr) (cdv ct : Value) (cc : Addr) (us : List Value), us.length = ps.length → bindArgs (PySem.W.ksFn x qual (defArgs st) (defBody st) (defScope st) .none kV doc pm an cdv ct cc) ⟨us, []⟩ = pure (ps.zip us)) : Binds K fd ps [] := by
  obtain ⟨oc, od, kV, doc, pm, an, cda, ct, osl, cc, rfl, _⟩ := F.ex
  exact .all (h kV doc pm an (.ref cda) ct cc)
end
section
/-- a def of the text with defaults (their tuple at t) -/
structure FunD (K : PySem.W.Frag) (x qual : Str) (st : Stmt) (f : Addr) (fd : FuncData) (t : Addr) : Prop where
  ex : ∃ (oc : Value) (od : Option Addr) (kV doc pm : Value) (an : Option Addr) (cdv ct : Value) (osl : Array (Option Value)),
    fd = PySem.W.fnOf x qual (defArgs st) (defBody st) (defScope st) (.ref t) kV doc pm an cdv ct ∧ K.lookup f = some ⟨oc, od, .func fd, osl⟩ ∧ PySem.W.codeIn K cdv qual = true
  kp : PySem.W.keepIn K (.ref f) = true
theorem FunD.ok {P : Program} {w : World} {K : PySem.W.Frag} {mg : Str → Option Value} {base : Heap} {x qual : Str} {st : Stmt} {f t0 : Addr} {fd : FuncData} {N ps : List Str} {k : Nat} {sp : Sp} (F : FunD K x qual st f fd t0) (S : FnScope N ps (defScope st))
    (len : ∀ vs H Q E, sp vs H Q E → vs.length = ps.length)
    (hbody : ∀ (cdv : Value) (A : Around) (outer : List Env) (s : Shared) (H : Hp) (vs : List V) (Q : VK) (E : XK), Room k (A.deeper (PyProof.Rows.envOfC qual (defScope st) s.heap.objs.size f cdv)) → sp vs H Q E →
      ∃ t, PSs (cxOf CX0 P w K mg base N qual (defScope st) f cdv A outer s H E).nox (defBody st) t ∧ t { nx := fun _ H' => Q .non H', rt := Q } (L2.start N vs) H) : FnOk P w K mg base CX0 (k + 1) f fd ps sp := by
  obtain ⟨oc, od, kV, doc, pm, an, cdv, ct, osl, rfl, lk, hcd⟩ := F.ex
  refine fn_of lk hcd S len fun A outer s H vs Q E hr hsp => ?_
  obtain ⟨t, h, q⟩ := hbody cdv A outer s H vs Q E hr hsp
  exact ⟨t, h.nox, q⟩
end
section
open PySem.W PyProof.Rows
/-- what the frame of such a def knows of itself -/
theorem supK {CX : CXT} {P PL : Program} {w : World} {K : PySem.W.Frag} {mg : Str → Option Value} {base : Heap} {N ps : List Str} {qual : Str} {st : Stmt} {f cda cc D : Addr} {me : Str} {A : Around} {outer : List Env} {s : Shared} {H : Hp} {E : XK}
    {x : Str} {oc kV doc pm ct : Value} {od an : Option Addr} {osl : Array (Option Value)} (hP : P = PL)
    (l : K.lookup f = some ⟨oc, od, .func (PySem.W.ksFn x qual (defArgs st) (defBody st) (defScope st) .none kV doc pm an (.ref cda) ct cc), osl⟩) (q : ∃ a b e, K.lookup cc = some ⟨a, b, .cell (some (.ref D)), e⟩)
    (v : ∃ o : Obj, K.lookup cda = some o ∧ ∃ vs, o.data = .fields vs ∧ ∃ (file : Str) (tf : Tok), vs[2]? = some (.str file tf) ∧ ((PL.main.file : Str) == file) = true)
    (S : FnScopeK N ps (defScope st)) (ks : (defScope st).names.lookup ("super" : Str) = some .globalImplicit) (kc : (defScope st).names.lookup ("__class__" : Str) = some .free) (ka : locK (defScope st) me = true)
    (ar : ∃ ar : Arg, ((defArgs st).posonlyargs ++ (defArgs st).args).head? = some ar ∧ ar.arg = me) (top : (P.main.scope.names.lookup ("super" : Str)).isSome = false) (cls : ∃ cd, clsIn K D = some cd) (hm : mg "super" = none) (sa : nsIn K cStatics "thirdparty.any" = some none) :
    SupX (cxK CX P w K mg base N qual (defScope st) f (.ref cda) cc A outer s H E) f cda cc D me := by
  subst hP
  exact ⟨ks, kc, ka, rfl, ⟨_, l, _, rfl, ar⟩, rfl, v, top, look_class (no_class S _), q, cls, hm, sa⟩
/-- THE RULE for a def that says super(): the program is PL itself -/
theorem FunK.ok {CX : CXT} {PL : Program} {w : World} {K : PySem.W.Frag} {mg : Str → Option Value} {base : Heap} {x qual : Str} {st : Stmt} {f D : Addr} {fd : FuncData} {N ps : List Str} {k : Nat} {sp : Sp} {me : Str} (F : FunK K PL x qual st f fd D) (S : FnScopeK N ps (defScope st))
    (ks : (defScope st).names.lookup ("super" : Str) = some .globalImplicit) (kc : (defScope st).names.lookup ("__class__" : Str) = some .free) (ka : locK (defScope st) me = true)
    (ar : ∃ ar : Arg, ((defArgs st).posonlyargs ++ (defArgs st).args).head? = some ar ∧ ar.arg = me) (top : (PL.main.scope.names.lookup ("super" : Str)).isSome = false) (cls : ∃ cd, clsIn K D = some cd) (hm : mg "super" = none) (sa : nsIn K cStatics "thirdparty.any" = some none)
    (len : ∀ vs H Q E, sp vs H Q E → vs.length = ps.length)
    (hbody : ∀ (cda cc : Addr) (A : Around) (outer : List Env) (s : Shared) (H : Hp) (vs : List V) (Q : VK) (E : XK), Room k (A.deeper (envK qual (defScope st) s.heap.objs.size f (.ref cda) cc)) → SupX (cxK CX PL w K mg base N qual (defScope st) f (.ref cda) cc A outer s H E) f cda cc D me → sp vs H Q E →
      ∃ t, PSa (cxK CX PL w K mg base N qual (defScope st) f (.ref cda) cc A outer s H E) (.func (defBody st) (envK qual (defScope st) s.heap.objs.size f (.ref cda) cc)) (defBody st) t ∧ t { nx := fun _ H' => Q .non H', rt := Q } (L2.start N vs) H) :
    FnOk PL w K mg base CX (k + 1) f fd ps sp := by
  obtain ⟨oc, od, kV, doc, pm, an, cda, ct, osl, cc, rfl, lk, hcd, ⟨a, b, e, lc⟩, v⟩ := F.ex
  exact fnK_of lk lc hcd S len fun A outer s H vs Q E hr hsp => hbody cda cc A outer s H vs Q E hr (supK rfl lk ⟨a, b, e, lc⟩ v S ks kc ka ar top cls hm sa) hsp
end
/-! ### exceptions over any built-in base: made by a walked __init__, super().__init__ within it -/
section
open PySem.W PyProof.Rows PySem.Calls ClX Builtin Builtin.ObjectAttr
/-- what is known of the built-in base -/
structure XB (B nw ini : String) (bl : List Value) : Prop where
  F : ExcBaseFacts B nw ini bl
  S : StoreFacts B bl "object.__setattr__" "object"
  Z : KxsFacts B ini
  qi : ini.startsWith "lifetime." = false
theorem xb_VE : XB "ValueError" "ValueError.__new__" "ValueError.__init__" [.type "ValueError", .type "Exception", .type "BaseException", .type "object"] := ⟨F.excBase_ValueError, F.store_ValueError, kxs_ValueError, by decide +kernel⟩
theorem xb_LE : XB "LookupError" "LookupError.__new__" "LookupError.__init__" [.type "LookupError", .type "Exception", .type "BaseException", .type "object"] := ⟨F.excBase_LookupError, F.store_LookupError, kxs_LookupError, by decide +kernel⟩
/-- own classes, then the base's row -/
inductive Ov (bl : List Value) : List Value → Prop where
  | nil : Ov bl bl
  | cons {c : Addr} {l : List Value} : Ov bl l → Ov bl (.ref c :: l)
theorem Ov.pass {B nw ini : String} {bl : List Value} (X : XB B nw ini bl) (self : Value) : ∀ {l : List Value}, Ov bl l → refuseLoop self "__setattr__" l = pure ()
  | _, .nil => X.S.passes self
  | _, .cons h => by rw [refuseLoop_ref]; exact h.pass X self
theorem Ov.has {bl : List Value} (x : String) : ∀ {l : List Value}, Ov bl l → l.contains (.type x) = bl.contains (.type x)
  | _, .nil => rfl
  | _, .cons h => by rw [List.contains_cons, h.has x]; rfl
theorem Ov.ne {B nw ini : String} {bl l : List Value} (X : XB B nw ini bl) (h : Ov bl l) : l.isEmpty = false := by
  cases h with
  | nil => exact List.isEmpty_eq_false_iff.mpr (fun z => by have := X.F.hasB; rw [z] at this; cases this)
  | cons _ => rfl
structure OexG (nw : String) (bl : List Value) (K : PySem.W.Frag) (C : Addr) : Prop where
  cls : ∃ nm q N bs bm sn sub ab col dd k0 k1 k2 k3 k5, K.lookup C = some (excClassObj nm q C N bs bm true sn sub ab col dd k0 k1 k2 k3 k5 nw) ∧ Ov bl bm
  sa : findIn K (.ref C) "__setattr__" = some (some (.builtin "object.__setattr__"))
  exC : subIn K (.ref C) (.type "BaseException") = some true
  tyC : typeIn K (.ref C) = some (.type "type")
  kC : keepIn K (.ref C) = true
theorem OexG.mro {B nw ini : String} {bl : List Value} (X : XB B nw ini bl) {K : PySem.W.Frag} {C : Addr} (T : OexG nw bl K C) {y : String} (hy : bl.contains (.type y) = true) : mroIn K C (.type y) = some true := by
  obtain ⟨nm, q, N, bs, bm, sn, sub, ab, col, dd, k0, k1, k2, k3, k5, hC, hb⟩ := T.cls
  have hcl : clsIn K C = some { name := nm, bases := bs, mro := .ref C :: bm, ns := N, qualname := q, hasDict := true, slotNames := sn, subclasses := sub, abstract := ab, collection := col, hasDel := false } := by
    unfold clsIn; rw [hC] <;> rfl
  unfold mroIn
  rw [hcl, Option.bind_some, if_neg (by simp), List.contains_cons, hb.has, hy, Bool.or_true]
section
variable {prog : Program} {w : World} {A : Around} {R : Result → Shared → Prop} {hp : Heap} {g : Array GenState} {d : Drawn} {t : Nat} {os : OsState} {B nw ini : String} {bl : List Value}
/-- self.x = v, the first one -/
theorem exg_osa (XX : XB B nw ini bl) {K : W.Frag} {name : Str} {tk : Tok} {v : Value} {x C : Addr} {fv : Array Value} {cd : ClassData} {row : List Value}
    (X : K.In hp) (hx : hp.get? x = some { cls := .ref C, data := .fields fv }) (hcd : clsIn K C = some cd) (hm : cd.mro = .ref C :: row) (ho : Ov bl row) (hh : cd.hasDict = true) (hno : findIn K (.ref C) name = some none)
    (hq : ∀ h' tk' dx, (∀ b o, b ≠ x → hp.get? b = some o → h'.get? b = some o) → hp.objs.size ≤ dx → dx ≠ x → h'.get? x = some { cls := .ref C, dict := some dx, data := .fields fv } →
      h'.Ns1 dx (fun y => if y = name then some v else none) → R (.ok (.ret .none)) ⟨h', g, d, tk', os⟩) :
    codeAny (model prog w) A (.call (.builtin "object.__setattr__") ⟨[.ref x, .str name tk, v], []⟩) R ⟨hp, g, d, t, os⟩ := by
  have J : InstAt hp x { cls := .ref C, data := .fields fv } C none := ⟨hx, rfl, rfl, trivial⟩
  have G := F.store_object
  have hob : cd.mro.contains (.type "object") = true := by rw [hm, List.contains_cons, ho.has]; exact (by rw [XX.S.hasOwner, Bool.or_true])
  have hne : cd.mro.isEmpty = false := by rw [hm]; rfl
  have hxs : x ≠ hp.objs.size := Nat.ne_of_lt (Heap.lt_size hx)
  have sub : Looks (model prog w) hp (isInstance (.ref x) (.type "object")) true := J.type.andThen (looks_mroIn X (by unfold mroIn; rw [hcd, Option.bind_some, if_neg (by rw [hne]; decide), hob]))
  refine codeAny_call_builtin G.slot.plain G.entry (@check_slot (model prog w) _ _ ⟨hp, g, d, t, os⟩ "object.__setattr__" "object" "__setattr__" (.ref x) [.str name tk, v] [] _ G.kind G.split sub (G.args (.ref x) (.str name tk) v) ?_)
  have l1 : Looks (model prog w) hp (mroOf (.ref C)) cd.mro := (looks_clsIn X hcd).andThen .now
  have l2 : Looks (model prog w) hp (storeTaker? none) none := .now
  have l3 : Looks (model prog w) hp (classData C) cd := looks_clsIn X hcd
  have pass : refuseLoop (.ref x) "__setattr__" cd.mro = pure () := by rw [hm, refuseLoop_ref]; exact ho.pass XX _
  rw [osa_eq, refuse_eq]
  refine wpAny_bind (wpAny_bind (J.type.at (wpAny_bind (l1.at ?_))))
  rw [pass]
  refine wpAny_pure (wpAny_bind (J.type.at (wpAny_bind ((looks_findIn X hno).at (wpAny_bind (l2.at ?_))))))
  show wpAny _ _ (storeInOwnDict (.ref x) (.ref C) (.str name tk) name v false) _ _ _
  obtain ⟨nm, bs, mro, ns, qn, hd, sn, sb, ab, col, del⟩ := cd
  dsimp only at hh
  subst hh
  unfold storeInOwnDict ownDictForStores
  repeat (first | with_reducible refine HandSPX.store_in_new ?_ ?_ | with_reducible refine wpAny_loadPart_at hx ?_ | with_reducible refine l3.at ?_ | wp_step)
  · exact ⟨_, #[], _, (Heap.get?_update_ne _ _ _ _ hxs.symm).trans (Heap.get?_push_at rfl rfl), rfl, fun e he => absurd he (by simp), fun _ => rfl⟩
  · intro h' tk' hn' hs
    have hy : (hp.push { cls := .type "dict", data := .dict #[] }).get? x = some { cls := .ref C, data := .fields fv } := Heap.get?_push_of_some _ hx
    refine hq h' tk' hp.objs.size (fun b o hb ho => ?_) (Nat.le_refl _) hxs.symm ?_ hn'
    · exact (hs.2 b (Nat.ne_of_lt (Heap.lt_size ho))).trans ((Heap.get?_update_ne _ _ _ _ hb).trans (Heap.get?_push_of_some _ ho))
    · exact (hs.2 x hxs).trans (Heap.get?_update_self _ hy rfl)
end
section
variable {X : Cx} {pins : List (Addr × Obj)} {σ : L2.St} {H : Hp} {s : Shared} {a C dx : Addr} {f : Str} {y : V} {u : Value} {B nw ini : String} {bl : List Value}
theorem exg_set (XX : XB B nw ini bl) {Q : Unit → Shared → Prop} {E : Value → Shared → Prop} {A : Around} (T : OexG nw bl X.K C) (I : Inv X pins σ H s) (e : H a = some (exo a C none)) (hno : findIn X.K (.ref C) f = some none) (ry : RelV y u)
    (h : ∀ dx s', H dx = none → dx ≠ a → Inv X pins σ (upd (upd H dx (exd dx [(f, y)])) a (exo a C (some dx))) s' → Q () s') : wpAny (model X.prog X.w) A (setAttr (.ref a) f u) Q E s := by
  obtain ⟨nm, q, N, bs, bm, sn, sub, ab, col, dd, k0, k1, k2, k3, k5, hC, hbm⟩ := T.cls
  have hcl : clsIn X.K C = some { name := nm, bases := bs, mro := .ref C :: bm, ns := N, qualname := q, hasDict := true, slotNames := sn, subclasses := sub, abstract := ab, collection := col, hasDel := false } := by
    unfold clsIn; rw [hC] <;> rfl
  obtain ⟨t1, ho⟩ := exo_at I.hok e
  obtain ⟨hp, gg, dd', tt, os⟩ := s
  refine set_plain I.kIn (ox := { cls := .ref C, dict := none, data := .fields #[.ref t1, .none, .none, .none, .bool false, .none] }) (od := none) ⟨ho, rfl, rfl, trivial⟩ T.sa ?_
  refine exg_osa XX I.kIn ho hcl rfl hbm rfl hno (fun h' tk' dx k dn dne hx hn => ?_)
  have hnd : H dx = none := I.hok.fresh dn
  have nd : ∀ {b : Addr} {o : Obj}, hp.get? b = some o → b ≠ dx := fun {b o} q => Nat.ne_of_lt (Nat.lt_of_lt_of_le (Heap.lt_size q) dn)
  have na : ∀ {b : Addr}, H b = none → b ≠ a := fun {b} n z => by rw [z, e] at n; cases n
  have U : Un X.fs [] H (upd (upd H dx (exd dx [(f, y)])) a (exo a C (some dx))) hp h' := {
    keep := fun b o q n _ _ => k b o (na n) q
    slot := fun b o q n _ _ => ⟨o.slots, k b o (na n) q⟩
    free := fun b o q n _ => by rw [upd_ne (na n), upd_ne (nd q)]; exact n
    there := fun b o q _ => by
      by_cases hb : b = a
      · exact ⟨_, by rw [hb]; exact hx⟩
      · exact ⟨o, k b o hb q⟩
    tups := fun b xs q => by rw [upd_ne (at_ne e q exo_tup), upd_ne (ne_of_none q hnd)]; exact q
    frzs := fun b o v q => by rw [upd_ne (at_ne e q exo_frz), upd_ne (ne_of_none q hnd)]; exact q
    tbls := fun b ps q => ⟨#[], by rw [upd_ne (at_ne e q exo_tbl), upd_ne (ne_of_none q hnd), q]; simp⟩ }
  refine h dx _ hnd dne (I.un (t' := tk') U fun b o q => ?_)
  by_cases hb : b = a
  · subst hb
    rw [upd_same] at q
    cases q
    exact exo_ok hx
  rw [upd_ne hb] at q
  by_cases hd : b = dx
  · subst hd
    rw [upd_same] at q
    cases q
    exact exd_ok hn (relO_put (fs := []) ry fun g => True.intro)
  rw [upd_ne hd] at q
  refine (I.hok b o q).stay (fun c v hc z => k c v ?_ z) (fun c hc => ?_) (fun c xs hc => ?_)
  · rcases hc with hc | hc
    · rw [hc]; exact hb
    · exact at_ne e hc exo_own
  · rw [upd_ne (at_ne e hc exo_own), upd_ne (ne_of_none hc hnd)]; exact hc
  · rw [upd_ne (at_ne e hc exo_tup), upd_ne (ne_of_none hc hnd)]; exact hc
end
/-- self.f = e, self an exception without a dict -/
def tSetG (nw : String) (bl : List Value) (K : PySem.W.Frag) (f : Str) (to te : TE) : TS := fun D σ H => te σ H fun y H1 => to σ H1 fun x H2 => ∃ a C : Addr, x = .ref a ∧ OexG nw bl K C ∧ findIn K (.ref C) f = some none ∧
  H2 a = some (exo a C none) ∧ ∀ dx, H2 dx = none → dx ≠ a → D.nx σ (upd (upd H2 dx (exd dx [(f, y)])) a (exo a C (some dx)))
theorem ps_setG {B nw ini : String} {bl : List Value} (XX : XB B nw ini bl) {X : Cx} {o e : Expr} {to te : TE} {f : Str} {p' pos : Pos} (ho : PE X o to) (he : PE X e te) (hs : swapsWith e (some (.Attribute o f p')) pos.line X.env = pure false := by rfl) :
    PS X (.Assign [.Attribute o f p'] e pos) (tSetG nw bl X.K f to te) := by
  refine ⟨fun pins s σ H D I h => ?_⟩
  refine plainObj_wpAny_Assign_Attribute (thn (he.run pins s σ H _ I h) fun v s1 ⟨y, H1, I1, r1, q1⟩ => thn (ho.run pins s1 σ H1 _ I1 q1) fun u s2 ⟨x, H2, I2, r2, a, C, ex, T, hno, ea, q⟩ => ?_) hs
  subst ex
  obtain rfl : u = Value.ref a := r2
  exact exg_set XX T I2 ea hno r1 fun dx s' n ne J => ⟨σ, _, J, q dx n ne⟩
/-- the body of C(e, ..) -/
theorem run_mkG {B nw ini : String} {bl : List Value} (XX : XB B nw ini bl) {X : Cx} {pins : List (Addr × Obj)} {σ : L2.St} {H1 : Hp} {s1 : Shared} {us : List Value} {vs : List V} {C fI : Addr} {k : Nat} {fd : FuncData} {CX : CXT} {ps : List Str} {sp : Sp} {ds : List Value} {dvs : List V} {Qp : Addr → V → Hp → Prop} {R : Value → Shared → Prop}
    (T : OexG nw bl X.K C) (iC : findIn X.K (.ref C) "__init__" = some (some (.ref fI))) (tI : typeIn X.K (.ref fI) = some (.type "function"))
    (F1 : FnOk X.prog X.w X.K X.mg X.base CX k fI fd ps sp) (hr : Room (k + 1) X.A) (hb : Binds X.K fd ps ds) (hd : Vals dvs ds) (hx : Passes CX X (fun _ _ _ => False)) (I1 : Inv X pins σ H1 s1) (r1 : Vals vs us) (hz : vs.length ≤ 1000)
    (hq : ∀ a, H1 a = none → sp (.ref a :: (vs ++ dvs)) (upd H1 a (exo a C none)) (Qp a) (fun _ _ _ => False))
    (out : ∀ (s' : Shared) (v : V) (u : Value) (a : Addr), H1 a = none → s1.heap.objs.size ≤ a → (∀ (H2 : Hp), s'.os = s1.os → AllBare s'.gens →
        Un (frs X.stack) [] (upd H1 a (exo a C none)) H2 ((s1.heap.push (kdv_tup us)).push (HandSPX.excO C s1.heap.objs.size)) s'.heap → HOk X.prog X.w H2 s'.heap → (∀ b o, s1.heap.get? b = some o → ((s1.heap.push (kdv_tup us)).push (HandSPX.excO C s1.heap.objs.size)).get? b = some o) →
        a = s1.heap.objs.size + 1 → Inv X pins σ (upd H1 a (exo a C none)) { s1 with heap := (s1.heap.push (kdv_tup us)).push (HandSPX.excO C s1.heap.objs.size) } → RelV v u → Qp a v H2 → u = .none ∧ R (.ref a) s')) :
    wpAny (model X.prog X.w) X.A (call (.ref C) us) R X.xe s1 := by
  obtain ⟨nm, q, N, bs, bm, sn, sub, ab, col, dd, k0, k1, k2, k3, k5, hC, hbm⟩ := T.cls
  obtain ⟨hp, g, dr, tk, os⟩ := s1
  have hsz : hp.objs.size ≤ hp.objs.size + 1 := Nat.le_succ _
  have hn : H1 (hp.objs.size + 1) = none := I1.hok.fresh hsz
  have hq := hq (hp.objs.size + 1) hn
  have kk : ∀ b o, hp.get? b = some o → ((hp.push (kdv_tup us)).push (HandSPX.excO C hp.objs.size)).get? b = some o := fun b o e => Heap.get?_push_of_some _ (Heap.get?_push_of_some _ e)
  have hget : ((hp.push (kdv_tup us)).push (HandSPX.excO C hp.objs.size)).get? (hp.objs.size + 1) = some (HandSPX.excO C hp.objs.size) := by heap_get
  have I2 : Inv X pins σ (upd H1 (hp.objs.size + 1) (exo (hp.objs.size + 1) C none)) ⟨(hp.push (kdv_tup us)).push (HandSPX.excO C hp.objs.size), g, dr, tk, os⟩ :=
    I1.laid (t' := tk) (a := hp.objs.size + 1) (o := exo (hp.objs.size + 1) C none) (h' := (hp.push (kdv_tup us)).push (HandSPX.excO C hp.objs.size)) kk hsz (exo_ok hget)
  have r2 : Vals (V.ref (hp.objs.size + 1) :: (vs ++ dvs)) (Value.ref (hp.objs.size + 1) :: (us ++ ds)) := .cons rfl (r1.append hd)
  have hl : (Value.ref (hp.objs.size + 1) :: us ++ ds).length = ps.length := by
    have e := r2.length
    rw [F1.len _ _ _ _ hq] at e
    exact e.symm
  have hus : us.length ≤ sizeLine := by rw [← Paired.length r1, sizeLine_eq]; omega
  refine wpAny_call (HandSPX.call_own XX.F (fun Y => hbm.has Y) (I1.kIn _ _ hC) (looks_findIn I1.kIn iC) (fun self => bind_fn I1.kIn self tI) hus
    (codeAny_mono (F1.run _ X.stack _ _ ⟨Value.ref (hp.objs.size + 1) :: us, []⟩ (Value.ref (hp.objs.size + 1) :: (us ++ ds)) _ _ (fun _ _ _ => False) (hr.make C us []) (I2.env0.make C us []) (hb _ (Value.ref (hp.objs.size + 1) :: us) I2.kIn hl) r2 hq) fun r s' hq' => ?_))
  match r, hq' with
  | .error er, hq' => exact hx pins σ _ _ er s' I2 hq'
  | .ok .next, hq' => exact hq'.elim
  | .ok .brk, hq' => exact hq'.elim
  | .ok .cont, hq' => exact hq'.elim
  | .ok (.ret u), ⟨v, H2, os2, bare2, un2, hok2, rv, q2⟩ =>
    obtain ⟨rfl, z⟩ := out s' v u _ hn hsz H2 os2 bare2 un2 hok2 kk rfl I2 rv q2
    exact ⟨rfl, z⟩
/-- raise C(e, ..), C's own __init__ keeping sp -/
theorem pmk_G {B nw ini : String} {bl : List Value} (XX : XB B nw ini bl) {X : Cx} {e : Expr} {es : List Expr} {ta : TA} {p pos : Pos} {CX : CXT} {x : Str} {C fI : Addr} {k : Nat} {fd : FuncData} {ps : List Str} {sp : Sp} {ds : List Value} {dvs : List V} (T : OexG nw bl X.K C) (iC : findIn X.K (.ref C) "__init__" = some (some (.ref fI))) (tI : typeIn X.K (.ref fI) = some (.type "function"))
    (F1 : FnOk X.prog X.w X.K X.mg X.base CX k fI fd ps sp) (hr : Room (k + 1) X.A) (hb : Binds X.K fd ps ds) (hd : Vals dvs ds) (hx : Passes CX X (fun _ _ _ => False)) (hg : Gl X x) (hm : X.mg x = some (.ref C)) (ha : PA X (e :: es) ta)
    (hdb : (x == ("__debug__" : Str)) = false := by decide) (he : starEach (e :: es) X.env = (false, eval e X.env) :: starEach es X.env := by rfl) (hpl : (backTo pos (starEach es X.env)).any (·.1) = false := by rfl) :
    PMk X (.Call (.Name x p) (e :: es) [] pos) (tMkO C sp dvs ta) := by
  intro pins s σ H Q I h
  refine wpAny_Call_Name_kw (ld_glob I hg hm ?_ hdb)
  refine callWith_K (h₀ := X.base) I.ok.mod.kin T.kC (thn (ha.run pos pins s σ H _ I h) fun us s1 ⟨vs, H1, I1, r1, hz, q1⟩ => ⟨I1.kIn, ?_⟩) he hpl
  refine run_mkG (Qp := fun a v H2 => v = .non ∧ ∃ (d : Addr) (fs : List (Str × V)), H2 a = some (exo a C (some d)) ∧ H2 d = some (exd d fs) ∧ H1 d = none ∧ Q (.ref C) (some d) (upd (del H2 a) d (.xd fs))) XX T iC tI F1 hr hb hd hx I1 r1 hz q1 fun s' v u a hn hsz H2 os2 bare2 un2 hok2 kk ea0 I2 rv q2 => ?_
  obtain ⟨ev, d, fs, ea, ed, hd1, q2⟩ := q2
  subst ev
  obtain ⟨h2, g2, d2, t2, os'⟩ := s'
  obtain ⟨hp, g, dr, tk, os⟩ := s1
  exact ⟨rv, mk_end (raises_own T.exC T.tyC) I1 hsz kk un2 hok2 os2 bare2 ea ed hd1 q2⟩
/-- C(e, ..) as a value: the exception stands at a -/
def tMkV (C : Addr) (sp : Sp) (dvs : List V) (ta : TA) : TE := fun σ H Q => ta σ H fun vs H1 => vs.length ≤ 1000 ∧ ∀ a, H1 a = none → sp (.ref a :: (vs ++ dvs)) (upd H1 a (exo a C none))
  (fun v H2 => v = .non ∧ Q (.ref a) H2) (fun _ _ _ => False)
theorem pe_mkV {B nw ini : String} {bl : List Value} (XX : XB B nw ini bl) {X : Cx} {e : Expr} {es : List Expr} {ta : TA} {p pos : Pos} {CX : CXT} {x : Str} {C fI : Addr} {k : Nat} {fd : FuncData} {ps : List Str} {sp : Sp} {ds : List Value} {dvs : List V} (T : OexG nw bl X.K C) (iC : findIn X.K (.ref C) "__init__" = some (some (.ref fI))) (tI : typeIn X.K (.ref fI) = some (.type "function"))
    (F1 : FnOk X.prog X.w X.K X.mg X.base CX k fI fd ps sp) (hr : Room (k + 1) X.A) (hb : Binds X.K fd ps ds) (hd : Vals dvs ds) (hx : Passes CX X (fun _ _ _ => False)) (hg : Gl X x) (hm : X.mg x = some (.ref C)) (ha : PA X (e :: es) ta)
    (hdb : (x == ("__debug__" : Str)) = false := by decide) (he : starEach (e :: es) X.env = (false, eval e X.env) :: starEach es X.env := by rfl) (hpl : (backTo pos (starEach es X.env)).any (·.1) = false := by rfl) :
    PE X (.Call (.Name x p) (e :: es) [] pos) (tMkV C sp dvs ta) := by
  refine ⟨fun pins s σ H Q I h => ?_⟩
  refine wpAny_Call_Name_kw (ld_glob I hg hm ?_ hdb)
  refine callWith_K (h₀ := X.base) I.ok.mod.kin T.kC (thn (ha.run pos pins s σ H _ I h) fun us s1 ⟨vs, H1, I1, r1, hz, q1⟩ => ⟨I1.kIn, ?_⟩) he hpl
  refine run_mkG (Qp := fun a v H2 => v = .non ∧ Q (.ref a) H2) XX T iC tI F1 hr hb hd hx I1 r1 hz q1 fun s' v u a hn hsz H2 os2 bare2 un2 hok2 kk ea I2 rv q2 => ?_
  obtain ⟨ev, q2⟩ := q2
  subst ev
  obtain ⟨h2, g2, d2, t2, os'⟩ := s'
  refine ⟨rv, .ref a, H2, I2.call' (ch := []) os2 ?_ hok2 bare2 (fun b z => absurd z (by simp)), rfl, q2⟩
  exact un2
end
section
open PySem.W PyProof.Rows PySem.Calls ClX
section
variable {prog : Program} {w : World} {A : Around} {E : Value → Shared → Prop} {h : Heap} {g : Array GenState} {d : Drawn} {t : Nat} {os : OsState} {B nw ini : String} {bl : List Value}
variable {nm q : Str} {C N : Addr} {bs bm : List Value} {hdct : Bool} {sn : List Str} {sub : List Value} {ab : Bool} {col : Option Bool} {dd : Option Addr} {k0 k1 k2 k3 k5 : Option Value}
theorem run_mwG (XX : XB B nw ini bl) {u e t0 : Addr} {rest : List Value} {Q : Value → Shared → Prop} (hC : h.get? C = some (excClassObj nm q C N bs bm hdct sn sub ab col dd k0 k1 k2 k3 k5 nw)) (he : h.get? e = some (HandSPX.excO C t0))
    (hu : h.get? u = some (kxs_mw ini e)) (hz : rest.length ≤ sizeLine) (hq : ∀ h' t1, (∀ b o, b ≠ e → h.get? b = some o → h'.get? b = some o) → h'.get? e = some (HandSPX.excO C t1) → Q .none ⟨h', g, d, t, os⟩) :
    wpAny (model prog w) A (call (.ref u) rest) Q E ⟨h, g, d, t, os⟩ := by
  refine wpAny_call (codeAny_of_tree ?_)
  show wpAny _ A.in1 (callAny (.ref u) ⟨rest, []⟩) _ _ _
  simp only [callAny]
  refine wpAny_bind (wpAny_load hu ?_)
  simp only [kxs_mw]
  refine KFB.if_so (by decide) ?_
  refine wpAny_bind (ESX.check_bound XX.F hC he rfl ?_)
  refine wpAny_bind (wpAny_pure (wpAny_pure ?_))
  refine ⟨Code.quiet_builtin _ XX.qi, codeAny_builtin XX.F.initEntry ?_⟩
  rw [Around.under_plainId XX.F.init.plain _]
  wp_walk
  refine hq _ h.objs.size (fun b o hb ho => ?_) ?_
  · rw [Heap.get?_update_other _ _ (Ne.symm hb)]; exact Heap.get?_push_of_some _ ho
  · rw [Heap.get?_update_self _ (Heap.get?_push_of_some _ he) rfl]; rfl
end
/-- super().m(..) where self is an exception that is being made -/
def tSupG (nw ini : String) (bl : List Value) (K : PySem.W.Frag) (D : Addr) (m : Str) (ta : TA) : TS := fun Dn σ H => ∃ (a C : Addr), σ[0]? = some (some (.ref a)) ∧ H a = some (exo a C none) ∧ OexG nw bl K C ∧ mroIn K C (.ref D) = some true ∧
  ks_superIn K C D m = some (some (.builtin ini)) ∧ ta σ H fun vs H1 => vs.length ≤ 1000 ∧ H1 a = some (exo a C none) ∧ Dn.nx σ H1
variable {X : Cx} {c : Code} {st : Stmt} {ss rest : List Stmt} {t u : TS} {B nw ini : String} {bl : List Value}
theorem psa_superG (XX : XB B nw ini bl) {f cd cc D : Addr} {me m : Str} {body : List Stmt} {p0 p1 apos pos pos' : Pos} {e : Expr} {es : List Expr} {ta : TA} {pl : Sem Bool}
    (S : SupX X f cd cc D me) (hN : X.N[0]? = some me) (ha : PA X (e :: es) ta) (hm : (m == ("__class__" : Str)) = false)
    (hst : starEach (e :: es) X.env = (false, eval e X.env) :: starEach es X.env) (hpl : (backTo pos (starEach es X.env)).any (·.1) = false)
    (hev : eval (.Call (.Attribute (.Call (.Name "super" p0) [] [] p1) m apos) (e :: es) [] pos) X.env = (do
      let ov ← attributeBase (.Call (.Name "super" p0) [] [] p1) m X.env (eval (.Call (.Name "super" p0) [] [] p1) X.env)
      standAt apos.atName
      let (g, first) ← holding [ov] (getMethod ov m pl)
      callWith pos g first (backTo pos (starEach (e :: es) X.env)) []) )
    (hi : interactive X.env = false) (hs : swapsWith (.Call (.Attribute (.Call (.Name "super" p0) [] [] p1) m apos) (e :: es) [] pos) none pos'.line X.env = pure false) (h2 : PSa X (.func body X.env) rest u) :
    PSa X (.func body X.env) (.Expr (.Call (.Attribute (.Call (.Name "super" p0) [] [] p1) m apos) (e :: es) [] pos) pos' :: rest) (tSeq (tSupG nw ini bl X.K D m ta) u) := by
  refine ⟨fun pins s σ H Dn I h => ?_⟩
  obtain ⟨a, C, h0, hins, TC, hmro, hsup, h⟩ := h
  obtain ⟨hh, gg, dd, tt, os⟩ := s
  have KX : X.K.In hh := I.kIn
  obtain ⟨o1, l1, d1, e1, ar, hp1, har⟩ := S.fd
  obtain ⟨o2, l2, vs2, e2, file, tf, hv2, hfile⟩ := S.cv
  obtain ⟨ca, cb, ce, lc⟩ := S.cc
  obtain ⟨cdD, hcd⟩ := S.cls
  obtain ⟨oD, hD1, hD2⟩ := cls_obj KX hcd
  obtain ⟨m0, hn0, hlook⟩ := I.loc
  obtain ⟨uv, ru, lk⟩ := hlook 0 me (.ref a) hN h0 (locK_vis S.ka)
  obtain rfl : uv = Value.ref a := ru
  obtain ⟨mb, hb1, hb2⟩ := I.mod.blt
  refine ks_wpAt_execs_cons (ks_wpAt_Expr_any (ks_wpAt_MethodCall ?_ hev) hi hs)
  refine ks_wpAt_super_base S.ks S.kc hm S.fn (KX _ _ l1) e1 hp1 S.co (KX _ _ l2) e2 hv2 hfile S.top ?_
  refine ks_loadName_global I.ok.kind S.ks (loadGlobal_builtin (by rw [I.ok.glob]; exact I.mod.glob.keeps I.bk) S.mg (by rw [I.ok.blt]; exact hb1.keeps I.bk) ((hb2 _ (by decide)).trans (by first | rfl | decide +kernel)) ⟨rfl, ?_⟩)
  refine wpAny_loadName_free I.ok.kind S.kc S.cl ⟨_, KX _ _ lc, rfl⟩ ?_
  rw [har]
  refine load_self I.ok.kind S.ka hn0 lk ?_
  refine ks_wpAny_isType_cls hD1 hD2 ⟨rfl, ?_⟩
  obtain ⟨nm, q, N, bs, bm, sn, sub, ab, col, dd0, k0, k1, k2, k3, k5, hC, hbm⟩ := id TC.cls
  obtain ⟨t1, ho⟩ := exo_at I.hok hins
  have hcl : clsIn X.K C = some { name := nm, bases := bs, mro := .ref C :: bm, ns := N, qualname := q, hasDict := true, slotNames := sn, subclasses := sub, abstract := ab, collection := col, hasDel := false } := by
    unfold clsIn
    rw [hC] <;> rfl
  have xC : a ≠ C := fun e => by
    have c1 := KX _ _ hC
    rw [← e, ho] at c1
    have c2 := congrArg Obj.data (Option.some.inj c1)
    cases c2
  refine ks_wpAny_call_super hD1 hD2 ho rfl (fun c z => nomatch z) (looks_mroIn KX hmro) (fun h' hso hk' => ?_)
  have I1 : Inv X ((hh.objs.size, ks_superObj D a C) :: pins) σ H ⟨h', gg, dd, tt, os⟩ := pin_new (t' := tt) I hk' (Nat.le_refl _) hso (fun v z => nomatch z)
  have K1 : X.K.In h' := I1.kIn
  obtain ⟨t2, ho2⟩ := exo_at I1.hok hins
  have J1 : InstAt h' a { cls := .ref C, dict := none, data := .fields #[.ref t2, .none, .none, .none, .bool false, .none] } C none := ⟨ho2, rfl, rfl, trivial⟩
  have isB : Looks (model X.prog X.w) h' (isInstance (.ref a) (.type B)) true := J1.type.andThen (looks_mroIn K1 (TC.mro XX XX.F.hasB))
  unfold ks_superIn at hsup
  rw [hcl] at hsup
  refine kxs_getMethod XX.Z hso (looks_opaque K1 S.st) (l₀ := .ref C :: bm) (fun A Q E s k q => wpAny_bind ((looks_clsIn K1 hcl) A _ E s k (wpAny_pure q))) rfl K1 hsup isB xC hm ?_
  have I2 : Inv X ((h'.objs.size, kxs_mw ini a) :: (hh.objs.size, ks_superObj D a C) :: pins) σ H { (⟨h', gg, dd, tt, os⟩ : Shared) with heap := h'.push (kxs_mw ini a), toks := tt + 1 } :=
    pin_new I1 (fun _ _ z => Heap.get?_push_of_some _ z) (Nat.le_refl _) (Heap.get?_push_size h' rfl) (fun v z => nomatch z)
  have hL : h'.objs.size ≠ X.env.locals := (I2.pin (h'.objs.size, kxs_mw ini a) (List.mem_append_right _ List.mem_cons_self)).2.2.1
  refine kxs_callWith1 (news_at hL (base_none I1 (Nat.le_refl _)) (pin_at I2)) List.mem_cons_self (thn (ha.run pos _ _ σ H _ I2 h) fun us s3 ⟨vs, H1, I3, r3, hl3, e3, q3⟩ => ⟨pin_at I3, ?_⟩) hst hpl
  obtain ⟨t3, ho3⟩ := exo_at I3.hok e3
  have hmw := pin_at I3
  obtain ⟨h3, g3, d3, k3', os3⟩ := s3
  have hlen : us.length ≤ sizeLine := by rw [← r3.length, sizeLine_eq]; omega
  refine run_mwG XX (I3.kIn _ _ hC) ho3 hmw hlen (fun h4 t4 kk hx4 => ?_)
  have J := I3.write (t' := k3') (x := a) (e := a) (o := exo a C none) (by rw [e3]; exact True.intro) (.inl rfl) kk ⟨_, hx4⟩ (exo_ok hx4)
  have eu : upd H1 a (exo a C none) = H1 := by
    funext b
    by_cases hb : b = a
    · rw [hb, upd_same, e3]
    · rw [upd_ne hb]
  rw [eu] at J
  exact h2.run pins _ σ H1 Dn (unpin (unpin J)) q3
end
/-! ### rules for lattices: methods of an object of one of several classes, tuple.index of flat items, defaults -/
section
open PySem.Spec PyProof.Rows
variable {X : Cx}
/-- o.m(e, ..): the class is found when it is asked; the method is one def -/
def tMethG (K : PySem.W.Frag) (m : Str) (f : Addr) (sp : Sp) (dvs : List V) (E : XK) (ta : TE) (t : TA) : TE := fun σ H Q => ta σ H fun x H1 => ∃ a C dx fs, x = .ref a ∧ H1 a = some (.ins C dx fs) ∧ Cls K C ∧ Meth K C m f ∧ fs.lookup m = none ∧
  t σ H1 fun vs H2 => sp (x :: (vs ++ dvs)) H2 Q E
section
variable {o e : Expr} {es : List Expr} {ta : TE} {t : TA} {m : Str} {apos pos : Pos} {CX : CXT} {k : Nat} {f : Addr} {fd : FuncData} {ps : List Str} {sp : Sp} {ds : List Value} {dvs : List V} {E : XK}
theorem pe_methG {pl : Sem Bool} (he : PE X o ta) (F : FnOk X.prog X.w X.K X.mg X.base CX k f fd ps sp) (hr : Room k X.A) (hb : Binds X.K fd ps ds) (hd : Vals dvs ds) (hx : Passes CX X E) (ha : PA X (e :: es) t)
    (hst : starEach (e :: es) X.env = (false, eval e X.env) :: starEach es X.env := by rfl) (hpl : (backTo pos (starEach es X.env)).any (·.1) = false := by rfl)
    (ht : eval (.Call (.Attribute o m apos) (e :: es) [] pos) X.env = (do
      let ov ← eval o X.env
      standAt apos.atName
      let (g, first) ← holding [ov] (getMethod ov m pl)
      callWith pos g first (backTo pos (starEach (e :: es) X.env)) (backToKw pos (keywordEach [] X.env))) := by rfl) :
    PE X (.Call (.Attribute o m apos) (e :: es) [] pos) (tMethG X.K m f sp dvs E ta t) := by
  refine ⟨fun pins s σ H Q I h => ?_⟩
  refine PySem.W.methodCall_KW (pl := pl) (thn (he.run pins s σ H _ I h) fun u s1 ⟨x, H1, I1, rx, a, C, dx, fs, ex, ea, c, hm, l, q⟩ => ?_) ht
  subst ex
  obtain rfl : u = Value.ref a := rx
  refine getmeth_ok I1 ea c hm l (PySem.W.callWith_K (first := [.ref a]) (h₀ := X.base) I.ok.mod.kin hm.kp (thn (ha.run pos pins s1 σ H1 _ I1 q) fun us s2 ⟨vs, H2, I2, r, q2⟩ => ⟨I2.kIn, ?_⟩) hst hpl)
  exact run_fn (us := .ref a :: us) (vs := .ref a :: vs) F hr hb hd hx I2 (.cons rfl r) q2
theorem pe_methG0 {pl : Sem Bool} (he : PE X o ta) (F : FnOk X.prog X.w X.K X.mg X.base CX k f fd ps sp) (hr : Room k X.A) (hb : Binds X.K fd ps ds) (hd : Vals dvs ds) (hx : Passes CX X E)
    (ht : eval (.Call (.Attribute o m apos) [] [] pos) X.env = (do
      let ov ← eval o X.env
      standAt apos.atName
      let (g, first) ← holding [ov] (getMethod ov m pl)
      callWith pos g first (backTo pos (starEach [] X.env)) (backToKw pos (keywordEach [] X.env))) := by rfl) :
    PE X (.Call (.Attribute o m apos) [] [] pos) (tMethG X.K m f sp dvs E ta tNil) := by
  refine ⟨fun pins s σ H Q I h => ?_⟩
  refine PySem.W.methodCall_KW (pl := pl) (thn (he.run pins s σ H _ I h) fun u s1 ⟨x, H1, I1, rx, a, C, dx, fs, ex, ea, c, hm, l, q⟩ => ?_) ht
  subst ex
  obtain rfl : u = Value.ref a := rx
  refine getmeth_ok I1 ea c hm l (PySem.W.callWith_K0 (first := [.ref a]) I1.kIn hm.kp ?_)
  exact run_fn (us := [.ref a]) (vs := [.ref a]) F hr hb hd hx I1 (.cons rfl .nil) q
end
/-- t.index(x), flat items -/
def rTupIx (K : PySem.W.Frag) : V → List V → Hp → VK → Prop := fun x xs H Q => ∃ (a : Addr) (ys : List V) (y : V) (j : Nat) (z : V), x = V.ref a ∧ xs = [y] ∧ SqT K H a ys ∧ flatV y = true ∧ ys.all flatV = true ∧ ys[j]? = some z ∧ eqV z y = true ∧
  (∀ (m : Nat) (z' : V), m < j → ys[m]? = some z' → eqV z' y = false) ∧ Q (.int (j : Nat)) H
theorem mt_tindexF : MtR X "tuple.index" (rTupIx X.K) := by
  intro pins s σ H x xs v us Q I rx rxs h
  obtain ⟨a, ys, y, j, z, rfl, rfl, hs, fy, fys, hz, hzj, hno, q⟩ := h
  cases rx
  obtain ⟨uy, rfl, ry⟩ := rxs.one
  obtain ⟨its, rv, ⟨⟨cls, dd, dt, sl⟩, ho, hc, n, hd⟩, hlen⟩ := I.tuple hs
  simp only at hc hd
  subst hc hd
  have hsz : its.toArray.size = ys.length := by rw [List.size_toArray, ← rv.length]
  have each : ∀ (m : Nat) (hm : m < its.toArray.size) (y' : V), ys[m]? = some y' → eqU y its.toArray[m] = eqV y' y := fun m hm y' hy' => by
    obtain ⟨u2, hu2, ru2⟩ := rv.get hy'
    have e1 : its.toArray[m] = u2 := by simpa using (List.getElem?_eq_some_iff.mp hu2).2
    rw [e1, eqU_of ru2 (flat_at fys hy')]
  have hjl := (List.getElem?_eq_some_iff.mp hz).1
  refine call_meets PySem.F.slot_tuple_index ⟨_, ho, rfl⟩ PySem.F.entry_tuple_index (PySem.F.args_tuple_index_2 _ _) (TI.tuple_indexAt a its.toArray n dd sl uy (eqU y) j (by omega) ?_ ?_)
    ⟨ho, fun w hw => mem_eqAt ry fy rv fys w (by simpa using hw), ⟨.int (j : Nat), H, I.tok _, ⟨_, rfl⟩, q⟩⟩
  · rw [each j _ _ hz, hzj]
  · intro m hm hmj
    have hy' : ys[m]? = some ys[m] := List.getElem?_eq_getElem (by omega)
    rw [each m hm _ hy', hno m _ hmj hy']
/-- the tuple at p has no dict of its own (so its methods may be asked) -/
def NdT (K : PySem.W.Frag) (H : Hp) (p : Addr) : Prop := (∃ (o : Obj) (xs : List V), H p = some (.frz o (.tup xs)) ∧ o.dict = none) ∨ ∃ o : Obj, K.lookup p = some o ∧ o.dict = none
theorem NdT.get {pins : List (Addr × Obj)} {σ : L2.St} {H : Hp} {s : Shared} {p : Addr} (h : NdT X.K H p) (I : Inv X pins σ H s) : ∃ o, s.heap.get? p = some o ∧ o.dict = none := by
  rcases h with ⟨o, xs, h, d⟩ | ⟨o, h, d⟩
  · have x : ObjOk X.prog X.w H s.heap p (.frz o (.tup xs)) := I.hok p _ h
    exact ⟨o, x.1, d⟩
  · exact ⟨o, I.kIn _ _ h, d⟩
/-- t.m(e, ..), t a tuple without a dict -/
def tTM (K : PySem.W.Frag) (r : V → List V → Hp → VK → Prop) (to : TE) (t : TA) : TE := fun σ H Q => to σ H fun x H1 => ∃ (p : Addr) (ys : List V), x = .ref p ∧ NdT K H1 p ∧ SqT K H1 p ys ∧ t σ H1 fun xs H2 => r x xs H2 Q
theorem pe_tbm {o e : Expr} {es : List Expr} {to : TE} {t : TA} {name : Str} {apos cpos : Pos} {id : String} {r : V → List V → Hp → VK → Prop} (pa : PlainAttrs "tuple") (slot : Slot "tuple" name id) (hty : typeOf (.builtin id) = pure (.type "method_descriptor")) (hm : MtR X id r) (ho : PE X o to) (ha : PA X (e :: es) t)
    (hbase : attributeBase o name X.env (eval o X.env) = eval o X.env := by rfl)
    (hfew : ((backTo cpos (starEach (e :: es) X.env)).all (fun x => !x.1) && (backToKw cpos (keywordEach [] X.env)).all (fun x => x.1.isSome)
      && decide ((e :: es).length + ([] : List Keyword).length + (if ([] : List Keyword).isEmpty then 0 else 1) < 30)) = true := by rfl)
    (hline : (apos.endLine == cpos.line) = true := by rfl) (hs : starEach (e :: es) X.env = (false, eval e X.env) :: starEach es X.env := by rfl) (hpl : (backTo cpos (starEach es X.env)).any (·.1) = false := by rfl) :
    PE X (.Call (.Attribute o name apos) (e :: es) [] cpos) (tTM X.K r to t) := by
  refine ⟨fun pins s σ H Q I h => ?_⟩
  refine wpAny_Call_method_late hbase hfew hline rfl (thn (ho.run pins s σ H _ I h) fun v s1 ⟨x, H1, I1, r1, p, ys, ex, nd, hq, q1⟩ => ?_)
  subst ex
  obtain rfl : v = Value.ref p := r1
  obtain ⟨its, _, ⟨o1, ho1, hc1, _⟩, _⟩ := I1.tuple hq
  refine ⟨"tuple", id, pa, slot, hty, ⟨o1, ho1, hc1⟩, fun a ea => by cases ea; exact nd.get I1, ?_⟩
  have hA := ha.run cpos pins s1 σ H1 _ I1 q1
  rw [hs] at hA ⊢
  refine Calls.callWith_builtin (by show (false || (backTo cpos (starEach es X.env)).any (·.1)) = false; rw [hpl] <;> rfl) (Calls.evalArgs_plain ?_)
  exact thn hA fun us s2 ⟨vs, H2, I2, r2, q2⟩ => hm pins s2 σ H2 (V.ref p) vs (Value.ref p) us Q I2 rfl r2 q2
/-- tuple(xs): a list's items in a new tuple without a dict, or the tuple itself -/
theorem call_tupleN : CallR X (.type "tuple") (fun xs H Q => ∃ p ys, xs = [.ref p] ∧ ((SqL X.K H p ys ∧ ∀ (l : Addr) (o : Obj), H l = none → o.dict = none → Q (.ref l) (upd H l (.frz o (.tup ys)))) ∨ (SqT X.K H p ys ∧ Q (.ref p) H))) := by
  intro pins s σ H xs us Q I r h
  obtain ⟨p, ys, rfl, h⟩ := h
  obtain ⟨u, rfl, rx⟩ := r.one
  cases rx
  rcases h with ⟨hq, q⟩ | ⟨hq, q⟩
  · obtain ⟨its, r', pl, hz⟩ := I.list hq
    have hlen := r'.length
    refine call_tuple_list pl.isList (fun h' kp => ?_) (by simp only [List.size_toArray] <;> omega)
    have J : Inv X pins σ H { s with heap := h' } := I.kept (t' := s.toks) kp
    have hg : (h'.push { cls := .type "tuple", data := .seq its.toArray }).get? h'.objs.size = some ({ cls := .type "tuple", data := .seq its.toArray } : Obj) := Heap.get?_push_size _ rfl
    have J2 : Inv X pins σ (upd H h'.objs.size (.frz { cls := .type "tuple", data := .seq its.toArray } (.tup ys))) { s with heap := h'.push { cls := .type "tuple", data := .seq its.toArray } } :=
      J.laid (t' := s.toks) (fun b o e => Heap.get?_push_of_some _ e) (Nat.le_refl _) (show ObjOk X.prog X.w _ _ _ (.frz _ (.tup ys)) from ⟨hg, hz, its, r', IsTup.new _ _⟩)
    exact ⟨.ref h'.objs.size, _, J2, rfl, q _ _ (J.hok.fresh (Nat.le_refl _)) rfl⟩
  · obtain ⟨its, r', pl, hz⟩ := I.tuple hq
    exact call_tuple_same pl ⟨.ref p, H, I, rfl, q⟩
theorem kx_pi_list {X : Cx} (K : PySem.W.Frag) {tg l : Expr} {tl : TE} (p : PI X tg l (iList X.K tl)) (h : X.K = K := by rfl) : PI X tg l (iList K tl) := h ▸ p
theorem kx_pi_enum {X : Cx} (K : PySem.W.Frag) {tg l : Expr} {ta : TA} (p : PI X tg l (iEnum X.K ta)) (h : X.K = K := by rfl) : PI X tg l (iEnum K ta) := h ▸ p
theorem kx_pe_fld {X : Cx} (K : PySem.W.Frag) {e : Expr} {ta : TE} {f : Str} (p : PE X e (tFld X.K ta f)) (h : X.K = K := by rfl) : PE X e (tFld K ta f) := h ▸ p
theorem kx_tbm {X : Cx} (K : PySem.W.Frag) {e : Expr} {r : V → List V → Hp → VK → Prop} {to : TE} {t : TA} (p : PE X e (tTM X.K r to t)) (h : X.K = K := by rfl) : PE X e (tTM K r to t) := h ▸ p
theorem kx_ix_seq {X : Cx} (K : PySem.W.Frag) (h : X.K = K := by rfl) : IxR X (rIx K) := h ▸ ix_seq
theorem kx_methG {X : Cx} (K : PySem.W.Frag) {e : Expr} {ta : TE} {t : TA} {m : Str} {f : Addr} {sp : Sp} {dvs : List V} {E : XK} (p : PE X e (tMethG X.K m f sp dvs E ta t)) (h : X.K = K := by rfl) : PE X e (tMethG K m f sp dvs E ta t) := h ▸ p
/-- how a def with defaults binds: n values are written, the defaults behind the first j fill up -/
theorem FunD.bindsD {K : PySem.W.Frag} {x qual : Str} {st : Stmt} {f t0 : Addr} {fd : FuncData} {ps : List Str} (F : FunD K x qual st f fd t0) {its : List Value} {m : Nat} (lt : K.lookup t0 = some (⟨.type "tuple", none, .seq its.toArray m, #[]⟩ : Obj)) (n j : Nat)
    (hn : n + (its.length - j) = ps.length)
    (h : ∀ (kV doc pm : Value) (an : Option Addr) (cdv ct : Value) (us : List Value), us.length = n →
      ∃ k, bindArgs (PySem.W.fnOf x qual (defArgs st) (defBody st) (defScope st) (.ref t0) kV doc pm an cdv ct) ⟨us, []⟩ = seqItems? (.ref t0) >>= k ∧ k (some its.toArray) = pure (ps.zip (us ++ its.drop j))) : Binds K fd ps (its.drop j) := by
  obtain ⟨oc, od, kV, doc, pm, an, cdv, ct, osl, rfl, lk, hcd⟩ := F.ex
  refine fun s us X hlen => ?_
  have l2 : us.length = n := by rw [List.length_append, List.length_drop] at hlen; omega
  obtain ⟨k, e1, e2⟩ := h kV doc pm an cdv ct us l2
  refine BindsTo.of_looks fun M => ?_
  rw [e1]
  exact looks_items X lt rfl (.of_pure e2)
end
/-- sep.join(xs) within a block -/
def rJoinK (K : PySem.W.Frag) : V → List V → Hp → VK → Prop := fun x xs H Q => ∃ a p, ∃ ys : List Str, x = .str a ∧ xs = [.ref p] ∧ (SqL K H p (ys.map V.str) ∨ SqT K H p (ys.map V.str)) ∧
    (ys.map (·.length)).sum + ys.length * a.length ≤ 16777216 ∧ Q (.str (PySem.Txt.join a ys)) H
theorem kx_pe_join {X : Cx} (K : PySem.W.Frag) {e : Expr} {to tx : TE} (p : PE X e (tM1 (rJoinK X.K) to tx)) (h : X.K = K := by rfl) : PE X e (tM1 (rJoinK K) to tx) := h ▸ p
/-- f'..' of several parts -/
def tJoin (ts : List TE) : TE := fun σ H Q => tJs ts Str.empty σ H fun out H1 => Q (.str out) H1
theorem pe_joinedT {X : Cx} {v1 v2 : Expr} {rest : List Expr} {ts : List TE} {pos : Pos} (h : PJ X (v1 :: v2 :: rest) ts) : PE X (.JoinedStr (v1 :: v2 :: rest) pos) (tJoin ts) := pe_joined h
/-! ### what stays in the heap; folds of comprehensions; readings cut off -/
/-- tuples (and what is locked) stay -/
structure Keeps (H H' : Hp) : Prop where
  tup : ∀ a xs, H a = some (.tup xs) → H' a = some (.tup xs)
  frz : ∀ a o xs, H a = some (.frz o (.tup xs)) → H' a = some (.frz o (.tup xs))
theorem Keeps.refl (H : Hp) : Keeps H H := ⟨fun _ _ h => h, fun _ _ _ h => h⟩
theorem Keeps.trans {H H1 H2 : Hp} (a : Keeps H H1) (b : Keeps H1 H2) : Keeps H H2 := ⟨fun c xs h => b.tup c xs (a.tup c xs h), fun c o u h => b.frz c o u (a.frz c o u h)⟩
theorem _root_.L2.Same.keeps {H H' : Hp} (s : Same H H') : Keeps H H' := ⟨fun a xs h => s a _ h, fun a o u h => s a _ h⟩
theorem Keeps.mut {H H' : Hp} {D : Addr} {o o' : HO} (k : Keeps H H') (h : H' D = some o) (m : Mut (some o)) : Keeps H (upd H' D o') := by
  refine ⟨fun a xs q => ?_, fun a ob u q => ?_⟩
  · have q' := k.tup a xs q
    rw [upd_ne (ne_of q' h (by intro e; subst e; exact m))]; exact q'
  · have q' := k.frz a ob u q
    rw [upd_ne (ne_of q' h (by intro e; subst e; exact m))]; exact q'
theorem But.keeps {H H' : Hp} {D : Addr} {o : HO} (b : But D H H') (h : H D = some o) (m : Mut (some o)) : Keeps H H' :=
  ⟨fun a xs q => b a _ (ne_of q h (by intro e; subst e; exact m)) q, fun a ob u q => b a _ (ne_of q h (by intro e; subst e; exact m)) q⟩
theorem Keeps.sqT {K : PySem.W.Frag} {H H' : Hp} {a : Addr} {xs : List V} (k : Keeps H H') (h : SqT K H a xs) : SqT K H' a xs := by
  rcases h with (h | ⟨o, h⟩) | h
  · exact .inl (.inl (k.tup _ _ h))
  · exact .inl (.inr ⟨o, k.frz _ _ _ h⟩)
  · exact .inr h
theorem lc_fold {J : It} {n : Nat} {G : Hp → Prop} {Yw : Nat → Hp → V → Hp → Prop} (w : Walk J n G Yw) {g : TG} {tt : TT} {te : TE} {vs : List Nat} {σ : L2.St} {H1 : Hp} {D : Addr} {Qd : Hp → Prop} (hD : H1 D = none)
    (R : Nat → Hp → List V → Prop) (r0 : ∀ H, R 0 H []) (mono : ∀ i H H' xs, Keeps H H' → R i H xs → R i H' xs) (len : ∀ i H ys, R i H ys → ys.length ≤ 1000000) (hG : ∀ H, Same H1 H → G H)
    (hs : ∀ i x H H' ys (Nx : V → Hp → Prop) (Ex : Hp → Prop), i < n → Same H1 H → R i H ys → Yw i H x H' →
      (∀ y H2, Same H H2 → R (i + 1) H2 (ys ++ [y]) → Nx y H2) → (∀ H2, Same H H2 → R (i + 1) H2 ys → Ex H2) →
      g x (wipe σ vs) H' fun σ2 H2 => wipe σ2 vs = wipe σ vs ∧ tt σ2 H2 fun b H3 => if b = true then te σ2 H3 Nx else Ex H3)
    (hd : ∀ H ys, Same H1 H → H D = some (.lst ys) → R n H ys → Qd H) :
    ∃ W : Nat → Nat → Hp → Prop, (∃ m, W 0 m (upd H1 D (.lst []))) ∧ ∀ i m H, W i m H →
      (J.stop i H ∧ Qd H) ∨ (J.go i H ∧ ∃ Nx : Hp → Prop, (∀ H', Nx H' → ∃ m', m' < m ∧ W (i + 1) m' H') ∧ ∀ x H', J.yld i H x H' → g x (wipe σ vs) H' fun σ2 H2 => wipe σ2 vs = wipe σ vs ∧ tt σ2 H2 fun b H3 =>
        if b = true then te σ2 H3 fun y H4 => ∃ acc, H4 D = some (.lst acc) ∧ acc.length < sizeLine ∧ Nx (upd H4 D (.lst (acc ++ [y]))) else Nx H3) :=
  lc_foldF w (Same H1) R (Same.new hD _) (fun H ys zs s _ => s.mut hD _) (r0 _) (fun i H ys zs xs r h => mono _ _ _ _ ((Keeps.refl H).mut h trivial) r) len hG
    (fun i x H H' ys Nx Ex hi s hy r y k1 k2 => hs i x H H' ys Nx Ex hi s r y (fun z H2 s2 r2 => k1 z H2 (s.trans s2) (s2 _ _ hy) r2) (fun H2 s2 r2 => k2 H2 (s.trans s2) (s2 _ _ hy) r2)) hd
/-- a dict comprehension over any walk, as lc_it -/
theorem dc_it {J : It} {n : Nat} {G : Hp → Prop} {Y : Nat → Hp → V → Hp → Prop} (w : Walk J n G Y) {g : TG} {tt : TT} {tk tv : TE} {vs : List Nat} {σ : L2.St} {H1 : Hp} {D : Addr} {Qd : Hp → Prop} (Pv : Nat → Hp → Prop) (h0 : Pv 0 (upd H1 D (.dK []))) (hG : ∀ i H, i ≤ n → Pv i H → G H)
    (hs : ∀ i x H H', i < n → Pv i H → Y i H x H' → g x (wipe σ vs) H' fun σ2 H2 => wipe σ2 vs = wipe σ vs ∧ tt σ2 H2 fun b H3 =>
      if b = true then tk σ2 H3 fun y H4 => tv σ2 H4 fun z H5 => ∃ kvs k, y = kV k ∧ H5 D = some (.dK kvs) ∧ kvs.length < sizeLine ∧ Pv (i + 1) (upd H5 D (.dK (putK kvs k z))) else Pv (i + 1) H3) (hd : ∀ H, Pv n H → Qd H) :
    ∃ W : Nat → Nat → Hp → Prop, (∃ m, W 0 m (upd H1 D (.dK []))) ∧ ∀ i m H, W i m H →
      (J.stop i H ∧ Qd H) ∨ (J.go i H ∧ ∃ Nx : Hp → Prop, (∀ H', Nx H' → ∃ m', m' < m ∧ W (i + 1) m' H') ∧ ∀ x H', J.yld i H x H' → g x (wipe σ vs) H' fun σ2 H2 => wipe σ2 vs = wipe σ vs ∧ tt σ2 H2 fun b H3 =>
        if b = true then tk σ2 H3 fun y H4 => tv σ2 H4 fun z H5 => ∃ kvs k, y = kV k ∧ H5 D = some (.dK kvs) ∧ kvs.length < sizeLine ∧ Nx (upd H5 D (.dK (putK kvs k z))) else Nx H3) := by
  refine ⟨fun i m H => m = n - i ∧ i ≤ n ∧ Pv i H, ⟨n, rfl, Nat.zero_le _, h0⟩, fun i m H ⟨em, hi, p⟩ => ?_⟩
  subst em
  have q := hG i H hi p
  rcases Nat.lt_or_ge i n with hlt | hge
  · exact .inr ⟨w.goes i H hlt q, Pv (i + 1), fun H' p' => ⟨n - (i + 1), by omega, rfl, hlt, p'⟩, fun x H' y => hs i x H H' hlt p (w.yields i H x H' hlt q y)⟩
  · have e : i = n := by omega
    subst e
    exact .inl ⟨w.stops H q, hd H p⟩
/-- R i H kvs: what is known of the dict made so far -/
theorem dc_fold {J : It} {n : Nat} {G : Hp → Prop} {Yw : Nat → Hp → V → Hp → Prop} (w : Walk J n G Yw) {g : TG} {tt : TT} {tk tv : TE} {vs : List Nat} {σ : L2.St} {H1 : Hp} {D : Addr} {Qd : Hp → Prop} (hD : H1 D = none)
    (R : Nat → Hp → List (Key × V) → Prop) (r0 : ∀ H, R 0 H []) (mono : ∀ i H H' xs, Keeps H H' → R i H xs → R i H' xs) (len : ∀ i H ys, R i H ys → ys.length ≤ 1000000) (hG : ∀ H, Same H1 H → G H)
    (hs : ∀ i x H H' ys (Nx : V → V → Hp → Prop) (Ex : Hp → Prop), i < n → Same H1 H → R i H ys → Yw i H x H' →
      (∀ k z H2, Same H H2 → R (i + 1) H2 (putK ys k z) → Nx (kV k) z H2) → (∀ H2, Same H H2 → R (i + 1) H2 ys → Ex H2) →
      g x (wipe σ vs) H' fun σ2 H2 => wipe σ2 vs = wipe σ vs ∧ tt σ2 H2 fun b H3 => if b = true then tk σ2 H3 fun y H4 => tv σ2 H4 fun z H5 => Nx y z H5 else Ex H3)
    (hd : ∀ H ys, Same H1 H → H D = some (.dK ys) → R n H ys → Qd H) :
    ∃ W : Nat → Nat → Hp → Prop, (∃ m, W 0 m (upd H1 D (.dK []))) ∧ ∀ i m H, W i m H →
      (J.stop i H ∧ Qd H) ∨ (J.go i H ∧ ∃ Nx : Hp → Prop, (∀ H', Nx H' → ∃ m', m' < m ∧ W (i + 1) m' H') ∧ ∀ x H', J.yld i H x H' → g x (wipe σ vs) H' fun σ2 H2 => wipe σ2 vs = wipe σ vs ∧ tt σ2 H2 fun b H3 =>
        if b = true then tk σ2 H3 fun y H4 => tv σ2 H4 fun z H5 => ∃ kvs k, y = kV k ∧ H5 D = some (.dK kvs) ∧ kvs.length < sizeLine ∧ Nx (upd H5 D (.dK (putK kvs k z))) else Nx H3) := by
  refine dc_it w (fun i H => Same H1 H ∧ ∃ ys, H D = some (.dK ys) ∧ R i H ys) ⟨Same.new hD _, [], upd_same, r0 _⟩ (fun i H _ h => hG H h.1) ?_ ?_
  · rintro i x H H' hi ⟨s, ys, hy, r⟩ y
    refine hs i x H H' ys (fun y z H5 => ∃ kvs k, y = kV k ∧ H5 D = some (.dK kvs) ∧ kvs.length < sizeLine ∧ (Same H1 (upd H5 D (.dK (putK kvs k z))) ∧ ∃ ys, (upd H5 D (.dK (putK kvs k z))) D = some (.dK ys) ∧ R (i + 1) (upd H5 D (.dK (putK kvs k z))) ys)) _ hi s r y (fun k z H2 s2 r2 => ?_) (fun H2 s2 r2 => ⟨s.trans s2, ys, s2 _ _ hy, r2⟩)
    have h2 := s2 _ _ hy
    exact ⟨ys, k, rfl, h2, smallM (len i H ys r), (s.trans s2).mut hD _, _, upd_same, mono _ _ _ _ ((Keeps.refl H2).mut h2 trivial) r2⟩
  · rintro H ⟨s, ys, hy, r⟩
    exact hd H ys s hy r
section
variable {K : PySem.W.Frag}
theorem Src.keeps {H H' : Hp} {p ce : Addr} (s : Src K ce H p) (b : But p H H') : Keeps H H' := by
  obtain ⟨cs, i, l, m, S⟩ := s
  exact b.keeps S.at_ trivial
theorem Src.same {H H' : Hp} {p ce : Addr} (s : Src K ce H p) (e : Same H H') : Src K ce H' p := by
  obtain ⟨cs, i, l, m, S⟩ := s
  exact ⟨cs, i, l, m, ⟨e.at S.at_, (e.but p).seq S.ne S.cel, S.ne, S.hi, S.hl, S.hc, S.m0, S.m1⟩⟩
theorem Src.here {H : Hp} {p ce : Addr} (s : Src K ce H p) : ∃ o, H p = some o := by
  obtain ⟨cs, i, l, m, S⟩ := s
  exact ⟨_, S.at_⟩
theorem Src.ne {H : Hp} {p l ce : Addr} (s : Src K ce H p) (h : H l = none) : l ≠ p := fun e => by
  obtain ⟨o, q⟩ := s.here
  rw [e, q] at h; cases h
theorem Src.upd {H : Hp} {p ce D : Addr} (s : Src K ce H p) (h1 : D ≠ p) (h2 : D ≠ ce) (o : HO) : Src K ce (upd H D o) p := by
  obtain ⟨cs, i, l, m, S⟩ := s
  exact ⟨cs, i, l, m, ⟨by rw [upd_ne h1.symm]; exact S.at_, ((But.refl D H).upd o).seq h2.symm S.cel, S.ne, S.hi, S.hl, S.hc, S.m0, S.m1⟩⟩
end
theorem nx_run {D : Ends} {σ : L2.St} {H : Hp} (h : D.nx σ H) : tNext D σ H := h
theorem set_run {te : TE} {g : TG} {u : TS} {D : Ends} {σ : L2.St} {H : Hp} (Pv : V → Hp → Prop) (h : ∀ Q' : V → Hp → Prop, (∀ v H', Pv v H' → Q' v H') → te σ H Q') (q : ∀ v H', Pv v H' → g v σ H' (u D)) : tSeq (tAsg te g) u D σ H :=
  h _ fun v H' p => q v H' p
theorem if_run {c : TT} {t u v : TS} {D : Ends} {σ : L2.St} {H : Hp} (Pv : Bool → Hp → Prop) (h : ∀ Q' : Bool → Hp → Prop, (∀ b H', Pv b H' → Q' b H') → c σ H Q')
    (q : ∀ b H', Pv b H' → if b = true then t { D with nx := v D } σ H' else u { D with nx := v D } σ H') : tSeq (tIfS c t u) v D σ H := h _ fun b H' p => q b H' p
theorem val_run {t : TE} {σ : L2.St} {H : Hp} {Q : V → Hp → Prop} (Pv : V → Prop) (h : ∀ Q' : V → Hp → Prop, (∀ v, Pv v → Q' v H) → t σ H Q') (q : ∀ v, Pv v → Q v H) : t σ H Q := h Q q
theorem inV_strs (x : Str) : ∀ xs : List Str, inV (.str x) (xs.map V.str) = decide (x ∈ xs)
  | [] => rfl
  | y :: ys => by
    show ((y == x) || inV (.str x) (ys.map V.str)) = _
    rw [inV_strs x ys]
    by_cases h : y = x
    · subst h; simp
    · have : ¬ x = y := fun e => h e.symm
      simp [h, this]
theorem flat_strs : ∀ xs : List Str, (xs.map V.str).all flatV = true
  | [] => rfl
  | _ :: ys => flat_strs ys
theorem inV_trues : ∀ n : Nat, inV (.bl false) (List.replicate n (V.bl true)) = false
  | 0 => rfl
  | n + 1 => inV_trues n
theorem flat_trues : ∀ n : Nat, (List.replicate n (V.bl true)).all flatV = true
  | 0 => rfl
  | n + 1 => flat_trues n
/-- what is never reached -/
theorem ps_dead {X : Cx} {st : Stmt} : PS X st (fun _ _ _ => False) := ⟨fun _ _ _ _ _ _ h => h.elim⟩
/-- o.f = e: what is known of e's value behind it -/
theorem fld_run {K : PySem.W.Frag} {ta tv : TE} {f : Str} {u : TS} {D : Ends} {σ : L2.St} {H : Hp} (Pv : V → Hp → Prop) (h : ∀ Q' : V → Hp → Prop, (∀ v H', Pv v H' → Q' v H') → tv σ H Q')
    (q : ∀ v H', Pv v H' → ta σ H' fun x H2 => ∃ a C dx fs, x = .ref a ∧ H2 a = some (.ins C dx fs) ∧ Cls K C ∧ NoAttr K C f ∧ fs.length < 1000 ∧ u D σ (upd H2 a (.ins C dx (putF f v fs)))) : tSeq (sFld K ta tv f) u D σ H :=
  h _ fun v H' p => q v H' p
/-! ### what more a law wants of a lattice's class: nothing -/
def LatX (_ : PySem.W.Frag) (_ : Addr) : Prop := True
/-! ### lattices in the heap -/
def downsV (L : Lt) : List V := (List.range L.n).map fun b => V.int (L.down b : Nat)
def upsV (L : Lt) : List V := (List.range L.n).map fun a => V.int (L.up a : Nat)
def latAttrs : List Str := ["label", "size", "depth", "value_names", "downs", "ups", "bottom_at", "top_at"]
/-- a class of lattices, its methods mm -/
structure LatC (K : PySem.W.Frag) (mm : List (Str × Addr)) (C : Addr) : Prop where
  cl : Cls K C
  na : ∀ f ∈ latAttrs, NoAttr K C f
  me : ∀ q ∈ mm, Meth K C q.1 q.2
  lx : LatX K C
structure LatAt (K : PySem.W.Frag) (mm : List (Str × Addr)) (H : Hp) (p : Addr) (L : Lt) (C dx : Addr) (fs : List (Str × V)) (tn td tu : Addr) : Prop where
  at_ : H p = some (.ins C dx fs)
  c : LatC K mm C
  no : ∀ q ∈ mm, fs.lookup q.1 = none
  label : fs.lookup ("label" : Str) = some (.str L.label)
  size : fs.lookup ("size" : Str) = some (.int (L.n : Nat))
  depth : fs.lookup ("depth" : Str) = some (.int (L.depth : Nat))
  names : fs.lookup ("value_names" : Str) = some (.ref tn)
  downs : fs.lookup ("downs" : Str) = some (.ref td)
  ups : fs.lookup ("ups" : Str) = some (.ref tu)
  bot : fs.lookup ("bottom_at" : Str) = some (optV L.bot)
  top : fs.lookup ("top_at" : Str) = some (optV L.top)
  tn : NdT K H tn ∧ SqT K H tn (L.names.map V.str)
  td : NdT K H td ∧ SqT K H td (downsV L)
  tu : NdT K H tu ∧ SqT K H tu (upsV L)
def IsLat (K : PySem.W.Frag) (mm : List (Str × Addr)) (H : Hp) (p : Addr) (L : Lt) : Prop := ∃ C dx fs tn td tu, LatAt K mm H p L C dx fs tn td tu
theorem NdT.keep {K : PySem.W.Frag} {H H' : Hp} {p : Addr} (h : NdT K H p) (k : Keeps H H') : NdT K H' p := by
  rcases h with ⟨o, xs, h, d⟩ | h
  · exact .inl ⟨o, xs, k.frz _ _ _ h, d⟩
  · exact .inr h
theorem LatAt.to {K : PySem.W.Frag} {mm : List (Str × Addr)} {H H' : Hp} {p : Addr} {L : Lt} {C dx : Addr} {fs : List (Str × V)} {tn td tu : Addr} (A : LatAt K mm H p L C dx fs tn td tu) (k : Keeps H H') (e : H' p = some (.ins C dx fs)) : LatAt K mm H' p L C dx fs tn td tu :=
  ⟨e, A.c, A.no, A.label, A.size, A.depth, A.names, A.downs, A.ups, A.bot, A.top, ⟨A.tn.1.keep k, k.sqT A.tn.2⟩, ⟨A.td.1.keep k, k.sqT A.td.2⟩, ⟨A.tu.1.keep k, k.sqT A.tu.2⟩⟩
theorem LatAt.same {K : PySem.W.Frag} {mm : List (Str × Addr)} {H H' : Hp} {p : Addr} {L : Lt} {C dx : Addr} {fs : List (Str × V)} {tn td tu : Addr} (A : LatAt K mm H p L C dx fs tn td tu) (s : Same H H') : LatAt K mm H' p L C dx fs tn td tu := A.to s.keeps (s _ _ A.at_)
theorem IsLat.same {K : PySem.W.Frag} {mm : List (Str × Addr)} {H H' : Hp} {p : Addr} {L : Lt} (h : IsLat K mm H p L) (s : Same H H') : IsLat K mm H' p L := by
  obtain ⟨C, dx, fs, tn, td, tu, A⟩ := h
  exact ⟨C, dx, fs, tn, td, tu, A.same s⟩
/-- all but what stands at q, a list | an instance, is as it was -/
theorem IsLat.but {K : PySem.W.Frag} {mm : List (Str × Addr)} {H H' : Hp} {p q : Addr} {L : Lt} {o : HO} (h : IsLat K mm H p L) (b : But q H H') (hq : H q = some o) (m : Mut (some o)) (ne : p ≠ q) : IsLat K mm H' p L := by
  obtain ⟨C, dx, fs, tn, td, tu, A⟩ := h
  exact ⟨C, dx, fs, tn, td, tu, A.to (b.keeps hq m) (b _ _ ne A.at_)⟩
/-- a draw leaves it -/
theorem IsLat.drawn {K : PySem.W.Frag} {mm : List (Str × Addr)} {H H' : Hp} {p q ce : Addr} {L : Lt} (h : IsLat K mm H p L) (s : Src K ce H q) (b : But q H H') : IsLat K mm H' p L := by
  obtain ⟨cs, i, l, m, S⟩ := s
  refine h.but b S.at_ trivial fun e => ?_
  obtain ⟨C, dx, fs, tn, td, tu, A⟩ := h
  have := A.at_
  rw [e, S.at_] at this
  cases this
theorem flat_ints (l : List Nat) (f : Nat → Nat) : (l.map fun i => V.int (f i : Nat)).all flatV = true := by
  rw [List.all_map]
  exact List.all_eq_true.mpr fun _ _ => rfl
theorem at_map {n i : Nat} {f : Nat → V} (h : i < n) : ((List.range n).map f)[i]? = some (f i) := by
  rw [List.getElem?_map, List.getElem?_range h]; rfl
theorem at_map' {n i : Nat} {f : Nat → V} {x : V} (h : ((List.range n).map f)[i]? = some x) : i < n ∧ x = f i := by
  have hl := (List.getElem?_eq_some_iff.mp h).1
  rw [List.length_map, List.length_range] at hl
  rw [at_map hl] at h
  exact ⟨hl, (Option.some.inj h).symm⟩
theorem eqV_nat (a b : Nat) : eqV (.int (a : Nat)) (.int (b : Nat)) = (a == b) := by
  show ((a : Int) == (b : Int)) = (a == b)
  by_cases h : a = b
  · subst h; simp
  · have : ¬ (a : Int) = (b : Int) := by omega
    rw [beq_eq_false_iff_ne.mpr h, beq_eq_false_iff_ne.mpr this]
theorem inV_map (m n : Nat) (f : Nat → Nat) : inV (.int (m : Nat)) ((List.range n).map fun i => V.int (f i : Nat)) = (first n fun k => f k == m).isSome := by
  cases e : first n fun k => f k == m with
  | none =>
    show List.any _ _ = false
    rw [List.any_map, List.any_eq_false]
    intro i hi
    have := first_none e i (List.mem_range.mp hi)
    simp only [Function.comp, eqV_nat]
    rw [this]; decide
  | some k =>
    obtain ⟨h1, h2, _⟩ := first_some e
    show List.any _ _ = true
    rw [List.any_map, List.any_eq_true]
    exact ⟨k, List.mem_range.mpr h1, by simp only [Function.comp, eqV_nat]; exact h2⟩
theorem dec_bl {p : Prop} [Decidable p] : V.bl (decide p) = V.bl (decide p) := rfl
theorem int_ext {a b : Nat} : decide (V.int (a : Nat) = V.int (b : Nat)) = (a == b) := by
  by_cases h : a = b
  · subst h; simp
  · have : ¬ V.int (a : Nat) = V.int (b : Nat) := fun z => h (by have := V.int.inj z; omega)
    rw [decide_eq_false this, beq_eq_false_iff_ne.mpr h]
theorem dec_int {a b : Int} : decide (V.int a = V.int b) = decide (a = b) := by
  by_cases h : a = b
  · subst h; simp
  · have : ¬ V.int a = V.int b := fun z => h (V.int.inj z)
    rw [decide_eq_false this, decide_eq_false h]
theorem any_first (n : Nat) (p : Nat → Bool) : (List.range n).any p = (first n p).isSome := by
  cases e : first n p with
  | none =>
    rw [List.any_eq_false.mpr fun i hi => by rw [first_none e i (List.mem_range.mp hi)]; decide]
    rfl
  | some k =>
    obtain ⟨h1, h2, _⟩ := first_some e
    rw [List.any_eq_true.mpr ⟨k, List.mem_range.mpr h1, h2⟩]
    rfl
theorem one_shl (i : Nat) : (1 : Int) * 2 ^ ((i : Int)).toNat = ((2 ^ i : Nat) : Int) := by
  rw [Int.one_mul, Int.toNat_natCast, Int.natCast_pow]
  rfl
theorem rg_nat (n : Nat) : rgV 0 (n : Int) = natV (List.range n) := by
  unfold rgV natV
  rw [Int.sub_zero, Int.toNat_natCast]
  refine List.map_congr_left fun i _ => ?_
  rw [Int.zero_add]
theorem natV_append (a b : List Nat) : natV (a ++ b) = natV a ++ natV b := List.map_append
theorem natV_length (a : List Nat) : (natV a).length = a.length := List.length_map _
theorem filter_snoc (p : Nat → Bool) (i : Nat) : (List.range (i + 1)).filter p = (List.range i).filter p ++ if p i then [i] else [] := by
  rw [List.range_succ, List.filter_append]
  cases h : p i <;> simp [List.filter, h]
theorem filter_le (p : Nat → Bool) (i : Nat) : ((List.range i).filter p).length ≤ i := Nat.le_trans (List.length_filter_le _ _) (by rw [List.length_range]; exact Nat.le_refl _)
theorem yfn0 {x : V} {i : Nat} (h : x = (fun i : Nat => V.int (0 + (i : Int))) i) : x = .int (i : Nat) := by
  rw [h]
  show V.int (0 + (i : Int)) = _
  rw [Int.zero_add]
theorem andnot_nat (a b : Nat) : Builtin.bitAnd (a : Int) (Builtin.bitNot (b : Int)) = ((a - (a &&& b) : Nat) : Int) := by
  have hneg : ¬ (0 ≤ Builtin.bitNot (b : Int)) := by show ¬ (0 ≤ -(b : Int) - 1); omega
  have hpos : (0 : Int) ≤ (a : Int) := Int.natCast_nonneg _
  have nn : Builtin.bitNot (Builtin.bitNot (b : Int)) = (b : Int) := by show -(-(b : Int) - 1) - 1 = _; omega
  have le : a &&& b ≤ a := Nat.and_le_left
  have e : Builtin.bitAnd (a : Int) (Builtin.bitNot (b : Int)) = (a : Int) - ((a &&& b : Nat) : Int) := by
    unfold Builtin.bitAnd
    rw [show decide ((0 : Int) ≤ (a : Int)) = true from decide_eq_true hpos, show decide ((0 : Int) ≤ Builtin.bitNot (b : Int)) = false from decide_eq_false hneg]
    show (a : Int) - (((a : Int).toNat &&& (Builtin.bitNot (Builtin.bitNot (b : Int))).toNat : Nat) : Int) = _
    rw [nn]
    rfl
  rw [e]
  omega
/-- a's digits are all in b -/
def part (a b : Nat) : Bool := (a &&& b) == a
theorem part_is (a b : Nat) : decide (V.int (Builtin.bitAnd (a : Int) (Builtin.bitNot (b : Int))) = V.int 0) = part a b := by
  rw [dec_int, andnot_nat]
  unfold part
  have le : a &&& b ≤ a := Nat.and_le_left
  by_cases h : a &&& b = a
  · rw [beq_iff_eq.mpr h, h, Nat.sub_self]; rfl
  · rw [beq_eq_false_iff_ne.mpr h]
    exact decide_eq_false (by omega)
theorem eqV_str' (a b : Str) : eqV (.str a) (.str b) = (a == b) := rfl
theorem nodup_at' {α : Type} {l : List α} (nd : l.Nodup) {i j : Nat} {x : α} (h1 : l[i]? = some x) (h2 : l[j]? = some x) : i = j := by
  obtain ⟨l1, e1⟩ := List.getElem?_eq_some_iff.mp h1
  obtain ⟨l2, e2⟩ := List.getElem?_eq_some_iff.mp h2
  rcases Nat.lt_trichotomy i j with c | c | c
  · exact absurd (e1.trans e2.symm) (List.pairwise_iff_getElem.mp nd i j l1 l2 c)
  · exact c
  · exact absurd (e2.trans e1.symm) (List.pairwise_iff_getElem.mp nd j i l2 l1 c)
/-! ### the plain law: chains and sets; small facts -/
section
theorem empty_app (x : Str) : Str.empty ++ x = x := by
  obtain ⟨a⟩ := x
  show (⟨#[] ++ a⟩ : Str) = ⟨a⟩
  rw [Array.empty_append]
theorem log_small {i : Nat} (h : i < 2 ^ 64) : ((i : Nat) : Int).natAbs.log2 < 1920 := by
  rw [Int.natAbs_natCast]
  rcases Nat.eq_zero_or_pos i with e | e
  · subst e; decide
  · exact Nat.lt_trans ((Nat.log2_lt (by omega)).mpr h) (by decide)
def natS (i : Nat) : Str := Str.ofString (toString ((i : Nat) : Int))
theorem mask_upto {n i : Nat} (h : i < n) : mask n (fun a => decide (a ≤ i)) = 2 ^ (i + 1) - 1 := by
  refine Nat.eq_of_testBit_eq fun j => ?_
  rw [mask_bit, Nat.testBit_two_pow_sub_one]
  by_cases c : j ≤ i
  · have : j < n := by omega
    have c2 : j < i + 1 := by omega
    simp [c, this, c2]
  · have c2 : ¬ j < i + 1 := by omega
    simp [c, c2]
theorem natS_len {i : Nat} (h : i ≤ 100) : (natS i).length ≤ 3 := by
  have q : ∀ j : Fin 101, (natS j.val).length ≤ 3 := by decide +kernel
  exact q ⟨i, by omega⟩
theorem small_line {n : Nat} (h : n ≤ 1000000) : n ≤ sizeLine := Nat.le_trans h (by decide)
def chainL (n : Nat) : Lt := { label := ("(chain " : Str) ++ natS n ++ (")" : Str), names := (List.range n).map natS, le := fun a b => decide (a ≤ b), depth := 1 }
theorem chainL_n (n : Nat) : (chainL n).n = n := by simp [chainL, Lt.n]
/-- one digit of a number, as a text -/
def digS (m k : Nat) : Str := if m.testBit k then ("1" : Str) else ("0" : Str)
theorem digS_is (m k : Nat) : (Str.ofString (toString (Builtin.bitAnd ((m : Int) / 2 ^ k) 1)) : Str) = digS m k := by
  rw [bit_int]
  unfold digS
  cases m.testBit k <;> rfl
theorem digS_log (m k : Nat) : (Builtin.bitAnd ((m : Int) / 2 ^ k) 1).natAbs.log2 < 1920 := by
  rw [bit_int]
  cases m.testBit k <;> decide
theorem digS_len (m k : Nat) : (digS m k).length = 1 := by
  unfold digS
  cases m.testBit k <;> rfl
def setDigs (c m : Nat) : List Str := (List.range c).map fun j => digS m (c - 1 - j)
def setName (c m : Nat) : Str := PySem.Txt.join (("" : Str)) (setDigs c m)
def setsL (c : Nat) : Lt := { label := ("(sets " : Str) ++ natS c ++ (")" : Str), names := (List.range (2 ^ c)).map (setName c), le := fun a b => part a b, depth := 1 }
theorem setsL_n (c : Nat) : (setsL c).n = 2 ^ c := by simp [setsL, Lt.n]
theorem setDigs_sum (c m : Nat) : ((setDigs c m).map (·.length)).sum = c := by
  unfold setDigs
  rw [List.map_map]
  have : ((fun x : Str => x.length) ∘ fun j => digS m (c - 1 - j)) = fun _ => 1 := by funext j; exact digS_len _ _
  rw [this, List.map_const']
  simp
end
/-! ### the plain law: joins and meets, chains and sets -/
namespace Lt
structure Ord (L : Lt) : Prop where
  refl : ∀ a, a < L.n → L.le a a = true
  anti : ∀ a b, a < L.n → b < L.n → L.le a b = true → L.le b a = true → a = b
theorem up_eq (L : Lt) (k : Nat) (p : Nat → Bool) : (L.up k == mask L.n p) = true ↔ ∀ i, i < L.n → L.le k i = p i := by
  rw [beq_iff_eq]; exact mask_eq
theorem down_eq (L : Lt) (k : Nat) (p : Nat → Bool) : (L.down k == mask L.n p) = true ↔ ∀ i, i < L.n → L.le i k = p i := by
  rw [beq_iff_eq]; exact mask_eq
theorem join_eq (L : Lt) (a b : Nat) : L.join a b = first L.n fun k => L.up k == mask L.n fun i => L.le a i && L.le b i := by
  unfold join
  rw [show L.up a &&& L.up b = mask L.n fun i => L.le a i && L.le b i from mask_and _ _ _]
theorem meet_eq (L : Lt) (a b : Nat) : L.meet a b = first L.n fun k => L.down k == mask L.n fun i => L.le i a && L.le i b := by
  unfold meet
  rw [show L.down a &&& L.down b = mask L.n fun i => L.le i a && L.le i b from mask_and _ _ _]
theorem Ord.ups {L : Lt} (o : L.Ord) {p : Nat → Bool} {k : Nat} (hk : k < L.n) (h : ∀ i, i < L.n → L.le k i = p i) : (first L.n fun k => L.up k == mask L.n p) = some k := by
  refine first_is hk ((up_eq L k p).mpr h) fun j hj => Bool.eq_false_iff.mpr fun z => ?_
  have z := (up_eq L j p).mp z
  have hj' : j < L.n := by omega
  have e := o.anti j k hj' hk (by rw [z k hk, ← h k hk]; exact o.refl k hk) (by rw [h j hj', ← z j hj']; exact o.refl j hj')
  omega
theorem Ord.downs {L : Lt} (o : L.Ord) {p : Nat → Bool} {k : Nat} (hk : k < L.n) (h : ∀ i, i < L.n → L.le i k = p i) : (first L.n fun k => L.down k == mask L.n p) = some k := by
  refine first_is hk ((down_eq L k p).mpr h) fun j hj => Bool.eq_false_iff.mpr fun z => ?_
  have z := (down_eq L j p).mp z
  have hj' : j < L.n := by omega
  have e := o.anti j k hj' hk (by rw [h j hj', ← z j hj']; exact o.refl j hj') (by rw [z k hk, ← h k hk]; exact o.refl k hk)
  omega
theorem Ord.join {L : Lt} (o : L.Ord) {a b k : Nat} (hk : k < L.n) (h : ∀ i, i < L.n → L.le k i = (L.le a i && L.le b i)) : L.join a b = some k := by rw [join_eq]; exact o.ups hk h
theorem Ord.meet {L : Lt} (o : L.Ord) {a b k : Nat} (hk : k < L.n) (h : ∀ i, i < L.n → L.le i k = (L.le i a && L.le i b)) : L.meet a b = some k := by rw [meet_eq]; exact o.downs hk h
theorem Ord.bot {L : Lt} (o : L.Ord) {k : Nat} (hk : k < L.n) (h : ∀ i, i < L.n → L.le k i = true) : L.bot = some k := by
  unfold Lt.bot
  rw [← mask_all]
  exact o.ups hk h
theorem Ord.top {L : Lt} (o : L.Ord) {k : Nat} (hk : k < L.n) (h : ∀ i, i < L.n → L.le i k = true) : L.top = some k := by
  unfold Lt.top
  rw [← mask_all]
  exact o.downs hk h
theorem irr_iff (L : Lt) (a : Nat) : L.irr a = true ↔ ∃ k, k < L.n ∧ ∀ i, i < L.n → L.le i k = (L.le i a && !(i == a)) := by
  unfold irr
  rw [List.any_eq_true]
  constructor
  · rintro ⟨k, hk, h⟩
    exact ⟨k, List.mem_range.mp hk, (down_eq L k _).mp h⟩
  · rintro ⟨k, hk, h⟩
    exact ⟨k, List.mem_range.mpr hk, (down_eq L k _).mpr h⟩
end Lt
theorem chain_ord (n : Nat) : (chainL n).Ord := ⟨fun a _ => by simp [chainL], fun a b _ _ h1 h2 => by simp [chainL] at h1 h2; omega⟩
theorem chain_join {n a b : Nat} (ha : a < n) (hb : b < n) : (chainL n).join a b = some (max a b) :=
  (chain_ord n).join (by rw [chainL_n]; omega) fun i _ => by
    show decide (max a b ≤ i) = (decide (a ≤ i) && decide (b ≤ i))
    rw [← Bool.decide_and]
    exact decide_eq_decide.mpr (by omega)
theorem chain_meet {n a b : Nat} (ha : a < n) (hb : b < n) : (chainL n).meet a b = some (min a b) :=
  (chain_ord n).meet (by rw [chainL_n]; omega) fun i _ => by
    show decide (i ≤ min a b) = (decide (i ≤ a) && decide (i ≤ b))
    rw [← Bool.decide_and]
    exact decide_eq_decide.mpr (by omega)
theorem chain_bot {n : Nat} (h : 1 ≤ n) : (chainL n).bot = some 0 := (chain_ord n).bot (by rw [chainL_n]; omega) fun i _ => by simp [chainL]
theorem chain_top {n : Nat} (h : 1 ≤ n) : (chainL n).top = some (n - 1) := (chain_ord n).top (by rw [chainL_n]; omega) fun i hi => by rw [chainL_n] at hi; simp [chainL]; omega
theorem chain_irr {n a : Nat} (ha : a < n) : (chainL n).irr a = decide (1 ≤ a) := by
  rw [Bool.eq_iff_iff, Lt.irr_iff, decide_eq_true_iff]
  rw [chainL_n]
  constructor
  · rintro ⟨k, hk, h⟩
    have := h k hk
    simp [chainL] at this
    omega
  · intro h
    refine ⟨a - 1, by omega, fun i hi => ?_⟩
    show decide (i ≤ a - 1) = (decide (i ≤ a) && !(i == a))
    rw [Bool.eq_iff_iff]
    simp
    omega
theorem range_pos : ∀ n : Nat, (List.range n).filter (fun a => decide (1 ≤ a)) = (List.range (n - 1)).map (· + 1)
  | 0 => rfl
  | 1 => rfl
  | n + 2 => by
    rw [List.range_succ, List.filter_append, range_pos (n + 1)]
    show _ = (List.range (n + 1)).map (· + 1)
    rw [List.range_succ (n := n), List.map_append]
    simp [List.filter]
theorem chain_irrs (n : Nat) : (chainL n).irrs = (List.range (n - 1)).map (· + 1) := by
  unfold Lt.irrs
  rw [chainL_n, ← range_pos]
  refine List.filter_congr fun a ha => ?_
  exact chain_irr (List.mem_range.mp ha)
theorem part_bits {a b : Nat} : part a b = true ↔ ∀ j, a.testBit j = true → b.testBit j = true := by
  unfold part
  rw [beq_iff_eq]
  constructor
  · intro h j hj
    have := congrArg (Nat.testBit · j) h
    simp only [Nat.testBit_and, hj, Bool.true_and] at this
    exact this
  · intro h
    refine Nat.eq_of_testBit_eq fun j => ?_
    rw [Nat.testBit_and]
    cases e : a.testBit j with
    | false => rfl
    | true => rw [h j e]; rfl
theorem part_refl (a : Nat) : part a a = true := part_bits.mpr fun _ h => h
theorem part_anti {a b : Nat} (h1 : part a b = true) (h2 : part b a = true) : a = b := by
  refine Nat.eq_of_testBit_eq fun j => ?_
  rw [Bool.eq_iff_iff]
  exact ⟨part_bits.mp h1 j, part_bits.mp h2 j⟩
theorem part_or (a b i : Nat) : part (a ||| b) i = (part a i && part b i) := by
  rw [Bool.eq_iff_iff, Bool.and_eq_true, part_bits, part_bits, part_bits]
  constructor
  · intro h
    exact ⟨fun j hj => h j (by rw [Nat.testBit_or, hj, Bool.true_or]), fun j hj => h j (by rw [Nat.testBit_or, hj, Bool.or_true])⟩
  · rintro ⟨h1, h2⟩ j hj
    rw [Nat.testBit_or, Bool.or_eq_true] at hj
    exact hj.elim (h1 j) (h2 j)
theorem part_and (a b i : Nat) : part i (a &&& b) = (part i a && part i b) := by
  rw [Bool.eq_iff_iff, Bool.and_eq_true, part_bits, part_bits, part_bits]
  constructor
  · intro h
    exact ⟨fun j hj => by have := h j hj; rw [Nat.testBit_and, Bool.and_eq_true] at this; exact this.1, fun j hj => by have := h j hj; rw [Nat.testBit_and, Bool.and_eq_true] at this; exact this.2⟩
  · rintro ⟨h1, h2⟩ j hj
    rw [Nat.testBit_and, h1 j hj, h2 j hj]; rfl
theorem sets_ord (c : Nat) : (setsL c).Ord := ⟨fun a _ => part_refl a, fun a b _ _ h1 h2 => part_anti h1 h2⟩
theorem sets_join {c a b : Nat} (ha : a < 2 ^ c) (hb : b < 2 ^ c) : (setsL c).join a b = some (a ||| b) :=
  (sets_ord c).join (by rw [setsL_n]; exact Nat.or_lt_two_pow ha hb) fun i _ => part_or a b i
theorem sets_meet {c a b : Nat} (ha : a < 2 ^ c) : (setsL c).meet a b = some (a &&& b) :=
  (sets_ord c).meet (by rw [setsL_n]; exact Nat.lt_of_le_of_lt Nat.and_le_left ha) fun i _ => part_and a b i
theorem sets_bot (c : Nat) : (setsL c).bot = some 0 := (sets_ord c).bot (by rw [setsL_n]; exact Nat.pow_pos (by decide)) fun i _ => part_bits.mpr fun j h => by simp at h
theorem sets_top (c : Nat) : (setsL c).top = some (2 ^ c - 1) := (sets_ord c).top (by rw [setsL_n]; have := Nat.pow_pos (n := c) (show 0 < 2 by decide); omega) fun i hi => by
  rw [setsL_n] at hi
  refine part_bits.mpr fun j h => ?_
  rw [Nat.testBit_two_pow_sub_one]
  refine decide_eq_true (Nat.lt_of_not_le fun z => ?_)
  rw [Nat.testBit_lt_two_pow (Nat.lt_of_lt_of_le hi (Nat.pow_le_pow_right (by decide) z))] at h
  cases h
theorem sets_irrs : ∀ c, c ≤ 6 → (setsL c).irrs = (List.range c).map (2 ^ ·) := by
  have q : ∀ c : Fin 7, (setsL c.val).irrs = (List.range c.val).map (2 ^ ·) := by decide +kernel
  exact fun c h => q ⟨c, by omega⟩
theorem sets_nodup : ∀ c, c ≤ 6 → (setsL c).names.Nodup := by
  have q : ∀ c : Fin 7, (setsL c.val).names.Nodup := by decide +kernel
  exact fun c h => q ⟨c, by omega⟩
theorem chain_nodup {n : Nat} (h : n ≤ 64) : (chainL n).names.Nodup := by
  have q : (chainL 64).names.Nodup := by decide +kernel
  have e : (chainL n).names = (chainL 64).names.take n := by
    show (List.range n).map natS = ((List.range 64).map natS).take n
    rw [← List.map_take, List.take_range, Nat.min_eq_left h]
  rw [e]
  exact q.sublist (List.take_sublist _ _)
section
/-- a statement: what is known behind it -/
theorem st_run {t u : TS} {D : Ends} {σ : L2.St} {H : Hp} (Pv : L2.St → Hp → Prop) (h : ∀ D' : Ends, D'.rt = D.rt → (∀ σ' H', Pv σ' H' → D'.nx σ' H') → t D' σ H) (q : ∀ σ' H', Pv σ' H' → u D σ' H') : tSeq t u D σ H := h _ rfl q
theorem rg_run {te : TE} {g : TG} {tb u : TS} {D : Ends} {σ : L2.St} {H : Hp} (Pv : Int → Hp → Prop) (h : ∀ Q' : V → Hp → Prop, (∀ n H', Pv n H' → Q' (.int n) H') → te σ H Q')
    (q : ∀ n H', Pv n H' → tSeq (tFor (iRng1 (tCons (tC (.int n)) tNil)) g tb) u D σ H') : tSeq (tFor (iRng1 (tCons te tNil)) g tb) u D σ H := h _ fun n H' p => q n H' p
/-- behind a new instance's __init__ -/
theorem made_same {H H' : Hp} {x dx : Addr} {o o2 : HO} (hx : H x = none) (hd : H dx = none) (b : But x (upd (upd H dx o) x o2) H') : Same H H' := fun c u hc => by
  have n1 := ne_of_none hc hx
  have n2 := ne_of_none hc hd
  exact b c u n1 (by rw [upd_ne n1, upd_ne n2]; exact hc)
theorem natV_int (l : List Nat) : natV l = (l.map fun i : Nat => (i : Int)).map V.int := by unfold natV; rw [List.map_map]; rfl
end
theorem str_at' {xs : List Str} {d : Int} (h0 : 0 ≤ d) (h1 : d < xs.length) : ∃ x, x ∈ xs ∧ atI (xs.map V.str) d = some (.str x) := by
  have hl : d.toNat < xs.length := by omega
  refine ⟨xs[d.toNat], List.getElem_mem hl, ?_⟩
  have e : d = (d.toNat : Int) := by omega
  have r : atI (xs.map V.str) (d.toNat : Int) = some (.str xs[d.toNat]) := atI_nat (by rw [List.getElem?_map, List.getElem?_eq_getElem hl]; rfl)
  rw [← e] at r
  exact r
/-! ### list.count of flat items -/
section
open PySem.Spec PyProof.Rows
variable {X : Cx}
theorem countP_eqU {x : V} : ∀ {xs : List V} {us : List Value}, Vals xs us → xs.all flatV = true → us.countP (eqU x) = xs.countP fun y => eqV y x
  | _, _, .nil, _ => rfl
  | y :: xs, u :: us, .cons r t, f => by
    rw [List.all_cons, Bool.and_eq_true] at f
    rw [List.countP_cons, List.countP_cons, countP_eqU t f.2, eqU_of r f.1]
def rCntF (K : PySem.W.Frag) : V → List V → Hp → VK → Prop := fun x xs H Q => ∃ (p : Addr) (ys : List V) (y : V), x = .ref p ∧ xs = [y] ∧ SqL K H p ys ∧ flatV y = true ∧ ys.all flatV = true ∧ Q (.int (ys.countP (fun z => eqV z y) : Nat)) H
theorem mt_countF : MtR X "list.count" (rCntF X.K) := by
  intro pins s σ H x xs v us Q I rx rxs h
  obtain ⟨p, ys, y, rfl, rfl, hs, fy, fys, q⟩ := h
  cases rx
  obtain ⟨uy, rfl, ry⟩ := rxs.one
  obtain ⟨its, rv, ⟨⟨cls, dd, dt, sl⟩, n, ho, hc, hdn, hd⟩, hlen⟩ := I.list hs
  simp only at hc hd
  subst hc hd
  refine call_meets PySem.F.slot_list_count ⟨_, ho, rfl⟩ PySem.F.entry_list_count (PySem.F.args_list_count_2 _ _)
    (SeqAt.list_countAt p its.toArray n dd sl uy (eqU y)) ⟨ho, fun w hw => mem_eqAt ry fy rv fys w (by simpa using hw), ?_⟩
  have ec : its.toArray.toList.countP (eqU y) = ys.countP fun z => eqV z y := countP_eqU rv fys
  refine ⟨.int (ys.countP (fun z => eqV z y) : Nat), H, I.tok _, ⟨s.toks, ?_⟩, q⟩
  show Value.int ((its.toArray.toList.countP (eqU y) : Nat) : Int) s.toks = _
  rw [ec]
theorem kx_mt_countF {X : Cx} (K : PySem.W.Frag) (h : X.K = K := by rfl) : MtR X "list.count" (rCntF K) := h ▸ mt_countF
theorem kx_mt_index {X : Cx} (K : PySem.W.Frag) (h : X.K = K := by rfl) : MtR X "list.index" (rIndex K) := h ▸ mt_index
theorem kx_mt_tindexF {X : Cx} (K : PySem.W.Frag) (h : X.K = K := by rfl) : MtR X "tuple.index" (rTupIx K) := h ▸ mt_tindexF
end
/-! ### the plain law: rows of pairs -/
/-- from a, along at most k pairs, to b -/
def reachK (ps : List (Nat × Nat)) : Nat → Nat → Nat → Bool
  | 0, a, b => a == b
  | k + 1, a, b => reachK ps k a b || ps.any fun q => q.2 == b && reachK ps k a q.1
inductive Reach (ps : List (Nat × Nat)) (a : Nat) : Nat → Prop where
  | here : Reach ps a a
  | step {b c : Nat} : Reach ps a b → (b, c) ∈ ps → Reach ps a c
theorem reachK_sound {ps : List (Nat × Nat)} {a : Nat} : ∀ {k b : Nat}, reachK ps k a b = true → Reach ps a b
  | 0, b, h => by
    have : a = b := by simpa [reachK] using h
    subst this; exact .here
  | k + 1, b, h => by
    rw [reachK, Bool.or_eq_true] at h
    rcases h with h | h
    · exact reachK_sound h
    · obtain ⟨⟨l, u⟩, hq, h2⟩ := List.any_eq_true.mp h
      rw [Bool.and_eq_true] at h2
      have e : u = b := by simpa using h2.1
      subst e
      exact .step (reachK_sound h2.2) hq
/-- what is closed under the pairs holds all that is reached -/
theorem Reach.of_closed {ps : List (Nat × Nat)} {a : Nat} (r : Nat → Prop) (h0 : r a) (hs : ∀ b c, (b, c) ∈ ps → r b → r c) : ∀ {b : Nat}, Reach ps a b → r b
  | _, .here => h0
  | _, .step h m => hs _ _ m (Reach.of_closed r h0 hs h)
theorem Reach.trans {ps : List (Nat × Nat)} {a b : Nat} (h1 : Reach ps a b) : ∀ {c : Nat}, Reach ps b c → Reach ps a c
  | _, .here => h1
  | _, .step h m => .step (Reach.trans h1 h) m
/-- the order of the pairs: closed at k steps -/
theorem reach_iff {ps : List (Nat × Nat)} {n k : Nat} (hp : ∀ q ∈ ps, q.1 < n ∧ q.2 < n) (hc : ∀ a b, a < n → b < n → reachK ps (k + 1) a b = true → reachK ps k a b = true) {a b : Nat} (ha : a < n) : Reach ps a b ↔ reachK ps k a b = true := by
  constructor
  · intro h
    have refl : ∀ j, reachK ps j a a = true := fun j => by
      induction j with
      | zero => simp [reachK]
      | succ j ih => rw [reachK, ih, Bool.true_or]
    refine Reach.of_closed (fun b => reachK ps k a b = true) (refl k) (fun b c m hb => hc a c ha (hp _ m).2 ?_) h
    rw [reachK, Bool.or_eq_true]
    exact .inr (List.any_eq_true.mpr ⟨(b, c), m, by simp [hb]⟩)
  · exact reachK_sound
open Classical in
noncomputable def reachB (ps : List (Nat × Nat)) (a b : Nat) : Bool := decide (Reach ps a b)
open Classical in
theorem reachB_iff {ps : List (Nat × Nat)} {a b : Nat} : reachB ps a b = true ↔ Reach ps a b := by unfold reachB; exact decide_eq_true_iff
/-- the number of marks in rows -/
def marks (n : Nat) (p : Nat → Nat → Bool) : Nat := ((List.range n).map fun b => ((List.range n).filter (p b)).length).sum
theorem sum_le {f g : Nat → Nat} : ∀ {l : List Nat}, (∀ x ∈ l, f x ≤ g x) → (l.map f).sum ≤ (l.map g).sum
  | [], _ => Nat.le_refl _
  | x :: l, h => by
    simp only [List.map_cons, List.sum_cons]
    exact Nat.add_le_add (h x (.head _)) (sum_le fun y hy => h y (.tail _ hy))
theorem sum_lt {f g : Nat → Nat} : ∀ {l : List Nat}, (∀ x ∈ l, f x ≤ g x) → (∃ x ∈ l, f x < g x) → (l.map f).sum < (l.map g).sum
  | [], _, ⟨x, hx, _⟩ => by cases hx
  | x :: l, h, ⟨y, hy, hl⟩ => by
    simp only [List.map_cons, List.sum_cons]
    rcases List.mem_cons.mp hy with e | e
    · subst e
      exact Nat.add_lt_add_of_lt_of_le hl (sum_le fun z hz => h z (.tail _ hz))
    · exact Nat.add_lt_add_of_le_of_lt (h x (.head _)) (sum_lt (fun z hz => h z (.tail _ hz)) ⟨y, e, hl⟩)
theorem filter_len_le {p q : Nat → Bool} : ∀ {l : List Nat}, (∀ x ∈ l, p x = true → q x = true) → (l.filter p).length ≤ (l.filter q).length
  | [], _ => Nat.le_refl _
  | x :: l, h => by
    have ih := filter_len_le (l := l) fun y hy => h y (.tail _ hy)
    have hx := h x (.head _)
    cases e : p x with
    | false =>
      cases e2 : q x <;> simp [List.filter, e, e2] <;> omega
    | true =>
      have e2 := hx e
      simp [List.filter, e, e2]; omega
theorem filter_len_lt {p q : Nat → Bool} : ∀ {l : List Nat}, (∀ x ∈ l, p x = true → q x = true) → (∃ x ∈ l, p x = false ∧ q x = true) → (l.filter p).length < (l.filter q).length
  | [], _, ⟨x, hx, _⟩ => by cases hx
  | x :: l, h, ⟨y, hy, h1, h2⟩ => by
    have hx := h x (.head _)
    have ih := filter_len_le (l := l) fun y hy => h y (.tail _ hy)
    rcases List.mem_cons.mp hy with e | e
    · subst e
      simp [List.filter, h1, h2]; omega
    · have ih2 := filter_len_lt (l := l) (fun z hz => h z (.tail _ hz)) ⟨y, e, h1, h2⟩
      cases e3 : p x with
      | false => cases e4 : q x <;> simp [List.filter, e3, e4] <;> omega
      | true => have e4 := hx e3; simp [List.filter, e3, e4]; omega
theorem marks_lt {n : Nat} {p q : Nat → Nat → Bool} (h : ∀ b a, b < n → a < n → p b a = true → q b a = true) {b a : Nat} (hb : b < n) (ha : a < n) (h1 : p b a = false) (h2 : q b a = true) : marks n p < marks n q := by
  unfold marks
  refine sum_lt (fun x hx => filter_len_le fun y hy => h x y (List.mem_range.mp hx) (List.mem_range.mp hy)) ⟨b, List.mem_range.mpr hb, filter_len_lt (fun y hy => h b y hb (List.mem_range.mp hy)) ⟨a, List.mem_range.mpr ha, h1, h2⟩⟩
theorem sum_rep (m : Nat) : ∀ k, (List.replicate k m).sum = k * m
  | 0 => by simp
  | k + 1 => by rw [List.replicate_succ, List.sum_cons, sum_rep m k, Nat.succ_mul]; omega
theorem marks_le (n : Nat) (p : Nat → Nat → Bool) : marks n p ≤ n * n := by
  unfold marks
  have : ((List.range n).map fun b => ((List.range n).filter (p b)).length).sum ≤ ((List.range n).map fun _ => n).sum := sum_le fun x _ => filter_le _ _
  rw [List.map_const', List.length_range, sum_rep] at this
  exact this
/-! ### the plain law: orders as rows -/
/-- the join by rows: the first upper bound within all upper bounds -/
def rowJ (n : Nat) (R : Nat → Nat → Bool) (a b : Nat) : Option Nat := first n fun c => (R a c && R b c) && (List.range n).all fun d => !(R a d && R b d) || R c d
def rowF (R : Nat → Nat → Bool) : Nat → Nat → Bool := fun a b => R b a
def rowLow (n : Nat) (R : Nat → Nat → Bool) : Option Nat := first n fun a => (List.range n).all fun d => R a d
structure Pre (n : Nat) (R : Nat → Nat → Bool) : Prop where
  refl : ∀ a, a < n → R a a = true
  trans : ∀ a b c, a < n → b < n → c < n → R a b = true → R b c = true → R a c = true
theorem Pre.flip {n : Nat} {R : Nat → Nat → Bool} (h : Pre n R) : Pre n (rowF R) := ⟨h.refl, fun a b c ha hb hc h1 h2 => h.trans c b a hc hb ha h2 h1⟩
theorem Pre.row {n : Nat} {R : Nat → Nat → Bool} (h : Pre n R) {a b k : Nat} (ha : a < n) (hb : b < n) (hk : k < n) : (∀ i, i < n → R k i = (R a i && R b i)) ↔ ((R a k && R b k) && (List.range n).all fun d => !(R a d && R b d) || R k d) = true := by
  rw [Bool.and_eq_true, List.all_eq_true]
  constructor
  · intro q
    refine ⟨by rw [← q k hk]; exact h.refl k hk, fun d hd => ?_⟩
    rw [q d (List.mem_range.mp hd)]
    cases (R a d && R b d) <;> rfl
  · rintro ⟨q1, q2⟩ i hi
    rw [Bool.and_eq_true] at q1
    have := q2 i (List.mem_range.mpr hi)
    rw [Bool.eq_iff_iff]
    constructor
    · intro z
      rw [Bool.and_eq_true]
      exact ⟨h.trans a k i ha hk hi q1.1 z, h.trans b k i hb hk hi q1.2 z⟩
    · intro z
      rw [z] at this
      simpa using this
theorem join_row {L : Lt} (h : Pre L.n L.le) {a b : Nat} (ha : a < L.n) (hb : b < L.n) : L.join a b = rowJ L.n L.le a b := by
  rw [Lt.join_eq]
  refine first_ext fun k hk => ?_
  rw [Bool.eq_iff_iff, Lt.up_eq]
  exact h.row ha hb hk
theorem meet_row {L : Lt} (h : Pre L.n L.le) {a b : Nat} (ha : a < L.n) (hb : b < L.n) : L.meet a b = rowJ L.n (rowF L.le) a b := by
  rw [Lt.meet_eq]
  refine first_ext fun k hk => ?_
  rw [Bool.eq_iff_iff, Lt.down_eq]
  exact h.flip.row ha hb hk
theorem bot_row (L : Lt) : L.bot = rowLow L.n L.le := by
  refine first_ext fun k hk => ?_
  rw [Bool.eq_iff_iff, ← mask_all, Lt.up_eq, List.all_eq_true]
  exact ⟨fun q x hx => q x (List.mem_range.mp hx), fun q x hx => q x (List.mem_range.mpr hx)⟩
theorem top_row (L : Lt) : L.top = rowLow L.n (rowF L.le) := by
  refine first_ext fun k hk => ?_
  rw [Bool.eq_iff_iff, ← mask_all, Lt.down_eq, List.all_eq_true]
  exact ⟨fun q x hx => q x (List.mem_range.mp hx), fun q x hx => q x (List.mem_range.mpr hx)⟩
theorem rowJ_ext {n : Nat} {R S : Nat → Nat → Bool} (h : ∀ a b, a < n → b < n → R a b = S a b) {a b : Nat} (ha : a < n) (hb : b < n) : rowJ n R a b = rowJ n S a b := by
  refine first_ext fun k hk => ?_
  rw [h a k ha hk, h b k hb hk]
  congr 1
  rw [Bool.eq_iff_iff, List.all_eq_true, List.all_eq_true]
  exact ⟨fun q x hx => by have hx' := List.mem_range.mp hx; rw [← h a x ha hx', ← h b x hb hx', ← h k x hk hx']; exact q x hx, fun q x hx => by have hx' := List.mem_range.mp hx; rw [h a x ha hx', h b x hb hx', h k x hk hx']; exact q x hx⟩
theorem rowJ_spec {n : Nat} {R : Nat → Nat → Bool} {a b k : Nat} (h : rowJ n R a b = some k) : k < n ∧ R a k = true ∧ R b k = true ∧ ∀ d, d < n → R a d = true → R b d = true → R k d = true := by
  obtain ⟨h1, h2, _⟩ := first_some h
  rw [Bool.and_eq_true, Bool.and_eq_true, List.all_eq_true] at h2
  refine ⟨h1, h2.1.1, h2.1.2, fun d hd q1 q2 => ?_⟩
  have := h2.2 d (List.mem_range.mpr hd)
  rw [q1, q2] at this
  simpa using this
/-! irreducible values where all joins and the bottom are there -/
/-- a value that is no bottom and no join of two others -/
def rowIrr (n : Nat) (R : Nat → Nat → Bool) (a : Nat) : Bool := !((List.range n).any fun b => !(b == a) && (List.range n).any fun c => !(c == a) && rowJ n R b c == some a) && !(some a == rowLow n R)
theorem irr_row {L : Lt} (o : L.Ord) (h : Pre L.n L.le) {l : Nat} (hl : rowLow L.n L.le = some l) (hj : ∀ a b, a < L.n → b < L.n → ∃ k, rowJ L.n L.le a b = some k) {a : Nat} (ha : a < L.n) : L.irr a = rowIrr L.n L.le a := by
  obtain ⟨l1, l2, _⟩ := first_some hl
  have l2 : ∀ d, d < L.n → L.le l d = true := fun d hd => (List.all_eq_true.mp l2) d (List.mem_range.mpr hd)
  rw [Bool.eq_iff_iff]
  unfold Lt.irr rowIrr
  rw [List.any_eq_true, Bool.and_eq_true, hl]
  constructor
  · rintro ⟨g, hg, q⟩
    have hg := List.mem_range.mp hg
    have q := (Lt.down_eq L g _).mp q
    have ga : L.le g a = true ∧ g ≠ a := by
      have := q g hg
      rw [h.refl g hg] at this
      have := this.symm
      simpa using this
    refine ⟨?_, ?_⟩
    · rw [Bool.not_eq_true', Bool.eq_false_iff]
      intro z
      obtain ⟨b, hb, z⟩ := List.any_eq_true.mp z
      rw [Bool.and_eq_true] at z
      obtain ⟨c, hc, z2⟩ := List.any_eq_true.mp z.2
      rw [Bool.and_eq_true] at z2
      have hb := List.mem_range.mp hb
      have hc := List.mem_range.mp hc
      have e : rowJ L.n L.le b c = some a := by simpa using z2.2
      obtain ⟨_, j1, j2, j3⟩ := rowJ_spec e
      have b1 : L.le b g = true := by rw [q b hb, j1]; simpa using z.1
      have c1 : L.le c g = true := by rw [q c hc, j2]; simpa using z2.1
      exact ga.2 (o.anti g a hg ha ga.1 (j3 g hg b1 c1))
    · rw [Bool.not_eq_true', beq_eq_false_iff_ne]
      intro z
      have z := Option.some.inj z
      rw [← z] at l2
      exact ga.2 (o.anti g a hg ha ga.1 (l2 g hg))
  · rintro ⟨q1, q2⟩
    have ne : a ≠ l := by simpa using q2
    have nm : ∀ b c, b < L.n → c < L.n → b ≠ a → c ≠ a → rowJ L.n L.le b c ≠ some a := fun b c hb hc nb nc e => by
      rw [Bool.not_eq_true', Bool.eq_false_iff] at q1
      refine q1 (List.any_eq_true.mpr ⟨b, List.mem_range.mpr hb, ?_⟩)
      rw [Bool.and_eq_true]
      refine ⟨by simpa using nb, List.any_eq_true.mpr ⟨c, List.mem_range.mpr hc, ?_⟩⟩
      rw [Bool.and_eq_true]
      exact ⟨by simpa using nc, by rw [e]; exact beq_self_eq_true _⟩
    -- the join of all lesser values below m
    have fold : ∀ m, m ≤ L.n → ∃ g, g < L.n ∧ L.le g a = true ∧ g ≠ a ∧ ∀ i, i < m → L.le i a = true → i ≠ a → L.le i g = true := fun m => by
      induction m with
      | zero => exact fun _ => ⟨l, l1, l2 a ha, fun e => ne e.symm, fun i hi => absurd hi (Nat.not_lt_zero _)⟩
      | succ m ih =>
        intro hm
        obtain ⟨g, g1, g2, g3, g4⟩ := ih (by omega)
        by_cases c : L.le m a = true ∧ m ≠ a
        · obtain ⟨k, hk⟩ := hj g m g1 (by omega)
          obtain ⟨k1, k2, k3, k4⟩ := rowJ_spec hk
          refine ⟨k, k1, k4 a ha g2 c.1, fun e => nm g m g1 (by omega) g3 c.2 (by rw [hk, e]), fun i hi hia ne' => ?_⟩
          rcases Nat.lt_or_ge i m with x | x
          · exact h.trans i g k (by omega) g1 k1 (g4 i x hia ne') k2
          · obtain rfl : i = m := by omega
            exact k3
        · refine ⟨g, g1, g2, g3, fun i hi hia ne' => ?_⟩
          rcases Nat.lt_or_ge i m with x | x
          · exact g4 i x hia ne'
          · obtain rfl : i = m := by omega
            exact absurd ⟨hia, ne'⟩ c
    obtain ⟨g, g1, g2, g3, g4⟩ := fold L.n (Nat.le_refl _)
    refine ⟨g, List.mem_range.mpr g1, (Lt.down_eq L g _).mpr fun i hi => ?_⟩
    rw [Bool.eq_iff_iff]
    constructor
    · intro z
      have ia := h.trans i g a hi g1 ha z g2
      rw [ia]
      have : i ≠ a := fun e => by subst e; exact g3 (o.anti g i g1 hi g2 z)
      simpa using this
    · intro z
      rw [Bool.and_eq_true] at z
      exact g4 i hi z.1 (by simpa using z.2)
theorem irrs_row {L : Lt} (o : L.Ord) (h : Pre L.n L.le) {l : Nat} (hl : rowLow L.n L.le = some l) (hj : ∀ a b, a < L.n → b < L.n → ∃ k, rowJ L.n L.le a b = some k) : L.irrs = (List.range L.n).filter (rowIrr L.n L.le) :=
  List.filter_congr fun a ha => irr_row o h hl hj (List.mem_range.mp ha)
/-! the closure of pairs, as _law_closed makes it -/
/-- the rows after c of the outer rounds -/
def closeK (R : Nat → Nat → Bool) : Nat → Nat → Nat → Bool
  | 0 => R
  | c + 1 => fun a b => closeK R c a b || (closeK R c a c && closeK R c c b)
theorem closeK_mono {R : Nat → Nat → Bool} {c a b : Nat} (h : closeK R c a b = true) : closeK R (c + 1) a b = true := by
  show (closeK R c a b || _) = true
  rw [h, Bool.true_or]
theorem closeK_le {R : Nat → Nat → Bool} {a b : Nat} : ∀ {c}, R a b = true → closeK R c a b = true
  | 0, h => h
  | c + 1, h => closeK_mono (closeK_le h)
theorem closeK_trans {R : Nat → Nat → Bool} : ∀ {c k a b : Nat}, k < c → closeK R c a k = true → closeK R c k b = true → closeK R c a b = true
  | 0, k, a, b, hk, _, _ => absurd hk (Nat.not_lt_zero _)
  | c + 1, k, a, b, hk, h1, h2 => by
    have ih := @closeK_trans R c
    have h1 : (closeK R c a k || (closeK R c a c && closeK R c c k)) = true := h1
    have h2 : (closeK R c k b || (closeK R c k c && closeK R c c b)) = true := h2
    show (closeK R c a b || (closeK R c a c && closeK R c c b)) = true
    rw [Bool.or_eq_true, Bool.and_eq_true] at h1 h2 ⊢
    rcases Nat.lt_or_ge k c with x | x
    · rcases h1 with h1 | ⟨h1, h1'⟩ <;> rcases h2 with h2 | ⟨h2, h2'⟩
      · exact .inl (ih x h1 h2)
      · exact .inr ⟨ih x h1 h2, h2'⟩
      · exact .inr ⟨h1, ih x h1' h2⟩
      · exact .inr ⟨h1, h2'⟩
    · obtain rfl : k = c := by omega
      rcases h1 with h1 | ⟨h1, h1'⟩ <;> rcases h2 with h2 | ⟨h2, h2'⟩
      · exact .inr ⟨h1, h2⟩
      · exact .inr ⟨h1, h2'⟩
      · exact .inr ⟨h1, h2⟩
      · exact .inr ⟨h1, h2'⟩
/-- the rows of pairs -/
def rowsOf (ps : List (Nat × Nat)) : Nat → Nat → Bool := fun a b => a == b || ps.contains (a, b)
def closedR (n : Nat) (ps : List (Nat × Nat)) : Nat → Nat → Bool := closeK (rowsOf ps) n
theorem closed_reach {n : Nat} {ps : List (Nat × Nat)} (hp : ∀ q ∈ ps, q.1 < n ∧ q.2 < n) {a b : Nat} : closedR n ps a b = true ↔ Reach ps a b := by
  constructor
  · have : ∀ c a b, closeK (rowsOf ps) c a b = true → Reach ps a b := fun c => by
      induction c with
      | zero =>
        intro a b h
        have h : (a == b || ps.contains (a, b)) = true := h
        rw [Bool.or_eq_true] at h
        rcases h with h | h
        · obtain rfl : a = b := by simpa using h
          exact .here
        · exact .step .here (by simpa using h)
      | succ c ih =>
        intro a b h
        have h : (closeK (rowsOf ps) c a b || (closeK (rowsOf ps) c a c && closeK (rowsOf ps) c c b)) = true := h
        rw [Bool.or_eq_true, Bool.and_eq_true] at h
        rcases h with h | ⟨h1, h2⟩
        · exact ih a b h
        · exact (ih a c h1).trans (ih c b h2)
    exact this n a b
  · intro h
    refine Reach.of_closed (fun b => closedR n ps a b = true) (closeK_le (show (a == a || _) = true by rw [beq_self_eq_true, Bool.true_or])) (fun b c m hb => ?_) h
    refine closeK_trans (k := b) (hp _ m).1 hb (closeK_le ?_)
    show (b == c || ps.contains (b, c)) = true
    rw [Bool.or_eq_true]
    exact .inr (by simpa using m)
theorem closed_pre {n : Nat} {ps : List (Nat × Nat)} (hp : ∀ q ∈ ps, q.1 < n ∧ q.2 < n) : Pre n (closedR n ps) :=
  ⟨fun a _ => (closed_reach hp).mpr .here, fun a b c _ _ _ h1 h2 => (closed_reach hp).mpr (((closed_reach hp).mp h1).trans ((closed_reach hp).mp h2))⟩
/-- one outer round, in place: what has been gone over is as the next round's rows -/
theorem closeK_col {R : Nat → Nat → Bool} {c a : Nat} : closeK R (c + 1) a c = closeK R c a c := by
  show (closeK R c a c || (closeK R c a c && closeK R c c c)) = _
  cases closeK R c a c <;> simp
theorem closeK_row {R : Nat → Nat → Bool} {c b : Nat} : closeK R (c + 1) c b = closeK R c c b := by
  show (closeK R c c b || (closeK R c c c && closeK R c c b)) = _
  cases closeK R c c b <;> cases closeK R c c c <;> rfl
/-! ### comprehensions of two fors -/
section
theorem lc2_it {J : It} {n : Nat} {G : Hp → Prop} {Y : Nat → Hp → V → Hp → Prop} (w : Walk J n G Y) {g : TG} {tt : TT} {vs : List Nat} {σ : L2.St} {H1 : Hp} {D : Addr} {Qd : Hp → Prop} {In : L2.St → Hp → (Hp → Prop) → Prop} (Pv : Nat → Hp → Prop) (h0 : Pv 0 (upd H1 D (.lst [])))
    (hG : ∀ i H, i ≤ n → Pv i H → G H)
    (hs : ∀ i x H H', i < n → Pv i H → Y i H x H' → g x (wipe σ vs) H' fun σ2 H2 => wipe σ2 vs = wipe σ vs ∧ tt σ2 H2 fun b H3 => if b = true then In σ2 H3 (Pv (i + 1)) else Pv (i + 1) H3) (hd : ∀ H, Pv n H → Qd H) :
    ∃ W : Nat → Nat → Hp → Prop, (∃ m, W 0 m (upd H1 D (.lst []))) ∧ ∀ i m H, W i m H →
      (J.stop i H ∧ Qd H) ∨ (J.go i H ∧ ∃ Nx : Hp → Prop, (∀ H', Nx H' → ∃ m', m' < m ∧ W (i + 1) m' H') ∧ ∀ x H', J.yld i H x H' → g x (wipe σ vs) H' fun σ2 H2 => wipe σ2 vs = wipe σ vs ∧ tt σ2 H2 fun b H3 => if b = true then In σ2 H3 Nx else Nx H3) := by
  refine ⟨fun i m H => m = n - i ∧ i ≤ n ∧ Pv i H, ⟨n, rfl, Nat.zero_le _, h0⟩, fun i m H ⟨em, hi, p⟩ => ?_⟩
  subst em
  have q := hG i H hi p
  rcases Nat.lt_or_ge i n with hlt | hge
  · exact .inr ⟨w.goes i H hlt q, Pv (i + 1), fun H' p' => ⟨n - (i + 1), by omega, rfl, hlt, p'⟩, fun x H' y => hs i x H H' hlt p (w.yields i H x H' hlt q y)⟩
  · have e : i = n := by omega
    subst e
    exact .inl ⟨w.stops H q, hd H p⟩
theorem in_fold {J : It} {n : Nat} {G : Hp → Prop} {Y : Nat → Hp → V → Hp → Prop} (w : Walk J n G Y) {g : TG} {tt : TT} {te : TE} {vs : List Nat} {σ : L2.St} {H1 : Hp} {D : Addr} {Qd : Hp → Prop} (Pv : Nat → Hp → Prop) (h0 : Pv 0 H1) (hG : ∀ i H, i ≤ n → Pv i H → G H)
    (hs : ∀ i x H H', i < n → Pv i H → Y i H x H' → g x (wipe σ vs) H' fun σ2 H2 => wipe σ2 vs = wipe σ vs ∧ tt σ2 H2 fun b H3 => if b = true then te σ2 H3 fun y H4 => ∃ acc, H4 D = some (.lst acc) ∧ acc.length < sizeLine ∧ Pv (i + 1) (upd H4 D (.lst (acc ++ [y]))) else Pv (i + 1) H3)
    (hd : ∀ H, Pv n H → Qd H) :
    ∃ W : Nat → Nat → Hp → Prop, (∃ m, W 0 m H1) ∧ ∀ i m H, W i m H →
      (J.stop i H ∧ Qd H) ∨ (J.go i H ∧ ∃ Nx : Hp → Prop, (∀ H', Nx H' → ∃ m', m' < m ∧ W (i + 1) m' H') ∧ ∀ x H', J.yld i H x H' → g x (wipe σ vs) H' fun σ2 H2 => wipe σ2 vs = wipe σ vs ∧ tt σ2 H2 fun b H3 =>
        if b = true then te σ2 H3 fun y H4 => ∃ acc, H4 D = some (.lst acc) ∧ acc.length < sizeLine ∧ Nx (upd H4 D (.lst (acc ++ [y]))) else Nx H3) := by
  refine ⟨fun i m H => m = n - i ∧ i ≤ n ∧ Pv i H, ⟨n, rfl, Nat.zero_le _, h0⟩, fun i m H ⟨em, hi, p⟩ => ?_⟩
  subst em
  have q := hG i H hi p
  rcases Nat.lt_or_ge i n with hlt | hge
  · exact .inr ⟨w.goes i H hlt q, Pv (i + 1), fun H' p' => ⟨n - (i + 1), by omega, rfl, hlt, p'⟩, fun x H' y => hs i x H H' hlt p (w.yields i H x H' hlt q y)⟩
  · have e : i = n := by omega
    subst e
    exact .inl ⟨w.stops H q, hd H p⟩
end
def topS (i : Nat) : Stmt := PySem.Challenge.pw_latticewish_k07_first_fault.main.body.getD i (.Pass ⟨0, 0, 0, 0⟩)
abbrev St_order_broken : Stmt := topS 2
abbrev N_order_broken : List Str := ["lattice", "a", "b"]
theorem sc_order_broken : FnScope N_order_broken ["lattice", "a", "b"] (defScope St_order_broken) := ⟨rfl, rfl, rfl, by decide +kernel, rfl, by decide +kernel, by decide +kernel⟩
abbrev St_join_broken : Stmt := topS 3
abbrev N_join_broken : List Str := ["lattice", "a", "b"]
theorem sc_join_broken : FnScope N_join_broken ["lattice", "a", "b"] (defScope St_join_broken) := ⟨rfl, rfl, rfl, by decide +kernel, rfl, by decide +kernel, by decide +kernel⟩
abbrev St_meet_broken : Stmt := topS 4
abbrev N_meet_broken : List Str := ["lattice", "a", "b"]
theorem sc_meet_broken : FnScope N_meet_broken ["lattice", "a", "b"] (defScope St_meet_broken) := ⟨rfl, rfl, rfl, by decide +kernel, rfl, by decide +kernel, by decide +kernel⟩
abbrev St_spread_broken : Stmt := topS 5
abbrev N_spread_broken : List Str := ["lattice", "a", "b", "c", "whole"]
theorem sc_spread_broken : FnScope N_spread_broken ["lattice", "a", "b", "c"] (defScope St_spread_broken) := ⟨rfl, rfl, rfl, by decide +kernel, rfl, by decide +kernel, by decide +kernel⟩
abbrev St_first_fault : Stmt := topS 6
abbrev N_first_fault : List Str := ["lattice", "places", "word", "broken", "a", "b", "c"]
theorem sc_first_fault : FnScope N_first_fault ["lattice"] (defScope St_first_fault) := ⟨rfl, rfl, rfl, by decide +kernel, rfl, by decide +kernel, by decide +kernel⟩
abbrev St_first_place : Stmt := topS 14
abbrev N_first_place : List Str := ["sets", "wanted"]
theorem sc_first_place : FnScope N_first_place ["sets", "wanted"] (defScope St_first_place) := ⟨rfl, rfl, rfl, by decide +kernel, rfl, by decide +kernel, by decide +kernel⟩
abbrev St_closed_downs : Stmt := topS 15
abbrev N_closed_downs : List Str := ["names", "pairs", "lower", "upper", "downs", "place", "changed", "grown"]
theorem sc_closed_downs : FnScope N_closed_downs ["names", "pairs"] (defScope St_closed_downs) := ⟨rfl, rfl, rfl, by decide +kernel, rfl, by decide +kernel, by decide +kernel⟩
abbrev St_check_names : Stmt := topS 16
abbrev N_check_names : List Str := ["names", "most", "name", "letter"]
theorem sc_check_names : FnScope N_check_names ["names", "most"] (defScope St_check_names) := ⟨rfl, rfl, rfl, by decide +kernel, rfl, by decide +kernel, by decide +kernel⟩
abbrev St_pair_words : Stmt := topS 17
abbrev N_pair_words : List Str := ["pairs", "lower", "upper"]
theorem sc_pair_words : FnScope N_pair_words ["pairs"] (defScope St_pair_words) := ⟨rfl, rfl, rfl, by decide +kernel, rfl, by decide +kernel, by decide +kernel⟩
abbrev St_checked_depth : Stmt := topS 21
abbrev N_checked_depth : List Str := ["size", "lattices", "depth", "lattice"]
theorem sc_checked_depth : FnScope N_checked_depth ["size", "lattices"] (defScope St_checked_depth) := ⟨rfl, rfl, rfl, by decide +kernel, rfl, by decide +kernel, by decide +kernel⟩
abbrev St__law_cells : Stmt := topS 27
abbrev N__law_cells : List Str := ["script", "mixed", "cell"]
theorem sc__law_cells : FnScope N__law_cells ["script"] (defScope St__law_cells) := ⟨rfl, rfl, rfl, by decide +kernel, rfl, by decide +kernel, by decide +kernel⟩
abbrev St__law_pick : Stmt := topS 28
abbrev N__law_pick : List Str := ["source", "many", "digit", "number"]
theorem sc__law_pick : FnScope N__law_pick ["source", "many"] (defScope St__law_pick) := ⟨rfl, rfl, rfl, by decide +kernel, rfl, by decide +kernel, by decide +kernel⟩
abbrev St__law_like : Stmt := topS 29
abbrev N__law_like : List Str := ["found", "due", "pair", "k"]
theorem sc__law_like : FnScope N__law_like ["found", "due"] (defScope St__law_like) := ⟨rfl, rfl, rfl, by decide +kernel, rfl, by decide +kernel, by decide +kernel⟩
abbrev St__law_closed : Stmt := topS 30
abbrev N__law_closed : List Str := ["many", "pairs", "rows", "b", "a", "pair", "c"]
theorem sc__law_closed : FnScope N__law_closed ["many", "pairs"] (defScope St__law_closed) := ⟨rfl, rfl, rfl, by decide +kernel, rfl, by decide +kernel, by decide +kernel⟩
abbrev St__law_join : Stmt := topS 31
abbrev N__law_join : List Str := ["rows", "a", "b", "uppers", "c", "d"]
theorem sc__law_join : FnScope N__law_join ["rows", "a", "b"] (defScope St__law_join) := ⟨rfl, rfl, rfl, by decide +kernel, rfl, by decide +kernel, by decide +kernel⟩
abbrev St__law_flipped : Stmt := topS 32
abbrev N__law_flipped : List Str := ["rows", "b", "a"]
theorem sc__law_flipped : FnScope N__law_flipped ["rows"] (defScope St__law_flipped) := ⟨rfl, rfl, rfl, by decide +kernel, rfl, by decide +kernel, by decide +kernel⟩
abbrev St__law_table : Stmt := topS 33
abbrev N__law_table : List Str := ["rows", "b", "a"]
theorem sc__law_table : FnScope N__law_table ["rows"] (defScope St__law_table) := ⟨rfl, rfl, rfl, by decide +kernel, rfl, by decide +kernel, by decide +kernel⟩
abbrev St__law_heaps : Stmt := topS 34
abbrev N__law_heaps : List Str := ["source", "most", "many", "pairs", "b", "a", "order", "heaps", "number", "members", "fine", "lacks"]
theorem sc__law_heaps : FnScope N__law_heaps ["source", "most"] (defScope St__law_heaps) := ⟨rfl, rfl, rfl, by decide +kernel, rfl, by decide +kernel, by decide +kernel⟩
abbrev St__law_parts : Stmt := topS 35
abbrev N__law_parts : List Str := ["heaps", "b", "a"]
theorem sc__law_parts : FnScope N__law_parts ["heaps"] (defScope St__law_parts) := ⟨rfl, rfl, rfl, by decide +kernel, rfl, by decide +kernel, by decide +kernel⟩
abbrev St__law_fault : Stmt := topS 36
abbrev N__law_fault : List Str := ["rows", "names", "many", "joins", "meets", "word", "a", "b", "fails", "c", "whole"]
theorem sc__law_fault : FnScope N__law_fault ["rows", "names"] (defScope St__law_fault) := ⟨rfl, rfl, rfl, by decide +kernel, rfl, by decide +kernel, by decide +kernel⟩
abbrev St__law_order : Stmt := topS 37
abbrev N__law_order : List Str := ["state", "way", "many", "upwards", "pairs", "k", "pair", "diamond", "more", "rows", "a", "uppers", "b"]
theorem sc__law_order : FnScope N__law_order ["state"] (defScope St__law_order) := ⟨rfl, rfl, rfl, by decide +kernel, rfl, by decide +kernel, by decide +kernel⟩
abbrev St_law : Stmt := topS 38
abbrev N_law : List Str := ["script", "state", "rows", "many", "shift", "spots", "k", "b", "a", "names", "pairs", "lattice", "behind", "two", "half", "x", "y", "words", "halves", "due"]
theorem sc_law : FnScope N_law ["script"] (defScope St_law) := ⟨rfl, rfl, rfl, by decide +kernel, rfl, by decide +kernel, by decide +kernel⟩
abbrev St_Lattice_init : Stmt := inClass (topS 13) 0
abbrev N_Lattice_init : List Str := ["self", "label", "names", "downs", "depth", "places", "b", "a", "whole"]
theorem sc_Lattice_init : FnScope N_Lattice_init ["self", "label", "names", "downs", "depth"] (defScope St_Lattice_init) := ⟨rfl, rfl, rfl, by decide +kernel, rfl, by decide +kernel, by decide +kernel⟩
abbrev St_Lattice_within_at : Stmt := inClass (topS 13) 1
abbrev N_Lattice_within_at : List Str := ["self", "first", "second"]
theorem sc_Lattice_within_at : FnScope N_Lattice_within_at ["self", "first", "second"] (defScope St_Lattice_within_at) := ⟨rfl, rfl, rfl, by decide +kernel, rfl, by decide +kernel, by decide +kernel⟩
abbrev St_Lattice_join_at : Stmt := inClass (topS 13) 2
abbrev N_Lattice_join_at : List Str := ["self", "first", "second"]
theorem sc_Lattice_join_at : FnScope N_Lattice_join_at ["self", "first", "second"] (defScope St_Lattice_join_at) := ⟨rfl, rfl, rfl, by decide +kernel, rfl, by decide +kernel, by decide +kernel⟩
abbrev St_Lattice_meet_at : Stmt := inClass (topS 13) 3
abbrev N_Lattice_meet_at : List Str := ["self", "first", "second"]
theorem sc_Lattice_meet_at : FnScope N_Lattice_meet_at ["self", "first", "second"] (defScope St_Lattice_meet_at) := ⟨rfl, rfl, rfl, by decide +kernel, rfl, by decide +kernel, by decide +kernel⟩
abbrev St_Lattice_name_at : Stmt := inClass (topS 13) 4
abbrev N_Lattice_name_at : List Str := ["self", "place"]
theorem sc_Lattice_name_at : FnScope N_Lattice_name_at ["self", "place"] (defScope St_Lattice_name_at) := ⟨rfl, rfl, rfl, by decide +kernel, rfl, by decide +kernel, by decide +kernel⟩
abbrev St_OrderLattice_init : Stmt := inClass (topS 18) 0
abbrev N_OrderLattice_init : List Str := ["self", "names", "pairs", "downs"]
theorem sc_OrderLattice_init : FnScopeK N_OrderLattice_init ["self", "names", "pairs"] (defScope St_OrderLattice_init) := ⟨rfl, rfl, rfl, by decide +kernel, rfl, by decide +kernel, by decide +kernel, by decide +kernel⟩
abbrev St_PairLattice_init : Stmt := inClass (topS 22) 0
abbrev N_PairLattice_init : List Str := ["self", "left", "right", "depth", "pairs", "a", "b", "names", "downs", "upper"]
theorem sc_PairLattice_init : FnScopeK N_PairLattice_init ["self", "left", "right"] (defScope St_PairLattice_init) := ⟨rfl, rfl, rfl, by decide +kernel, rfl, by decide +kernel, by decide +kernel, by decide +kernel⟩
abbrev St_PairLattice_pairs_within : Stmt := inClass (topS 22) 1
abbrev N_PairLattice_pairs_within : List Str := ["self", "pairs", "upper", "found", "place", "lower"]
theorem sc_PairLattice_pairs_within : FnScope N_PairLattice_pairs_within ["self", "pairs", "upper"] (defScope St_PairLattice_pairs_within) := ⟨rfl, rfl, rfl, by decide +kernel, rfl, by decide +kernel, by decide +kernel⟩
abbrev St_TurnedLattice_init : Stmt := inClass (topS 23) 0
abbrev N_TurnedLattice_init : List Str := ["self", "inner", "depth", "names", "place"]
theorem sc_TurnedLattice_init : FnScopeK N_TurnedLattice_init ["self", "inner"] (defScope St_TurnedLattice_init) := ⟨rfl, rfl, rfl, by decide +kernel, rfl, by decide +kernel, by decide +kernel, by decide +kernel⟩
abbrev St_ChainLattice_init : Stmt := inClass (topS 25) 0
abbrev N_ChainLattice_init : List Str := ["self", "count", "names", "number"]
theorem sc_ChainLattice_init : FnScopeK N_ChainLattice_init ["self", "count"] (defScope St_ChainLattice_init) := ⟨rfl, rfl, rfl, by decide +kernel, rfl, by decide +kernel, by decide +kernel, by decide +kernel⟩
abbrev PL : Program := PySem.Challenge.pw_latticewish_k07_first_fault
structure Tx (K : PySem.W.Frag) (mg : Str → Option Value) (W_ : World) where
  n_abs : mg "abs" = none
  n_any : mg "any" = none
  n_bool : mg "bool" = none
  n_dict : mg "dict" = none
  n_enumerate : mg "enumerate" = none
  n_int : mg "int" = none
  n_isinstance : mg "isinstance" = none
  n_len : mg "len" = none
  n_list : mg "list" = none
  n_max : mg "max" = none
  n_min : mg "min" = none
  n_range : mg "range" = none
  n_str : mg "str" = none
  n_sum : mg "sum" = none
  n_super : mg "super" = none
  n_tuple : mg "tuple" = none
  a_order_broken : Addr
  d_order_broken : FuncData
  F_order_broken : Fun K "order_broken" "order_broken" St_order_broken a_order_broken d_order_broken
  b_order_broken : Binds K d_order_broken ["lattice", "a", "b"] []
  g_order_broken : mg "order_broken" = some (.ref a_order_broken)
  a_join_broken : Addr
  d_join_broken : FuncData
  F_join_broken : Fun K "join_broken" "join_broken" St_join_broken a_join_broken d_join_broken
  b_join_broken : Binds K d_join_broken ["lattice", "a", "b"] []
  g_join_broken : mg "join_broken" = some (.ref a_join_broken)
  a_meet_broken : Addr
  d_meet_broken : FuncData
  F_meet_broken : Fun K "meet_broken" "meet_broken" St_meet_broken a_meet_broken d_meet_broken
  b_meet_broken : Binds K d_meet_broken ["lattice", "a", "b"] []
  g_meet_broken : mg "meet_broken" = some (.ref a_meet_broken)
  a_spread_broken : Addr
  d_spread_broken : FuncData
  F_spread_broken : Fun K "spread_broken" "spread_broken" St_spread_broken a_spread_broken d_spread_broken
  b_spread_broken : Binds K d_spread_broken ["lattice", "a", "b", "c"] []
  g_spread_broken : mg "spread_broken" = some (.ref a_spread_broken)
  a_first_fault : Addr
  d_first_fault : FuncData
  F_first_fault : Fun K "first_fault" "first_fault" St_first_fault a_first_fault d_first_fault
  b_first_fault : Binds K d_first_fault ["lattice"] []
  g_first_fault : mg "first_fault" = some (.ref a_first_fault)
  a_first_place : Addr
  d_first_place : FuncData
  F_first_place : Fun K "first_place" "first_place" St_first_place a_first_place d_first_place
  b_first_place : Binds K d_first_place ["sets", "wanted"] []
  g_first_place : mg "first_place" = some (.ref a_first_place)
  a_closed_downs : Addr
  d_closed_downs : FuncData
  F_closed_downs : Fun K "closed_downs" "closed_downs" St_closed_downs a_closed_downs d_closed_downs
  b_closed_downs : Binds K d_closed_downs ["names", "pairs"] []
  g_closed_downs : mg "closed_downs" = some (.ref a_closed_downs)
  a_check_names : Addr
  d_check_names : FuncData
  F_check_names : Fun K "check_names" "check_names" St_check_names a_check_names d_check_names
  b_check_names : Binds K d_check_names ["names", "most"] []
  g_check_names : mg "check_names" = some (.ref a_check_names)
  a_pair_words : Addr
  d_pair_words : FuncData
  F_pair_words : Fun K "pair_words" "pair_words" St_pair_words a_pair_words d_pair_words
  b_pair_words : Binds K d_pair_words ["pairs"] []
  g_pair_words : mg "pair_words" = some (.ref a_pair_words)
  a_checked_depth : Addr
  d_checked_depth : FuncData
  F_checked_depth : Fun K "checked_depth" "checked_depth" St_checked_depth a_checked_depth d_checked_depth
  b_checked_depth : Binds K d_checked_depth ["size", "lattices"] []
  g_checked_depth : mg "checked_depth" = some (.ref a_checked_depth)
  a__law_cells : Addr
  d__law_cells : FuncData
  F__law_cells : Fun K "_law_cells" "_law_cells" St__law_cells a__law_cells d__law_cells
  b__law_cells : Binds K d__law_cells ["script"] []
  g__law_cells : mg "_law_cells" = some (.ref a__law_cells)
  a__law_pick : Addr
  d__law_pick : FuncData
  F__law_pick : Fun K "_law_pick" "_law_pick" St__law_pick a__law_pick d__law_pick
  b__law_pick : Binds K d__law_pick ["source", "many"] []
  g__law_pick : mg "_law_pick" = some (.ref a__law_pick)
  a__law_like : Addr
  d__law_like : FuncData
  F__law_like : Fun K "_law_like" "_law_like" St__law_like a__law_like d__law_like
  b__law_like : Binds K d__law_like ["found", "due"] []
  g__law_like : mg "_law_like" = some (.ref a__law_like)
  a__law_closed : Addr
  d__law_closed : FuncData
  F__law_closed : Fun K "_law_closed" "_law_closed" St__law_closed a__law_closed d__law_closed
  b__law_closed : Binds K d__law_closed ["many", "pairs"] []
  g__law_closed : mg "_law_closed" = some (.ref a__law_closed)
  a__law_join : Addr
  d__law_join : FuncData
  F__law_join : Fun K "_law_join" "_law_join" St__law_join a__law_join d__law_join
  b__law_join : Binds K d__law_join ["rows", "a", "b"] []
  g__law_join : mg "_law_join" = some (.ref a__law_join)
  a__law_flipped : Addr
  d__law_flipped : FuncData
  F__law_flipped : Fun K "_law_flipped" "_law_flipped" St__law_flipped a__law_flipped d__law_flipped
  b__law_flipped : Binds K d__law_flipped ["rows"] []
  g__law_flipped : mg "_law_flipped" = some (.ref a__law_flipped)
  a__law_table : Addr
  d__law_table : FuncData
  F__law_table : Fun K "_law_table" "_law_table" St__law_table a__law_table d__law_table
  b__law_table : Binds K d__law_table ["rows"] []
  g__law_table : mg "_law_table" = some (.ref a__law_table)
  a__law_heaps : Addr
  d__law_heaps : FuncData
  F__law_heaps : Fun K "_law_heaps" "_law_heaps" St__law_heaps a__law_heaps d__law_heaps
  b__law_heaps : Binds K d__law_heaps ["source", "most"] []
  g__law_heaps : mg "_law_heaps" = some (.ref a__law_heaps)
  a__law_parts : Addr
  d__law_parts : FuncData
  F__law_parts : Fun K "_law_parts" "_law_parts" St__law_parts a__law_parts d__law_parts
  b__law_parts : Binds K d__law_parts ["heaps"] []
  g__law_parts : mg "_law_parts" = some (.ref a__law_parts)
  a__law_fault : Addr
  d__law_fault : FuncData
  F__law_fault : Fun K "_law_fault" "_law_fault" St__law_fault a__law_fault d__law_fault
  b__law_fault : Binds K d__law_fault ["rows", "names"] []
  g__law_fault : mg "_law_fault" = some (.ref a__law_fault)
  a__law_order : Addr
  d__law_order : FuncData
  F__law_order : Fun K "_law_order" "_law_order" St__law_order a__law_order d__law_order
  b__law_order : Binds K d__law_order ["state"] []
  g__law_order : mg "_law_order" = some (.ref a__law_order)
  a_law : Addr
  d_law : FuncData
  F_law : Fun K "law" "law" St_law a_law d_law
  b_law : Binds K d_law ["script"] []
  g_law : mg "law" = some (.ref a_law)
  g_MOST_VALUES : ∃ u, mg "MOST_VALUES" = some (.int 64 u)
  g_LETTERS : ∃ u, mg "LETTERS" = some (.str "abcdefghijklmnopqrstuvwxyz0123456789" u)
  g_DEEPEST : ∃ u, mg "DEEPEST" = some (.int 10 u)
  a_Lattice : Addr
  g_Lattice : mg "Lattice" = some (.ref a_Lattice)
  c_Lattice : Cls K a_Lattice
  n_Lattice_label : NoAttr K a_Lattice "label"
  n_Lattice_size : NoAttr K a_Lattice "size"
  n_Lattice_depth : NoAttr K a_Lattice "depth"
  n_Lattice_value_names : NoAttr K a_Lattice "value_names"
  n_Lattice_downs : NoAttr K a_Lattice "downs"
  n_Lattice_ups : NoAttr K a_Lattice "ups"
  n_Lattice_bottom_at : NoAttr K a_Lattice "bottom_at"
  n_Lattice_top_at : NoAttr K a_Lattice "top_at"
  a_Lattice_init : Addr
  d_Lattice_init : FuncData
  t_Lattice_init : Addr
  F_Lattice_init : FunD K "__init__" "Lattice.__init__" St_Lattice_init a_Lattice_init d_Lattice_init t_Lattice_init
  dd_Lattice_init : ∃ n u0, K.lookup t_Lattice_init = some (⟨.type "tuple", none, .seq #[.int 1 u0] n, #[]⟩ : Obj)
  b4_Lattice_init : ∃ u0, Binds K d_Lattice_init ["self", "label", "names", "downs", "depth"] [.int 1 u0]
  b5_Lattice_init : Binds K d_Lattice_init ["self", "label", "names", "downs", "depth"] []
  M_Lattice : Mk K a_Lattice a_Lattice_init
  a_Lattice_within_at : Addr
  d_Lattice_within_at : FuncData
  F_Lattice_within_at : Fun K "within_at" "Lattice.within_at" St_Lattice_within_at a_Lattice_within_at d_Lattice_within_at
  b_Lattice_within_at : Binds K d_Lattice_within_at ["self", "first", "second"] []
  m_Lattice_within_at : Meth K a_Lattice "within_at" a_Lattice_within_at
  a_Lattice_join_at : Addr
  d_Lattice_join_at : FuncData
  F_Lattice_join_at : Fun K "join_at" "Lattice.join_at" St_Lattice_join_at a_Lattice_join_at d_Lattice_join_at
  b_Lattice_join_at : Binds K d_Lattice_join_at ["self", "first", "second"] []
  m_Lattice_join_at : Meth K a_Lattice "join_at" a_Lattice_join_at
  a_Lattice_meet_at : Addr
  d_Lattice_meet_at : FuncData
  F_Lattice_meet_at : Fun K "meet_at" "Lattice.meet_at" St_Lattice_meet_at a_Lattice_meet_at d_Lattice_meet_at
  b_Lattice_meet_at : Binds K d_Lattice_meet_at ["self", "first", "second"] []
  m_Lattice_meet_at : Meth K a_Lattice "meet_at" a_Lattice_meet_at
  a_Lattice_name_at : Addr
  d_Lattice_name_at : FuncData
  F_Lattice_name_at : Fun K "name_at" "Lattice.name_at" St_Lattice_name_at a_Lattice_name_at d_Lattice_name_at
  b_Lattice_name_at : Binds K d_Lattice_name_at ["self", "place"] []
  m_Lattice_name_at : Meth K a_Lattice "name_at" a_Lattice_name_at
  a_OrderLattice : Addr
  g_OrderLattice : mg "OrderLattice" = some (.ref a_OrderLattice)
  c_OrderLattice : Cls K a_OrderLattice
  n_OrderLattice_label : NoAttr K a_OrderLattice "label"
  n_OrderLattice_size : NoAttr K a_OrderLattice "size"
  n_OrderLattice_depth : NoAttr K a_OrderLattice "depth"
  n_OrderLattice_value_names : NoAttr K a_OrderLattice "value_names"
  n_OrderLattice_downs : NoAttr K a_OrderLattice "downs"
  n_OrderLattice_ups : NoAttr K a_OrderLattice "ups"
  n_OrderLattice_bottom_at : NoAttr K a_OrderLattice "bottom_at"
  n_OrderLattice_top_at : NoAttr K a_OrderLattice "top_at"
  a_OrderLattice_init : Addr
  d_OrderLattice_init : FuncData
  F_OrderLattice_init : FunK K PL "__init__" "OrderLattice.__init__" St_OrderLattice_init a_OrderLattice_init d_OrderLattice_init a_OrderLattice
  b_OrderLattice_init : Binds K d_OrderLattice_init ["self", "names", "pairs"] []
  M_OrderLattice : Mk K a_OrderLattice a_OrderLattice_init
  a_PairLattice : Addr
  g_PairLattice : mg "PairLattice" = some (.ref a_PairLattice)
  c_PairLattice : Cls K a_PairLattice
  n_PairLattice_label : NoAttr K a_PairLattice "label"
  n_PairLattice_size : NoAttr K a_PairLattice "size"
  n_PairLattice_depth : NoAttr K a_PairLattice "depth"
  n_PairLattice_value_names : NoAttr K a_PairLattice "value_names"
  n_PairLattice_downs : NoAttr K a_PairLattice "downs"
  n_PairLattice_ups : NoAttr K a_PairLattice "ups"
  n_PairLattice_bottom_at : NoAttr K a_PairLattice "bottom_at"
  n_PairLattice_top_at : NoAttr K a_PairLattice "top_at"
  n_PairLattice_left : NoAttr K a_PairLattice "left"
  n_PairLattice_right : NoAttr K a_PairLattice "right"
  a_PairLattice_init : Addr
  d_PairLattice_init : FuncData
  F_PairLattice_init : FunK K PL "__init__" "PairLattice.__init__" St_PairLattice_init a_PairLattice_init d_PairLattice_init a_PairLattice
  b_PairLattice_init : Binds K d_PairLattice_init ["self", "left", "right"] []
  M_PairLattice : Mk K a_PairLattice a_PairLattice_init
  a_PairLattice_pairs_within : Addr
  d_PairLattice_pairs_within : FuncData
  F_PairLattice_pairs_within : Fun K "pairs_within" "PairLattice.pairs_within" St_PairLattice_pairs_within a_PairLattice_pairs_within d_PairLattice_pairs_within
  b_PairLattice_pairs_within : Binds K d_PairLattice_pairs_within ["self", "pairs", "upper"] []
  m_PairLattice_pairs_within : Meth K a_PairLattice "pairs_within" a_PairLattice_pairs_within
  a_TurnedLattice : Addr
  g_TurnedLattice : mg "TurnedLattice" = some (.ref a_TurnedLattice)
  c_TurnedLattice : Cls K a_TurnedLattice
  n_TurnedLattice_label : NoAttr K a_TurnedLattice "label"
  n_TurnedLattice_size : NoAttr K a_TurnedLattice "size"
  n_TurnedLattice_depth : NoAttr K a_TurnedLattice "depth"
  n_TurnedLattice_value_names : NoAttr K a_TurnedLattice "value_names"
  n_TurnedLattice_downs : NoAttr K a_TurnedLattice "downs"
  n_TurnedLattice_ups : NoAttr K a_TurnedLattice "ups"
  n_TurnedLattice_bottom_at : NoAttr K a_TurnedLattice "bottom_at"
  n_TurnedLattice_top_at : NoAttr K a_TurnedLattice "top_at"
  n_TurnedLattice_inner : NoAttr K a_TurnedLattice "inner"
  a_TurnedLattice_init : Addr
  d_TurnedLattice_init : FuncData
  F_TurnedLattice_init : FunK K PL "__init__" "TurnedLattice.__init__" St_TurnedLattice_init a_TurnedLattice_init d_TurnedLattice_init a_TurnedLattice
  b_TurnedLattice_init : Binds K d_TurnedLattice_init ["self", "inner"] []
  M_TurnedLattice : Mk K a_TurnedLattice a_TurnedLattice_init
  a_ChainLattice : Addr
  g_ChainLattice : mg "ChainLattice" = some (.ref a_ChainLattice)
  c_ChainLattice : Cls K a_ChainLattice
  n_ChainLattice_label : NoAttr K a_ChainLattice "label"
  n_ChainLattice_size : NoAttr K a_ChainLattice "size"
  n_ChainLattice_depth : NoAttr K a_ChainLattice "depth"
  n_ChainLattice_value_names : NoAttr K a_ChainLattice "value_names"
  n_ChainLattice_downs : NoAttr K a_ChainLattice "downs"
  n_ChainLattice_ups : NoAttr K a_ChainLattice "ups"
  n_ChainLattice_bottom_at : NoAttr K a_ChainLattice "bottom_at"
  n_ChainLattice_top_at : NoAttr K a_ChainLattice "top_at"
  a_ChainLattice_init : Addr
  d_ChainLattice_init : FuncData
  F_ChainLattice_init : FunK K PL "__init__" "ChainLattice.__init__" St_ChainLattice_init a_ChainLattice_init d_ChainLattice_init a_ChainLattice
  b_ChainLattice_init : Binds K d_ChainLattice_init ["self", "count"] []
  M_ChainLattice : Mk K a_ChainLattice a_ChainLattice_init
  mr_OrderLattice : PySem.W.mroIn K a_OrderLattice (.ref a_OrderLattice) = some true
  su_OrderLattice : PySem.W.ks_superIn K a_OrderLattice a_OrderLattice "__init__" = some (some (.ref a_Lattice_init))
  ci_OrderLattice : ∃ cd, PySem.W.clsIn K a_OrderLattice = some cd
  m_OrderLattice_within_at : Meth K a_OrderLattice "within_at" a_Lattice_within_at
  m_OrderLattice_join_at : Meth K a_OrderLattice "join_at" a_Lattice_join_at
  m_OrderLattice_meet_at : Meth K a_OrderLattice "meet_at" a_Lattice_meet_at
  m_OrderLattice_name_at : Meth K a_OrderLattice "name_at" a_Lattice_name_at
  mr_PairLattice : PySem.W.mroIn K a_PairLattice (.ref a_PairLattice) = some true
  su_PairLattice : PySem.W.ks_superIn K a_PairLattice a_PairLattice "__init__" = some (some (.ref a_Lattice_init))
  ci_PairLattice : ∃ cd, PySem.W.clsIn K a_PairLattice = some cd
  m_PairLattice_within_at : Meth K a_PairLattice "within_at" a_Lattice_within_at
  m_PairLattice_join_at : Meth K a_PairLattice "join_at" a_Lattice_join_at
  m_PairLattice_meet_at : Meth K a_PairLattice "meet_at" a_Lattice_meet_at
  m_PairLattice_name_at : Meth K a_PairLattice "name_at" a_Lattice_name_at
  mr_TurnedLattice : PySem.W.mroIn K a_TurnedLattice (.ref a_TurnedLattice) = some true
  su_TurnedLattice : PySem.W.ks_superIn K a_TurnedLattice a_TurnedLattice "__init__" = some (some (.ref a_Lattice_init))
  ci_TurnedLattice : ∃ cd, PySem.W.clsIn K a_TurnedLattice = some cd
  m_TurnedLattice_within_at : Meth K a_TurnedLattice "within_at" a_Lattice_within_at
  m_TurnedLattice_join_at : Meth K a_TurnedLattice "join_at" a_Lattice_join_at
  m_TurnedLattice_meet_at : Meth K a_TurnedLattice "meet_at" a_Lattice_meet_at
  m_TurnedLattice_name_at : Meth K a_TurnedLattice "name_at" a_Lattice_name_at
  mr_ChainLattice : PySem.W.mroIn K a_ChainLattice (.ref a_ChainLattice) = some true
  su_ChainLattice : PySem.W.ks_superIn K a_ChainLattice a_ChainLattice "__init__" = some (some (.ref a_Lattice_init))
  ci_ChainLattice : ∃ cd, PySem.W.clsIn K a_ChainLattice = some cd
  m_ChainLattice_within_at : Meth K a_ChainLattice "within_at" a_Lattice_within_at
  m_ChainLattice_join_at : Meth K a_ChainLattice "join_at" a_Lattice_join_at
  m_ChainLattice_meet_at : Meth K a_ChainLattice "meet_at" a_Lattice_meet_at
  m_ChainLattice_name_at : Meth K a_ChainLattice "name_at" a_Lattice_name_at
  ty_Lattice : PySem.W.typeIn K (.ref a_Lattice_init) = some (.type "function")
  fi_Lattice : PySem.W.fnIn K a_Lattice_init = true
  st_any : PySem.W.nsIn K PySem.cStatics "thirdparty.any" = some none
def Tx.mm {K : PySem.W.Frag} {mg : Str → Option Value} {W_ : World} (T : Tx K mg W_) : List (Str × Addr) := [("within_at", T.a_Lattice_within_at), ("join_at", T.a_Lattice_join_at), ("meet_at", T.a_Lattice_meet_at), ("name_at", T.a_Lattice_name_at)]
theorem Tx.in_within_at {K : PySem.W.Frag} {mg : Str → Option Value} {W_ : World} (T : Tx K mg W_) : ((("within_at" : Str), T.a_Lattice_within_at) : Str × Addr) ∈ T.mm := by simp [Tx.mm]
theorem Tx.in_join_at {K : PySem.W.Frag} {mg : Str → Option Value} {W_ : World} (T : Tx K mg W_) : ((("join_at" : Str), T.a_Lattice_join_at) : Str × Addr) ∈ T.mm := by simp [Tx.mm]
theorem Tx.in_meet_at {K : PySem.W.Frag} {mg : Str → Option Value} {W_ : World} (T : Tx K mg W_) : ((("meet_at" : Str), T.a_Lattice_meet_at) : Str × Addr) ∈ T.mm := by simp [Tx.mm]
theorem Tx.in_name_at {K : PySem.W.Frag} {mg : Str → Option Value} {W_ : World} (T : Tx K mg W_) : ((("name_at" : Str), T.a_Lattice_name_at) : Str × Addr) ∈ T.mm := by simp [Tx.mm]
theorem Tx.mm_out {K : PySem.W.Frag} {mg : Str → Option Value} {W_ : World} (T : Tx K mg W_) : ∀ q ∈ T.mm, q.1 ∉ latAttrs := by
  intro q hq
  simp only [Tx.mm, List.mem_cons, List.not_mem_nil, or_false] at hq
  rcases hq with rfl | rfl | rfl | rfl <;> (dsimp only; decide)
theorem Tx.mm_out' {K : PySem.W.Frag} {mg : Str → Option Value} {W_ : World} (T : Tx K mg W_) : ∀ q ∈ T.mm, q.1 ≠ "left" ∧ q.1 ≠ "right" ∧ q.1 ≠ "inner" := by
  intro q hq
  simp only [Tx.mm, List.mem_cons, List.not_mem_nil, or_false] at hq
  rcases hq with rfl | rfl | rfl | rfl <;> (dsimp only; decide)
theorem Tx.lc_OrderLattice {K : PySem.W.Frag} {mg : Str → Option Value} {W_ : World} (T : Tx K mg W_) : LatC K T.mm T.a_OrderLattice := ⟨T.c_OrderLattice, fun f hf => by
  simp only [latAttrs, List.mem_cons, List.not_mem_nil, or_false] at hf
  rcases hf with rfl | rfl | rfl | rfl | rfl | rfl | rfl | rfl <;> first | exact T.n_OrderLattice_label | exact T.n_OrderLattice_size | exact T.n_OrderLattice_depth | exact T.n_OrderLattice_value_names | exact T.n_OrderLattice_downs | exact T.n_OrderLattice_ups | exact T.n_OrderLattice_bottom_at | exact T.n_OrderLattice_top_at, fun q hq => by
  simp only [Tx.mm, List.mem_cons, List.not_mem_nil, or_false] at hq
  rcases hq with rfl | rfl | rfl | rfl <;> first | exact T.m_OrderLattice_within_at | exact T.m_OrderLattice_join_at | exact T.m_OrderLattice_meet_at | exact T.m_OrderLattice_name_at, trivial⟩
theorem Tx.lc_PairLattice {K : PySem.W.Frag} {mg : Str → Option Value} {W_ : World} (T : Tx K mg W_) : LatC K T.mm T.a_PairLattice := ⟨T.c_PairLattice, fun f hf => by
  simp only [latAttrs, List.mem_cons, List.not_mem_nil, or_false] at hf
  rcases hf with rfl | rfl | rfl | rfl | rfl | rfl | rfl | rfl <;> first | exact T.n_PairLattice_label | exact T.n_PairLattice_size | exact T.n_PairLattice_depth | exact T.n_PairLattice_value_names | exact T.n_PairLattice_downs | exact T.n_PairLattice_ups | exact T.n_PairLattice_bottom_at | exact T.n_PairLattice_top_at, fun q hq => by
  simp only [Tx.mm, List.mem_cons, List.not_mem_nil, or_false] at hq
  rcases hq with rfl | rfl | rfl | rfl <;> first | exact T.m_PairLattice_within_at | exact T.m_PairLattice_join_at | exact T.m_PairLattice_meet_at | exact T.m_PairLattice_name_at, trivial⟩
theorem Tx.lc_TurnedLattice {K : PySem.W.Frag} {mg : Str → Option Value} {W_ : World} (T : Tx K mg W_) : LatC K T.mm T.a_TurnedLattice := ⟨T.c_TurnedLattice, fun f hf => by
  simp only [latAttrs, List.mem_cons, List.not_mem_nil, or_false] at hf
  rcases hf with rfl | rfl | rfl | rfl | rfl | rfl | rfl | rfl <;> first | exact T.n_TurnedLattice_label | exact T.n_TurnedLattice_size | exact T.n_TurnedLattice_depth | exact T.n_TurnedLattice_value_names | exact T.n_TurnedLattice_downs | exact T.n_TurnedLattice_ups | exact T.n_TurnedLattice_bottom_at | exact T.n_TurnedLattice_top_at, fun q hq => by
  simp only [Tx.mm, List.mem_cons, List.not_mem_nil, or_false] at hq
  rcases hq with rfl | rfl | rfl | rfl <;> first | exact T.m_TurnedLattice_within_at | exact T.m_TurnedLattice_join_at | exact T.m_TurnedLattice_meet_at | exact T.m_TurnedLattice_name_at, trivial⟩
theorem Tx.lc_ChainLattice {K : PySem.W.Frag} {mg : Str → Option Value} {W_ : World} (T : Tx K mg W_) : LatC K T.mm T.a_ChainLattice := ⟨T.c_ChainLattice, fun f hf => by
  simp only [latAttrs, List.mem_cons, List.not_mem_nil, or_false] at hf
  rcases hf with rfl | rfl | rfl | rfl | rfl | rfl | rfl | rfl <;> first | exact T.n_ChainLattice_label | exact T.n_ChainLattice_size | exact T.n_ChainLattice_depth | exact T.n_ChainLattice_value_names | exact T.n_ChainLattice_downs | exact T.n_ChainLattice_ups | exact T.n_ChainLattice_bottom_at | exact T.n_ChainLattice_top_at, fun q hq => by
  simp only [Tx.mm, List.mem_cons, List.not_mem_nil, or_false] at hq
  rcases hq with rfl | rfl | rfl | rfl <;> first | exact T.m_ChainLattice_within_at | exact T.m_ChainLattice_join_at | exact T.m_ChainLattice_meet_at | exact T.m_ChainLattice_name_at, trivial⟩
def spLaw (K : PySem.W.Frag) : Sp := fun vs H Q _ => ∃ (a : Addr) (ns : List Int), vs = [.ref a] ∧ SqL K H a (ns.map V.int) ∧ ns.length ≤ 63 ∧ ∀ H', Q (.bl true) H'
theorem all_mk {l : PySem.W.OpenLaw} {W_ : World} {K : PySem.W.Frag} {h : Heap} {mg : Str → Option Value} {fa : Addr} (X : K.In h) (G : h.Ns mainGlobals mg) (hfa : mg "law" = some (.ref fa)) (F : ∀ (T : Tx K mg W_) (base : Heap), FnOk PL W_ K mg base L2.CX0 120 T.a_law T.d_law ["script"] (spLaw K))
    {f_order_broken f_join_broken f_meet_broken f_spread_broken f_first_fault f_first_place f_closed_downs f_check_names f_pair_words f_checked_depth f__law_cells f__law_pick f__law_like f__law_closed f__law_join f__law_flipped f__law_table f__law_heaps f__law_parts f__law_fault f__law_order f_law f_Lattice f_Lattice_init td_Lattice_init f_Lattice_within_at f_Lattice_join_at f_Lattice_meet_at f_Lattice_name_at f_OrderLattice f_OrderLattice_init cda_OrderLattice_init cc_OrderLattice_init f_PairLattice f_PairLattice_init cda_PairLattice_init cc_PairLattice_init f_PairLattice_pairs_within f_TurnedLattice f_TurnedLattice_init cda_TurnedLattice_init cc_TurnedLattice_init f_ChainLattice f_ChainLattice_init cda_ChainLattice_init cc_ChainLattice_init : Addr}
    {od_order_broken an_order_broken : Option Addr} {sl_order_broken : Array (Option Value)} {oc_order_broken kV_order_broken dc_order_broken pm_order_broken cd_order_broken ct_order_broken : Value} {od_join_broken an_join_broken : Option Addr} {sl_join_broken : Array (Option Value)} {oc_join_broken kV_join_broken dc_join_broken pm_join_broken cd_join_broken ct_join_broken : Value} {od_meet_broken an_meet_broken : Option Addr} {sl_meet_broken : Array (Option Value)} {oc_meet_broken kV_meet_broken dc_meet_broken pm_meet_broken cd_meet_broken ct_meet_broken : Value} {od_spread_broken an_spread_broken : Option Addr} {sl_spread_broken : Array (Option Value)} {oc_spread_broken kV_spread_broken dc_spread_broken pm_spread_broken cd_spread_broken ct_spread_broken : Value} {od_first_fault an_first_fault : Option Addr} {sl_first_fault : Array (Option Value)} {oc_first_fault kV_first_fault dc_first_fault pm_first_fault cd_first_fault ct_first_fault : Value} {od_first_place an_first_place : Option Addr} {sl_first_place : Array (Option Value)} {oc_first_place kV_first_place dc_first_place pm_first_place cd_first_place ct_first_place : Value} {od_closed_downs an_closed_downs : Option Addr} {sl_closed_downs : Array (Option Value)} {oc_closed_downs kV_closed_downs dc_closed_downs pm_closed_downs cd_closed_downs ct_closed_downs : Value} {od_check_names an_check_names : Option Addr} {sl_check_names : Array (Option Value)} {oc_check_names kV_check_names dc_check_names pm_check_names cd_check_names ct_check_names : Value} {od_pair_words an_pair_words : Option Addr} {sl_pair_words : Array (Option Value)} {oc_pair_words kV_pair_words dc_pair_words pm_pair_words cd_pair_words ct_pair_words : Value} {od_checked_depth an_checked_depth : Option Addr} {sl_checked_depth : Array (Option Value)} {oc_checked_depth kV_checked_depth dc_checked_depth pm_checked_depth cd_checked_depth ct_checked_depth : Value} {od__law_cells an__law_cells : Option Addr} {sl__law_cells : Array (Option Value)} {oc__law_cells kV__law_cells dc__law_cells pm__law_cells cd__law_cells ct__law_cells : Value} {od__law_pick an__law_pick : Option Addr} {sl__law_pick : Array (Option Value)} {oc__law_pick kV__law_pick dc__law_pick pm__law_pick cd__law_pick ct__law_pick : Value} {od__law_like an__law_like : Option Addr} {sl__law_like : Array (Option Value)} {oc__law_like kV__law_like dc__law_like pm__law_like cd__law_like ct__law_like : Value} {od__law_closed an__law_closed : Option Addr} {sl__law_closed : Array (Option Value)} {oc__law_closed kV__law_closed dc__law_closed pm__law_closed cd__law_closed ct__law_closed : Value} {od__law_join an__law_join : Option Addr} {sl__law_join : Array (Option Value)} {oc__law_join kV__law_join dc__law_join pm__law_join cd__law_join ct__law_join : Value} {od__law_flipped an__law_flipped : Option Addr} {sl__law_flipped : Array (Option Value)} {oc__law_flipped kV__law_flipped dc__law_flipped pm__law_flipped cd__law_flipped ct__law_flipped : Value} {od__law_table an__law_table : Option Addr} {sl__law_table : Array (Option Value)} {oc__law_table kV__law_table dc__law_table pm__law_table cd__law_table ct__law_table : Value} {od__law_heaps an__law_heaps : Option Addr} {sl__law_heaps : Array (Option Value)} {oc__law_heaps kV__law_heaps dc__law_heaps pm__law_heaps cd__law_heaps ct__law_heaps : Value} {od__law_parts an__law_parts : Option Addr} {sl__law_parts : Array (Option Value)} {oc__law_parts kV__law_parts dc__law_parts pm__law_parts cd__law_parts ct__law_parts : Value} {od__law_fault an__law_fault : Option Addr} {sl__law_fault : Array (Option Value)} {oc__law_fault kV__law_fault dc__law_fault pm__law_fault cd__law_fault ct__law_fault : Value} {od__law_order an__law_order : Option Addr} {sl__law_order : Array (Option Value)} {oc__law_order kV__law_order dc__law_order pm__law_order cd__law_order ct__law_order : Value} {od_law an_law : Option Addr} {sl_law : Array (Option Value)} {oc_law kV_law dc_law pm_law cd_law ct_law : Value} {u_MOST_VALUES : Tok} {u_LETTERS : Tok} {u_DEEPEST : Tok} {od_Lattice_init an_Lattice_init : Option Addr} {sl_Lattice_init : Array (Option Value)} {oc_Lattice_init kV_Lattice_init dc_Lattice_init pm_Lattice_init cd_Lattice_init ct_Lattice_init : Value} {du0_Lattice_init : Tok} {dn_Lattice_init : Nat} {od_Lattice_within_at an_Lattice_within_at : Option Addr} {sl_Lattice_within_at : Array (Option Value)} {oc_Lattice_within_at kV_Lattice_within_at dc_Lattice_within_at pm_Lattice_within_at cd_Lattice_within_at ct_Lattice_within_at : Value} {od_Lattice_join_at an_Lattice_join_at : Option Addr} {sl_Lattice_join_at : Array (Option Value)} {oc_Lattice_join_at kV_Lattice_join_at dc_Lattice_join_at pm_Lattice_join_at cd_Lattice_join_at ct_Lattice_join_at : Value} {od_Lattice_meet_at an_Lattice_meet_at : Option Addr} {sl_Lattice_meet_at : Array (Option Value)} {oc_Lattice_meet_at kV_Lattice_meet_at dc_Lattice_meet_at pm_Lattice_meet_at cd_Lattice_meet_at ct_Lattice_meet_at : Value} {od_Lattice_name_at an_Lattice_name_at : Option Addr} {sl_Lattice_name_at : Array (Option Value)} {oc_Lattice_name_at kV_Lattice_name_at dc_Lattice_name_at pm_Lattice_name_at cd_Lattice_name_at ct_Lattice_name_at : Value} {od_OrderLattice_init an_OrderLattice_init vb_OrderLattice_init cb_OrderLattice_init : Option Addr} {sl_OrderLattice_init ve_OrderLattice_init ce_OrderLattice_init : Array (Option Value)} {vs_OrderLattice_init : Array Value} {fl_OrderLattice_init : Str} {tf_OrderLattice_init : Tok} {oc_OrderLattice_init kV_OrderLattice_init dc_OrderLattice_init pm_OrderLattice_init ct_OrderLattice_init va_OrderLattice_init ca_OrderLattice_init : Value} {od_PairLattice_init an_PairLattice_init vb_PairLattice_init cb_PairLattice_init : Option Addr} {sl_PairLattice_init ve_PairLattice_init ce_PairLattice_init : Array (Option Value)} {vs_PairLattice_init : Array Value} {fl_PairLattice_init : Str} {tf_PairLattice_init : Tok} {oc_PairLattice_init kV_PairLattice_init dc_PairLattice_init pm_PairLattice_init ct_PairLattice_init va_PairLattice_init ca_PairLattice_init : Value} {od_PairLattice_pairs_within an_PairLattice_pairs_within : Option Addr} {sl_PairLattice_pairs_within : Array (Option Value)} {oc_PairLattice_pairs_within kV_PairLattice_pairs_within dc_PairLattice_pairs_within pm_PairLattice_pairs_within cd_PairLattice_pairs_within ct_PairLattice_pairs_within : Value} {od_TurnedLattice_init an_TurnedLattice_init vb_TurnedLattice_init cb_TurnedLattice_init : Option Addr} {sl_TurnedLattice_init ve_TurnedLattice_init ce_TurnedLattice_init : Array (Option Value)} {vs_TurnedLattice_init : Array Value} {fl_TurnedLattice_init : Str} {tf_TurnedLattice_init : Tok} {oc_TurnedLattice_init kV_TurnedLattice_init dc_TurnedLattice_init pm_TurnedLattice_init ct_TurnedLattice_init va_TurnedLattice_init ca_TurnedLattice_init : Value} {od_ChainLattice_init an_ChainLattice_init vb_ChainLattice_init cb_ChainLattice_init : Option Addr} {sl_ChainLattice_init ve_ChainLattice_init ce_ChainLattice_init : Array (Option Value)} {vs_ChainLattice_init : Array Value} {fl_ChainLattice_init : Str} {tf_ChainLattice_init : Tok} {oc_ChainLattice_init kV_ChainLattice_init dc_ChainLattice_init pm_ChainLattice_init ct_ChainLattice_init va_ChainLattice_init ca_ChainLattice_init : Value} {cd_OrderLattice : ClassData} {cd_PairLattice : ClassData} {cd_TurnedLattice : ClassData} {cd_ChainLattice : ClassData}
    (z_abs : PySem.W.nsIn K mainGlobals "abs" = some none)
    (z_any : PySem.W.nsIn K mainGlobals "any" = some none)
    (z_bool : PySem.W.nsIn K mainGlobals "bool" = some none)
    (z_dict : PySem.W.nsIn K mainGlobals "dict" = some none)
    (z_enumerate : PySem.W.nsIn K mainGlobals "enumerate" = some none)
    (z_int : PySem.W.nsIn K mainGlobals "int" = some none)
    (z_isinstance : PySem.W.nsIn K mainGlobals "isinstance" = some none)
    (z_len : PySem.W.nsIn K mainGlobals "len" = some none)
    (z_list : PySem.W.nsIn K mainGlobals "list" = some none)
    (z_max : PySem.W.nsIn K mainGlobals "max" = some none)
    (z_min : PySem.W.nsIn K mainGlobals "min" = some none)
    (z_range : PySem.W.nsIn K mainGlobals "range" = some none)
    (z_str : PySem.W.nsIn K mainGlobals "str" = some none)
    (z_sum : PySem.W.nsIn K mainGlobals "sum" = some none)
    (z_super : PySem.W.nsIn K mainGlobals "super" = some none)
    (z_tuple : PySem.W.nsIn K mainGlobals "tuple" = some none)
    (g_order_broken : PySem.W.nsIn K mainGlobals "order_broken" = some (some (.ref f_order_broken)))
    (l_order_broken : K.lookup f_order_broken = some ⟨oc_order_broken, od_order_broken, .func (PySem.W.fnOf "order_broken" "order_broken" (defArgs St_order_broken) (defBody St_order_broken) (defScope St_order_broken) .none kV_order_broken dc_order_broken pm_order_broken an_order_broken cd_order_broken ct_order_broken), sl_order_broken⟩)
    (c_order_broken : PySem.W.codeIn K cd_order_broken "order_broken" = true)
    (k_order_broken : PySem.W.keepIn K (.ref f_order_broken) = true)
    (g_join_broken : PySem.W.nsIn K mainGlobals "join_broken" = some (some (.ref f_join_broken)))
    (l_join_broken : K.lookup f_join_broken = some ⟨oc_join_broken, od_join_broken, .func (PySem.W.fnOf "join_broken" "join_broken" (defArgs St_join_broken) (defBody St_join_broken) (defScope St_join_broken) .none kV_join_broken dc_join_broken pm_join_broken an_join_broken cd_join_broken ct_join_broken), sl_join_broken⟩)
    (c_join_broken : PySem.W.codeIn K cd_join_broken "join_broken" = true)
    (k_join_broken : PySem.W.keepIn K (.ref f_join_broken) = true)
    (g_meet_broken : PySem.W.nsIn K mainGlobals "meet_broken" = some (some (.ref f_meet_broken)))
    (l_meet_broken : K.lookup f_meet_broken = some ⟨oc_meet_broken, od_meet_broken, .func (PySem.W.fnOf "meet_broken" "meet_broken" (defArgs St_meet_broken) (defBody St_meet_broken) (defScope St_meet_broken) .none kV_meet_broken dc_meet_broken pm_meet_broken an_meet_broken cd_meet_broken ct_meet_broken), sl_meet_broken⟩)
    (c_meet_broken : PySem.W.codeIn K cd_meet_broken "meet_broken" = true)
    (k_meet_broken : PySem.W.keepIn K (.ref f_meet_broken) = true)
    (g_spread_broken : PySem.W.nsIn K mainGlobals "spread_broken" = some (some (.ref f_spread_broken)))
    (l_spread_broken : K.lookup f_spread_broken = some ⟨oc_spread_broken, od_spread_broken, .func (PySem.W.fnOf "spread_broken" "spread_broken" (defArgs St_spread_broken) (defBody St_spread_broken) (defScope St_spread_broken) .none kV_spread_broken dc_spread_broken pm_spread_broken an_spread_broken cd_spread_broken ct_spread_broken), sl_spread_broken⟩)
    (c_spread_broken : PySem.W.codeIn K cd_spread_broken "spread_broken" = true)
    (k_spread_broken : PySem.W.keepIn K (.ref f_spread_broken) = true)
    (g_first_fault : PySem.W.nsIn K mainGlobals "first_fault" = some (some (.ref f_first_fault)))
    (l_first_fault : K.lookup f_first_fault = some ⟨oc_first_fault, od_first_fault, .func (PySem.W.fnOf "first_fault" "first_fault" (defArgs St_first_fault) (defBody St_first_fault) (defScope St_first_fault) .none kV_first_fault dc_first_fault pm_first_fault an_first_fault cd_first_fault ct_first_fault), sl_first_fault⟩)
    (c_first_fault : PySem.W.codeIn K cd_first_fault "first_fault" = true)
    (k_first_fault : PySem.W.keepIn K (.ref f_first_fault) = true)
    (g_first_place : PySem.W.nsIn K mainGlobals "first_place" = some (some (.ref f_first_place)))
    (l_first_place : K.lookup f_first_place = some ⟨oc_first_place, od_first_place, .func (PySem.W.fnOf "first_place" "first_place" (defArgs St_first_place) (defBody St_first_place) (defScope St_first_place) .none kV_first_place dc_first_place pm_first_place an_first_place cd_first_place ct_first_place), sl_first_place⟩)
    (c_first_place : PySem.W.codeIn K cd_first_place "first_place" = true)
    (k_first_place : PySem.W.keepIn K (.ref f_first_place) = true)
    (g_closed_downs : PySem.W.nsIn K mainGlobals "closed_downs" = some (some (.ref f_closed_downs)))
    (l_closed_downs : K.lookup f_closed_downs = some ⟨oc_closed_downs, od_closed_downs, .func (PySem.W.fnOf "closed_downs" "closed_downs" (defArgs St_closed_downs) (defBody St_closed_downs) (defScope St_closed_downs) .none kV_closed_downs dc_closed_downs pm_closed_downs an_closed_downs cd_closed_downs ct_closed_downs), sl_closed_downs⟩)
    (c_closed_downs : PySem.W.codeIn K cd_closed_downs "closed_downs" = true)
    (k_closed_downs : PySem.W.keepIn K (.ref f_closed_downs) = true)
    (g_check_names : PySem.W.nsIn K mainGlobals "check_names" = some (some (.ref f_check_names)))
    (l_check_names : K.lookup f_check_names = some ⟨oc_check_names, od_check_names, .func (PySem.W.fnOf "check_names" "check_names" (defArgs St_check_names) (defBody St_check_names) (defScope St_check_names) .none kV_check_names dc_check_names pm_check_names an_check_names cd_check_names ct_check_names), sl_check_names⟩)
    (c_check_names : PySem.W.codeIn K cd_check_names "check_names" = true)
    (k_check_names : PySem.W.keepIn K (.ref f_check_names) = true)
    (g_pair_words : PySem.W.nsIn K mainGlobals "pair_words" = some (some (.ref f_pair_words)))
    (l_pair_words : K.lookup f_pair_words = some ⟨oc_pair_words, od_pair_words, .func (PySem.W.fnOf "pair_words" "pair_words" (defArgs St_pair_words) (defBody St_pair_words) (defScope St_pair_words) .none kV_pair_words dc_pair_words pm_pair_words an_pair_words cd_pair_words ct_pair_words), sl_pair_words⟩)
    (c_pair_words : PySem.W.codeIn K cd_pair_words "pair_words" = true)
    (k_pair_words : PySem.W.keepIn K (.ref f_pair_words) = true)
    (g_checked_depth : PySem.W.nsIn K mainGlobals "checked_depth" = some (some (.ref f_checked_depth)))
    (l_checked_depth : K.lookup f_checked_depth = some ⟨oc_checked_depth, od_checked_depth, .func (PySem.W.fnOf "checked_depth" "checked_depth" (defArgs St_checked_depth) (defBody St_checked_depth) (defScope St_checked_depth) .none kV_checked_depth dc_checked_depth pm_checked_depth an_checked_depth cd_checked_depth ct_checked_depth), sl_checked_depth⟩)
    (c_checked_depth : PySem.W.codeIn K cd_checked_depth "checked_depth" = true)
    (k_checked_depth : PySem.W.keepIn K (.ref f_checked_depth) = true)
    (g__law_cells : PySem.W.nsIn K mainGlobals "_law_cells" = some (some (.ref f__law_cells)))
    (l__law_cells : K.lookup f__law_cells = some ⟨oc__law_cells, od__law_cells, .func (PySem.W.fnOf "_law_cells" "_law_cells" (defArgs St__law_cells) (defBody St__law_cells) (defScope St__law_cells) .none kV__law_cells dc__law_cells pm__law_cells an__law_cells cd__law_cells ct__law_cells), sl__law_cells⟩)
    (c__law_cells : PySem.W.codeIn K cd__law_cells "_law_cells" = true)
    (k__law_cells : PySem.W.keepIn K (.ref f__law_cells) = true)
    (g__law_pick : PySem.W.nsIn K mainGlobals "_law_pick" = some (some (.ref f__law_pick)))
    (l__law_pick : K.lookup f__law_pick = some ⟨oc__law_pick, od__law_pick, .func (PySem.W.fnOf "_law_pick" "_law_pick" (defArgs St__law_pick) (defBody St__law_pick) (defScope St__law_pick) .none kV__law_pick dc__law_pick pm__law_pick an__law_pick cd__law_pick ct__law_pick), sl__law_pick⟩)
    (c__law_pick : PySem.W.codeIn K cd__law_pick "_law_pick" = true)
    (k__law_pick : PySem.W.keepIn K (.ref f__law_pick) = true)
    (g__law_like : PySem.W.nsIn K mainGlobals "_law_like" = some (some (.ref f__law_like)))
    (l__law_like : K.lookup f__law_like = some ⟨oc__law_like, od__law_like, .func (PySem.W.fnOf "_law_like" "_law_like" (defArgs St__law_like) (defBody St__law_like) (defScope St__law_like) .none kV__law_like dc__law_like pm__law_like an__law_like cd__law_like ct__law_like), sl__law_like⟩)
    (c__law_like : PySem.W.codeIn K cd__law_like "_law_like" = true)
    (k__law_like : PySem.W.keepIn K (.ref f__law_like) = true)
    (g__law_closed : PySem.W.nsIn K mainGlobals "_law_closed" = some (some (.ref f__law_closed)))
    (l__law_closed : K.lookup f__law_closed = some ⟨oc__law_closed, od__law_closed, .func (PySem.W.fnOf "_law_closed" "_law_closed" (defArgs St__law_closed) (defBody St__law_closed) (defScope St__law_closed) .none kV__law_closed dc__law_closed pm__law_closed an__law_closed cd__law_closed ct__law_closed), sl__law_closed⟩)
    (c__law_closed : PySem.W.codeIn K cd__law_closed "_law_closed" = true)
    (k__law_closed : PySem.W.keepIn K (.ref f__law_closed) = true)
    (g__law_join : PySem.W.nsIn K mainGlobals "_law_join" = some (some (.ref f__law_join)))
    (l__law_join : K.lookup f__law_join = some ⟨oc__law_join, od__law_join, .func (PySem.W.fnOf "_law_join" "_law_join" (defArgs St__law_join) (defBody St__law_join) (defScope St__law_join) .none kV__law_join dc__law_join pm__law_join an__law_join cd__law_join ct__law_join), sl__law_join⟩)
    (c__law_join : PySem.W.codeIn K cd__law_join "_law_join" = true)
    (k__law_join : PySem.W.keepIn K (.ref f__law_join) = true)
    (g__law_flipped : PySem.W.nsIn K mainGlobals "_law_flipped" = some (some (.ref f__law_flipped)))
    (l__law_flipped : K.lookup f__law_flipped = some ⟨oc__law_flipped, od__law_flipped, .func (PySem.W.fnOf "_law_flipped" "_law_flipped" (defArgs St__law_flipped) (defBody St__law_flipped) (defScope St__law_flipped) .none kV__law_flipped dc__law_flipped pm__law_flipped an__law_flipped cd__law_flipped ct__law_flipped), sl__law_flipped⟩)
    (c__law_flipped : PySem.W.codeIn K cd__law_flipped "_law_flipped" = true)
    (k__law_flipped : PySem.W.keepIn K (.ref f__law_flipped) = true)
    (g__law_table : PySem.W.nsIn K mainGlobals "_law_table" = some (some (.ref f__law_table)))
    (l__law_table : K.lookup f__law_table = some ⟨oc__law_table, od__law_table, .func (PySem.W.fnOf "_law_table" "_law_table" (defArgs St__law_table) (defBody St__law_table) (defScope St__law_table) .none kV__law_table dc__law_table pm__law_table an__law_table cd__law_table ct__law_table), sl__law_table⟩)
    (c__law_table : PySem.W.codeIn K cd__law_table "_law_table" = true)
    (k__law_table : PySem.W.keepIn K (.ref f__law_table) = true)
    (g__law_heaps : PySem.W.nsIn K mainGlobals "_law_heaps" = some (some (.ref f__law_heaps)))
    (l__law_heaps : K.lookup f__law_heaps = some ⟨oc__law_heaps, od__law_heaps, .func (PySem.W.fnOf "_law_heaps" "_law_heaps" (defArgs St__law_heaps) (defBody St__law_heaps) (defScope St__law_heaps) .none kV__law_heaps dc__law_heaps pm__law_heaps an__law_heaps cd__law_heaps ct__law_heaps), sl__law_heaps⟩)
    (c__law_heaps : PySem.W.codeIn K cd__law_heaps "_law_heaps" = true)
    (k__law_heaps : PySem.W.keepIn K (.ref f__law_heaps) = true)
    (g__law_parts : PySem.W.nsIn K mainGlobals "_law_parts" = some (some (.ref f__law_parts)))
    (l__law_parts : K.lookup f__law_parts = some ⟨oc__law_parts, od__law_parts, .func (PySem.W.fnOf "_law_parts" "_law_parts" (defArgs St__law_parts) (defBody St__law_parts) (defScope St__law_parts) .none kV__law_parts dc__law_parts pm__law_parts an__law_parts cd__law_parts ct__law_parts), sl__law_parts⟩)
    (c__law_parts : PySem.W.codeIn K cd__law_parts "_law_parts" = true)
    (k__law_parts : PySem.W.keepIn K (.ref f__law_parts) = true)
    (g__law_fault : PySem.W.nsIn K mainGlobals "_law_fault" = some (some (.ref f__law_fault)))
    (l__law_fault : K.lookup f__law_fault = some ⟨oc__law_fault, od__law_fault, .func (PySem.W.fnOf "_law_fault" "_law_fault" (defArgs St__law_fault) (defBody St__law_fault) (defScope St__law_fault) .none kV__law_fault dc__law_fault pm__law_fault an__law_fault cd__law_fault ct__law_fault), sl__law_fault⟩)
    (c__law_fault : PySem.W.codeIn K cd__law_fault "_law_fault" = true)
    (k__law_fault : PySem.W.keepIn K (.ref f__law_fault) = true)
    (g__law_order : PySem.W.nsIn K mainGlobals "_law_order" = some (some (.ref f__law_order)))
    (l__law_order : K.lookup f__law_order = some ⟨oc__law_order, od__law_order, .func (PySem.W.fnOf "_law_order" "_law_order" (defArgs St__law_order) (defBody St__law_order) (defScope St__law_order) .none kV__law_order dc__law_order pm__law_order an__law_order cd__law_order ct__law_order), sl__law_order⟩)
    (c__law_order : PySem.W.codeIn K cd__law_order "_law_order" = true)
    (k__law_order : PySem.W.keepIn K (.ref f__law_order) = true)
    (g_law : PySem.W.nsIn K mainGlobals "law" = some (some (.ref f_law)))
    (l_law : K.lookup f_law = some ⟨oc_law, od_law, .func (PySem.W.fnOf "law" "law" (defArgs St_law) (defBody St_law) (defScope St_law) .none kV_law dc_law pm_law an_law cd_law ct_law), sl_law⟩)
    (c_law : PySem.W.codeIn K cd_law "law" = true)
    (k_law : PySem.W.keepIn K (.ref f_law) = true)
    (g_MOST_VALUES : PySem.W.nsIn K mainGlobals "MOST_VALUES" = some (some (.int 64 u_MOST_VALUES)))
    (g_LETTERS : PySem.W.nsIn K mainGlobals "LETTERS" = some (some (.str "abcdefghijklmnopqrstuvwxyz0123456789" u_LETTERS)))
    (g_DEEPEST : PySem.W.nsIn K mainGlobals "DEEPEST" = some (some (.int 10 u_DEEPEST)))
    (g_Lattice : PySem.W.nsIn K mainGlobals "Lattice" = some (some (.ref f_Lattice)))
    (pg_Lattice : PySem.W.plainGet K f_Lattice Str.empty = true)
    (hd_Lattice : PySem.W.hasDictIn K f_Lattice = true)
    (po_Lattice : PySem.W.plainOver K f_Lattice = true)
    (sa_Lattice : PySem.W.findIn K (.ref f_Lattice) "__setattr__" = some (some (.builtin "object.__setattr__")))
    (mk_Lattice : PySem.W.makesIn K f_Lattice = true)
    (kc_Lattice : PySem.W.keepIn K (.ref f_Lattice) = true)
    (na_Lattice_label : PySem.W.findIn K (.ref f_Lattice) "label" = some none)
    (na_Lattice_size : PySem.W.findIn K (.ref f_Lattice) "size" = some none)
    (na_Lattice_depth : PySem.W.findIn K (.ref f_Lattice) "depth" = some none)
    (na_Lattice_value_names : PySem.W.findIn K (.ref f_Lattice) "value_names" = some none)
    (na_Lattice_downs : PySem.W.findIn K (.ref f_Lattice) "downs" = some none)
    (na_Lattice_ups : PySem.W.findIn K (.ref f_Lattice) "ups" = some none)
    (na_Lattice_bottom_at : PySem.W.findIn K (.ref f_Lattice) "bottom_at" = some none)
    (na_Lattice_top_at : PySem.W.findIn K (.ref f_Lattice) "top_at" = some none)
    (h_Lattice_init : PySem.W.findIn K (.ref f_Lattice) "__init__" = some (some (.ref f_Lattice_init)))
    (i_Lattice_init : PySem.W.isFn K (.ref f_Lattice_init) = true)
    (l_Lattice_init : K.lookup f_Lattice_init = some ⟨oc_Lattice_init, od_Lattice_init, .func (PySem.W.fnOf "__init__" "Lattice.__init__" (defArgs St_Lattice_init) (defBody St_Lattice_init) (defScope St_Lattice_init) (.ref td_Lattice_init) kV_Lattice_init dc_Lattice_init pm_Lattice_init an_Lattice_init cd_Lattice_init ct_Lattice_init), sl_Lattice_init⟩)
    (c_Lattice_init : PySem.W.codeIn K cd_Lattice_init "Lattice.__init__" = true)
    (k_Lattice_init : PySem.W.keepIn K (.ref f_Lattice_init) = true)
    (dd_Lattice_init : K.lookup td_Lattice_init = some (⟨.type "tuple", none, .seq #[.int 1 du0_Lattice_init] dn_Lattice_init, #[]⟩ : Obj))
    (h_Lattice_within_at : PySem.W.findIn K (.ref f_Lattice) "within_at" = some (some (.ref f_Lattice_within_at)))
    (i_Lattice_within_at : PySem.W.isFn K (.ref f_Lattice_within_at) = true)
    (l_Lattice_within_at : K.lookup f_Lattice_within_at = some ⟨oc_Lattice_within_at, od_Lattice_within_at, .func (PySem.W.fnOf "within_at" "Lattice.within_at" (defArgs St_Lattice_within_at) (defBody St_Lattice_within_at) (defScope St_Lattice_within_at) .none kV_Lattice_within_at dc_Lattice_within_at pm_Lattice_within_at an_Lattice_within_at cd_Lattice_within_at ct_Lattice_within_at), sl_Lattice_within_at⟩)
    (c_Lattice_within_at : PySem.W.codeIn K cd_Lattice_within_at "Lattice.within_at" = true)
    (k_Lattice_within_at : PySem.W.keepIn K (.ref f_Lattice_within_at) = true)
    (h_Lattice_join_at : PySem.W.findIn K (.ref f_Lattice) "join_at" = some (some (.ref f_Lattice_join_at)))
    (i_Lattice_join_at : PySem.W.isFn K (.ref f_Lattice_join_at) = true)
    (l_Lattice_join_at : K.lookup f_Lattice_join_at = some ⟨oc_Lattice_join_at, od_Lattice_join_at, .func (PySem.W.fnOf "join_at" "Lattice.join_at" (defArgs St_Lattice_join_at) (defBody St_Lattice_join_at) (defScope St_Lattice_join_at) .none kV_Lattice_join_at dc_Lattice_join_at pm_Lattice_join_at an_Lattice_join_at cd_Lattice_join_at ct_Lattice_join_at), sl_Lattice_join_at⟩)
    (c_Lattice_join_at : PySem.W.codeIn K cd_Lattice_join_at "Lattice.join_at" = true)
    (k_Lattice_join_at : PySem.W.keepIn K (.ref f_Lattice_join_at) = true)
    (h_Lattice_meet_at : PySem.W.findIn K (.ref f_Lattice) "meet_at" = some (some (.ref f_Lattice_meet_at)))
    (i_Lattice_meet_at : PySem.W.isFn K (.ref f_Lattice_meet_at) = true)
    (l_Lattice_meet_at : K.lookup f_Lattice_meet_at = some ⟨oc_Lattice_meet_at, od_Lattice_meet_at, .func (PySem.W.fnOf "meet_at" "Lattice.meet_at" (defArgs St_Lattice_meet_at) (defBody St_Lattice_meet_at) (defScope St_Lattice_meet_at) .none kV_Lattice_meet_at dc_Lattice_meet_at pm_Lattice_meet_at an_Lattice_meet_at cd_Lattice_meet_at ct_Lattice_meet_at), sl_Lattice_meet_at⟩)
    (c_Lattice_meet_at : PySem.W.codeIn K cd_Lattice_meet_at "Lattice.meet_at" = true)
    (k_Lattice_meet_at : PySem.W.keepIn K (.ref f_Lattice_meet_at) = true)
    (h_Lattice_name_at : PySem.W.findIn K (.ref f_Lattice) "name_at" = some (some (.ref f_Lattice_name_at)))
    (i_Lattice_name_at : PySem.W.isFn K (.ref f_Lattice_name_at) = true)
    (l_Lattice_name_at : K.lookup f_Lattice_name_at = some ⟨oc_Lattice_name_at, od_Lattice_name_at, .func (PySem.W.fnOf "name_at" "Lattice.name_at" (defArgs St_Lattice_name_at) (defBody St_Lattice_name_at) (defScope St_Lattice_name_at) .none kV_Lattice_name_at dc_Lattice_name_at pm_Lattice_name_at an_Lattice_name_at cd_Lattice_name_at ct_Lattice_name_at), sl_Lattice_name_at⟩)
    (c_Lattice_name_at : PySem.W.codeIn K cd_Lattice_name_at "Lattice.name_at" = true)
    (k_Lattice_name_at : PySem.W.keepIn K (.ref f_Lattice_name_at) = true)
    (g_OrderLattice : PySem.W.nsIn K mainGlobals "OrderLattice" = some (some (.ref f_OrderLattice)))
    (pg_OrderLattice : PySem.W.plainGet K f_OrderLattice Str.empty = true)
    (hd_OrderLattice : PySem.W.hasDictIn K f_OrderLattice = true)
    (po_OrderLattice : PySem.W.plainOver K f_OrderLattice = true)
    (sa_OrderLattice : PySem.W.findIn K (.ref f_OrderLattice) "__setattr__" = some (some (.builtin "object.__setattr__")))
    (mk_OrderLattice : PySem.W.makesIn K f_OrderLattice = true)
    (kc_OrderLattice : PySem.W.keepIn K (.ref f_OrderLattice) = true)
    (na_OrderLattice_label : PySem.W.findIn K (.ref f_OrderLattice) "label" = some none)
    (na_OrderLattice_size : PySem.W.findIn K (.ref f_OrderLattice) "size" = some none)
    (na_OrderLattice_depth : PySem.W.findIn K (.ref f_OrderLattice) "depth" = some none)
    (na_OrderLattice_value_names : PySem.W.findIn K (.ref f_OrderLattice) "value_names" = some none)
    (na_OrderLattice_downs : PySem.W.findIn K (.ref f_OrderLattice) "downs" = some none)
    (na_OrderLattice_ups : PySem.W.findIn K (.ref f_OrderLattice) "ups" = some none)
    (na_OrderLattice_bottom_at : PySem.W.findIn K (.ref f_OrderLattice) "bottom_at" = some none)
    (na_OrderLattice_top_at : PySem.W.findIn K (.ref f_OrderLattice) "top_at" = some none)
    (h_OrderLattice_init : PySem.W.findIn K (.ref f_OrderLattice) "__init__" = some (some (.ref f_OrderLattice_init)))
    (i_OrderLattice_init : PySem.W.isFn K (.ref f_OrderLattice_init) = true)
    (l_OrderLattice_init : K.lookup f_OrderLattice_init = some ⟨oc_OrderLattice_init, od_OrderLattice_init, .func (PySem.W.ksFn "__init__" "OrderLattice.__init__" (defArgs St_OrderLattice_init) (defBody St_OrderLattice_init) (defScope St_OrderLattice_init) .none kV_OrderLattice_init dc_OrderLattice_init pm_OrderLattice_init an_OrderLattice_init (.ref cda_OrderLattice_init) ct_OrderLattice_init cc_OrderLattice_init), sl_OrderLattice_init⟩)
    (c_OrderLattice_init : PySem.W.codeIn K (.ref cda_OrderLattice_init) "OrderLattice.__init__" = true)
    (k_OrderLattice_init : PySem.W.keepIn K (.ref f_OrderLattice_init) = true)
    (q_OrderLattice_init : K.lookup cc_OrderLattice_init = some ⟨ca_OrderLattice_init, cb_OrderLattice_init, .cell (some (.ref f_OrderLattice)), ce_OrderLattice_init⟩)
    (v_OrderLattice_init : K.lookup cda_OrderLattice_init = some ⟨va_OrderLattice_init, vb_OrderLattice_init, .fields vs_OrderLattice_init, ve_OrderLattice_init⟩)
    (vf_OrderLattice_init : vs_OrderLattice_init[2]? = some (.str fl_OrderLattice_init tf_OrderLattice_init))
    (vg_OrderLattice_init : ((PL.main.file : Str) == fl_OrderLattice_init) = true)
    (g_PairLattice : PySem.W.nsIn K mainGlobals "PairLattice" = some (some (.ref f_PairLattice)))
    (pg_PairLattice : PySem.W.plainGet K f_PairLattice Str.empty = true)
    (hd_PairLattice : PySem.W.hasDictIn K f_PairLattice = true)
    (po_PairLattice : PySem.W.plainOver K f_PairLattice = true)
    (sa_PairLattice : PySem.W.findIn K (.ref f_PairLattice) "__setattr__" = some (some (.builtin "object.__setattr__")))
    (mk_PairLattice : PySem.W.makesIn K f_PairLattice = true)
    (kc_PairLattice : PySem.W.keepIn K (.ref f_PairLattice) = true)
    (na_PairLattice_label : PySem.W.findIn K (.ref f_PairLattice) "label" = some none)
    (na_PairLattice_size : PySem.W.findIn K (.ref f_PairLattice) "size" = some none)
    (na_PairLattice_depth : PySem.W.findIn K (.ref f_PairLattice) "depth" = some none)
    (na_PairLattice_value_names : PySem.W.findIn K (.ref f_PairLattice) "value_names" = some none)
    (na_PairLattice_downs : PySem.W.findIn K (.ref f_PairLattice) "downs" = some none)
    (na_PairLattice_ups : PySem.W.findIn K (.ref f_PairLattice) "ups" = some none)
    (na_PairLattice_bottom_at : PySem.W.findIn K (.ref f_PairLattice) "bottom_at" = some none)
    (na_PairLattice_top_at : PySem.W.findIn K (.ref f_PairLattice) "top_at" = some none)
    (na_PairLattice_left : PySem.W.findIn K (.ref f_PairLattice) "left" = some none)
    (na_PairLattice_right : PySem.W.findIn K (.ref f_PairLattice) "right" = some none)
    (h_PairLattice_init : PySem.W.findIn K (.ref f_PairLattice) "__init__" = some (some (.ref f_PairLattice_init)))
    (i_PairLattice_init : PySem.W.isFn K (.ref f_PairLattice_init) = true)
    (l_PairLattice_init : K.lookup f_PairLattice_init = some ⟨oc_PairLattice_init, od_PairLattice_init, .func (PySem.W.ksFn "__init__" "PairLattice.__init__" (defArgs St_PairLattice_init) (defBody St_PairLattice_init) (defScope St_PairLattice_init) .none kV_PairLattice_init dc_PairLattice_init pm_PairLattice_init an_PairLattice_init (.ref cda_PairLattice_init) ct_PairLattice_init cc_PairLattice_init), sl_PairLattice_init⟩)
    (c_PairLattice_init : PySem.W.codeIn K (.ref cda_PairLattice_init) "PairLattice.__init__" = true)
    (k_PairLattice_init : PySem.W.keepIn K (.ref f_PairLattice_init) = true)
    (q_PairLattice_init : K.lookup cc_PairLattice_init = some ⟨ca_PairLattice_init, cb_PairLattice_init, .cell (some (.ref f_PairLattice)), ce_PairLattice_init⟩)
    (v_PairLattice_init : K.lookup cda_PairLattice_init = some ⟨va_PairLattice_init, vb_PairLattice_init, .fields vs_PairLattice_init, ve_PairLattice_init⟩)
    (vf_PairLattice_init : vs_PairLattice_init[2]? = some (.str fl_PairLattice_init tf_PairLattice_init))
    (vg_PairLattice_init : ((PL.main.file : Str) == fl_PairLattice_init) = true)
    (h_PairLattice_pairs_within : PySem.W.findIn K (.ref f_PairLattice) "pairs_within" = some (some (.ref f_PairLattice_pairs_within)))
    (i_PairLattice_pairs_within : PySem.W.isFn K (.ref f_PairLattice_pairs_within) = true)
    (l_PairLattice_pairs_within : K.lookup f_PairLattice_pairs_within = some ⟨oc_PairLattice_pairs_within, od_PairLattice_pairs_within, .func (PySem.W.fnOf "pairs_within" "PairLattice.pairs_within" (defArgs St_PairLattice_pairs_within) (defBody St_PairLattice_pairs_within) (defScope St_PairLattice_pairs_within) .none kV_PairLattice_pairs_within dc_PairLattice_pairs_within pm_PairLattice_pairs_within an_PairLattice_pairs_within cd_PairLattice_pairs_within ct_PairLattice_pairs_within), sl_PairLattice_pairs_within⟩)
    (c_PairLattice_pairs_within : PySem.W.codeIn K cd_PairLattice_pairs_within "PairLattice.pairs_within" = true)
    (k_PairLattice_pairs_within : PySem.W.keepIn K (.ref f_PairLattice_pairs_within) = true)
    (g_TurnedLattice : PySem.W.nsIn K mainGlobals "TurnedLattice" = some (some (.ref f_TurnedLattice)))
    (pg_TurnedLattice : PySem.W.plainGet K f_TurnedLattice Str.empty = true)
    (hd_TurnedLattice : PySem.W.hasDictIn K f_TurnedLattice = true)
    (po_TurnedLattice : PySem.W.plainOver K f_TurnedLattice = true)
    (sa_TurnedLattice : PySem.W.findIn K (.ref f_TurnedLattice) "__setattr__" = some (some (.builtin "object.__setattr__")))
    (mk_TurnedLattice : PySem.W.makesIn K f_TurnedLattice = true)
    (kc_TurnedLattice : PySem.W.keepIn K (.ref f_TurnedLattice) = true)
    (na_TurnedLattice_label : PySem.W.findIn K (.ref f_TurnedLattice) "label" = some none)
    (na_TurnedLattice_size : PySem.W.findIn K (.ref f_TurnedLattice) "size" = some none)
    (na_TurnedLattice_depth : PySem.W.findIn K (.ref f_TurnedLattice) "depth" = some none)
    (na_TurnedLattice_value_names : PySem.W.findIn K (.ref f_TurnedLattice) "value_names" = some none)
    (na_TurnedLattice_downs : PySem.W.findIn K (.ref f_TurnedLattice) "downs" = some none)
    (na_TurnedLattice_ups : PySem.W.findIn K (.ref f_TurnedLattice) "ups" = some none)
    (na_TurnedLattice_bottom_at : PySem.W.findIn K (.ref f_TurnedLattice) "bottom_at" = some none)
    (na_TurnedLattice_top_at : PySem.W.findIn K (.ref f_TurnedLattice) "top_at" = some none)
    (na_TurnedLattice_inner : PySem.W.findIn K (.ref f_TurnedLattice) "inner" = some none)
    (h_TurnedLattice_init : PySem.W.findIn K (.ref f_TurnedLattice) "__init__" = some (some (.ref f_TurnedLattice_init)))
    (i_TurnedLattice_init : PySem.W.isFn K (.ref f_TurnedLattice_init) = true)
    (l_TurnedLattice_init : K.lookup f_TurnedLattice_init = some ⟨oc_TurnedLattice_init, od_TurnedLattice_init, .func (PySem.W.ksFn "__init__" "TurnedLattice.__init__" (defArgs St_TurnedLattice_init) (defBody St_TurnedLattice_init) (defScope St_TurnedLattice_init) .none kV_TurnedLattice_init dc_TurnedLattice_init pm_TurnedLattice_init an_TurnedLattice_init (.ref cda_TurnedLattice_init) ct_TurnedLattice_init cc_TurnedLattice_init), sl_TurnedLattice_init⟩)
    (c_TurnedLattice_init : PySem.W.codeIn K (.ref cda_TurnedLattice_init) "TurnedLattice.__init__" = true)
    (k_TurnedLattice_init : PySem.W.keepIn K (.ref f_TurnedLattice_init) = true)
    (q_TurnedLattice_init : K.lookup cc_TurnedLattice_init = some ⟨ca_TurnedLattice_init, cb_TurnedLattice_init, .cell (some (.ref f_TurnedLattice)), ce_TurnedLattice_init⟩)
    (v_TurnedLattice_init : K.lookup cda_TurnedLattice_init = some ⟨va_TurnedLattice_init, vb_TurnedLattice_init, .fields vs_TurnedLattice_init, ve_TurnedLattice_init⟩)
    (vf_TurnedLattice_init : vs_TurnedLattice_init[2]? = some (.str fl_TurnedLattice_init tf_TurnedLattice_init))
    (vg_TurnedLattice_init : ((PL.main.file : Str) == fl_TurnedLattice_init) = true)
    (g_ChainLattice : PySem.W.nsIn K mainGlobals "ChainLattice" = some (some (.ref f_ChainLattice)))
    (pg_ChainLattice : PySem.W.plainGet K f_ChainLattice Str.empty = true)
    (hd_ChainLattice : PySem.W.hasDictIn K f_ChainLattice = true)
    (po_ChainLattice : PySem.W.plainOver K f_ChainLattice = true)
    (sa_ChainLattice : PySem.W.findIn K (.ref f_ChainLattice) "__setattr__" = some (some (.builtin "object.__setattr__")))
    (mk_ChainLattice : PySem.W.makesIn K f_ChainLattice = true)
    (kc_ChainLattice : PySem.W.keepIn K (.ref f_ChainLattice) = true)
    (na_ChainLattice_label : PySem.W.findIn K (.ref f_ChainLattice) "label" = some none)
    (na_ChainLattice_size : PySem.W.findIn K (.ref f_ChainLattice) "size" = some none)
    (na_ChainLattice_depth : PySem.W.findIn K (.ref f_ChainLattice) "depth" = some none)
    (na_ChainLattice_value_names : PySem.W.findIn K (.ref f_ChainLattice) "value_names" = some none)
    (na_ChainLattice_downs : PySem.W.findIn K (.ref f_ChainLattice) "downs" = some none)
    (na_ChainLattice_ups : PySem.W.findIn K (.ref f_ChainLattice) "ups" = some none)
    (na_ChainLattice_bottom_at : PySem.W.findIn K (.ref f_ChainLattice) "bottom_at" = some none)
    (na_ChainLattice_top_at : PySem.W.findIn K (.ref f_ChainLattice) "top_at" = some none)
    (h_ChainLattice_init : PySem.W.findIn K (.ref f_ChainLattice) "__init__" = some (some (.ref f_ChainLattice_init)))
    (i_ChainLattice_init : PySem.W.isFn K (.ref f_ChainLattice_init) = true)
    (l_ChainLattice_init : K.lookup f_ChainLattice_init = some ⟨oc_ChainLattice_init, od_ChainLattice_init, .func (PySem.W.ksFn "__init__" "ChainLattice.__init__" (defArgs St_ChainLattice_init) (defBody St_ChainLattice_init) (defScope St_ChainLattice_init) .none kV_ChainLattice_init dc_ChainLattice_init pm_ChainLattice_init an_ChainLattice_init (.ref cda_ChainLattice_init) ct_ChainLattice_init cc_ChainLattice_init), sl_ChainLattice_init⟩)
    (c_ChainLattice_init : PySem.W.codeIn K (.ref cda_ChainLattice_init) "ChainLattice.__init__" = true)
    (k_ChainLattice_init : PySem.W.keepIn K (.ref f_ChainLattice_init) = true)
    (q_ChainLattice_init : K.lookup cc_ChainLattice_init = some ⟨ca_ChainLattice_init, cb_ChainLattice_init, .cell (some (.ref f_ChainLattice)), ce_ChainLattice_init⟩)
    (v_ChainLattice_init : K.lookup cda_ChainLattice_init = some ⟨va_ChainLattice_init, vb_ChainLattice_init, .fields vs_ChainLattice_init, ve_ChainLattice_init⟩)
    (vf_ChainLattice_init : vs_ChainLattice_init[2]? = some (.str fl_ChainLattice_init tf_ChainLattice_init))
    (vg_ChainLattice_init : ((PL.main.file : Str) == fl_ChainLattice_init) = true)
    (mr_OrderLattice : PySem.W.mroIn K f_OrderLattice (.ref f_OrderLattice) = some true)
    (su_OrderLattice : PySem.W.ks_superIn K f_OrderLattice f_OrderLattice "__init__" = some (some (.ref f_Lattice_init)))
    (ci_OrderLattice : PySem.W.clsIn K f_OrderLattice = some cd_OrderLattice)
    (hh_OrderLattice_within_at : PySem.W.findIn K (.ref f_OrderLattice) "within_at" = some (some (.ref f_Lattice_within_at)))
    (hh_OrderLattice_join_at : PySem.W.findIn K (.ref f_OrderLattice) "join_at" = some (some (.ref f_Lattice_join_at)))
    (hh_OrderLattice_meet_at : PySem.W.findIn K (.ref f_OrderLattice) "meet_at" = some (some (.ref f_Lattice_meet_at)))
    (hh_OrderLattice_name_at : PySem.W.findIn K (.ref f_OrderLattice) "name_at" = some (some (.ref f_Lattice_name_at)))
    (mr_PairLattice : PySem.W.mroIn K f_PairLattice (.ref f_PairLattice) = some true)
    (su_PairLattice : PySem.W.ks_superIn K f_PairLattice f_PairLattice "__init__" = some (some (.ref f_Lattice_init)))
    (ci_PairLattice : PySem.W.clsIn K f_PairLattice = some cd_PairLattice)
    (hh_PairLattice_within_at : PySem.W.findIn K (.ref f_PairLattice) "within_at" = some (some (.ref f_Lattice_within_at)))
    (hh_PairLattice_join_at : PySem.W.findIn K (.ref f_PairLattice) "join_at" = some (some (.ref f_Lattice_join_at)))
    (hh_PairLattice_meet_at : PySem.W.findIn K (.ref f_PairLattice) "meet_at" = some (some (.ref f_Lattice_meet_at)))
    (hh_PairLattice_name_at : PySem.W.findIn K (.ref f_PairLattice) "name_at" = some (some (.ref f_Lattice_name_at)))
    (mr_TurnedLattice : PySem.W.mroIn K f_TurnedLattice (.ref f_TurnedLattice) = some true)
    (su_TurnedLattice : PySem.W.ks_superIn K f_TurnedLattice f_TurnedLattice "__init__" = some (some (.ref f_Lattice_init)))
    (ci_TurnedLattice : PySem.W.clsIn K f_TurnedLattice = some cd_TurnedLattice)
    (hh_TurnedLattice_within_at : PySem.W.findIn K (.ref f_TurnedLattice) "within_at" = some (some (.ref f_Lattice_within_at)))
    (hh_TurnedLattice_join_at : PySem.W.findIn K (.ref f_TurnedLattice) "join_at" = some (some (.ref f_Lattice_join_at)))
    (hh_TurnedLattice_meet_at : PySem.W.findIn K (.ref f_TurnedLattice) "meet_at" = some (some (.ref f_Lattice_meet_at)))
    (hh_TurnedLattice_name_at : PySem.W.findIn K (.ref f_TurnedLattice) "name_at" = some (some (.ref f_Lattice_name_at)))
    (mr_ChainLattice : PySem.W.mroIn K f_ChainLattice (.ref f_ChainLattice) = some true)
    (su_ChainLattice : PySem.W.ks_superIn K f_ChainLattice f_ChainLattice "__init__" = some (some (.ref f_Lattice_init)))
    (ci_ChainLattice : PySem.W.clsIn K f_ChainLattice = some cd_ChainLattice)
    (hh_ChainLattice_within_at : PySem.W.findIn K (.ref f_ChainLattice) "within_at" = some (some (.ref f_Lattice_within_at)))
    (hh_ChainLattice_join_at : PySem.W.findIn K (.ref f_ChainLattice) "join_at" = some (some (.ref f_Lattice_join_at)))
    (hh_ChainLattice_meet_at : PySem.W.findIn K (.ref f_ChainLattice) "meet_at" = some (some (.ref f_Lattice_meet_at)))
    (hh_ChainLattice_name_at : PySem.W.findIn K (.ref f_ChainLattice) "name_at" = some (some (.ref f_Lattice_name_at)))
    (ty_Lattice : PySem.W.typeIn K (.ref f_Lattice_init) = some (.type "function"))
    (fi_Lattice : PySem.W.fnIn K f_Lattice_init = true)
    (st_any : PySem.W.nsIn K PySem.cStatics "thirdparty.any" = some none)
    : ∃ fd : FuncData, (∀ (s : Shared) (v : Value), BindsTo s fd ⟨[v], []⟩ [("script", v)]) ∧ ∀ base : Heap, K.In base → base.Ns mainGlobals mg → FnOk PL W_ K mg base L2.CX0 120 fa fd ["script"] (spLaw K) := by
  have e := hfa.symm.trans (PySem.W.mg_of X G g_law)
  cases e
  have F_order_broken := fun_mk (st := St_order_broken) l_order_broken c_order_broken k_order_broken
  have b_order_broken := F_order_broken.binds (ps := ["lattice", "a", "b"]) fun _ _ _ _ _ _ us hl => match us, hl with | [_, _, _], _ => rfl
  have F_join_broken := fun_mk (st := St_join_broken) l_join_broken c_join_broken k_join_broken
  have b_join_broken := F_join_broken.binds (ps := ["lattice", "a", "b"]) fun _ _ _ _ _ _ us hl => match us, hl with | [_, _, _], _ => rfl
  have F_meet_broken := fun_mk (st := St_meet_broken) l_meet_broken c_meet_broken k_meet_broken
  have b_meet_broken := F_meet_broken.binds (ps := ["lattice", "a", "b"]) fun _ _ _ _ _ _ us hl => match us, hl with | [_, _, _], _ => rfl
  have F_spread_broken := fun_mk (st := St_spread_broken) l_spread_broken c_spread_broken k_spread_broken
  have b_spread_broken := F_spread_broken.binds (ps := ["lattice", "a", "b", "c"]) fun _ _ _ _ _ _ us hl => match us, hl with | [_, _, _, _], _ => rfl
  have F_first_fault := fun_mk (st := St_first_fault) l_first_fault c_first_fault k_first_fault
  have b_first_fault := F_first_fault.binds (ps := ["lattice"]) fun _ _ _ _ _ _ us hl => match us, hl with | [_], _ => rfl
  have F_first_place := fun_mk (st := St_first_place) l_first_place c_first_place k_first_place
  have b_first_place := F_first_place.binds (ps := ["sets", "wanted"]) fun _ _ _ _ _ _ us hl => match us, hl with | [_, _], _ => rfl
  have F_closed_downs := fun_mk (st := St_closed_downs) l_closed_downs c_closed_downs k_closed_downs
  have b_closed_downs := F_closed_downs.binds (ps := ["names", "pairs"]) fun _ _ _ _ _ _ us hl => match us, hl with | [_, _], _ => rfl
  have F_check_names := fun_mk (st := St_check_names) l_check_names c_check_names k_check_names
  have b_check_names := F_check_names.binds (ps := ["names", "most"]) fun _ _ _ _ _ _ us hl => match us, hl with | [_, _], _ => rfl
  have F_pair_words := fun_mk (st := St_pair_words) l_pair_words c_pair_words k_pair_words
  have b_pair_words := F_pair_words.binds (ps := ["pairs"]) fun _ _ _ _ _ _ us hl => match us, hl with | [_], _ => rfl
  have F_checked_depth := fun_mk (st := St_checked_depth) l_checked_depth c_checked_depth k_checked_depth
  have b_checked_depth := F_checked_depth.binds (ps := ["size", "lattices"]) fun _ _ _ _ _ _ us hl => match us, hl with | [_, _], _ => rfl
  have F__law_cells := fun_mk (st := St__law_cells) l__law_cells c__law_cells k__law_cells
  have b__law_cells := F__law_cells.binds (ps := ["script"]) fun _ _ _ _ _ _ us hl => match us, hl with | [_], _ => rfl
  have F__law_pick := fun_mk (st := St__law_pick) l__law_pick c__law_pick k__law_pick
  have b__law_pick := F__law_pick.binds (ps := ["source", "many"]) fun _ _ _ _ _ _ us hl => match us, hl with | [_, _], _ => rfl
  have F__law_like := fun_mk (st := St__law_like) l__law_like c__law_like k__law_like
  have b__law_like := F__law_like.binds (ps := ["found", "due"]) fun _ _ _ _ _ _ us hl => match us, hl with | [_, _], _ => rfl
  have F__law_closed := fun_mk (st := St__law_closed) l__law_closed c__law_closed k__law_closed
  have b__law_closed := F__law_closed.binds (ps := ["many", "pairs"]) fun _ _ _ _ _ _ us hl => match us, hl with | [_, _], _ => rfl
  have F__law_join := fun_mk (st := St__law_join) l__law_join c__law_join k__law_join
  have b__law_join := F__law_join.binds (ps := ["rows", "a", "b"]) fun _ _ _ _ _ _ us hl => match us, hl with | [_, _, _], _ => rfl
  have F__law_flipped := fun_mk (st := St__law_flipped) l__law_flipped c__law_flipped k__law_flipped
  have b__law_flipped := F__law_flipped.binds (ps := ["rows"]) fun _ _ _ _ _ _ us hl => match us, hl with | [_], _ => rfl
  have F__law_table := fun_mk (st := St__law_table) l__law_table c__law_table k__law_table
  have b__law_table := F__law_table.binds (ps := ["rows"]) fun _ _ _ _ _ _ us hl => match us, hl with | [_], _ => rfl
  have F__law_heaps := fun_mk (st := St__law_heaps) l__law_heaps c__law_heaps k__law_heaps
  have b__law_heaps := F__law_heaps.binds (ps := ["source", "most"]) fun _ _ _ _ _ _ us hl => match us, hl with | [_, _], _ => rfl
  have F__law_parts := fun_mk (st := St__law_parts) l__law_parts c__law_parts k__law_parts
  have b__law_parts := F__law_parts.binds (ps := ["heaps"]) fun _ _ _ _ _ _ us hl => match us, hl with | [_], _ => rfl
  have F__law_fault := fun_mk (st := St__law_fault) l__law_fault c__law_fault k__law_fault
  have b__law_fault := F__law_fault.binds (ps := ["rows", "names"]) fun _ _ _ _ _ _ us hl => match us, hl with | [_, _], _ => rfl
  have F__law_order := fun_mk (st := St__law_order) l__law_order c__law_order k__law_order
  have b__law_order := F__law_order.binds (ps := ["state"]) fun _ _ _ _ _ _ us hl => match us, hl with | [_], _ => rfl
  have F_law := fun_mk (st := St_law) l_law c_law k_law
  have b_law := F_law.binds (ps := ["script"]) fun _ _ _ _ _ _ us hl => match us, hl with | [_], _ => rfl
  have F_Lattice_init : FunD K "__init__" "Lattice.__init__" St_Lattice_init f_Lattice_init _ td_Lattice_init := ⟨⟨_, _, _, _, _, _, _, _, _, rfl, l_Lattice_init, c_Lattice_init⟩, k_Lattice_init⟩
  have b4_Lattice_init := F_Lattice_init.bindsD (ps := ["self", "label", "names", "downs", "depth"]) (its := [.int 1 du0_Lattice_init]) dd_Lattice_init 4 0 rfl fun _ _ _ _ _ _ us hl => match us, hl with | [_, _, _, _], _ => ⟨_, rfl, rfl⟩
  have b5_Lattice_init := F_Lattice_init.bindsD (ps := ["self", "label", "names", "downs", "depth"]) (its := [.int 1 du0_Lattice_init]) dd_Lattice_init 5 1 rfl fun _ _ _ _ _ _ us hl => match us, hl with | [_, _, _, _, _], _ => ⟨_, rfl, rfl⟩
  have F_Lattice_within_at := fun_mk (st := St_Lattice_within_at) l_Lattice_within_at c_Lattice_within_at k_Lattice_within_at
  have b_Lattice_within_at := F_Lattice_within_at.binds (ps := ["self", "first", "second"]) fun _ _ _ _ _ _ us hl => match us, hl with | [_, _, _], _ => rfl
  have F_Lattice_join_at := fun_mk (st := St_Lattice_join_at) l_Lattice_join_at c_Lattice_join_at k_Lattice_join_at
  have b_Lattice_join_at := F_Lattice_join_at.binds (ps := ["self", "first", "second"]) fun _ _ _ _ _ _ us hl => match us, hl with | [_, _, _], _ => rfl
  have F_Lattice_meet_at := fun_mk (st := St_Lattice_meet_at) l_Lattice_meet_at c_Lattice_meet_at k_Lattice_meet_at
  have b_Lattice_meet_at := F_Lattice_meet_at.binds (ps := ["self", "first", "second"]) fun _ _ _ _ _ _ us hl => match us, hl with | [_, _, _], _ => rfl
  have F_Lattice_name_at := fun_mk (st := St_Lattice_name_at) l_Lattice_name_at c_Lattice_name_at k_Lattice_name_at
  have b_Lattice_name_at := F_Lattice_name_at.binds (ps := ["self", "place"]) fun _ _ _ _ _ _ us hl => match us, hl with | [_, _], _ => rfl
  have F_OrderLattice_init := funK_mk (st := St_OrderLattice_init) (PL := PL) l_OrderLattice_init c_OrderLattice_init k_OrderLattice_init q_OrderLattice_init v_OrderLattice_init vf_OrderLattice_init vg_OrderLattice_init
  have b_OrderLattice_init := F_OrderLattice_init.binds (ps := ["self", "names", "pairs"]) fun _ _ _ _ _ _ _ us hl => match us, hl with | [_, _, _], _ => rfl
  have F_PairLattice_init := funK_mk (st := St_PairLattice_init) (PL := PL) l_PairLattice_init c_PairLattice_init k_PairLattice_init q_PairLattice_init v_PairLattice_init vf_PairLattice_init vg_PairLattice_init
  have b_PairLattice_init := F_PairLattice_init.binds (ps := ["self", "left", "right"]) fun _ _ _ _ _ _ _ us hl => match us, hl with | [_, _, _], _ => rfl
  have F_PairLattice_pairs_within := fun_mk (st := St_PairLattice_pairs_within) l_PairLattice_pairs_within c_PairLattice_pairs_within k_PairLattice_pairs_within
  have b_PairLattice_pairs_within := F_PairLattice_pairs_within.binds (ps := ["self", "pairs", "upper"]) fun _ _ _ _ _ _ us hl => match us, hl with | [_, _, _], _ => rfl
  have F_TurnedLattice_init := funK_mk (st := St_TurnedLattice_init) (PL := PL) l_TurnedLattice_init c_TurnedLattice_init k_TurnedLattice_init q_TurnedLattice_init v_TurnedLattice_init vf_TurnedLattice_init vg_TurnedLattice_init
  have b_TurnedLattice_init := F_TurnedLattice_init.binds (ps := ["self", "inner"]) fun _ _ _ _ _ _ _ us hl => match us, hl with | [_, _], _ => rfl
  have F_ChainLattice_init := funK_mk (st := St_ChainLattice_init) (PL := PL) l_ChainLattice_init c_ChainLattice_init k_ChainLattice_init q_ChainLattice_init v_ChainLattice_init vf_ChainLattice_init vg_ChainLattice_init
  have b_ChainLattice_init := F_ChainLattice_init.binds (ps := ["self", "count"]) fun _ _ _ _ _ _ _ us hl => match us, hl with | [_, _], _ => rfl
  let T : Tx K mg W_ := { n_abs := PySem.W.mg_none_of X G z_abs, n_any := PySem.W.mg_none_of X G z_any, n_bool := PySem.W.mg_none_of X G z_bool, n_dict := PySem.W.mg_none_of X G z_dict, n_enumerate := PySem.W.mg_none_of X G z_enumerate, n_int := PySem.W.mg_none_of X G z_int, n_isinstance := PySem.W.mg_none_of X G z_isinstance, n_len := PySem.W.mg_none_of X G z_len, n_list := PySem.W.mg_none_of X G z_list, n_max := PySem.W.mg_none_of X G z_max, n_min := PySem.W.mg_none_of X G z_min, n_range := PySem.W.mg_none_of X G z_range, n_str := PySem.W.mg_none_of X G z_str, n_sum := PySem.W.mg_none_of X G z_sum, n_super := PySem.W.mg_none_of X G z_super, n_tuple := PySem.W.mg_none_of X G z_tuple, a_order_broken := f_order_broken, d_order_broken := _, F_order_broken := F_order_broken, b_order_broken := b_order_broken, g_order_broken := PySem.W.mg_of X G g_order_broken, a_join_broken := f_join_broken, d_join_broken := _, F_join_broken := F_join_broken, b_join_broken := b_join_broken, g_join_broken := PySem.W.mg_of X G g_join_broken, a_meet_broken := f_meet_broken, d_meet_broken := _, F_meet_broken := F_meet_broken, b_meet_broken := b_meet_broken, g_meet_broken := PySem.W.mg_of X G g_meet_broken, a_spread_broken := f_spread_broken, d_spread_broken := _, F_spread_broken := F_spread_broken, b_spread_broken := b_spread_broken, g_spread_broken := PySem.W.mg_of X G g_spread_broken, a_first_fault := f_first_fault, d_first_fault := _, F_first_fault := F_first_fault, b_first_fault := b_first_fault, g_first_fault := PySem.W.mg_of X G g_first_fault, a_first_place := f_first_place, d_first_place := _, F_first_place := F_first_place, b_first_place := b_first_place, g_first_place := PySem.W.mg_of X G g_first_place, a_closed_downs := f_closed_downs, d_closed_downs := _, F_closed_downs := F_closed_downs, b_closed_downs := b_closed_downs, g_closed_downs := PySem.W.mg_of X G g_closed_downs, a_check_names := f_check_names, d_check_names := _, F_check_names := F_check_names, b_check_names := b_check_names, g_check_names := PySem.W.mg_of X G g_check_names, a_pair_words := f_pair_words, d_pair_words := _, F_pair_words := F_pair_words, b_pair_words := b_pair_words, g_pair_words := PySem.W.mg_of X G g_pair_words, a_checked_depth := f_checked_depth, d_checked_depth := _, F_checked_depth := F_checked_depth, b_checked_depth := b_checked_depth, g_checked_depth := PySem.W.mg_of X G g_checked_depth, a__law_cells := f__law_cells, d__law_cells := _, F__law_cells := F__law_cells, b__law_cells := b__law_cells, g__law_cells := PySem.W.mg_of X G g__law_cells, a__law_pick := f__law_pick, d__law_pick := _, F__law_pick := F__law_pick, b__law_pick := b__law_pick, g__law_pick := PySem.W.mg_of X G g__law_pick, a__law_like := f__law_like, d__law_like := _, F__law_like := F__law_like, b__law_like := b__law_like, g__law_like := PySem.W.mg_of X G g__law_like, a__law_closed := f__law_closed, d__law_closed := _, F__law_closed := F__law_closed, b__law_closed := b__law_closed, g__law_closed := PySem.W.mg_of X G g__law_closed, a__law_join := f__law_join, d__law_join := _, F__law_join := F__law_join, b__law_join := b__law_join, g__law_join := PySem.W.mg_of X G g__law_join, a__law_flipped := f__law_flipped, d__law_flipped := _, F__law_flipped := F__law_flipped, b__law_flipped := b__law_flipped, g__law_flipped := PySem.W.mg_of X G g__law_flipped, a__law_table := f__law_table, d__law_table := _, F__law_table := F__law_table, b__law_table := b__law_table, g__law_table := PySem.W.mg_of X G g__law_table, a__law_heaps := f__law_heaps, d__law_heaps := _, F__law_heaps := F__law_heaps, b__law_heaps := b__law_heaps, g__law_heaps := PySem.W.mg_of X G g__law_heaps, a__law_parts := f__law_parts, d__law_parts := _, F__law_parts := F__law_parts, b__law_parts := b__law_parts, g__law_parts := PySem.W.mg_of X G g__law_parts, a__law_fault := f__law_fault, d__law_fault := _, F__law_fault := F__law_fault, b__law_fault := b__law_fault, g__law_fault := PySem.W.mg_of X G g__law_fault, a__law_order := f__law_order, d__law_order := _, F__law_order := F__law_order, b__law_order := b__law_order, g__law_order := PySem.W.mg_of X G g__law_order, a_law := fa, d_law := _, F_law := F_law, b_law := b_law, g_law := PySem.W.mg_of X G g_law, g_MOST_VALUES := ⟨_, PySem.W.mg_of X G g_MOST_VALUES⟩, g_LETTERS := ⟨_, PySem.W.mg_of X G g_LETTERS⟩, g_DEEPEST := ⟨_, PySem.W.mg_of X G g_DEEPEST⟩, a_Lattice := f_Lattice, g_Lattice := PySem.W.mg_of X G g_Lattice, c_Lattice := ⟨pg_Lattice, hd_Lattice, po_Lattice, sa_Lattice⟩, n_Lattice_label := na_Lattice_label, n_Lattice_size := na_Lattice_size, n_Lattice_depth := na_Lattice_depth, n_Lattice_value_names := na_Lattice_value_names, n_Lattice_downs := na_Lattice_downs, n_Lattice_ups := na_Lattice_ups, n_Lattice_bottom_at := na_Lattice_bottom_at, n_Lattice_top_at := na_Lattice_top_at, b4_Lattice_init := ⟨_, b4_Lattice_init⟩, b5_Lattice_init := b5_Lattice_init, a_Lattice_init := f_Lattice_init, d_Lattice_init := _, t_Lattice_init := td_Lattice_init, F_Lattice_init := F_Lattice_init, dd_Lattice_init := ⟨_, _, dd_Lattice_init⟩, M_Lattice := ⟨mk_Lattice, h_Lattice_init, i_Lattice_init, kc_Lattice⟩, a_Lattice_within_at := f_Lattice_within_at, d_Lattice_within_at := _, F_Lattice_within_at := F_Lattice_within_at, b_Lattice_within_at := b_Lattice_within_at, m_Lattice_within_at := ⟨h_Lattice_within_at, i_Lattice_within_at, k_Lattice_within_at⟩, a_Lattice_join_at := f_Lattice_join_at, d_Lattice_join_at := _, F_Lattice_join_at := F_Lattice_join_at, b_Lattice_join_at := b_Lattice_join_at, m_Lattice_join_at := ⟨h_Lattice_join_at, i_Lattice_join_at, k_Lattice_join_at⟩, a_Lattice_meet_at := f_Lattice_meet_at, d_Lattice_meet_at := _, F_Lattice_meet_at := F_Lattice_meet_at, b_Lattice_meet_at := b_Lattice_meet_at, m_Lattice_meet_at := ⟨h_Lattice_meet_at, i_Lattice_meet_at, k_Lattice_meet_at⟩, a_Lattice_name_at := f_Lattice_name_at, d_Lattice_name_at := _, F_Lattice_name_at := F_Lattice_name_at, b_Lattice_name_at := b_Lattice_name_at, m_Lattice_name_at := ⟨h_Lattice_name_at, i_Lattice_name_at, k_Lattice_name_at⟩, a_OrderLattice := f_OrderLattice, g_OrderLattice := PySem.W.mg_of X G g_OrderLattice, c_OrderLattice := ⟨pg_OrderLattice, hd_OrderLattice, po_OrderLattice, sa_OrderLattice⟩, n_OrderLattice_label := na_OrderLattice_label, n_OrderLattice_size := na_OrderLattice_size, n_OrderLattice_depth := na_OrderLattice_depth, n_OrderLattice_value_names := na_OrderLattice_value_names, n_OrderLattice_downs := na_OrderLattice_downs, n_OrderLattice_ups := na_OrderLattice_ups, n_OrderLattice_bottom_at := na_OrderLattice_bottom_at, n_OrderLattice_top_at := na_OrderLattice_top_at, a_OrderLattice_init := f_OrderLattice_init, d_OrderLattice_init := _, F_OrderLattice_init := F_OrderLattice_init, b_OrderLattice_init := b_OrderLattice_init, M_OrderLattice := ⟨mk_OrderLattice, h_OrderLattice_init, i_OrderLattice_init, kc_OrderLattice⟩, a_PairLattice := f_PairLattice, g_PairLattice := PySem.W.mg_of X G g_PairLattice, c_PairLattice := ⟨pg_PairLattice, hd_PairLattice, po_PairLattice, sa_PairLattice⟩, n_PairLattice_label := na_PairLattice_label, n_PairLattice_size := na_PairLattice_size, n_PairLattice_depth := na_PairLattice_depth, n_PairLattice_value_names := na_PairLattice_value_names, n_PairLattice_downs := na_PairLattice_downs, n_PairLattice_ups := na_PairLattice_ups, n_PairLattice_bottom_at := na_PairLattice_bottom_at, n_PairLattice_top_at := na_PairLattice_top_at, n_PairLattice_left := na_PairLattice_left, n_PairLattice_right := na_PairLattice_right, a_PairLattice_init := f_PairLattice_init, d_PairLattice_init := _, F_PairLattice_init := F_PairLattice_init, b_PairLattice_init := b_PairLattice_init, M_PairLattice := ⟨mk_PairLattice, h_PairLattice_init, i_PairLattice_init, kc_PairLattice⟩, a_PairLattice_pairs_within := f_PairLattice_pairs_within, d_PairLattice_pairs_within := _, F_PairLattice_pairs_within := F_PairLattice_pairs_within, b_PairLattice_pairs_within := b_PairLattice_pairs_within, m_PairLattice_pairs_within := ⟨h_PairLattice_pairs_within, i_PairLattice_pairs_within, k_PairLattice_pairs_within⟩, a_TurnedLattice := f_TurnedLattice, g_TurnedLattice := PySem.W.mg_of X G g_TurnedLattice, c_TurnedLattice := ⟨pg_TurnedLattice, hd_TurnedLattice, po_TurnedLattice, sa_TurnedLattice⟩, n_TurnedLattice_label := na_TurnedLattice_label, n_TurnedLattice_size := na_TurnedLattice_size, n_TurnedLattice_depth := na_TurnedLattice_depth, n_TurnedLattice_value_names := na_TurnedLattice_value_names, n_TurnedLattice_downs := na_TurnedLattice_downs, n_TurnedLattice_ups := na_TurnedLattice_ups, n_TurnedLattice_bottom_at := na_TurnedLattice_bottom_at, n_TurnedLattice_top_at := na_TurnedLattice_top_at, n_TurnedLattice_inner := na_TurnedLattice_inner, a_TurnedLattice_init := f_TurnedLattice_init, d_TurnedLattice_init := _, F_TurnedLattice_init := F_TurnedLattice_init, b_TurnedLattice_init := b_TurnedLattice_init, M_TurnedLattice := ⟨mk_TurnedLattice, h_TurnedLattice_init, i_TurnedLattice_init, kc_TurnedLattice⟩, a_ChainLattice := f_ChainLattice, g_ChainLattice := PySem.W.mg_of X G g_ChainLattice, c_ChainLattice := ⟨pg_ChainLattice, hd_ChainLattice, po_ChainLattice, sa_ChainLattice⟩, n_ChainLattice_label := na_ChainLattice_label, n_ChainLattice_size := na_ChainLattice_size, n_ChainLattice_depth := na_ChainLattice_depth, n_ChainLattice_value_names := na_ChainLattice_value_names, n_ChainLattice_downs := na_ChainLattice_downs, n_ChainLattice_ups := na_ChainLattice_ups, n_ChainLattice_bottom_at := na_ChainLattice_bottom_at, n_ChainLattice_top_at := na_ChainLattice_top_at, a_ChainLattice_init := f_ChainLattice_init, d_ChainLattice_init := _, F_ChainLattice_init := F_ChainLattice_init, b_ChainLattice_init := b_ChainLattice_init, M_ChainLattice := ⟨mk_ChainLattice, h_ChainLattice_init, i_ChainLattice_init, kc_ChainLattice⟩, mr_OrderLattice := mr_OrderLattice, su_OrderLattice := su_OrderLattice, ci_OrderLattice := ⟨_, ci_OrderLattice⟩, m_OrderLattice_within_at := ⟨hh_OrderLattice_within_at, i_Lattice_within_at, k_Lattice_within_at⟩, m_OrderLattice_join_at := ⟨hh_OrderLattice_join_at, i_Lattice_join_at, k_Lattice_join_at⟩, m_OrderLattice_meet_at := ⟨hh_OrderLattice_meet_at, i_Lattice_meet_at, k_Lattice_meet_at⟩, m_OrderLattice_name_at := ⟨hh_OrderLattice_name_at, i_Lattice_name_at, k_Lattice_name_at⟩, mr_PairLattice := mr_PairLattice, su_PairLattice := su_PairLattice, ci_PairLattice := ⟨_, ci_PairLattice⟩, m_PairLattice_within_at := ⟨hh_PairLattice_within_at, i_Lattice_within_at, k_Lattice_within_at⟩, m_PairLattice_join_at := ⟨hh_PairLattice_join_at, i_Lattice_join_at, k_Lattice_join_at⟩, m_PairLattice_meet_at := ⟨hh_PairLattice_meet_at, i_Lattice_meet_at, k_Lattice_meet_at⟩, m_PairLattice_name_at := ⟨hh_PairLattice_name_at, i_Lattice_name_at, k_Lattice_name_at⟩, mr_TurnedLattice := mr_TurnedLattice, su_TurnedLattice := su_TurnedLattice, ci_TurnedLattice := ⟨_, ci_TurnedLattice⟩, m_TurnedLattice_within_at := ⟨hh_TurnedLattice_within_at, i_Lattice_within_at, k_Lattice_within_at⟩, m_TurnedLattice_join_at := ⟨hh_TurnedLattice_join_at, i_Lattice_join_at, k_Lattice_join_at⟩, m_TurnedLattice_meet_at := ⟨hh_TurnedLattice_meet_at, i_Lattice_meet_at, k_Lattice_meet_at⟩, m_TurnedLattice_name_at := ⟨hh_TurnedLattice_name_at, i_Lattice_name_at, k_Lattice_name_at⟩, mr_ChainLattice := mr_ChainLattice, su_ChainLattice := su_ChainLattice, ci_ChainLattice := ⟨_, ci_ChainLattice⟩, m_ChainLattice_within_at := ⟨hh_ChainLattice_within_at, i_Lattice_within_at, k_Lattice_within_at⟩, m_ChainLattice_join_at := ⟨hh_ChainLattice_join_at, i_Lattice_join_at, k_Lattice_join_at⟩, m_ChainLattice_meet_at := ⟨hh_ChainLattice_meet_at, i_Lattice_meet_at, k_Lattice_meet_at⟩, m_ChainLattice_name_at := ⟨hh_ChainLattice_name_at, i_Lattice_name_at, k_Lattice_name_at⟩, ty_Lattice := ty_Lattice, fi_Lattice := fi_Lattice, st_any := st_any }
  exact ⟨T.d_law, fun s v => .of_eq rfl, fun base _ _ => F T base⟩
def lo0 : List PySem.Str := ["_wall", "order_broken", "join_broken", "meet_broken", "spread_broken", "first_fault", "LatticeError", "BadLattice", "MOST_VALUES", "LETTERS", "Lattice", "first_place", "closed_downs", "check_names", "pair_words", "OrderLattice", "DEEPEST", "checked_depth", "PairLattice", "TurnedLattice", "ChainLattice", "_law_cells", "_law_pick", "_law_like", "_law_closed", "_law_join", "_law_flipped", "_law_table", "_law_heaps", "_law_parts"]
def lo1 : List PySem.Str := ["_law_fault", "_law_order"]
def lo : List PySem.Str := lo0 ++ lo1
abbrev qv : Program := PySem.W.view PySem.Challenge.pw_latticewish_k07_first_fault [38]
end Lw
section
open PySem PySem.W PyProof.Rows
set_option hygiene false in
local macro_rules | `(tactic| o_headL $H:term) => `(tactic| exact h.elim)
set_option maxRecDepth 100000 in
set_option maxHeartbeats 0 in
theorem Lw.t0 (h : False) : PySem.Challenge.rw_latticewish_k07_first_fault.Holds := by
  w_on; o_law; k_headL
def Lw.asL : List Addr := [2, 3, 15, 17, 18, 20, 21, 22, 24, 25, 27, 28, 29, 31, 32, 34, 35, 36, 38, 39, 41, 42, 43, 45, 46, 48, 49, 50, 52, 53, 55, 56, 57, 64, 65, 66, 67, 70, 77, 78, 79, 89, 90, 93, 94, 95, 97, 98, 100, 101, 102, 104, 105, 107, 108, 109, 111, 112, 114, 115, 116, 118, 119, 121, 122, 123, 125, 126, 128, 129, 130, 132, 133, 135, 136, 137, 138, 139, 140, 141, 144, 146, 147, 149, 150, 151, 154, 155, 156, 159, 160, 161, 164, 165, 166, 169, 174, 175, 177, 178, 180, 181, 182, 183, 184, 187, 189, 190, 192, 193, 194, 197, 202, 203, 206, 207, 208, 210, 211, 213, 214, 215, 216, 217, 220, 223, 228, 229, 232, 233, 234, 235, 236, 239, 242, 247, 248, 251, 252, 253, 254, 255, 258, 261, 262, 263, 265, 266, 268, 269, 270, 273, 274, 275, 278, 279, 280, 283, 284, 285, 288, 289, 290, 293, 294, 295, 298, 299, 300, 303, 304, 305, 307, 308, 310, 311, 312, 315, 316, 317, 320, 321]
def Lw.RunE (w : World) : Prop := ∀ os : OsState, (HeadRun.endF (HeadRun.stepQ (HeadRun.denQ HeadRun.tabQ) (PySem.W.OpenLaw.row PySem.Challenge.rw_latticewish_k07_first_fault).prog w) 20000 (PySem.W.OpenLaw.row PySem.Challenge.rw_latticewish_k07_first_fault).prog w os).map (fun s => (HeadRun.looksF (PySem.W.OpenLaw.row PySem.Challenge.rw_latticewish_k07_first_fault).prog (boot_heap w.params) s.abs, HeadRun.seenQ Lw.qv Lw.lo (importedModules (PySem.W.OpenLaw.row PySem.Challenge.rw_latticewish_k07_first_fault).prog.main.body) (fun s => PySem.W.xlAt Lw.qv [] s && PySem.W.recOk (PySem.W.RowW.records (PySem.W.OpenRow.toRowW (PySem.W.OpenLaw.row PySem.Challenge.rw_latticewish_k07_first_fault))) s) s.abs, Lw.asL.map (HeadRun.getT s))) = some (true, openGood Lw.qv Lw.lo, (Lw.t0.heap_39 w.params).map fun x => some x.2)
set_option maxRecDepth 100000 in
theorem Lw.runF (w : World) : Lw.RunE (w.withFollow "special-get-raises" false) := by
  intro os
  kernel_rfl
set_option maxRecDepth 100000 in
theorem Lw.runT (w : World) : Lw.RunE (w.withFollow "special-get-raises" true) := by
  intro os
  kernel_rfl
theorem Lw.run (w : World) : Lw.RunE w := PySem.W.byRow2 "special-get-raises" Lw.runF Lw.runT w
set_option maxRecDepth 100000 in
set_option maxHeartbeats 0 in
theorem Lw.pre (F : ∀ (K : PySem.W.Frag) (mg : Str → Option Value) (w : World) (T : Lw.Tx K mg w) (base : Heap), L2.FnOk Lw.PL w K mg base L2.CX0 120 T.a_law T.d_law ["script"] (Lw.spLaw K)) : PySem.Challenge.rw_latticewish_k07_first_fault.Holds := by
  w_on; o_law
  refine PySem.W.holds_open (r := PySem.W.OpenLaw.row PySem.Challenge.rw_latticewish_k07_first_fault) (q := Lw.qv) (loose := Lw.lo) (Xt := (fun s => PySem.W.xlAt Lw.qv [] s && PySem.W.recOk (PySem.W.RowW.records (PySem.W.OpenRow.toRowW (PySem.W.OpenLaw.row PySem.Challenge.rw_latticewish_k07_first_fault))) s)) (XP := PySem.W.XL Lw.qv []) (Yf := PySem.W.Hook.obs (kHook Lw.t0.heap_39 Lw.asL (fun _ => by kernel_rfl))) (Ya := PySem.W.Hook.val (kHook Lw.t0.heap_39 Lw.asL (fun _ => by kernel_rfl))) (YP := PySem.W.Hook.says (kHook Lw.t0.heap_39 Lw.asL (fun _ => by kernel_rfl))) (N := 21000) ?hl (PySem.W.Hook.of (kHook Lw.t0.heap_39 Lw.asL (fun _ => by kernel_rfl))) (PySem.W.Hook.keeps (kHook Lw.t0.heap_39 Lw.asL (fun _ => by kernel_rfl))) (fun s e => PySem.W.xl_of s (Bool.and_eq_true_iff.mp e).1) PySem.W.XL.keeps (by rfl) (by rfl) (by rfl) (fun s e => PySem.W.recFacts_of (Bool.and_eq_true_iff.mp e).2) (by rfl) (by first | assumption | decide +kernel) (by decide +kernel) ⟨rfl, rfl, rfl, rfl, rfl, by decide +kernel⟩ ?hw ?hc
  case hl => exact HeadRun.left_oneK (M := 20000) (by kernel_rfl) (by rfl) (fun s => by kernel_rfl) (by rfl) (fun w os => Lw.run w os)
  case hw => ((try (rename_i sd; clear sd)); w_witness2)
  try (rename_i sd; clear sd)
  k_fill
  refine L2.walk_of (n := 63) (k := 120) (x := "script") (CX := fun w => L2.CX0) (sp := fun w => Lw.spLaw _) rfl (by decide) rfl ⟨rfl, by decide, by decide⟩ (fun w h Y => PySem.W.kIn_of Y) ?F (fun _ _ a ns hl _ hS => ⟨a, ns, rfl, hS, hl, fun _ => rfl⟩) fun _ _ _ _ _ z => z
  case F =>
    intro w mg fa h KX G hmg
    refine' Lw.all_mk (l := PySem.Challenge.rw_latticewish_k07_first_fault) KX G hmg (fun T base => F _ _ _ T base) ?z_abs ?z_any ?z_bool ?z_dict ?z_enumerate ?z_int ?z_isinstance ?z_len ?z_list ?z_max ?z_min ?z_range ?z_str ?z_sum ?z_super ?z_tuple ?g_order_broken ?l_order_broken ?c_order_broken ?k_order_broken ?g_join_broken ?l_join_broken ?c_join_broken ?k_join_broken ?g_meet_broken ?l_meet_broken ?c_meet_broken ?k_meet_broken ?g_spread_broken ?l_spread_broken ?c_spread_broken ?k_spread_broken ?g_first_fault ?l_first_fault ?c_first_fault ?k_first_fault ?g_first_place ?l_first_place ?c_first_place ?k_first_place ?g_closed_downs ?l_closed_downs ?c_closed_downs ?k_closed_downs ?g_check_names ?l_check_names ?c_check_names ?k_check_names ?g_pair_words ?l_pair_words ?c_pair_words ?k_pair_words ?g_checked_depth ?l_checked_depth ?c_checked_depth ?k_checked_depth ?g__law_cells ?l__law_cells ?c__law_cells ?k__law_cells ?g__law_pick ?l__law_pick ?c__law_pick ?k__law_pick ?g__law_like ?l__law_like ?c__law_like ?k__law_like ?g__law_closed ?l__law_closed ?c__law_closed ?k__law_closed ?g__law_join ?l__law_join ?c__law_join ?k__law_join ?g__law_flipped ?l__law_flipped ?c__law_flipped ?k__law_flipped ?g__law_table ?l__law_table ?c__law_table ?k__law_table ?g__law_heaps ?l__law_heaps ?c__law_heaps ?k__law_heaps ?g__law_parts ?l__law_parts ?c__law_parts ?k__law_parts ?g__law_fault ?l__law_fault ?c__law_fault ?k__law_fault ?g__law_order ?l__law_order ?c__law_order ?k__law_order ?g_law ?l_law ?c_law ?k_law ?g_MOST_VALUES ?g_LETTERS ?g_DEEPEST ?g_Lattice ?pg_Lattice ?hd_Lattice ?po_Lattice ?sa_Lattice ?mk_Lattice ?kc_Lattice ?na_Lattice_label ?na_Lattice_size ?na_Lattice_depth ?na_Lattice_value_names ?na_Lattice_downs ?na_Lattice_ups ?na_Lattice_bottom_at ?na_Lattice_top_at ?h_Lattice_init ?i_Lattice_init ?l_Lattice_init ?c_Lattice_init ?k_Lattice_init ?dd_Lattice_init ?h_Lattice_within_at ?i_Lattice_within_at ?l_Lattice_within_at ?c_Lattice_within_at ?k_Lattice_within_at ?h_Lattice_join_at ?i_Lattice_join_at ?l_Lattice_join_at ?c_Lattice_join_at ?k_Lattice_join_at ?h_Lattice_meet_at ?i_Lattice_meet_at ?l_Lattice_meet_at ?c_Lattice_meet_at ?k_Lattice_meet_at ?h_Lattice_name_at ?i_Lattice_name_at ?l_Lattice_name_at ?c_Lattice_name_at ?k_Lattice_name_at ?g_OrderLattice ?pg_OrderLattice ?hd_OrderLattice ?po_OrderLattice ?sa_OrderLattice ?mk_OrderLattice ?kc_OrderLattice ?na_OrderLattice_label ?na_OrderLattice_size ?na_OrderLattice_depth ?na_OrderLattice_value_names ?na_OrderLattice_downs ?na_OrderLattice_ups ?na_OrderLattice_bottom_at ?na_OrderLattice_top_at ?h_OrderLattice_init ?i_OrderLattice_init ?l_OrderLattice_init ?c_OrderLattice_init ?k_OrderLattice_init ?q_OrderLattice_init ?v_OrderLattice_init ?vf_OrderLattice_init ?vg_OrderLattice_init ?g_PairLattice ?pg_PairLattice ?hd_PairLattice ?po_PairLattice ?sa_PairLattice ?mk_PairLattice ?kc_PairLattice ?na_PairLattice_label ?na_PairLattice_size ?na_PairLattice_depth ?na_PairLattice_value_names ?na_PairLattice_downs ?na_PairLattice_ups ?na_PairLattice_bottom_at ?na_PairLattice_top_at ?na_PairLattice_left ?na_PairLattice_right ?h_PairLattice_init ?i_PairLattice_init ?l_PairLattice_init ?c_PairLattice_init ?k_PairLattice_init ?q_PairLattice_init ?v_PairLattice_init ?vf_PairLattice_init ?vg_PairLattice_init ?h_PairLattice_pairs_within ?i_PairLattice_pairs_within ?l_PairLattice_pairs_within ?c_PairLattice_pairs_within ?k_PairLattice_pairs_within ?g_TurnedLattice ?pg_TurnedLattice ?hd_TurnedLattice ?po_TurnedLattice ?sa_TurnedLattice ?mk_TurnedLattice ?kc_TurnedLattice ?na_TurnedLattice_label ?na_TurnedLattice_size ?na_TurnedLattice_depth ?na_TurnedLattice_value_names ?na_TurnedLattice_downs ?na_TurnedLattice_ups ?na_TurnedLattice_bottom_at ?na_TurnedLattice_top_at ?na_TurnedLattice_inner ?h_TurnedLattice_init ?i_TurnedLattice_init ?l_TurnedLattice_init ?c_TurnedLattice_init ?k_TurnedLattice_init ?q_TurnedLattice_init ?v_TurnedLattice_init ?vf_TurnedLattice_init ?vg_TurnedLattice_init ?g_ChainLattice ?pg_ChainLattice ?hd_ChainLattice ?po_ChainLattice ?sa_ChainLattice ?mk_ChainLattice ?kc_ChainLattice ?na_ChainLattice_label ?na_ChainLattice_size ?na_ChainLattice_depth ?na_ChainLattice_value_names ?na_ChainLattice_downs ?na_ChainLattice_ups ?na_ChainLattice_bottom_at ?na_ChainLattice_top_at ?h_ChainLattice_init ?i_ChainLattice_init ?l_ChainLattice_init ?c_ChainLattice_init ?k_ChainLattice_init ?q_ChainLattice_init ?v_ChainLattice_init ?vf_ChainLattice_init ?vg_ChainLattice_init ?mr_OrderLattice ?su_OrderLattice ?ci_OrderLattice ?hh_OrderLattice_within_at ?hh_OrderLattice_join_at ?hh_OrderLattice_meet_at ?hh_OrderLattice_name_at ?mr_PairLattice ?su_PairLattice ?ci_PairLattice ?hh_PairLattice_within_at ?hh_PairLattice_join_at ?hh_PairLattice_meet_at ?hh_PairLattice_name_at ?mr_TurnedLattice ?su_TurnedLattice ?ci_TurnedLattice ?hh_TurnedLattice_within_at ?hh_TurnedLattice_join_at ?hh_TurnedLattice_meet_at ?hh_TurnedLattice_name_at ?mr_ChainLattice ?su_ChainLattice ?ci_ChainLattice ?hh_ChainLattice_within_at ?hh_ChainLattice_join_at ?hh_ChainLattice_meet_at ?hh_ChainLattice_name_at ?ty_Lattice ?fi_Lattice ?st_any
    (case z_abs => k_is)
    (case z_any => k_is)
    (case z_bool => k_is)
    (case z_dict => k_is)
    (case z_enumerate => k_is)
    (case z_int => k_is)
    (case z_isinstance => k_is)
    (case z_len => k_is)
    (case z_list => k_is)
    (case z_max => k_is)
    (case z_min => k_is)
    (case z_range => k_is)
    (case z_str => k_is)
    (case z_sum => k_is)
    (case z_super => k_is)
    (case z_tuple => k_is)
    (case g_order_broken => k_is)
    (case l_order_broken => k_is)
    (case c_order_broken => k_is)
    (case k_order_broken => k_is)
    (case g_join_broken => k_is)
    (case l_join_broken => k_is)
    (case c_join_broken => k_is)
    (case k_join_broken => k_is)
    (case g_meet_broken => k_is)
    (case l_meet_broken => k_is)
    (case c_meet_broken => k_is)
    (case k_meet_broken => k_is)
    (case g_spread_broken => k_is)
    (case l_spread_broken => k_is)
    (case c_spread_broken => k_is)
    (case k_spread_broken => k_is)
    (case g_first_fault => k_is)
    (case l_first_fault => k_is)
    (case c_first_fault => k_is)
    (case k_first_fault => k_is)
    (case g_first_place => k_is)
    (case l_first_place => k_is)
    (case c_first_place => k_is)
    (case k_first_place => k_is)
    (case g_closed_downs => k_is)
    (case l_closed_downs => k_is)
    (case c_closed_downs => k_is)
    (case k_closed_downs => k_is)
    (case g_check_names => k_is)
    (case l_check_names => k_is)
    (case c_check_names => k_is)
    (case k_check_names => k_is)
    (case g_pair_words => k_is)
    (case l_pair_words => k_is)
    (case c_pair_words => k_is)
    (case k_pair_words => k_is)
    (case g_checked_depth => k_is)
    (case l_checked_depth => k_is)
    (case c_checked_depth => k_is)
    (case k_checked_depth => k_is)
    (case g__law_cells => k_is)
    (case l__law_cells => k_is)
    (case c__law_cells => k_is)
    (case k__law_cells => k_is)
    (case g__law_pick => k_is)
    (case l__law_pick => k_is)
    (case c__law_pick => k_is)
    (case k__law_pick => k_is)
    (case g__law_like => k_is)
    (case l__law_like => k_is)
    (case c__law_like => k_is)
    (case k__law_like => k_is)
    (case g__law_closed => k_is)
    (case l__law_closed => k_is)
    (case c__law_closed => k_is)
    (case k__law_closed => k_is)
    (case g__law_join => k_is)
    (case l__law_join => k_is)
    (case c__law_join => k_is)
    (case k__law_join => k_is)
    (case g__law_flipped => k_is)
    (case l__law_flipped => k_is)
    (case c__law_flipped => k_is)
    (case k__law_flipped => k_is)
    (case g__law_table => k_is)
    (case l__law_table => k_is)
    (case c__law_table => k_is)
    (case k__law_table => k_is)
    (case g__law_heaps => k_is)
    (case l__law_heaps => k_is)
    (case c__law_heaps => k_is)
    (case k__law_heaps => k_is)
    (case g__law_parts => k_is)
    (case l__law_parts => k_is)
    (case c__law_parts => k_is)
    (case k__law_parts => k_is)
    (case g__law_fault => k_is)
    (case l__law_fault => k_is)
    (case c__law_fault => k_is)
    (case k__law_fault => k_is)
    (case g__law_order => k_is)
    (case l__law_order => k_is)
    (case c__law_order => k_is)
    (case k__law_order => k_is)
    (case g_law => k_is)
    (case l_law => k_is)
    (case c_law => k_is)
    (case k_law => k_is)
    (case g_MOST_VALUES => k_is)
    (case g_LETTERS => k_is)
    (case g_DEEPEST => k_is)
    (case g_Lattice => k_is)
    (case pg_Lattice => k_is)
    (case hd_Lattice => k_is)
    (case po_Lattice => k_is)
    (case sa_Lattice => k_is)
    (case mk_Lattice => k_is)
    (case kc_Lattice => k_is)
    (case na_Lattice_label => k_is)
    (case na_Lattice_size => k_is)
    (case na_Lattice_depth => k_is)
    (case na_Lattice_value_names => k_is)
    (case na_Lattice_downs => k_is)
    (case na_Lattice_ups => k_is)
    (case na_Lattice_bottom_at => k_is)
    (case na_Lattice_top_at => k_is)
    (case h_Lattice_init => k_is)
    (case i_Lattice_init => k_is)
    (case l_Lattice_init => k_is)
    (case c_Lattice_init => k_is)
    (case k_Lattice_init => k_is)
    (case dd_Lattice_init => k_is)
    (case h_Lattice_within_at => k_is)
    (case i_Lattice_within_at => k_is)
    (case l_Lattice_within_at => k_is)
    (case c_Lattice_within_at => k_is)
    (case k_Lattice_within_at => k_is)
    (case h_Lattice_join_at => k_is)
    (case i_Lattice_join_at => k_is)
    (case l_Lattice_join_at => k_is)
    (case c_Lattice_join_at => k_is)
    (case k_Lattice_join_at => k_is)
    (case h_Lattice_meet_at => k_is)
    (case i_Lattice_meet_at => k_is)
    (case l_Lattice_meet_at => k_is)
    (case c_Lattice_meet_at => k_is)
    (case k_Lattice_meet_at => k_is)
    (case h_Lattice_name_at => k_is)
    (case i_Lattice_name_at => k_is)
    (case l_Lattice_name_at => k_is)
    (case c_Lattice_name_at => k_is)
    (case k_Lattice_name_at => k_is)
    (case g_OrderLattice => k_is)
    (case pg_OrderLattice => k_is)
    (case hd_OrderLattice => k_is)
    (case po_OrderLattice => k_is)
    (case sa_OrderLattice => k_is)
    (case mk_OrderLattice => k_is)
    (case kc_OrderLattice => k_is)
    (case na_OrderLattice_label => k_is)
    (case na_OrderLattice_size => k_is)
    (case na_OrderLattice_depth => k_is)
    (case na_OrderLattice_value_names => k_is)
    (case na_OrderLattice_downs => k_is)
    (case na_OrderLattice_ups => k_is)
    (case na_OrderLattice_bottom_at => k_is)
    (case na_OrderLattice_top_at => k_is)
    (case h_OrderLattice_init => k_is)
    (case i_OrderLattice_init => k_is)
    (case l_OrderLattice_init => k_is)
    (case c_OrderLattice_init => k_is)
    (case k_OrderLattice_init => k_is)
    (case q_OrderLattice_init => k_is)
    (case v_OrderLattice_init => k_is)
    (case vf_OrderLattice_init => rfl)
    (case vg_OrderLattice_init => decide +kernel)
    (case g_PairLattice => k_is)
    (case pg_PairLattice => k_is)
    (case hd_PairLattice => k_is)
    (case po_PairLattice => k_is)
    (case sa_PairLattice => k_is)
    (case mk_PairLattice => k_is)
    (case kc_PairLattice => k_is)
    (case na_PairLattice_label => k_is)
    (case na_PairLattice_size => k_is)
    (case na_PairLattice_depth => k_is)
    (case na_PairLattice_value_names => k_is)
    (case na_PairLattice_downs => k_is)
    (case na_PairLattice_ups => k_is)
    (case na_PairLattice_bottom_at => k_is)
    (case na_PairLattice_top_at => k_is)
    (case na_PairLattice_left => k_is)
    (case na_PairLattice_right => k_is)
    (case h_PairLattice_init => k_is)
    (case i_PairLattice_init => k_is)
    (case l_PairLattice_init => k_is)
    (case c_PairLattice_init => k_is)
    (case k_PairLattice_init => k_is)
    (case q_PairLattice_init => k_is)
    (case v_PairLattice_init => k_is)
    (case vf_PairLattice_init => rfl)
    (case vg_PairLattice_init => decide +kernel)
    (case h_PairLattice_pairs_within => k_is)
    (case i_PairLattice_pairs_within => k_is)
    (case l_PairLattice_pairs_within => k_is)
    (case c_PairLattice_pairs_within => k_is)
    (case k_PairLattice_pairs_within => k_is)
    (case g_TurnedLattice => k_is)
    (case pg_TurnedLattice => k_is)
    (case hd_TurnedLattice => k_is)
    (case po_TurnedLattice => k_is)
    (case sa_TurnedLattice => k_is)
    (case mk_TurnedLattice => k_is)
    (case kc_TurnedLattice => k_is)
    (case na_TurnedLattice_label => k_is)
    (case na_TurnedLattice_size => k_is)
    (case na_TurnedLattice_depth => k_is)
    (case na_TurnedLattice_value_names => k_is)
    (case na_TurnedLattice_downs => k_is)
    (case na_TurnedLattice_ups => k_is)
    (case na_TurnedLattice_bottom_at => k_is)
    (case na_TurnedLattice_top_at => k_is)
    (case na_TurnedLattice_inner => k_is)
    (case h_TurnedLattice_init => k_is)
    (case i_TurnedLattice_init => k_is)
    (case l_TurnedLattice_init => k_is)
    (case c_TurnedLattice_init => k_is)
    (case k_TurnedLattice_init => k_is)
    (case q_TurnedLattice_init => k_is)
    (case v_TurnedLattice_init => k_is)
    (case vf_TurnedLattice_init => rfl)
    (case vg_TurnedLattice_init => decide +kernel)
    (case g_ChainLattice => k_is)
    (case pg_ChainLattice => k_is)
    (case hd_ChainLattice => k_is)
    (case po_ChainLattice => k_is)
    (case sa_ChainLattice => k_is)
    (case mk_ChainLattice => k_is)
    (case kc_ChainLattice => k_is)
    (case na_ChainLattice_label => k_is)
    (case na_ChainLattice_size => k_is)
    (case na_ChainLattice_depth => k_is)
    (case na_ChainLattice_value_names => k_is)
    (case na_ChainLattice_downs => k_is)
    (case na_ChainLattice_ups => k_is)
    (case na_ChainLattice_bottom_at => k_is)
    (case na_ChainLattice_top_at => k_is)
    (case h_ChainLattice_init => k_is)
    (case i_ChainLattice_init => k_is)
    (case l_ChainLattice_init => k_is)
    (case c_ChainLattice_init => k_is)
    (case k_ChainLattice_init => k_is)
    (case q_ChainLattice_init => k_is)
    (case v_ChainLattice_init => k_is)
    (case vf_ChainLattice_init => rfl)
    (case vg_ChainLattice_init => decide +kernel)
    (case mr_OrderLattice => k_is)
    (case su_OrderLattice => ks_is)
    (case ci_OrderLattice => k_is)
    (case hh_OrderLattice_within_at => k_is)
    (case hh_OrderLattice_join_at => k_is)
    (case hh_OrderLattice_meet_at => k_is)
    (case hh_OrderLattice_name_at => k_is)
    (case mr_PairLattice => k_is)
    (case su_PairLattice => ks_is)
    (case ci_PairLattice => k_is)
    (case hh_PairLattice_within_at => k_is)
    (case hh_PairLattice_join_at => k_is)
    (case hh_PairLattice_meet_at => k_is)
    (case hh_PairLattice_name_at => k_is)
    (case mr_TurnedLattice => k_is)
    (case su_TurnedLattice => ks_is)
    (case ci_TurnedLattice => k_is)
    (case hh_TurnedLattice_within_at => k_is)
    (case hh_TurnedLattice_join_at => k_is)
    (case hh_TurnedLattice_meet_at => k_is)
    (case hh_TurnedLattice_name_at => k_is)
    (case mr_ChainLattice => k_is)
    (case su_ChainLattice => ks_is)
    (case ci_ChainLattice => k_is)
    (case hh_ChainLattice_within_at => k_is)
    (case hh_ChainLattice_join_at => k_is)
    (case hh_ChainLattice_meet_at => k_is)
    (case hh_ChainLattice_name_at => k_is)
    (case ty_Lattice => k_is)
    (case fi_Lattice => k_is)
    (case st_any => k_is)
end
namespace Lw
open PySem L2
local macro_rules | `(tactic| walk_at "up") => `(tactic| first | assumption | (refine Same.at (by assumption) ?_; walk_at "up") | (refine Same.seq (by assumption) ?_; walk_at "up"))
local macro_rules | `(tactic| walk_at "rd") => `(tactic| repeat (first | (refine ⟨_, rfl, ?_⟩) | (refine ⟨_, _, rfl, rfl, ?_⟩) | (refine ⟨(by decide), ?_⟩)))
section
variable {P : Program} {w W_ : World} {K : PySem.W.Frag} {mg : Str → Option Value} {base : Heap}
/-! the law's draws -/
def sp_cells (K : PySem.W.Frag) : Sp := fun vs H Q _ => ∃ (a : Addr) (ns : List Int), vs = [.ref a] ∧ SqL K H a (ns.map V.int) ∧ ns.length ≤ 63 ∧
  ∀ (p c : Addr) (m : Int) (cs : List Int) (H' : Hp), Same H H' → c ≠ p → H' c = some (.lst (cs.map V.int)) → (∀ z ∈ cs, 0 ≤ z) → H' p = some (.lst [.ref c, .int 0, .int 1, .int m]) → 0 ≤ m → m < 2147483563 → Q (.ref p) H'
theorem ok__law_cells (T : Tx K mg W_) : FnOk P w K mg base CX0 1 T.a__law_cells T.d__law_cells ["script"] (sp_cells K) := by
  refine T.F__law_cells.ok sc__law_cells (fun vs H Q E h => ?_) (fun cdv A outer s H vs Q E hr h => ?_)
  · obtain ⟨a, ns, rfl, _⟩ := h
    rfl
  obtain ⟨a, ns, rfl, hS, h63, q⟩ := h
  refine ⟨_, pss_cons (ps_set (i := 1) sc__law_cells.nd rfl (Or.inl rfl) pe_int)
    (pss_cons (ps_for PassesOwn.never rfl (pi_list (pv 0)) (pg_name (i := 2) sc__law_cells.nd rfl (Or.inl rfl))
      (pss_one (ps_set (i := 1) sc__law_cells.nd rfl (Or.inl rfl) (pe_op op_mod (pe_callTy call_int1 (by rfl) T.n_int (by decide +kernel) (pa_cons (pe_op op_add (pe_op op_add (pe_op op_mul (pv 1) pe_int) (pe_op op_mul (pv 2) pe_int)) pe_int) pa_nil)) pe_int))))
    (pss_one (ps_ret (pe_lst (pa_cons (pe_lc (own := [("cell", 2)]) (g := gName 2) (tt := tYes) rfl sc__law_cells.nd (pi_list (pv 0)) (blkOk_by (N := ["script", "mixed", "cell"]) (sc := defScope St__law_cells) (by decide +kernel)) (fun _ _ _ _ _ => pg_name (i := 2) sc__law_cells.nd rfl (Or.inl rfl)) (fun _ _ _ _ _ => pts_nil)
        (fun _ _ _ _ _ => pe_callB call_abs (by rfl) T.n_abs (by decide +kernel) (pa_cons (pv 2) pa_nil)))
      (pa_cons pe_int (pa_cons pe_int (pa_cons (pv 1) pa_nil)))))))), ?_⟩
  refine ⟨_, rfl, a, rfl, ⟨_, hS⟩, for_list (K := K) (a := a) (xs := ns.map V.int) (fun i σ H2 => ∃ (m : Int) (v : Option V), σ = [some (.ref a), some (.int m), v] ∧ H2 = H ∧ 0 ≤ m ∧ m < 2147483563)
    ⟨3, none, rfl, rfl, by decide, by decide⟩ (fun i σ H2 _ ⟨_, _, _, e, _⟩ => by rw [e]; exact hS) ?_ ?_⟩
  · rintro i x σ H2 hi ⟨m, v, rfl, rfl, m0, m1⟩
    obtain ⟨z, _, rfl⟩ := map_at hi
    refine ⟨_, rfl, _, _, rfl, rfl, .inr (by decide), _, rfl, _, _, rfl, rfl, .inr (by decide), _, _, rfl, rfl, _, _, rfl, rfl, .inl ⟨_, rfl, _, _, rfl, rfl, (by show (0 : Int) < 2147483563; decide), ?_⟩⟩
    exact ⟨_, _, rfl, rfl, Int.emod_nonneg _ (by decide), Int.emod_lt_of_pos _ (by decide)⟩
  · rintro σ H2 ⟨m, v, rfl, rfl, m0, m1⟩
    refine ⟨_, rfl, a, rfl, ⟨_, hS⟩, fun D hD => lc_list (K := K) (a := a) (xs := ns.map V.int) (fun i H3 => Same H2 H3 ∧ H3 D = some (.lst (((ns.take i).map fun i : Int => if i < 0 then -i else i).map V.int)))
      ⟨Same.new hD _, upd_same⟩ (fun i H3 _ h => h.1.seq hS) ?_ ?_⟩
    · rintro i x H3 hi ⟨s3, h3⟩
      obtain ⟨z, hz, rfl⟩ := map_at hi
      have hl : i < ns.length := (List.getElem?_eq_some_iff.mp hz).1
      refine ⟨rfl, ?_⟩
      refine lcY ?_
      refine ⟨_, rfl, _, rfl, _, h3, ?_, s3.mut hD _, ?_⟩
      · rw [List.length_map, List.length_map, List.length_take]; exact small1000 (by omega)
      · rw [upd_same, take_snoc hz, List.map_append, List.map_append]; rfl
    · rintro H3 ⟨s3, h3⟩
      refine ⟨_, rfl, (by show 4 ≤ sizeLine; decide), newO fun p H4 hp s4 h4 => ?_⟩
      rw [List.length_map, List.take_length] at h3
      exact q p D m _ H4 (s3.trans s4) (ne_of_none h3 hp) (s4.at h3) (abs_map ns) h4 m0 m1
def sp_pick (K : PySem.W.Frag) : Sp := fun vs H Q _ => ∃ (p ce : Addr) (n : Int), vs = [.ref p, .int n] ∧ Src K ce H p ∧ n ≤ 10000000 ∧
  ∀ (d : Int) (H' : Hp), But p H H' → Src K ce H' p → 0 ≤ d → (d < n ∨ d = 0) → Q (.int d) H'
theorem ok__law_pick (T : Tx K mg W_) : FnOk P w K mg base CX0 1 T.a__law_pick T.d__law_pick ["source", "many"] (sp_pick K) := by
  refine T.F__law_pick.ok sc__law_pick (fun vs H Q E h => ?_) (fun cdv A outer s H vs Q E hr h => ?_)
  · obtain ⟨a, ce, n, rfl, _⟩ := h
    rfl
  obtain ⟨p, c, n, rfl, ⟨cs, i, l, m, S⟩, hn, q⟩ := h
  refine ⟨_, pss_cons (ps_if (pt_cmpR op_lt (pv 1) pe_int (nomark _)) (pss_one (ps_ret pe_int)) pss_nil)
    (pss_cons (ps_while PassesOwn.never (PW.pt (pw_and (pt_cmpR op_lt (pe_ix ix_list (pv 0) pe_int (fun _ _ => rfl)) pe_int (nomark _)) (pw_and1 (pt_cmpR op_lt (pe_ix ix_list (pv 0) pe_int (fun _ _ => rfl)) (pe_callB call_len_seq (by rfl) T.n_len PySem.boot_len (pa_cons (pe_ix ix_list (pv 0) pe_int (fun _ _ => rfl)) pa_nil)) (nomark _)))))
      (pss_cons (ps_asg (pe_ix ix_list (pe_ix ix_list (pv 0) pe_int (fun _ _ => rfl)) (pe_ix ix_list (pv 0) pe_int (fun _ _ => rfl)) (fun _ _ => rfl)) (pg_sub (pv 0) pe_int set_list))
      (pss_one (ps_asg (pe_op op_add (pe_ix ix_list (pv 0) pe_int (fun _ _ => rfl)) pe_int) (pg_sub (pv 0) pe_int set_list)))))
    (pss_cons (ps_if (pt_cmpR op_gt (pe_ix ix_list (pv 0) pe_int (fun _ _ => rfl)) pe_int (nomark _))
      (pss_cons (ps_set (i := 2) sc__law_pick.nd rfl (Or.inl rfl) (pe_op op_mod (pe_callTy call_int1 (by rfl) T.n_int (by decide +kernel) (pa_cons (pe_ix ix_list (pv 0) pe_int (fun _ _ => rfl)) pa_nil)) (pv 1)))
      (pss_cons (ps_asg (pe_op op_fdiv (pe_ix ix_list (pv 0) pe_int (fun _ _ => rfl)) (pv 1)) (pg_sub (pv 0) pe_int set_list))
      (pss_one (ps_ret (pv 2))))) pss_nil)
    (pss_cons (ps_asg (pe_op op_mod (pe_callTy call_int1 (by rfl) T.n_int (by decide +kernel) (pa_cons (pe_op op_add (pe_op op_mul (pe_ix ix_list (pv 0) pe_int (fun _ _ => rfl)) pe_int) pe_int) pa_nil)) pe_int) (pg_sub (pv 0) pe_int set_list))
    (pss_cons (ps_set (i := 3) sc__law_pick.nd rfl (Or.inl rfl) (pe_op op_fdiv (pe_ix ix_list (pv 0) pe_int (fun _ _ => rfl)) pe_int))
    (pss_cons (ps_if (pt_cmpR op_gt (pv 1) (pe_op op_pow pe_int pe_int) (nomark _)) (pss_one (ps_set (i := 3) sc__law_pick.nd rfl (Or.inl rfl) (pe_op op_pow (pv 3) pe_int))) pss_nil)
    (pss_one (ps_ret (pe_op op_mod (pe_callTy call_int1 (by rfl) T.n_int (by decide +kernel) (pa_cons (pv 3) pa_nil)) (pv 1))))))))), ?_⟩
  refine ⟨_, rfl, _, _, rfl, rfl, _, rfl, ?_⟩
  refine ite2 (fun c1 => ?_) (fun c1 => ?_)
  · exact q 0 H (But.refl p H) ⟨cs, i, l, m, S⟩ (by decide) (.inr rfl)
  have hn2 : 2 ≤ n := by have := of_decide_eq_false (Bool.eq_false_iff.mpr c1); omega
  refine ⟨fun k σ H2 => ∃ (i : Nat) (l : Int), k = cs.length - i ∧ σ = [some (.ref p), some (.int n), none, none] ∧ But p H H2 ∧ SrcIs K H2 p c cs i l m, ⟨_, i, l, rfl, rfl, But.refl p H, S⟩, ?_⟩
  rintro k σ H2 ⟨i, l, rfl, rfl, b, S⟩
  have sq := SqL.of (K := K) S.at_
  refine ans_run (b := decide (l < 2) && decide ((i : Int) < cs.length)) (fun Q' q' => ?_) ?_
  · refine ⟨_, rfl, _, _, _, _, rfl, rfl, sq, atI_nat (j := 2) rfl, _, _, rfl, rfl, _, rfl, ?_⟩
    refine ite2 (fun c2 => ?_) (fun c2 => ?_)
    · refine ⟨_, rfl, _, _, _, _, rfl, rfl, sq, atI_nat (j := 1) rfl, _, rfl, _, _, _, _, rfl, rfl, sq, atI_nat (j := 0) rfl, c, _, rfl, .inl S.cel, _, _, rfl, rfl, _, rfl, ?_⟩
      have e : (decide (l < 2) && decide ((i : Int) < cs.length)) = decide ((i : Int) < (cs.map V.int).length) := by rw [c2, Bool.true_and, List.length_map]
      rw [e] at q'
      exact q'
    · rw [Bool.eq_false_iff.mpr c2, Bool.false_and] at q'
      exact q'
  refine ite2 (fun c2 => ?_) (fun c2 => ?_)
  · obtain ⟨e1, e2⟩ := Bool.and_eq_true_iff.mp c2
    have e1 := of_decide_eq_true e1
    have e2 := of_decide_eq_true e2
    have hic : i < cs.length := by omega
    refine ⟨fun σ' H' => ∃ m' < cs.length - i, _, fun _ _ h => h, ?_⟩
    refine ⟨_, rfl, _, _, _, _, rfl, rfl, sq, atI_nat (j := 0) rfl, _, rfl, _, _, _, _, rfl, rfl, sq, atI_nat (j := 1) rfl, c, _, (i : Int), .int cs[i], rfl, rfl, S.cel, atI_nat (by rw [List.getElem?_map, List.getElem?_eq_getElem hic]; rfl), ?_⟩
    refine ⟨_, rfl, p, _, _, 2, rfl, rfl, S.at_, rfl, ?_⟩
    have S1 := S.put (i' := i) (l' := cs[i]) (m' := m) S.hi (S.hc _ (List.getElem_mem hic)) S.m0 S.m1
    refine ⟨_, rfl, _, _, _, _, rfl, rfl, SqL.of (K := K) S1.at_, atI_nat (j := 1) rfl, _, _, rfl, rfl, ?_⟩
    refine ⟨_, rfl, p, _, _, 1, rfl, rfl, S1.at_, rfl, ?_⟩
    exact ⟨_, by omega, i + 1, cs[i], rfl, rfl, (b.upd _).upd _, S1.put (i' := i + 1) (l' := cs[i]) (m' := m) hic S1.hl S1.m0 S1.m1⟩
  refine ⟨_, rfl, _, _, _, _, rfl, rfl, sq, atI_nat (j := 2) rfl, _, _, rfl, rfl, _, rfl, ?_⟩
  refine ite2 (fun c3 => ?_) (fun c3 => ?_)
  · have c3 := of_decide_eq_true c3
    refine ⟨_, rfl, _, _, _, _, rfl, rfl, sq, atI_nat (j := 2) rfl, .inl ⟨_, rfl, _, rfl, _, _, rfl, rfl, (by show 0 < n; omega), ?_⟩⟩
    refine ⟨_, rfl, _, _, _, _, rfl, rfl, sq, atI_nat (j := 2) rfl, _, rfl, _, _, rfl, rfl, ⟨by omega, by omega⟩, ?_⟩
    refine ⟨_, rfl, p, _, _, 2, rfl, rfl, S.at_, rfl, _, rfl, ?_⟩
    exact q _ _ (b.upd _) ⟨cs, i, l / n, m, S.put S.hi (Int.ediv_nonneg S.hl (by omega)) S.m0 S.m1⟩ (Int.emod_nonneg _ (by omega)) (.inl (Int.emod_lt_of_pos _ (by omega)))
  refine ⟨_, rfl, _, _, _, _, rfl, rfl, sq, atI_nat (j := 3) rfl, _, _, rfl, rfl, .inr (by decide), _, _, rfl, rfl, .inl ⟨_, rfl, _, _, rfl, rfl, (by show (0 : Int) < 2147483563; decide), ?_⟩⟩
  refine ⟨_, rfl, p, _, _, 3, rfl, rfl, S.at_, rfl, ?_⟩
  have S1 := S.put (i' := i) (l' := l) (m' := (m * 40014 + 12345) % 2147483563) S.hi S.hl (Int.emod_nonneg _ (by decide)) (Int.emod_lt_of_pos _ (by decide))
  refine ⟨_, rfl, _, _, _, _, rfl, rfl, SqL.of (K := K) S1.at_, atI_nat (j := 3) rfl, _, _, rfl, rfl, ⟨by decide, by decide⟩, ?_⟩
  refine ⟨_, rfl, _, _, rfl, rfl, (by show CPow 10 7; exact ⟨by decide, by decide, by decide⟩), _, _, rfl, rfl, _, rfl, ?_⟩
  refine iteN (by show ¬ (10 : Int) ^ (7 : Int).toNat < n; have : (10 : Int) ^ (7 : Int).toNat = 10000000 := by decide
                  omega) ?_
  refine ⟨_, rfl, .inl ⟨_, rfl, _, rfl, _, _, rfl, rfl, (by show 0 < n; omega), ?_⟩⟩
  exact q _ _ (b.upd _) ⟨cs, i, l, _, S1⟩ (Int.emod_nonneg _ (by omega)) (.inl (Int.emod_lt_of_pos _ (by omega)))
end
section
variable {K : PySem.W.Frag}
theorem tyx_tup {H : Hp} {p : Addr} {xs : List V} (h : SqT K H p xs) : TyX K H (.ref p) (.type "tuple") := by
  rcases h with (h | ⟨o, h⟩) | ⟨o, its, n, h, c, _⟩
  · exact .base (.tup h)
  · exact .fTuple h
  · exact .kTuple h c
theorem kit_tt : PySem.W.kitOne K (.type "tuple") (.type "tuple") = some true := kit_ty (by decide +kernel)
theorem kit_st : PySem.W.kitOne K (.type "str") (.type "tuple") = some false := kit_ty (by decide +kernel)
end
/-! ### _law_like: what is found is what is due -/
section
variable {P : Program} {w W_ : World} {K : PySem.W.Frag} {mg : Str → Option Value} {base : Heap}
/-- data: a value as it stands -/
inductive Dv where
  | non
  | bl (b : Bool)
  | int (i : Int)
  | str (s : Str)
  | lst (l : List Dv)
  | tup (l : List Dv)
mutual
def Ld (K : PySem.W.Frag) (H : Hp) : Dv → V → Prop
  | .non, v => v = .non
  | .bl b, v => v = .bl b
  | .int i, v => v = .int i
  | .str s, v => v = .str s
  | .lst l, v => ∃ a xs, v = .ref a ∧ H a = some (.lst xs) ∧ LdA K H l xs
  | .tup l, v => ∃ a xs, v = .ref a ∧ SqT K H a xs ∧ LdA K H l xs
def LdA (K : PySem.W.Frag) (H : Hp) : List Dv → List V → Prop
  | [], xs => xs = []
  | d :: ds, xs => ∃ y ys, xs = y :: ys ∧ Ld K H d y ∧ LdA K H ds ys
end
mutual
theorem Ld.same {H H' : Hp} (s : Same H H') : ∀ {d : Dv} {v : V}, Ld K H d v → Ld K H' d v
  | .non, _, h | .bl _, _, h | .int _, _, h | .str _, _, h => h
  | .lst l, _, ⟨a, xs, e, h, r⟩ => ⟨a, xs, e, s _ _ h, LdA.same s r⟩
  | .tup l, _, ⟨a, xs, e, h, r⟩ => ⟨a, xs, e, s.keeps.sqT h, LdA.same s r⟩
theorem LdA.same {H H' : Hp} (s : Same H H') : ∀ {l : List Dv} {xs : List V}, LdA K H l xs → LdA K H' l xs
  | [], _, h => h
  | _ :: _, _, ⟨y, ys, e, h, r⟩ => ⟨y, ys, e, Ld.same s h, LdA.same s r⟩
end
theorem LdA.length {H : Hp} : ∀ {l : List Dv} {xs : List V}, LdA K H l xs → xs.length = l.length
  | [], _, h => by rw [show _ = ([] : List V) from h]; rfl
  | _ :: _, _, ⟨y, ys, e, h, r⟩ => by rw [e, List.length_cons, List.length_cons, LdA.length r]
theorem LdA.get {H : Hp} : ∀ {l : List Dv} {xs : List V}, LdA K H l xs → ∀ {i : Nat}, i < l.length → ∃ d v, l[i]? = some d ∧ xs[i]? = some v ∧ Ld K H d v
  | [], _, _, i, hi => absurd hi (Nat.not_lt_zero _)
  | d :: ds, _, ⟨y, ys, e, h, r⟩, i, hi => by
    subst e
    cases i with
    | zero => exact ⟨d, y, rfl, rfl, h⟩
    | succ i => exact LdA.get r (Nat.lt_of_succ_lt_succ hi)
mutual
def Dv.depth : Dv → Nat
  | .lst l | .tup l => Dv.depthA l + 1
  | _ => 1
def Dv.depthA : List Dv → Nat
  | [] => 0
  | d :: ds => max d.depth (Dv.depthA ds)
end
theorem Dv.depth_pos : ∀ d : Dv, 1 ≤ d.depth
  | .non | .bl _ | .int _ | .str _ => by simp [Dv.depth]
  | .lst _ | .tup _ => by simp [Dv.depth]
theorem Dv.depth_at {d : Dv} : ∀ {l : List Dv} {i : Nat}, l[i]? = some d → d.depth ≤ Dv.depthA l
  | [], _, h => by simp at h
  | e :: es, 0, h => by cases h; simp [Dv.depthA]; omega
  | e :: es, i + 1, h => by have := Dv.depth_at (l := es) (i := i) (by simpa using h); simp [Dv.depthA]; omega
/-- its class -/
def Dv.cls : Dv → String
  | .non => "NoneType"
  | .bl _ => "bool"
  | .int _ => "int"
  | .str _ => "str"
  | .lst _ => "list"
  | .tup _ => "tuple"
theorem Ld.ty {H : Hp} : ∀ {d : Dv} {v : V}, Ld K H d v → TyX K H v (.type d.cls)
  | .non, _, h => by rw [show _ = V.non from h]; exact .base .non
  | .bl b, _, h => by rw [show _ = V.bl b from h]; exact .base (.bl b)
  | .int i, _, h => by rw [show _ = V.int i from h]; exact .base (.int i)
  | .str s, _, h => by rw [show _ = V.str s from h]; exact .base (.str s)
  | .lst l, _, ⟨a, xs, e, h, r⟩ => by rw [e]; exact .base (.lst h)
  | .tup l, _, ⟨a, xs, e, h, r⟩ => by rw [e]; exact tyx_tup h
/-- whether it is one of the class -/
def Dv.is (d : Dv) (n : String) : Bool := d.cls == n
theorem Dv.kit (d : Dv) {n : String} (hn : n ∈ ["bool", "str", "list", "tuple", "dict"]) : PySem.W.kitOne K (.type d.cls) (.type n) = some (d.is n) := by
  simp only [List.mem_cons, List.not_mem_nil, or_false] at hn
  rcases hn with rfl | rfl | rfl | rfl | rfl <;> cases d <;> exact kit_ty (by dsimp only [Dv.cls, Dv.is]; decide +kernel)
theorem LdA.at2 {H : Hp} {l : List Dv} {xs ys : List V} (h1 : LdA K H l xs) (h2 : LdA K H l ys) {i : Nat} (hi : i < l.length) : ∃ d x y, l[i]? = some d ∧ xs[i]? = some x ∧ ys[i]? = some y ∧ Ld K H d x ∧ Ld K H d y := by
  obtain ⟨d, x, e1, e2, e3⟩ := h1.get hi
  obtain ⟨d', y, f1, f2, f3⟩ := h2.get hi
  rw [e1] at f1
  cases f1
  exact ⟨d, x, y, e1, e2, f2, e3, f3⟩
mutual
def Dv.wide : Dv → Prop
  | .lst l | .tup l => l.length ≤ 100000 ∧ Dv.wideA l
  | _ => True
def Dv.wideA : List Dv → Prop
  | [] => True
  | d :: ds => d.wide ∧ Dv.wideA ds
end
theorem Dv.wide_at {d : Dv} : ∀ {l : List Dv} {i : Nat}, Dv.wideA l → l[i]? = some d → d.wide
  | [], _, _, h => by simp at h
  | e :: es, 0, w, h => by cases h; exact w.1
  | e :: es, i + 1, w, h => Dv.wide_at (l := es) (i := i) w.2 (by simpa using h)
def sp_like (K : PySem.W.Frag) (n : Nat) : Sp := fun vs H Q _ => ∃ (d : Dv) (x y : V), vs = [x, y] ∧ Ld K H d x ∧ Ld K H d y ∧ d.depth ≤ n ∧ d.wide ∧ ∀ H', Same H H' → Q (.bl true) H'
end
section
variable {P : Program} {w W_ : World} {K : PySem.W.Frag} {mg : Str → Option Value} {base : Heap}
theorem kany_lt (d : Dv) : PySem.W.kitAny K (.type d.cls) [.type "list", .type "tuple"] = some (d.is "list" || d.is "tuple") := by
  unfold PySem.W.kitAny
  rw [d.kit (n := "list") (by simp)]
  cases h : d.is "list" with
  | true => rfl
  | false =>
    show PySem.W.kitAny K (.type d.cls) [.type "tuple"] = _
    unfold PySem.W.kitAny
    rw [d.kit (n := "tuple") (by simp)]
    cases h2 : d.is "tuple" <;> rfl
theorem Ld.isN {H : Hp} : ∀ {d : Dv} {v : V}, Ld K H d v → decide (v = V.non) = d.is "NoneType"
  | .non, _, h => by rw [show _ = V.non from h]; rfl
  | .bl b, _, h => by rw [show _ = V.bl b from h]; rfl
  | .int i, _, h => by rw [show _ = V.int i from h]; rfl
  | .str s, _, h => by rw [show _ = V.str s from h]; rfl
  | .lst l, _, ⟨a, xs, e, h, r⟩ => by rw [e]; rfl
  | .tup l, _, ⟨a, xs, e, h, r⟩ => by rw [e]; rfl
theorem inV_falses (n : Nat) : inV (.bl false) (List.replicate n (V.bl true)) = false := inV_trues n
theorem ok_like (T : Tx K mg W_) : ∀ n, FnOk P w K mg base CX0 (n + 1) T.a__law_like T.d__law_like ["found", "due"] (sp_like K n)
  | 0 => by
    have no : ∀ vs H Q E, ¬ sp_like K 0 vs H Q E := fun vs H Q E ⟨d, x, y, _, _, _, hd, _⟩ => by have := d.depth_pos; omega
    exact ⟨fun vs H Q E h => absurd h (no vs H Q E), fun A outer s H args us vs Q E _ _ _ _ h => absurd h (no vs H Q E)⟩
  | n + 1 => by
    have G__law_like := ok_like T n
    refine T.F__law_like.ok sc__law_like (fun vs H Q E h => ?_) (fun cdv A outer s H vs Q E hr h => ?_)
    · obtain ⟨d, x, y, rfl, _⟩ := h
      rfl
    obtain ⟨d, x, y, rfl, hx, hy, hd, hw, q⟩ := h
    refine ⟨_, pss_cons (ps_if (pt_cmpR op_isN (pv 1) pe_non (nomark _)) (pss_one (ps_ret (pe_cmpR op_isN (pv 0) pe_non (nomark _)))) pss_nil)
    (pss_cons (ps_for PassesOwn.never rfl (pi_list (pe_lst (pa_cons (pe_lst (pa_cons (pe_callB call_isi (by rfl) T.n_isinstance (by decide +kernel) (pa_cons (pv 0) (pa_cons (pe_bltn (v := .ty "bool") (u := .type "bool") (by rfl) T.n_bool (by decide +kernel) rfl) pa_nil))) (pa_cons (pe_callB call_isi (by rfl) T.n_isinstance (by decide +kernel) (pa_cons (pv 1) (pa_cons (pe_bltn (v := .ty "bool") (u := .type "bool") (by rfl) T.n_bool (by decide +kernel) rfl) pa_nil))) pa_nil))) (pa_cons (pe_lst (pa_cons (pe_callB call_isi (by rfl) T.n_isinstance (by decide +kernel) (pa_cons (pv 0) (pa_cons (pe_bltn (v := .ty "str") (u := .type "str") (by rfl) T.n_str (by decide +kernel) rfl) pa_nil))) (pa_cons (pe_callB call_isi (by rfl) T.n_isinstance (by decide +kernel) (pa_cons (pv 1) (pa_cons (pe_bltn (v := .ty "str") (u := .type "str") (by rfl) T.n_str (by decide +kernel) rfl) pa_nil))) pa_nil))) pa_nil)))) (pg_name (i := 2) sc__law_like.nd rfl (Or.inl rfl)) (pss_one (ps_if (pt_cmpR op_ne (pe_ix ix_list (pv 2) pe_int (fun _ _ => rfl)) (pe_ix ix_list (pv 2) pe_int (fun _ _ => rfl)) (nomark _)) (pss_one (ps_ret pe_bl)) pss_nil)))
    (pss_cons (ps_if (PW.pt (pw_or (pt_cmpR op_ne (pe_callB call_isi (by rfl) T.n_isinstance (by decide +kernel) (pa_cons (pv 0) (pa_cons (pe_bltn (v := .ty "list") (u := .type "list") (by rfl) T.n_list (by decide +kernel) rfl) pa_nil))) (pe_callB call_isi (by rfl) T.n_isinstance (by decide +kernel) (pa_cons (pv 1) (pa_cons (pe_bltn (v := .ty "list") (u := .type "list") (by rfl) T.n_list (by decide +kernel) rfl) pa_nil))) (nomark _)) (pw_or1 (pt_cmpR op_ne (pe_callB call_isi (by rfl) T.n_isinstance (by decide +kernel) (pa_cons (pv 0) (pa_cons (pe_bltn (v := .ty "tuple") (u := .type "tuple") (by rfl) T.n_tuple (by decide +kernel) rfl) pa_nil))) (pe_callB call_isi (by rfl) T.n_isinstance (by decide +kernel) (pa_cons (pv 1) (pa_cons (pe_bltn (v := .ty "tuple") (u := .type "tuple") (by rfl) T.n_tuple (by decide +kernel) rfl) pa_nil))) (nomark _))))) (pss_one (ps_ret pe_bl)) pss_nil)
    (pss_cons (ps_if (pt_val (pe_callB call_isi (by rfl) T.n_isinstance (by decide +kernel) (pa_cons (pv 1) (pa_cons (pe_bltn (v := .ty "dict") (u := .type "dict") (by rfl) T.n_dict (by decide +kernel) rfl) pa_nil)))) (pss_cons ps_dead (pss_one ps_dead)) pss_nil)
    (pss_cons (ps_if (pt_val (pe_callB call_isiT (by rfl) T.n_isinstance (by decide +kernel) (pa_cons (pv 1) (pa_cons (pe_tup (pa_cons (pe_bltn (v := .ty "list") (u := .type "list") (by rfl) T.n_list (by decide +kernel) rfl) (pa_cons (pe_bltn (v := .ty "tuple") (u := .type "tuple") (by rfl) T.n_tuple (by decide +kernel) rfl) pa_nil))) pa_nil)))) (pss_cons (ps_if (pt_cmpR op_ne (pe_callB call_len_seq (by rfl) T.n_len (by decide +kernel) (pa_cons (pv 0) pa_nil)) (pe_callB call_len_seq (by rfl) T.n_len (by decide +kernel) (pa_cons (pv 1) pa_nil)) (nomark _)) (pss_one (ps_ret pe_bl)) pss_nil)
    (pss_one (ps_ret (pe_cmpR op_notIn_seq pe_bl (pe_lc (own := [("k", 3)]) (g := gName 3) (tt := tYes) rfl sc__law_like.nd (pi_range1 (by rfl) T.n_range (pa_cons (pe_callB call_len_seq (by rfl) T.n_len (by decide +kernel) (pa_cons (pv 1) pa_nil)) pa_nil)) (blkOk_by (N := N__law_like) (sc := defScope St__law_like) (by decide +kernel)) (fun _ _ _ _ _ => (pg_name (i := 3) sc__law_like.nd rfl (Or.inl rfl))) (fun _ _ _ _ _ => pts_nil) (fun _ _ _ _ _ => (pe_call G__law_like (hr.mono (by omega)) (by rfl) T.g__law_like T.F__law_like.kp T.b__law_like .nil pass0 (pa_cons (pe_ix (kx_ix_seq K) (pv 0) (pv 3) (fun _ _ => rfl)) (pa_cons (pe_ix (kx_ix_seq K) (pv 1) (pv 3) (fun _ _ => rfl)) pa_nil))))) (by rfl))))) pss_nil)
    (pss_one (ps_ret (pe_cmpR op_eq (pv 0) (pv 1) (nomark _)))))))), ?_⟩
    refine ⟨_, rfl, rfl, _, rfl, ?_⟩
    show if decide (y = V.non) = true then _ else _
    rw [hy.isN]
    refine ite2 (fun cn => ?_) (fun cn => ?_)
    · refine ⟨_, rfl, rfl, ?_⟩
      have := q H (Same.refl _)
      rw [← cn, ← hx.isN] at this
      exact this
    -- the classes of both
    have kb := d.kit (K := K) (n := "bool") (by simp)
    have ks := d.kit (K := K) (n := "str") (by simp)
    refine ⟨_, rfl, x, _, _, _, _, rfl, .ty "bool", hx.ty, kb, _, rfl, y, _, _, _, _, rfl, .ty "bool", hy.ty, kb, (by show 2 ≤ sizeLine; decide), newQ (.lst [.bl (d.is "bool"), .bl (d.is "bool")]) fun l1 hl1 s1 h1 => ?_⟩
    generalize upd H l1 (.lst [.bl (d.is "bool"), .bl (d.is "bool")]) = H1 at s1 h1 ⊢
    refine ⟨_, rfl, x, _, _, _, _, rfl, .ty "str", (hx.same s1).ty, ks, _, rfl, y, _, _, _, _, rfl, .ty "str", (hy.same s1).ty, ks, (by show 2 ≤ sizeLine; decide), newQ (.lst [.bl (d.is "str"), .bl (d.is "str")]) fun l2 hl2 s2 h2 => ?_⟩
    generalize upd H1 l2 (.lst [.bl (d.is "str"), .bl (d.is "str")]) = H2 at s2 h2 ⊢
    refine ⟨(by show 2 ≤ sizeLine; decide), newQ (.lst [.ref l1, .ref l2]) fun l3 hl3 s3 h3 => ?_⟩
    generalize upd H2 l3 (.lst [.ref l1, .ref l2]) = H3 at s3 h3 ⊢
    have s03 := (s1.trans s2).trans s3
    have g1 := s3 _ _ (s2 _ _ h1)
    have g2 := s3 _ _ h2
    refine ⟨l3, rfl, ⟨_, SqL.of (K := K) h3⟩, for_list (K := K) (a := l3) (xs := [.ref l1, .ref l2]) (fun i σ H' => ∃ v, σ = [some x, some y, v, none] ∧ H' = H3) ⟨none, rfl, rfl⟩ (fun i σ H' _ ⟨_, _, e⟩ => by rw [e]; exact SqL.of h3) ?_ ?_⟩
    · rintro i z σ H' hz ⟨v, rfl, rfl⟩
      obtain ⟨l, b, rfl, hl⟩ : ∃ l b, z = .ref l ∧ H' l = some (.lst [V.bl b, V.bl b]) := by
        match i, hz with
        | 0, e => cases e; exact ⟨_, _, rfl, g1⟩
        | 1, e => cases e; exact ⟨_, _, rfl, g2⟩
        | i + 2, e => simp at e
      refine ⟨_, rfl, l, _, _, _, rfl, rfl, SqL.of (K := K) hl, atI_nat (j := 0) rfl, _, rfl, l, _, _, _, rfl, rfl, SqL.of (K := K) hl, atI_nat (j := 1) rfl, rfl, _, rfl, ?_⟩
      rw [decide_eq_true rfl]
      refine iteF ?_
      exact ⟨_, rfl, rfl⟩
    rintro σ H' ⟨v, rfl, eH⟩
    obtain rfl : H3 = H' := eH.symm
    have x3 := hx.same s03
    have y3 := hy.same s03
    have kl := d.kit (K := K) (n := "list") (by simp)
    have kt := d.kit (K := K) (n := "tuple") (by simp)
    have kd := d.kit (K := K) (n := "dict") (by simp)
    refine ⟨_, rfl, x, _, _, _, _, rfl, .ty "list", x3.ty, kl, _, rfl, y, _, _, _, _, rfl, .ty "list", y3.ty, kl, rfl, _, rfl, ?_⟩
    rw [decide_eq_true rfl]
    refine iteF ?_
    refine ⟨_, rfl, x, _, _, _, _, rfl, .ty "tuple", x3.ty, kt, _, rfl, y, _, _, _, _, rfl, .ty "tuple", y3.ty, kt, rfl, _, rfl, ?_⟩
    rw [decide_eq_true rfl]
    refine iteF ?_
    refine ⟨_, rfl, y, _, _, _, _, rfl, .ty "dict", y3.ty, kd, _, rfl, ?_⟩
    rw [show d.is "dict" = false from by cases d <;> rfl]
    refine iteF ?_
    refine ⟨_, rfl, (by show 2 ≤ sizeLine; decide), newQ (.tup [.ty "list", .ty "tuple"]) fun t4 hl4 s4 h4 => ?_⟩
    generalize upd H3 t4 (.tup [.ty "list", .ty "tuple"]) = H4 at s4 h4 ⊢
    refine ⟨y, t4, _, _, _, _, rfl, h4, .cons (.ty "list") (.cons (.ty "tuple") .nil), (y3.same s4).ty, kany_lt d, _, rfl, ?_⟩
    have x4 := x3.same s4
    have y4 := y3.same s4
    have s04 := s03.trans s4
    have flat : (d.is "list" || d.is "tuple") = false → scal x y = true ∧ decide (x = y) = true := fun c => by
      cases d with
      | non => simp [Dv.is, Dv.cls] at cn
      | bl b => rw [show x = V.bl b from hx, show y = V.bl b from hy]; exact ⟨rfl, decide_eq_true rfl⟩
      | int b => rw [show x = V.int b from hx, show y = V.int b from hy]; exact ⟨rfl, decide_eq_true rfl⟩
      | str b => rw [show x = V.str b from hx, show y = V.str b from hy]; exact ⟨rfl, decide_eq_true rfl⟩
      | lst l => simp [Dv.is, Dv.cls] at c
      | tup l => simp [Dv.is, Dv.cls] at c
    refine ite2 (fun c => ?_) (fun c => ?_)
    · obtain ⟨l, a, b, xs, ys, ex, ey, qx, qy, rx, ry, dl, wl, wl2⟩ : ∃ (l : List Dv) (a b : Addr) (xs ys : List V), x = .ref a ∧ y = .ref b ∧ (SqL K H4 a xs ∨ SqT K H4 a xs) ∧ (SqL K H4 b ys ∨ SqT K H4 b ys) ∧ LdA K H4 l xs ∧ LdA K H4 l ys ∧ Dv.depthA l ≤ n ∧ l.length ≤ 100000 ∧ Dv.wideA l := by
        cases d with
        | lst l =>
          obtain ⟨a, xs, ex, qx, rx⟩ := x4
          obtain ⟨b, ys, ey, qy, ry⟩ := y4
          exact ⟨l, a, b, xs, ys, ex, ey, .inl (SqL.of qx), .inl (SqL.of qy), rx, ry, by simp [Dv.depth] at hd; omega, hw.1, hw.2⟩
        | tup l =>
          obtain ⟨a, xs, ex, qx, rx⟩ := x4
          obtain ⟨b, ys, ey, qy, ry⟩ := y4
          exact ⟨l, a, b, xs, ys, ex, ey, .inr qx, .inr qy, rx, ry, by simp [Dv.depth] at hd; omega, hw.1, hw.2⟩
        | non | bl _ | int _ | str _ => simp [Dv.is, Dv.cls] at c
      subst ex ey
      have lx := rx.length
      have ly := ry.length
      refine ⟨_, rfl, a, xs, rfl, qx, _, rfl, b, ys, rfl, qy, rfl, _, rfl, ?_⟩
      rw [lx, ly, decide_eq_true rfl]
      refine iteF ?_
      refine ⟨_, rfl, b, ys, rfl, qy, _, rfl, by omega, by omega, fun D hD => ?_⟩
      rw [ly]
      refine lc_fold walk_range hD (fun i _ ys => i ≤ l.length ∧ ys = List.replicate i (V.bl true)) (fun _ => ⟨Nat.zero_le _, rfl⟩) (fun i _ _ xs _ h => h) ?_ (fun _ _ => trivial) ?_ ?_
      · rintro i _ ys ⟨hi, rfl⟩
        rw [List.length_replicate]; omega
      · rintro i z H5 H6 zs Nx Ex hi s5 ⟨_, rfl⟩ ⟨rfl, ez⟩ k1 k2
        have hi : i < l.length := hi
        obtain rfl := yfn0 ez
        refine ⟨rfl, ?_⟩
        refine lcY ?_
        obtain ⟨e, x1, y1, g0, gx, gy, ex, ey⟩ := rx.at2 ry hi
        have seqs : ∀ {p : Addr} {ws : List V}, (SqL K H4 p ws ∨ SqT K H4 p ws) → (SqL K H6 p ws ∨ SqT K H6 p ws) := fun h => h.imp (fun z => s5.seq z) (fun z => s5.keeps.sqT z)
        have rd : ∀ {p : Addr} {ws : List V} {w' : V} {R : V → Hp → Prop}, (SqL K H4 p ws ∨ SqT K H4 p ws) → ws[i]? = some w' → R w' H6 → rIx K (.ref p) (.int (i : Nat)) H6 R := fun h hw q => by
          rcases seqs h with h | h
          · exact .inl ⟨_, _, _, _, rfl, rfl, h, atI_nat hw, q⟩
          · exact .inr (.inl ⟨_, _, _, _, rfl, rfl, h, atI_nat hw, q⟩)
        refine ⟨_, rfl, _, rfl, rd qx gx ⟨_, rfl, _, rfl, rd qy gy ?_⟩⟩
        refine ⟨e, x1, y1, rfl, ex.same s5, ey.same s5, Nat.le_trans (Dv.depth_at g0) dl, Dv.wide_at wl2 g0, fun H7 s7 => k1 _ _ s7 ⟨hi, ?_⟩⟩
        rw [List.replicate_succ']
      · rintro H5 zs s5 h5 ⟨_, rfl⟩
        refine ⟨D, _, rfl, .inl (SqL.of (K := K) h5), rfl, flat_trues _, ?_⟩
        have e : (if true = true then !inV (.bl false) (List.replicate l.length (V.bl true)) else inV (.bl false) (List.replicate l.length (V.bl true))) = true := by
          show (!inV (.bl false) (List.replicate l.length (V.bl true))) = true
          rw [inV_trues]; rfl
        have := q H5 (s04.trans s5)
        rw [← e] at this
        exact this
    · obtain ⟨f1, f2⟩ := flat (Bool.eq_false_iff.mpr c)
      refine ⟨_, rfl, _, rfl, f1, ?_⟩
      have := q H4 s04
      rw [← f2] at this
      exact this
end
section
variable {K : PySem.W.Frag} {H : Hp}
def Dv.ints (l : List Nat) : List Dv := l.map fun i => Dv.int (i : Nat)
theorem lda_ints : ∀ l : List Nat, LdA K H (Dv.ints l) (natV l)
  | [] => rfl
  | i :: l => ⟨_, _, rfl, rfl, lda_ints l⟩
theorem Dv.ints_depth : ∀ l : List Nat, Dv.depthA (Dv.ints l) ≤ 1
  | [] => by simp [Dv.ints, Dv.depthA]
  | i :: l => by
    have := Dv.ints_depth l
    unfold Dv.ints at this
    simp [Dv.ints, Dv.depthA, Dv.depth]
    omega
theorem Dv.ints_wide : ∀ l : List Nat, Dv.wideA (Dv.ints l)
  | [] => by simp [Dv.ints, Dv.wideA]
  | i :: l => by
    have := Dv.ints_wide l
    unfold Dv.ints at this
    simp [Dv.ints, Dv.wideA, Dv.wide]
    simpa using this
def Dv.strs (l : List Str) : List Dv := l.map Dv.str
theorem lda_strs : ∀ l : List Str, LdA K H (Dv.strs l) (l.map V.str)
  | [] => rfl
  | i :: l => ⟨_, _, rfl, rfl, lda_strs l⟩
end
section
variable {P : Program} {w W_ : World} {K : PySem.W.Frag} {mg : Str → Option Value} {base : Heap}
def sp_first (K : PySem.W.Frag) : Sp := fun vs H Q _ => ∃ (p : Addr) (n m : Nat) (f : Nat → Nat), vs = [.ref p, .int (m : Nat)] ∧ NdT K H p ∧ SqT K H p ((List.range n).map fun i => V.int (f i : Nat)) ∧ n ≤ 1000 ∧ ∀ H', Same H H' → Q (optV (first n fun k => f k == m)) H'
theorem ok_first (T : Tx K mg W_) : FnOk P w K mg base CX0 1 T.a_first_place T.d_first_place ["sets", "wanted"] (sp_first K) := by
  refine T.F_first_place.ok sc_first_place (fun vs H Q E h => ?_) (fun cdv A outer s H vs Q E hr h => ?_)
  · obtain ⟨p, n, m, f, rfl, _⟩ := h
    rfl
  obtain ⟨p, n, m, f, rfl, hn, hs, hz, q⟩ := h
  refine ⟨_, pss_one (ps_ret (pe_ifExp (pt_cmpR op_in_seq (pv 1) (pv 0) (by rfl)) (pe_tbm PySem.F.plainAttrs_tuple PySem.F.slot_tuple_index PySem.F.type_tuple_index mt_tindexF (pv 0) (pa_cons (pv 1) pa_nil)) pe_non)), ?_⟩
  refine ⟨_, rfl, _, rfl, p, _, rfl, .inr hs, rfl, flat_ints _ _, _, rfl, ?_⟩
  have e : (if false = true then !inV (.int (m : Nat)) ((List.range n).map fun i => V.int (f i : Nat)) else inV (.int (m : Nat)) ((List.range n).map fun i => V.int (f i : Nat))) = (first n fun k => f k == m).isSome := inV_map m n f
  rw [e]
  cases e2 : first n fun k => f k == m with
  | none => exact iteF (by have := q H (Same.refl _); rw [e2] at this; exact this)
  | some k =>
    obtain ⟨h1, h2, h3⟩ := first_some e2
    refine iteT ⟨_, rfl, p, _, rfl, hn, hs, _, rfl, p, _, _, k, _, rfl, rfl, hs, rfl, flat_ints _ _, at_map h1, (by rw [eqV_nat]; exact h2), fun j z hj hz => ?_, ?_⟩
    · obtain ⟨_, rfl⟩ := at_map' hz
      rw [eqV_nat]; exact h3 j hj
    · have := q H (Same.refl _)
      rw [e2] at this; exact this
end
section
variable {P : Program} {w W_ : World} {K : PySem.W.Frag} {mg : Str → Option Value} {base : Heap}
def sp_within (K : PySem.W.Frag) (mm : List (Str × Addr)) : Sp := fun vs H Q _ => ∃ (p : Addr) (L : Lt) (a b : Nat), vs = [.ref p, .int (a : Nat), .int (b : Nat)] ∧ IsLat K mm H p L ∧ a < L.n ∧ b < L.n ∧ ∀ H', Same H H' → Q (.bl (L.le a b)) H'
theorem ok_within (T : Tx K mg W_) : FnOk P w K mg base CX0 1 T.a_Lattice_within_at T.d_Lattice_within_at ["self", "first", "second"] (sp_within K T.mm) := by
  refine T.F_Lattice_within_at.ok sc_Lattice_within_at (fun vs H Q E h => ?_) (fun cdv A outer s H vs Q E hr h => ?_)
  · obtain ⟨p, L, a, b, rfl, _⟩ := h
    rfl
  obtain ⟨p, L, a, b, rfl, ⟨C, dx, fs, tn, td, tu, A⟩, ha, hb, q⟩ := h
  refine ⟨_, pss_one (ps_ret (pe_cmpR op_eq (pe_op op_and (pe_op op_shr (pe_ix ix_tup (pe_fld (pv 0) rfl) (pv 2) (fun _ _ => rfl)) (pv 1)) pe_int) pe_int (nomark _))), ?_⟩
  refine ⟨_, rfl, p, C, dx, fs, _, rfl, A.at_, A.c.cl, A.c.na _ (by decide), A.downs, _, rfl, td, _, _, _, rfl, rfl, A.td.2, atI_nat (at_map hb), _, rfl, _, _, rfl, rfl, Int.natCast_nonneg _, _, _, rfl, rfl, rfl, ?_⟩
  have e : decide (V.int (Builtin.bitAnd ((L.down b : Int) / 2 ^ ((a : Int)).toNat) 1) = V.int 1) = L.le a b := by
    rw [dec_int, Int.toNat_natCast, bit_is]
    show (mask L.n fun i => L.le i b).testBit a = _
    rw [mask_bit, decide_eq_true ha, Bool.true_and]
  have := q H (Same.refl _)
  rw [← e] at this
  exact this
end
section
variable {P : Program} {w W_ : World} {K : PySem.W.Frag} {mg : Str → Option Value} {base : Heap}
def sp_join (K : PySem.W.Frag) (mm : List (Str × Addr)) : Sp := fun vs H Q _ => ∃ (p : Addr) (L : Lt) (a b : Nat), vs = [.ref p, .int (a : Nat), .int (b : Nat)] ∧ IsLat K mm H p L ∧ L.n ≤ 1000 ∧ a < L.n ∧ b < L.n ∧ ∀ H', Same H H' → Q (optV (L.join a b)) H'
theorem ok_join (T : Tx K mg W_) : FnOk P w K mg base CX0 2 T.a_Lattice_join_at T.d_Lattice_join_at ["self", "first", "second"] (sp_join K T.mm) := by
  have G_first_place := ok_first (P := P) (w := w) (base := base) T
  refine T.F_Lattice_join_at.ok sc_Lattice_join_at (fun vs H Q E h => ?_) (fun cdv A outer s H vs Q E hr h => ?_)
  · obtain ⟨p, L, a, b, rfl, _⟩ := h
    rfl
  obtain ⟨p, L, a, b, rfl, ⟨C, dx, fs, tn, td, tu, A⟩, hn, ha, hb, q⟩ := h
  refine ⟨_, pss_one (ps_ret (pe_call G_first_place (hr.mono (by omega)) (by rfl) T.g_first_place T.F_first_place.kp T.b_first_place .nil pass0 (pa_cons (pe_fld (pv 0) rfl) (pa_cons (pe_op op_and (pe_ix ix_tup (pe_fld (pv 0) rfl) (pv 1) (fun _ _ => rfl)) (pe_ix ix_tup (pe_fld (pv 0) rfl) (pv 2) (fun _ _ => rfl))) pa_nil)))), ?_⟩
  refine ⟨_, rfl, p, C, dx, fs, _, rfl, A.at_, A.c.cl, A.c.na _ (by decide), A.ups, ?_⟩
  refine ⟨_, rfl, p, C, dx, fs, _, rfl, A.at_, A.c.cl, A.c.na _ (by decide), A.ups, _, rfl, tu, _, _, _, rfl, rfl, A.tu.2, atI_nat (at_map ha), ?_⟩
  refine ⟨_, rfl, p, C, dx, fs, _, rfl, A.at_, A.c.cl, A.c.na _ (by decide), A.ups, _, rfl, tu, _, _, _, rfl, rfl, A.tu.2, atI_nat (at_map hb), _, _, rfl, rfl, ?_⟩
  exact ⟨tu, L.n, L.up a &&& L.up b, L.up, (by rw [← and_int_nat]; rfl), A.tu.1, A.tu.2, hn, q⟩
end
section
variable {P : Program} {w W_ : World} {K : PySem.W.Frag} {mg : Str → Option Value} {base : Heap}
def sp_meet (K : PySem.W.Frag) (mm : List (Str × Addr)) : Sp := fun vs H Q _ => ∃ (p : Addr) (L : Lt) (a b : Nat), vs = [.ref p, .int (a : Nat), .int (b : Nat)] ∧ IsLat K mm H p L ∧ L.n ≤ 1000 ∧ a < L.n ∧ b < L.n ∧ ∀ H', Same H H' → Q (optV (L.meet a b)) H'
theorem ok_meet (T : Tx K mg W_) : FnOk P w K mg base CX0 2 T.a_Lattice_meet_at T.d_Lattice_meet_at ["self", "first", "second"] (sp_meet K T.mm) := by
  have G_first_place := ok_first (P := P) (w := w) (base := base) T
  refine T.F_Lattice_meet_at.ok sc_Lattice_meet_at (fun vs H Q E h => ?_) (fun cdv A outer s H vs Q E hr h => ?_)
  · obtain ⟨p, L, a, b, rfl, _⟩ := h
    rfl
  obtain ⟨p, L, a, b, rfl, ⟨C, dx, fs, tn, td, tu, A⟩, hn, ha, hb, q⟩ := h
  refine ⟨_, pss_one (ps_ret (pe_call G_first_place (hr.mono (by omega)) (by rfl) T.g_first_place T.F_first_place.kp T.b_first_place .nil pass0 (pa_cons (pe_fld (pv 0) rfl) (pa_cons (pe_op op_and (pe_ix ix_tup (pe_fld (pv 0) rfl) (pv 1) (fun _ _ => rfl)) (pe_ix ix_tup (pe_fld (pv 0) rfl) (pv 2) (fun _ _ => rfl))) pa_nil)))), ?_⟩
  refine ⟨_, rfl, p, C, dx, fs, _, rfl, A.at_, A.c.cl, A.c.na _ (by decide), A.downs, ?_⟩
  refine ⟨_, rfl, p, C, dx, fs, _, rfl, A.at_, A.c.cl, A.c.na _ (by decide), A.downs, _, rfl, td, _, _, _, rfl, rfl, A.td.2, atI_nat (at_map ha), ?_⟩
  refine ⟨_, rfl, p, C, dx, fs, _, rfl, A.at_, A.c.cl, A.c.na _ (by decide), A.downs, _, rfl, td, _, _, _, rfl, rfl, A.td.2, atI_nat (at_map hb), _, _, rfl, rfl, ?_⟩
  exact ⟨td, L.n, L.down a &&& L.down b, L.down, (by rw [← and_int_nat]; rfl), A.td.1, A.td.2, hn, q⟩
end
section
variable {P : Program} {w W_ : World} {K : PySem.W.Frag} {mg : Str → Option Value} {base : Heap}
def sp_name_at (K : PySem.W.Frag) (mm : List (Str × Addr)) : Sp := fun vs H Q _ => ∃ (p : Addr) (L : Lt) (a : Nat) (x : Str), vs = [.ref p, .int (a : Nat)] ∧ IsLat K mm H p L ∧ L.names[a]? = some x ∧ ∀ H', Same H H' → Q (.str x) H'
theorem ok_name_at (T : Tx K mg W_) : FnOk P w K mg base CX0 1 T.a_Lattice_name_at T.d_Lattice_name_at ["self", "place"] (sp_name_at K T.mm) := by
  refine T.F_Lattice_name_at.ok sc_Lattice_name_at (fun vs H Q E h => ?_) (fun cdv A outer s H vs Q E hr h => ?_)
  · obtain ⟨p, L, a, x, rfl, _⟩ := h
    rfl
  obtain ⟨p, L, a, x, rfl, ⟨C, dx, fs, tn, td, tu, A⟩, hx, q⟩ := h
  refine ⟨_, pss_one (ps_ret (pe_ix ix_tup (pe_fld (pv 0) rfl) (pv 1) (fun _ _ => rfl))), ?_⟩
  exact ⟨_, rfl, p, C, dx, fs, _, rfl, A.at_, A.c.cl, A.c.na _ (by decide), A.names, _, rfl, tn, _, _, _, rfl, rfl, A.tn.2, atI_nat (by rw [List.getElem?_map, hx]; rfl), q H (Same.refl _)⟩
end
section
variable {P : Program} {w W_ : World} {K : PySem.W.Frag} {mg : Str → Option Value} {base : Heap}
theorem eqV_str (a b : Str) : eqV (.str a) (.str b) = (a == b) := rfl
/-- at_name of a name that is there -/
def sp_at_name (K : PySem.W.Frag) (mm : List (Str × Addr)) : Sp := fun vs H Q _ => ∃ (p : Addr) (L : Lt) (a : Nat) (x : Str), vs = [.ref p, .str x] ∧ IsLat K mm H p L ∧ L.names.Nodup ∧ L.names[a]? = some x ∧ ∀ H', Same H H' → Q (.int (a : Nat)) H'
theorem nodup_at {α : Type} {l : List α} (nd : l.Nodup) {i j : Nat} {x : α} (h1 : l[i]? = some x) (h2 : l[j]? = some x) : i = j := by
  obtain ⟨l1, e1⟩ := List.getElem?_eq_some_iff.mp h1
  obtain ⟨l2, e2⟩ := List.getElem?_eq_some_iff.mp h2
  rcases Nat.lt_trichotomy i j with c | c | c
  · exact absurd (e1.trans e2.symm) (List.pairwise_iff_getElem.mp nd i j l1 l2 c)
  · exact c
  · exact absurd (e2.trans e1.symm) (List.pairwise_iff_getElem.mp nd j i l2 l1 c)
end
section
variable {P : Program} {w W_ : World} {K : PySem.W.Frag} {mg : Str → Option Value} {base : Heap}
def sp_irr (K : PySem.W.Frag) (mm : List (Str × Addr)) : Sp := fun vs H Q _ => ∃ (p : Addr) (L : Lt), vs = [.ref p] ∧ IsLat K mm H p L ∧ L.n ≤ 1000 ∧ ∀ l H', Same H H' → H l = none → H' l = some (.lst (natV L.irrs)) → Q (.ref l) H'
end
section
variable {P : Program} {w W_ : World} {K : PySem.W.Frag} {mg : Str → Option Value} {base : Heap}
/-- parts_among(numbers, number): which of the numbers lie within one -/
def sp_parts (K : PySem.W.Frag) : Sp := fun vs H Q _ => ∃ (a : Addr) (n g : Nat) (f : Nat → Nat), vs = [.ref a, .int (g : Nat)] ∧ SqL K H a ((List.range n).map fun i => V.int (f i : Nat)) ∧ n ≤ 1000 ∧
  ∀ H', Same H H' → Q (.int (mask n fun i => part (f i) g : Nat)) H'
end
section
variable {P : Program} {w W_ : World} {K : PySem.W.Frag} {mg : Str → Option Value} {base : Heap}
local macro_rules | `(tactic| walk_at "lk") => `(tactic| (simp only [lookup_putF]; repeat (first | rw [if_pos rfl] | rw [if_neg (by decide)])))
/-- what stands at b but for p and its changes -/
theorem upd_at {H : Hp} {p b : Addr} {o u : HO} (n : b ≠ p) (h : H b = some u) : upd H p o b = some u := by rw [upd_ne n]; exact h
theorem put_len (f : Str) (v : V) (fs : List (Str × V)) : (putF f v fs).length ≤ fs.length + 1 := by have := length_putF f v fs; omega
def sp_lat_init (K : PySem.W.Frag) (mm : List (Str × Addr)) : Sp := fun vs H Q _ => ∃ (p na da C dx : Addr) (fs0 : List (Str × V)) (L : Lt), vs = [.ref p, .str L.label, .ref na, .ref da, .int (L.depth : Nat)] ∧ H p = some (.ins C dx fs0) ∧ LatC K mm C ∧ fs0.length ≤ 10 ∧
  (∀ q ∈ mm, fs0.lookup q.1 = none) ∧ na ≠ p ∧ SqL K H na (L.names.map V.str) ∧ ((da ≠ p ∧ SqL K H da (downsV L)) ∨ (NdT K H da ∧ SqT K H da (downsV L))) ∧ L.n ≤ 64 ∧
  ∀ H' fs tn td tu, But p H H' → LatAt K mm H' p L C dx fs tn td tu → (∀ f, f ∉ latAttrs → fs.lookup f = fs0.lookup f) → Q .non H'
theorem ok_lat_init (T : Tx K mg W_) : FnOk P w K mg base CX0 2 T.a_Lattice_init T.d_Lattice_init ["self", "label", "names", "downs", "depth"] (sp_lat_init K T.mm) := by
  have G_first_place := ok_first (P := P) (w := w) (base := base) T
  refine T.F_Lattice_init.ok sc_Lattice_init (fun vs H Q E h => ?_) (fun cdv A outer s H vs Q E hr h => ?_)
  · obtain ⟨p, na, da, C, dx, fs0, L, rfl, _⟩ := h
    rfl
  obtain ⟨p, na, da, C, dx, fs0, L, rfl, hp, lc, z0, no, nna, hna, hda, hn, q⟩ := h
  refine ⟨_, pss_cons (ps_set (i := 5) sc_Lattice_init.nd rfl (Or.inr rfl) (pe_listRg rfl (by rfl) T.n_list (prg_1 (by rfl) T.n_range (pe_callB call_len_seq (by rfl) T.n_len (by decide +kernel) (pa_cons (pv 2) pa_nil)))))
    (pss_cons (ps_fld (pv 0) (pv 1) rfl)
    (pss_cons (ps_fld (pv 0) (pe_callB call_len_seq (by rfl) T.n_len (by decide +kernel) (pa_cons (pv 2) pa_nil)) rfl)
    (pss_cons (ps_fld (pv 0) (pv 4) rfl)
    (pss_cons (ps_fld (pv 0) (pe_callTy call_tupleN (by rfl) T.n_tuple (by decide +kernel) (pa_cons (pv 2) pa_nil)) rfl)
    (pss_cons (ps_fld (pv 0) (pe_callTy call_tupleN (by rfl) T.n_tuple (by decide +kernel) (pa_cons (pv 3) pa_nil)) rfl)
    (pss_cons (ps_fld (pv 0) (pe_callTy call_tupleN (by rfl) T.n_tuple (by decide +kernel) (pa_cons (pe_lc (own := [("a", 7)]) (g := gName 7) (tt := tYes) rfl sc_Lattice_init.nd (pi_list (pv 5)) (blkOk_by (N := N_Lattice_init) (sc := defScope St_Lattice_init) (by decide +kernel)) (fun _ _ _ _ _ => (pg_name (i := 7) sc_Lattice_init.nd rfl (Or.inr rfl))) (fun _ _ _ _ _ => pts_nil) (fun _ _ _ _ _ => (pe_callB (kx_cr_sum K) (by rfl) T.n_sum (by decide +kernel) (pa_cons (pe_lc (own := [("b", 6)]) (g := gName 6) rfl sc_Lattice_init.nd (kx_pi_list K (pi_list (pv 5))) (blkOk_by (N := N_Lattice_init) (by first | rfl | kernel_rfl)) (fun _ _ _ _ _ => (pg_name (i := 6) sc_Lattice_init.nd rfl (Or.inl rfl))) (fun _ _ _ _ _ => (pts_one (pt_cmpR op_eq (pe_op op_and (pe_op op_shr (pe_ix (kx_ix_seq K) (pv 3) (pv 6) (fun _ _ => rfl)) (pv 7)) pe_int) pe_int (nomark _)))) (fun _ _ _ _ _ => (pe_op op_shl pe_int (pv 6)))) pa_nil)))) pa_nil)) rfl)
    (pss_cons (ps_set (i := 8) sc_Lattice_init.nd rfl (Or.inl rfl) (pe_op op_sub (pe_op op_shl pe_int (pe_callB call_len_seq (by rfl) T.n_len (by decide +kernel) (pa_cons (pv 2) pa_nil))) pe_int))
    (pss_cons (ps_fld (pv 0) (pe_call G_first_place (hr.mono (by omega)) (by rfl) T.g_first_place T.F_first_place.kp T.b_first_place .nil pass0 (pa_cons (pe_fld (pv 0) rfl) (pa_cons (pv 8) pa_nil))) rfl)
    (pss_one (ps_fld (pv 0) (pe_call G_first_place (hr.mono (by omega)) (by rfl) T.g_first_place T.F_first_place.kp T.b_first_place .nil pass0 (pa_cons (pe_fld (pv 0) rfl) (pa_cons (pv 8) pa_nil))) rfl)))))))))), ?_⟩
  have en : ((L.names.map V.str).length : Nat) = L.n := List.length_map _
  refine ⟨_, rfl, na, _, rfl, .inl hna, _, rfl, ?_⟩
  rw [en]
  refine ⟨RgOk.of_le (by decide) (by omega) (by decide) (by omega), newQ (.lst (rgV 0 (L.n : Nat))) fun pl hpl s1 h1 => ?_⟩
  rw [rg_nat] at s1 h1
  rw [rg_nat]
  generalize upd H pl (.lst (natV (List.range L.n))) = H1 at s1 h1 ⊢
  -- label
  have p1 := s1 _ _ hp
  have na1 : SqL K H1 na _ := s1.seq hna
  have da1 : (da ≠ p ∧ SqL K H1 da (downsV L)) ∨ (NdT K H1 da ∧ SqT K H1 da (downsV L)) := hda.imp (fun x => ⟨x.1, s1.seq x.2⟩) (fun x => ⟨x.1.keep s1.keeps, s1.keeps.sqT x.2⟩)
  have b1 : But p H H1 := s1.but p
  have npl : pl ≠ p := ne_of h1 p1 (by intro z; cases z)
  refine ⟨_, rfl, _, rfl, p, C, dx, _, rfl, p1, lc.cl, lc.na _ (by decide), by omega, ?_⟩
  have b2 := b1.upd (.ins C dx (putF "label" (.str L.label) fs0))
  have p2 : upd H1 p (.ins C dx (putF "label" (.str L.label) fs0)) p = _ := upd_same
  have c2 : But p H1 (upd H1 p (.ins C dx (putF "label" (.str L.label) fs0))) := (But.refl p H1).upd _
  generalize upd H1 p (.ins C dx (putF "label" (.str L.label) fs0)) = H2 at b2 p2 c2 ⊢
  have na2 : SqL K H2 na _ := c2.seq nna na1
  have k2 := c2.keeps p1 trivial
  have da2 : (da ≠ p ∧ SqL K H2 da (downsV L)) ∨ (NdT K H2 da ∧ SqT K H2 da (downsV L)) := da1.imp (fun x => ⟨x.1, c2.seq x.1 x.2⟩) (fun x => ⟨x.1.keep k2, k2.sqT x.2⟩)
  have h2 := c2 _ _ npl h1
  -- size
  have z1 := put_len "label" (.str L.label) fs0
  generalize hf1 : putF "label" (.str L.label) fs0 = fs1 at p2 z1
  refine ⟨_, rfl, na, _, rfl, .inl na2, _, rfl, p, C, dx, _, rfl, p2, lc.cl, lc.na _ (by decide), by omega, ?_⟩
  rw [en]
  have b3 := b2.upd (.ins C dx (putF "size" (.int (L.n : Nat)) fs1))
  have p3 : upd H2 p (.ins C dx (putF "size" (.int (L.n : Nat)) fs1)) p = _ := upd_same
  have c3 : But p H2 (upd H2 p (.ins C dx (putF "size" (.int (L.n : Nat)) fs1))) := (But.refl p H2).upd _
  generalize upd H2 p (.ins C dx (putF "size" (.int (L.n : Nat)) fs1)) = H3 at b3 p3 c3 ⊢
  have z2 := put_len "size" (.int (L.n : Nat)) fs1
  generalize hf2 : putF "size" (.int (L.n : Nat)) fs1 = fs2 at p3 z2
  -- depth
  refine ⟨_, rfl, _, rfl, p, C, dx, _, rfl, p3, lc.cl, lc.na _ (by decide), by omega, ?_⟩
  have b4 := b3.upd (.ins C dx (putF "depth" (.int (L.depth : Nat)) fs2))
  have p4 : upd H3 p (.ins C dx (putF "depth" (.int (L.depth : Nat)) fs2)) p = _ := upd_same
  have c4 : But p H2 (upd H3 p (.ins C dx (putF "depth" (.int (L.depth : Nat)) fs2))) := c3.upd _
  generalize upd H3 p (.ins C dx (putF "depth" (.int (L.depth : Nat)) fs2)) = H4 at b4 p4 c4 ⊢
  have z3 := put_len "depth" (.int (L.depth : Nat)) fs2
  generalize hf3 : putF "depth" (.int (L.depth : Nat)) fs2 = fs3 at p4 z3
  have k4 := c4.keeps p2 trivial
  have na4 : SqL K H4 na _ := c4.seq nna na2
  have da4 : (da ≠ p ∧ SqL K H4 da (downsV L)) ∨ (NdT K H4 da ∧ SqT K H4 da (downsV L)) := da2.imp (fun x => ⟨x.1, c4.seq x.1 x.2⟩) (fun x => ⟨x.1.keep k4, k4.sqT x.2⟩)
  have h4 := c4 _ _ npl h2
  -- value_names
  refine ⟨_, rfl, na, _, rfl, .inl ⟨na4, fun tn on htn dtn => ?_⟩⟩
  have s5 : Same H4 (upd H4 tn (.frz on (.tup (L.names.map V.str)))) := Same.new htn _
  have t5 : upd H4 tn (.frz on (.tup (L.names.map V.str))) tn = _ := upd_same
  generalize upd H4 tn (.frz on (.tup (L.names.map V.str))) = H5 at s5 t5 ⊢
  have p5 := s5 _ _ p4
  refine ⟨_, rfl, p, C, dx, _, rfl, p5, lc.cl, lc.na _ (by decide), by omega, ?_⟩
  have c6 : But p H5 (upd H5 p (.ins C dx (putF "value_names" (.ref tn) fs3))) := (But.refl p H5).upd _
  have b6 := (b4.trans (s5.but p)).trans c6
  have p6 : upd H5 p (.ins C dx (putF "value_names" (.ref tn) fs3)) p = _ := upd_same
  generalize upd H5 p (.ins C dx (putF "value_names" (.ref tn) fs3)) = H6 at b6 p6 c6 ⊢
  have k6 := c6.keeps p5 trivial
  have z4 := put_len "value_names" (.ref tn) fs3
  generalize hf4 : putF "value_names" (.ref tn) fs3 = fs4 at p6 z4
  have tn6 : NdT K H6 tn ∧ SqT K H6 tn (L.names.map V.str) := ⟨.inl ⟨on, _, k6.frz _ _ _ t5, dtn⟩, .inl (.inr ⟨on, k6.frz _ _ _ t5⟩)⟩
  have da6 : (da ≠ p ∧ SqL K H6 da (downsV L)) ∨ (NdT K H6 da ∧ SqT K H6 da (downsV L)) := da4.imp (fun x => ⟨x.1, c6.seq x.1 (s5.seq x.2)⟩) (fun x => ⟨(x.1.keep s5.keeps).keep k6, k6.sqT (s5.keeps.sqT x.2)⟩)
  have h6 := c6 _ _ npl (s5 _ _ h4)
  have na6 : SqL K H6 na _ := c6.seq nna (s5.seq na4)
  -- downs
  dsimp only
  refine fld_run (fun v H' => ∃ td, v = .ref td ∧ Same H6 H' ∧ NdT K H' td ∧ SqT K H' td (downsV L)) (fun Q' q' => ?_) ?_
  · refine ⟨_, rfl, da, downsV L, rfl, da6.imp (fun x => ⟨x.2, fun td o ht dt => q' _ _ ⟨td, rfl, Same.new ht _, .inl ⟨o, _, upd_same, dt⟩, .inl (.inr ⟨o, upd_same⟩)⟩⟩) (fun x => ⟨x.2, q' _ _ ⟨da, rfl, Same.refl _, x⟩⟩)⟩
  rintro _ H7 ⟨td, rfl, s7, td7⟩
  have p7 := s7 _ _ p6
  refine ⟨_, rfl, p, C, dx, _, rfl, p7, lc.cl, lc.na _ (by decide), by omega, ?_⟩
  have c8 : But p H7 (upd H7 p (.ins C dx (putF "downs" (.ref td) fs4))) := (But.refl p H7).upd _
  have b8 := (b6.trans (s7.but p)).trans c8
  have p8 : upd H7 p (.ins C dx (putF "downs" (.ref td) fs4)) p = _ := upd_same
  generalize upd H7 p (.ins C dx (putF "downs" (.ref td) fs4)) = H8 at b8 p8 c8 ⊢
  have k8 := c8.keeps p7 trivial
  have k68 : Keeps H6 H8 := s7.keeps.trans k8
  have z5 := put_len "downs" (.ref td) fs4
  generalize hf5 : putF "downs" (.ref td) fs4 = fs5 at p8 z5
  have tn8 : NdT K H8 tn ∧ SqT K H8 tn (L.names.map V.str) := ⟨tn6.1.keep k68, k68.sqT tn6.2⟩
  have td8 : NdT K H8 td ∧ SqT K H8 td (downsV L) := ⟨td7.1.keep k8, k8.sqT td7.2⟩
  have da8 : SqL K H8 da (downsV L) ∨ SqT K H8 da (downsV L) := da6.imp (fun x => c8.seq x.1 (s7.seq x.2)) (fun x => k68.sqT x.2)
  have h8 := c8 _ _ npl (s7 _ _ h6)
  have na8 : SqL K H8 na _ := c8.seq nna (s7.seq na6)
  -- ups
  refine ⟨_, rfl, pl, rfl, ⟨_, SqL.of (K := K) h8⟩, fun D hD => ?_⟩
  refine lc_fold (walk_list (K := K) (a := pl) (xs := natV (List.range L.n))) hD (fun i _ ys => i ≤ L.n ∧ ys = (List.range i).map fun a => V.int (L.up a : Nat)) (fun _ => ⟨Nat.zero_le _, rfl⟩) (fun i _ _ xs _ h => h) ?_ (fun H9 s9 => s9.seq (SqL.of (K := K) h8)) ?_ ?_
  · rintro i _ ys ⟨hi, rfl⟩
    rw [List.length_map, List.length_range]; omega
  · rintro i x H9 _ ys Nx Ex hi s9 ⟨_, rfl⟩ ⟨rfl, ex⟩ k1 k2'
    obtain ⟨hi, rfl⟩ := at_map' ex
    refine ⟨rfl, ?_⟩
    refine lcY ?_
    refine ⟨_, rfl, pl, rfl, ⟨_, SqL.of (K := K) (s9 _ _ h8)⟩, fun D2 hD2 => ?_⟩
    refine lc_fold (walk_list (K := K) (a := pl) (xs := natV (List.range L.n))) hD2 (fun j _ ys => j ≤ L.n ∧ ys = (((List.range j).filter fun b => L.le i b).map fun b => ((2 ^ b : Nat) : Int)).map V.int) (fun _ => ⟨Nat.zero_le _, rfl⟩) (fun i _ _ xs _ h => h) ?_ (fun H10 s10 => s10.seq (SqL.of (K := K) (s9 _ _ h8))) ?_ ?_
    · rintro j _ ys ⟨hj, rfl⟩
      rw [List.length_map, List.length_map]
      have := filter_le (fun b => L.le i b) j
      omega
    · rintro j x H10 _ ys Nx2 Ex2 hj s10 ⟨_, rfl⟩ ⟨rfl, ex⟩ k3 k4'
      obtain ⟨hj, rfl⟩ := at_map' ex
      refine ⟨rfl, ?_⟩
      refine ans_run (b := L.le i j) (fun Q' q' => ?_) ?_
      · have e : decide (V.int (Builtin.bitAnd ((L.down j : Int) / 2 ^ ((i : Int)).toNat) 1) = V.int 1) = L.le i j := by
          rw [dec_int, Int.toNat_natCast, bit_is]
          show (mask L.n fun i => L.le i j).testBit i = _
          rw [mask_bit, decide_eq_true hi, Bool.true_and]
        rw [← e] at q'
        refine ⟨_, rfl, _, rfl, ?_⟩
        rcases da8 with d | d
        · exact .inl ⟨da, _, _, _, rfl, rfl, (s9.trans s10).seq d, atI_nat (at_map hj), _, rfl, _, _, rfl, rfl, Int.natCast_nonneg _, _, _, rfl, rfl, rfl, _, rfl, q'⟩
        · exact .inr (.inl ⟨da, _, _, _, rfl, rfl, (s9.trans s10).keeps.sqT d, atI_nat (at_map hj), _, rfl, _, _, rfl, rfl, Int.natCast_nonneg _, _, _, rfl, rfl, rfl, _, rfl, q'⟩)
      · refine ite2 (fun c => ?_) (fun c => ?_)
        · refine ⟨_, rfl, _, _, rfl, rfl, ⟨Int.natCast_nonneg _, by omega, by decide⟩, k3 _ _ (Same.refl _) ⟨hj, ?_⟩⟩
          rw [filter_snoc, if_pos c, List.map_append, List.map_append]
          show _ ++ [V.int (1 * 2 ^ ((j : Int)).toNat)] = _
          rw [one_shl]
          rfl
        · refine k4' _ (Same.refl _) ⟨hj, ?_⟩
          rw [filter_snoc, if_neg c, List.append_nil]
    · rintro H10 ys s10 h10 ⟨_, rfl⟩
      rw [natV_length, List.length_range] at h10
      refine ⟨D2, _, rfl, SqL.of (K := K) h10, ?_⟩
      rw [sum_mask]
      refine k1 _ _ s10 ⟨hi, ?_⟩
      rw [List.range_succ, List.map_append]
      rfl
  rintro H9 ys s9 h9 ⟨_, rfl⟩
  rw [natV_length, List.length_range] at h9
  refine ⟨D, _, rfl, .inl ⟨SqL.of (K := K) h9, fun tu ou htu dtu => ?_⟩⟩
  have s10 : Same H9 (upd H9 tu (.frz ou (.tup (upsV L)))) := Same.new htu _
  have t10 : upd H9 tu (.frz ou (.tup (upsV L))) tu = _ := upd_same
  show (_ : Hp → Prop) (upd H9 tu (.frz ou (.tup (upsV L))))
  generalize upd H9 tu (.frz ou (.tup (upsV L))) = H10 at s10 t10 ⊢
  have p10 := s10 _ _ (s9 _ _ p8)
  refine ⟨_, rfl, p, C, dx, _, rfl, p10, lc.cl, lc.na _ (by decide), by omega, ?_⟩
  have c11 : But p H10 (upd H10 p (.ins C dx (putF "ups" (.ref tu) fs5))) := (But.refl p H10).upd _
  have b11 := (b8.trans ((s9.trans s10).but p)).trans c11
  have p11 : upd H10 p (.ins C dx (putF "ups" (.ref tu) fs5)) p = _ := upd_same
  generalize upd H10 p (.ins C dx (putF "ups" (.ref tu) fs5)) = H11 at b11 p11 c11 ⊢
  have k11 := c11.keeps p10 trivial
  have k811 : Keeps H8 H11 := (s9.trans s10).keeps.trans k11
  have z6 := put_len "ups" (.ref tu) fs5
  generalize hf6 : putF "ups" (.ref tu) fs5 = fs6 at p11 z6
  have tn11 : NdT K H11 tn ∧ SqT K H11 tn (L.names.map V.str) := ⟨tn8.1.keep k811, k811.sqT tn8.2⟩
  have td11 : NdT K H11 td ∧ SqT K H11 td (downsV L) := ⟨td8.1.keep k811, k811.sqT td8.2⟩
  have tu11 : NdT K H11 tu ∧ SqT K H11 tu (upsV L) := ⟨.inl ⟨ou, _, k11.frz _ _ _ t10, dtu⟩, .inl (.inr ⟨ou, k11.frz _ _ _ t10⟩)⟩
  have na11 : SqL K H11 na _ := c11.seq nna (s10.seq (s9.seq na8))
  -- whole
  refine ⟨_, rfl, na, _, rfl, .inl na11, ?_⟩
  rw [en]
  refine ⟨_, _, rfl, rfl, ⟨Int.natCast_nonneg _, by omega, by decide⟩, _, _, rfl, rfl, ?_⟩
  have ew : (1 : Int) * 2 ^ ((L.n : Int)).toNat - 1 = ((2 ^ L.n - 1 : Nat) : Int) := by
    rw [one_shl]
    have : 1 ≤ 2 ^ L.n := Nat.one_le_two_pow
    omega
  -- bottom_at
  refine ⟨_, rfl, p, C, dx, fs6, _, rfl, p11, lc.cl, lc.na _ (by decide), (by rw [← hf6, lookup_putF, if_pos rfl]), _, rfl, tu, L.n, 2 ^ L.n - 1, L.up, (by rw [← ew]; rfl), tu11.1, tu11.2, by omega, fun H12 s12 => ?_⟩
  have p12 := s12 _ _ p11
  refine ⟨_, rfl, p, C, dx, _, rfl, p12, lc.cl, lc.na _ (by decide), by omega, ?_⟩
  have c13 : But p H12 (upd H12 p (.ins C dx (putF "bottom_at" (optV L.bot) fs6))) := (But.refl p H12).upd _
  have b13 := (b11.trans (s12.but p)).trans c13
  have p13 : upd H12 p (.ins C dx (putF "bottom_at" (optV L.bot) fs6)) p = _ := upd_same
  show (_ : Hp → Prop) (upd H12 p (.ins C dx (putF "bottom_at" (optV L.bot) fs6)))
  generalize upd H12 p (.ins C dx (putF "bottom_at" (optV L.bot) fs6)) = H13 at b13 p13 c13 ⊢
  have k13 := c13.keeps p12 trivial
  have k1113 : Keeps H11 H13 := s12.keeps.trans k13
  have z7 := put_len "bottom_at" (optV L.bot) fs6
  generalize hf7 : putF "bottom_at" (optV L.bot) fs6 = fs7 at p13 z7
  -- top_at
  refine ⟨_, rfl, p, C, dx, fs7, _, rfl, p13, lc.cl, lc.na _ (by decide), (by rw [← hf7, lookup_putF, if_neg (by decide), ← hf6, lookup_putF, if_neg (by decide), ← hf5, lookup_putF, if_pos rfl]), _, rfl, td, L.n, 2 ^ L.n - 1, L.down, (by rw [← ew]; rfl), td11.1.keep k1113, k1113.sqT td11.2, by omega, fun H14 s14 => ?_⟩
  have p14 := s14 _ _ p13
  refine ⟨_, rfl, p, C, dx, _, rfl, p14, lc.cl, lc.na _ (by decide), by omega, ?_⟩
  have c15 : But p H14 (upd H14 p (.ins C dx (putF "top_at" (optV L.top) fs7))) := (But.refl p H14).upd _
  have b15 := (b13.trans (s14.but p)).trans c15
  have p15 : upd H14 p (.ins C dx (putF "top_at" (optV L.top) fs7)) p = _ := upd_same
  show (_ : Hp → Prop) (upd H14 p (.ins C dx (putF "top_at" (optV L.top) fs7)))
  generalize upd H14 p (.ins C dx (putF "top_at" (optV L.top) fs7)) = H15 at b15 p15 c15 ⊢
  have k15 : Keeps H11 H15 := (k1113.trans s14.keeps).trans (c15.keeps p14 trivial)
  have look : ∀ f, (putF "top_at" (optV L.top) fs7).lookup f = if f = "top_at" then some (optV L.top) else if f = "bottom_at" then some (optV L.bot) else if f = "ups" then some (.ref tu) else if f = "downs" then some (.ref td) else
      if f = "value_names" then some (.ref tn) else if f = "depth" then some (.int (L.depth : Nat)) else if f = "size" then some (.int (L.n : Nat)) else if f = "label" then some (.str L.label) else fs0.lookup f := fun f => by
    rw [lookup_putF, ← hf7, lookup_putF, ← hf6, lookup_putF, ← hf5, lookup_putF, ← hf4, lookup_putF, ← hf3, lookup_putF, ← hf2, lookup_putF, ← hf1, lookup_putF]
  have other : ∀ f, f ∉ latAttrs → (putF "top_at" (optV L.top) fs7).lookup f = fs0.lookup f := fun f hf => by
    simp only [latAttrs, List.mem_cons, List.not_mem_nil, or_false, not_or] at hf
    obtain ⟨e1, e2, e3, e4, e5, e6, e7, e8⟩ := hf
    rw [look, if_neg e8, if_neg e7, if_neg e6, if_neg e5, if_neg e4, if_neg e3, if_neg e2, if_neg e1]
  refine q H15 _ tn td tu b15 ⟨p15, lc, fun x hx => ?_, ?_, ?_, ?_, ?_, ?_, ?_, ?_, ?_, ⟨tn11.1.keep k15, k15.sqT tn11.2⟩, ⟨td11.1.keep k15, k15.sqT td11.2⟩, ⟨tu11.1.keep k15, k15.sqT tu11.2⟩⟩ other
  · rw [other _ (T.mm_out x hx)]
    exact no x hx
  all_goals (rw [look]; repeat (first | rw [if_pos rfl] | rw [if_neg (by decide)]))
end
section
variable {w W_ : World} {K : PySem.W.Frag} {mg : Str → Option Value} {base : Heap}
def sp_chain (K : PySem.W.Frag) (mm : List (Str × Addr)) (C : Addr) : Sp := fun vs H Q _ => ∃ (p dx : Addr) (n : Nat), vs = [.ref p, .int (n : Nat)] ∧ H p = some (.ins C dx []) ∧ 1 ≤ n ∧ n ≤ 64 ∧
  ∀ H', But p H H' → IsLat K mm H' p (chainL n) → Q .non H'
theorem ok_chain (T : Tx K mg W_) : FnOk PL w K mg base CX0 3 T.a_ChainLattice_init T.d_ChainLattice_init ["self", "count"] (sp_chain K T.mm T.a_ChainLattice) := by
  have G_Lattice_init := ok_lat_init (P := PL) (w := w) (base := base) T
  obtain ⟨u4, B4⟩ := T.b4_Lattice_init
  refine T.F_ChainLattice_init.ok sc_ChainLattice_init (by rfl) (by rfl) (by rfl) ⟨_, rfl, rfl⟩ (by decide +kernel) T.ci_ChainLattice T.n_super T.st_any (fun vs H Q E h => ?_) (fun cda cc A outer s H vs Q E hr S h => ?_)
  · obtain ⟨p, dx, n, rfl, _⟩ := h
    rfl
  obtain ⟨p, dx, n, rfl, hp, n1, n64, q⟩ := h
  refine ⟨_, psa_cons (ps_if (pt_not (pt_chain op_le op_le pe_int (pv 1) (pe_glob (v := .int 64) (by rfl) T.g_MOST_VALUES.choose_spec ⟨_, rfl⟩))) (pss_one ps_dead) pss_nil)
    (psa_cons (ps_setLc (i := 2) (own := [("number", 3)]) (g := gName 3) (tt := tYes) rfl sc_ChainLattice_init.nd rfl rfl (sw_true rfl rfl rfl (by decide +kernel)) (pi_range1 (by rfl) T.n_range (pa_cons (pv 1) pa_nil)) (blkOk_by (N := N_ChainLattice_init) (sc := defScope St_ChainLattice_init) (by decide +kernel)) (fun _ _ _ _ _ => (pg_name (i := 3) sc_ChainLattice_init.nd rfl (Or.inl rfl))) (fun _ _ _ _ _ => pts_nil) (fun _ _ _ _ _ => (pe_callTy call_str_int (by rfl) T.n_str (by decide +kernel) (pa_cons (pv 3) pa_nil))))
    (psa_super (dvs := [.int 1]) S rfl (pa_cons (pe_joinedT (.cons pe_str (.cons (pe_fmt (pv 1)) (.cons pe_str PJ.nil)))) (pa_cons (pv 2) (pa_cons (pe_lc (own := [("number", 3)]) (g := gName 3) (tt := tYes) rfl sc_ChainLattice_init.nd (pi_range1 (by rfl) T.n_range (pa_cons (pv 1) pa_nil)) (blkOk_by (N := N_ChainLattice_init) (sc := defScope St_ChainLattice_init) (by decide +kernel)) (fun _ _ _ _ _ => (pg_name (i := 3) sc_ChainLattice_init.nd rfl (Or.inl rfl))) (fun _ _ _ _ _ => pts_nil) (fun _ _ _ _ _ => (pe_op op_sub (pe_op op_shl pe_int (pv 3)) pe_int))) pa_nil))) G_Lattice_init (hr.mono (by omega)) B4 (.cons ⟨_, rfl⟩ .nil) pass0 T.ty_Lattice T.fi_Lattice (by decide) rfl rfl rfl rfl rfl (psa_any pss_nil))), ?_⟩
  refine ⟨_, rfl, _, _, rfl, rfl, _, rfl, ?_⟩
  refine iteY (by omega) ?_
  refine ⟨_, _, rfl, rfl, _, rfl, ?_⟩
  rw [decide_eq_true (by omega : (n : Int) ≤ 64)]
  refine iteF ?_
  refine ⟨_, rfl, _, rfl, by omega, by omega, fun D hD => ?_⟩
  refine lc_fold walk_range hD (fun i _ ys => i ≤ n ∧ ys = ((List.range i).map natS).map V.str) (fun _ => ⟨Nat.zero_le _, rfl⟩) (fun i _ _ xs _ h => h) ?_ (fun _ _ => trivial) ?_ ?_
  · rintro i _ ys ⟨hi, rfl⟩
    rw [List.length_map, List.length_map, List.length_range]; omega
  · rintro i x H2 H3 ys Nx Ex hi s2 ⟨_, rfl⟩ ⟨rfl, ex⟩ k1 k2
    have hi : i < n := hi
    obtain rfl := yfn0 ex
    refine ⟨rfl, ?_⟩
    refine lcY ?_
    refine ⟨_, rfl, _, rfl, log_small (by omega), k1 _ _ (Same.refl _) ⟨hi, ?_⟩⟩
    rw [List.range_succ, List.map_append, List.map_append]
    rfl
  rintro H2 ys s2 h2 ⟨_, rfl⟩
  have p2 := s2 _ _ hp
  refine ⟨p, _, dx, _, rfl, p2, T.mr_ChainLattice, T.su_ChainLattice, ?_⟩
  have lbl : (chainL n).label = Str.empty ++ ("(chain " : Str) ++ natS n ++ (")" : Str) := by rw [empty_app]; rfl
  have nl := natS_len (i := n) (by omega)
  refine ⟨"(chain ", rfl, by decide, _, rfl, .inr ⟨_, rfl, log_small (by omega), natS n, rfl, small_line (by rw [Str.length_append, Str.length_append]; have : (Str.empty).length = 0 := rfl; have : ("(chain " : Str).length = 7 := rfl; omega),
    ")", rfl, small_line (by rw [Str.length_append, Str.length_append, Str.length_append]; have : (Str.empty).length = 0 := rfl; have : ("(chain " : Str).length = 7 := rfl; have : (")" : Str).length = 1 := rfl; omega), _, rfl, _, rfl, _, rfl, by omega, by omega, fun D2 hD2 => ?_⟩⟩
  refine lc_fold walk_range hD2 (fun i _ ys => i ≤ n ∧ ys = (List.range i).map fun b => V.int ((chainL n).down b : Nat)) (fun _ => ⟨Nat.zero_le _, rfl⟩) (fun i _ _ xs _ h => h) ?_ (fun _ _ => trivial) ?_ ?_
  · rintro i _ ys ⟨hi, rfl⟩
    rw [List.length_map, List.length_range]; omega
  · rintro i x H3 H4 ys Nx Ex hi s3 ⟨_, rfl⟩ ⟨rfl, ex⟩ k1 k2
    have hi : i < n := hi
    obtain rfl := yfn0 ex
    refine ⟨rfl, ?_⟩
    refine lcY ?_
    have e : (2 : Int) * 2 ^ ((i : Int)).toNat - 1 = (((chainL n).down i : Nat) : Int) := by
      show _ = ((mask (chainL n).n (fun a => decide (a ≤ i)) : Nat) : Int)
      rw [chainL_n, mask_upto hi, Int.toNat_natCast]
      have : 1 ≤ 2 ^ i := Nat.one_le_two_pow
      have e3 : ((2 ^ (i + 1) - 1 : Nat) : Int) = ((2 ^ (i + 1) : Nat) : Int) - 1 := by rw [Nat.pow_succ]; omega
      rw [e3, Nat.pow_succ, Int.natCast_mul, Int.natCast_pow, Int.mul_comm]
      rfl
    refine ⟨_, rfl, _, _, rfl, rfl, ⟨Int.natCast_nonneg _, by omega, by decide⟩, _, _, rfl, rfl, k1 _ _ (Same.refl _) ⟨hi, ?_⟩⟩
    rw [List.range_succ, List.map_append]
    show _ ++ [V.int (2 * 2 ^ ((i : Int)).toNat - 1)] = _
    rw [e]
    rfl
  rintro H3 ys s3 h3 ⟨_, rfl⟩
  have p3 := s3 _ _ p2
  have h23 := s3 _ _ h2
  refine ⟨p, D, D2, _, dx, [], chainL n, by rw [lbl]; rfl, p3, T.lc_ChainLattice, by decide, fun _ _ => rfl, ne_of h23 p3 (by intro z; cases z), SqL.of (K := K) h23, .inl ⟨ne_of h3 p3 (by intro z; cases z), SqL.of (K := K) (by rw [h3]; unfold downsV; rw [chainL_n]; rfl)⟩, by rw [chainL_n]; exact n64, fun H4 fs tn td tu b4 A _ => ?_⟩
  exact q H4 (((s2.trans s3).but p).trans b4) ⟨_, _, _, _, _, _, A⟩
end
section
variable {w W_ : World} {K : PySem.W.Frag} {mg : Str → Option Value} {base : Heap}
def sp_sets (K : PySem.W.Frag) (mm : List (Str × Addr)) (C : Addr) : Sp := fun vs H Q _ => ∃ (p dx : Addr) (c : Nat), vs = [.ref p, .int (c : Nat)] ∧ H p = some (.ins C dx []) ∧ 1 ≤ c ∧ c ≤ 6 ∧
  ∀ H', But p H H' → IsLat K mm H' p (setsL c) → Q .non H'
end
/-! ### orders: names, pairs, closed_downs -/
section
variable {P : Program} {w W_ : World} {K : PySem.W.Frag} {mg : Str → Option Value} {base : Heap}
def lettersS : Str := "abcdefghijklmnopqrstuvwxyz0123456789"
structure NameW (x : Str) : Prop where
  pos : 1 ≤ x.length
  le : x.length ≤ 12
  all : ∀ c ∈ x.cps.toList, c ∈ lettersS.cps.toList
theorem count_strs (x : Str) (xs : List Str) : (xs.map V.str).countP (fun z => eqV z (.str x)) = xs.count x := by
  rw [List.countP_map]
  rfl
theorem any_falses : ∀ n : Nat, (List.replicate n false).any id = false
  | 0 => rfl
  | n + 1 => by rw [List.replicate_succ, List.any_cons, any_falses n]; rfl
def sp_check (K : PySem.W.Frag) : Sp := fun vs H Q _ => ∃ (a : Addr) (xs : List Str) (m : Nat), vs = [.ref a, .int (m : Nat)] ∧ SqL K H a (xs.map V.str) ∧ 1 ≤ xs.length ∧ xs.length ≤ m ∧ xs.Nodup ∧ (∀ x ∈ xs, NameW x) ∧ ∀ H', Same H H' → Q .non H'
theorem ok_check (T : Tx K mg W_) : FnOk P w K mg base CX0 1 T.a_check_names T.d_check_names ["names", "most"] (sp_check K) := by
  refine T.F_check_names.ok sc_check_names (fun vs H Q E h => ?_) (fun cdv A outer s H vs Q E hr h => ?_)
  · obtain ⟨a, xs, m, rfl, _⟩ := h
    rfl
  obtain ⟨a, xs, m, rfl, ha, n1, nm, nd, nw, q⟩ := h
  refine ⟨_, pss_cons (ps_if (pt_not (pt_chain op_le op_le pe_int (pe_callB call_len_seq (by rfl) T.n_len (by decide +kernel) (pa_cons (pv 0) pa_nil)) (pv 1))) (pss_one ps_dead) pss_nil)
    (pss_one (ps_for PassesOwn.never rfl (pi_list (pv 0)) (pg_name (i := 2) sc_check_names.nd rfl (Or.inl rfl)) (pss_cons (ps_if (PW.pt (pw_or (pt_not (pt_chain op_le op_le pe_int (pe_callB call_len_str (by rfl) T.n_len (by decide +kernel) (pa_cons (pv 2) pa_nil)) pe_int)) (pw_or1 (pt_cmpR op_gt (pe_bm PySem.F.plainAttrs_list PySem.F.slot_list_count PySem.F.type_list_count mt_countF (pv 0) (pa_cons (pv 2) pa_nil)) pe_int (nomark _))))) (pss_one ps_dead) pss_nil)
    (pss_one (ps_if (pt_val (pe_callB (cr_any rfl) (by rfl) T.n_any (by decide +kernel) (pa_cons (pe_lc (own := [("letter", 3)]) (g := gName 3) (tt := tYes) rfl sc_check_names.nd (pi_str (pv 2)) (blkOk_by (N := N_check_names) (sc := defScope St_check_names) (by decide +kernel)) (fun _ _ _ _ _ => (pg_name (i := 3) sc_check_names.nd rfl (Or.inl rfl))) (fun _ _ _ _ _ => pts_nil) (fun _ _ _ _ _ => (pe_cmpR op_notIn_sign (pv 3) (pe_glob (v := .str "abcdefghijklmnopqrstuvwxyz0123456789") (by rfl) T.g_LETTERS.choose_spec ⟨_, rfl⟩) rfl))) pa_nil))) (pss_one ps_dead) pss_nil))))), ?_⟩
  refine ⟨_, rfl, a, _, rfl, .inl ha, _, _, rfl, rfl, _, rfl, ?_⟩
  rw [List.length_map]
  refine iteY (by omega) ?_
  refine ⟨_, rfl, _, _, rfl, rfl, _, rfl, ?_⟩
  rw [decide_eq_true (by omega : (xs.length : Int) ≤ m)]
  refine iteF ?_
  refine ⟨_, rfl, a, rfl, ⟨_, ha⟩, for_list (K := K) (a := a) (xs := xs.map V.str) (fun i σ H2 => ∃ v2 v3, σ = [some (.ref a), some (.int (m : Nat)), v2, v3] ∧ Same H H2) ⟨_, _, rfl, Same.refl _⟩ (fun i σ H2 _ ⟨_, _, _, s⟩ => s.seq ha) ?_ ?_⟩
  · rintro i x σ H2 hx ⟨v2, v3, rfl, s2⟩
    rw [List.getElem?_map] at hx
    obtain ⟨y, hy, rfl⟩ := Option.map_eq_some_iff.mp hx
    have ym := List.mem_of_getElem? hy
    have w := nw y ym
    have w1 := w.pos
    have w2 := w.le
    refine ⟨_, rfl, _, rfl, small_line (by omega), _, _, rfl, rfl, _, rfl, ?_⟩
    refine iteY (by omega) ?_
    refine ⟨_, _, rfl, rfl, _, rfl, ?_⟩
    rw [decide_eq_true (by omega : (y.length : Int) ≤ 12)]
    refine iteF ?_
    refine ⟨_, rfl, .inl ⟨rfl, _, s2.seq ha⟩, _, rfl, a, _, _, rfl, rfl, s2.seq ha, rfl, flat_strs _, _, _, rfl, rfl, _, rfl, ?_⟩
    have c1 : xs.count y ≤ 1 := List.nodup_iff_count.mp nd y
    rw [count_strs]
    refine iteN (by omega) ?_
    refine ⟨_, rfl, _, rfl, fun D hD => ?_⟩
    refine lc_fold walk_str hD (fun i _ ys => i ≤ y.cps.size ∧ ys = List.replicate i (V.bl false)) (fun _ => ⟨Nat.zero_le _, rfl⟩) (fun i _ _ xs _ h => h) ?_ (fun _ _ => trivial) ?_ ?_
    · rintro i _ ys ⟨hi, rfl⟩
      rw [List.length_replicate]
      have : y.cps.size = y.length := rfl
      omega
    · rintro i x H3 H4 ys Nx Ex hi s3 ⟨_, rfl⟩ ⟨rfl, c, hc, rfl⟩ k1 k2
      refine ⟨rfl, ?_⟩
      refine lcY ?_
      have cm : c ∈ y.cps.toList := by
        rw [Array.mem_toList_iff]
        exact Array.mem_of_getElem? hc
      refine ⟨_, rfl, c, lettersS, rfl, rfl, k1 _ _ (Same.refl _) ⟨hi, ?_⟩⟩
      rw [decide_eq_true (w.all c cm), List.replicate_succ']
      rfl
    · rintro H3 ys s3 h3 ⟨_, rfl⟩
      refine ⟨D, List.replicate y.cps.size false, rfl, SqL.of (K := K) (by rw [h3, List.map_replicate]), _, rfl, ?_⟩
      rw [any_falses]
      refine iteF ?_
      exact ⟨_, _, rfl, s2.trans s3⟩
  · rintro σ H2 ⟨v2, v3, rfl, s2⟩
    exact q H2 s2
/-- the pairs of a list, by the places of their names -/
def PairsAt (K : PySem.W.Frag) (H : Hp) (b : Addr) (xs : List Str) (ps : List (Nat × Nat)) : Prop := ∃ vs : List V, SqL K H b vs ∧ vs.length = ps.length ∧ ∀ (i : Nat) (q : Nat × Nat), ps[i]? = some q → ∃ (t : Addr) (x y : Str), vs[i]? = some (.ref t) ∧ SqT K H t [.str x, .str y] ∧ xs[q.1]? = some x ∧ xs[q.2]? = some y
theorem PairsAt.to {H H' : Hp} {b : Addr} {xs : List Str} {ps : List (Nat × Nat)} (h : PairsAt K H b xs ps) (k : Keeps H H') (e : ∀ vs, SqL K H b vs → SqL K H' b vs) : PairsAt K H' b xs ps := by
  obtain ⟨vs, h1, h2, h3⟩ := h
  refine ⟨vs, e _ h1, h2, fun i q hq => ?_⟩
  obtain ⟨t, x, y, a1, a2, a3⟩ := h3 i q hq
  exact ⟨t, x, y, a1, k.sqT a2, a3⟩
theorem PairsAt.same {H H' : Hp} {b : Addr} {xs : List Str} {ps : List (Nat × Nat)} (h : PairsAt K H b xs ps) (s : Same H H') : PairsAt K H' b xs ps := h.to s.keeps fun _ q => s.seq q
/-- how labels tell the pairs -/
def pairW (xs : List Str) (ps : List (Nat × Nat)) : List Str := ps.map fun q => xs.getD q.1 Str.empty ++ (" " : Str) ++ xs.getD q.2 Str.empty
def sp_pwords (K : PySem.W.Frag) : Sp := fun vs H Q _ => ∃ (b : Addr) (xs : List Str) (ps : List (Nat × Nat)), vs = [.ref b] ∧ PairsAt K H b xs ps ∧ ps.length ≤ 1000 ∧ (∀ x ∈ xs, x.length ≤ 12) ∧ ∀ H', Same H H' → Q (.str (PySem.Txt.join " " (pairW xs ps))) H'
theorem pairW_len {xs : List Str} (hx : ∀ x ∈ xs, x.length ≤ 12) (ps : List (Nat × Nat)) : ∀ z ∈ pairW xs ps, z.length ≤ 25 := by
  intro z hz
  obtain ⟨q, _, rfl⟩ := List.mem_map.mp hz
  have l : ∀ i, (xs.getD i Str.empty).length ≤ 12 := fun i => by
    rw [List.getD_eq_getElem?_getD]
    cases e : xs[i]? with
    | none => exact Nat.zero_le _
    | some x => exact hx x (List.mem_of_getElem? e)
  have l1 := l q.1
  have l2 := l q.2
  have o : (" " : Str).length = 1 := rfl
  rw [Str.length_append, Str.length_append]
  omega
theorem sum_bound {xs : List Str} {m : Nat} (h : ∀ z ∈ xs, z.length ≤ m) : (xs.map (·.length)).sum ≤ xs.length * m := by
  induction xs with
  | nil => simp
  | cons x xs ih =>
    have h1 := h x (.head _)
    have h2 := ih fun z hz => h z (.tail _ hz)
    rw [List.map_cons, List.sum_cons, List.length_cons, Nat.succ_mul]
    omega
theorem ok_pwords (T : Tx K mg W_) : FnOk P w K mg base CX0 1 T.a_pair_words T.d_pair_words ["pairs"] (sp_pwords K) := by
  refine T.F_pair_words.ok sc_pair_words (fun vs H Q E h => ?_) (fun cdv A outer s H vs Q E hr h => ?_)
  · obtain ⟨b, xs, ps, rfl, _⟩ := h
    rfl
  obtain ⟨b, xs, ps, rfl, hp, hz, hx, q⟩ := h
  refine ⟨_, pss_one (ps_ret (pe_join pe_str (pe_lc (own := [("lower", 1), ("upper", 2)]) (g := gTup K 2 (gCons (gName 1) (gCons (gName 2) gNil))) (tt := tYes) rfl sc_pair_words.nd (pi_list (pv 0)) (blkOk_by (N := N_pair_words) (sc := defScope St_pair_words) (by decide +kernel)) (fun _ _ _ _ _ => (pg_tup rfl (pgs_cons (pg_name (i := 1) sc_pair_words.nd rfl (Or.inl rfl)) (pgs_cons (pg_name (i := 2) sc_pair_words.nd rfl (Or.inl rfl)) pgs_nil)))) (fun _ _ _ _ _ => pts_nil) (fun _ _ _ _ _ => (pe_joinedT (.cons (pe_fmt (pv 1)) (.cons pe_str (.cons (pe_fmt (pv 2)) PJ.nil)))))))), ?_⟩
  obtain ⟨vs, h1, h2, h3⟩ := hp
  refine ⟨⟨_, rfl⟩, _, rfl, b, rfl, ⟨_, h1⟩, fun D hD => ?_⟩
  refine lc_fold (walk_list (K := K) (a := b) (xs := vs)) hD (fun i _ ys => i ≤ ps.length ∧ ys = ((pairW xs ps).take i).map V.str) (fun _ => ⟨Nat.zero_le _, rfl⟩) (fun i _ _ xs _ h => h) ?_ (fun H2 s2 => s2.seq h1) ?_ ?_
  · rintro i _ ys ⟨hi, rfl⟩
    rw [List.length_map, List.length_take]; omega
  · rintro i x H2 H3 ys Nx Ex hi s2 ⟨_, rfl⟩ ⟨rfl, ex⟩ k1 k2
    rw [h2] at hi
    obtain ⟨t, x1, y1, e1, e2, e3, e4⟩ := h3 i ps[i] (List.getElem?_eq_getElem hi)
    rw [ex] at e1
    cases e1
    refine ⟨t, _, rfl, s2.keeps.sqT e2, rfl, _, _, rfl, _, _, rfl, ⟨rfl, rfl, ?_⟩⟩
    refine lcY ?_
    have lx := hx x1 (List.mem_of_getElem? e3)
    have ly := hx y1 (List.mem_of_getElem? e4)
    have o : (" " : Str).length = 1 := rfl
    have o0 : (Str.empty).length = 0 := rfl
    refine ⟨_, rfl, .inl ⟨x1, rfl, small_line (by omega), x1, rfl, small_line (by rw [Str.length_append]; omega), " ", rfl, small_line (by rw [Str.length_append, Str.length_append]; omega), _, rfl, .inl ⟨y1, rfl, small_line (by omega), y1, rfl, small_line (by rw [Str.length_append, Str.length_append, Str.length_append]; omega), k1 _ _ (Same.refl _) ⟨hi, ?_⟩⟩⟩⟩
    have e : (pairW xs ps)[i]? = some (x1 ++ (" " : Str) ++ y1) := by
      unfold pairW
      rw [List.getElem?_map, List.getElem?_eq_getElem hi, Option.map_some, List.getD_eq_getElem?_getD, List.getD_eq_getElem?_getD, e3, e4]
      rfl
    rw [take_snoc e, List.map_append, empty_app]
    rfl
  · rintro H2 ys s2 h2' ⟨_, rfl⟩
    have lp : (pairW xs ps).length = ps.length := List.length_map _
    have et : (pairW xs ps).take vs.length = pairW xs ps := by rw [h2, ← lp]; exact List.take_length
    rw [et] at h2'
    refine ⟨" ", D, pairW xs ps, rfl, rfl, .inl (SqL.of (K := K) h2'), ?_, q H2 s2⟩
    have := sum_bound (pairW_len hx ps)
    have o : (" " : Str).length = 1 := rfl
    rw [lp] at this ⊢
    rw [o]
    omega
end
section
variable {P : Program} {w W_ : World} {K : PySem.W.Frag} {mg : Str → Option Value} {base : Heap}
theorem map_set {n u : Nat} {f g : Nat → V} {v : V} (hu : u < n) (h1 : g u = v) (h2 : ∀ i, i ≠ u → g i = f i) : ((List.range n).map f).set u v = (List.range n).map g := by
  refine List.ext_getElem? fun i => ?_
  rw [List.getElem?_set]
  by_cases e : u = i
  · subst e
    rw [if_pos rfl, List.length_map, List.length_range, if_pos hu, at_map hu, h1]
  · rw [if_neg e, List.getElem?_map, List.getElem?_map]
    by_cases hi : i < n
    · rw [List.getElem?_range hi, Option.map_some, Option.map_some, h2 i (Ne.symm e)]
    · rw [List.getElem?_eq_none (by rw [List.length_range]; omega)]; rfl
/-- what the rows of sets know while they grow -/
structure Grow (n : Nat) (ps : List (Nat × Nat)) (p : Nat → Nat → Bool) : Prop where
  refl : ∀ b, b < n → p b b = true
  sound : ∀ b a, b < n → a < n → p b a = true → Reach ps a b
theorem grow0 (n : Nat) (ps : List (Nat × Nat)) : Grow n ps (fun b a => a == b) := by
  refine ⟨fun b _ => beq_self_eq_true b, fun b a _ _ h => ?_⟩
  have e : a = b := by simpa using h
  subst e
  exact .here
def maskV (n : Nat) (p : Nat → Nat → Bool) : List V := (List.range n).map fun b => V.int ((mask n (p b) : Nat) : Int)
def growOne (p : Nat → Nat → Bool) (l u : Nat) : Nat → Nat → Bool := fun b a => if b = u then p u a || p l a else p b a
theorem Grow.one {n : Nat} {ps : List (Nat × Nat)} {p : Nat → Nat → Bool} (g : Grow n ps p) {l u : Nat} (hm : (l, u) ∈ ps) (hl : l < n) (hu : u < n) : Grow n ps (growOne p l u) := by
  refine ⟨fun b hb => ?_, fun b a hb ha h => ?_⟩
  · unfold growOne
    split
    · rename_i e; subst e; rw [g.refl b hb]; rfl
    · exact g.refl b hb
  · unfold growOne at h
    split at h
    · rename_i e
      subst e
      rw [Bool.or_eq_true] at h
      rcases h with h | h
      · exact g.sound b a hb ha h
      · exact .step (g.sound l a hl ha h) hm
    · exact g.sound b a hb ha h
theorem Grow.done {n : Nat} {ps : List (Nat × Nat)} {p : Nat → Nat → Bool} (g : Grow n ps p) (hn : ∀ q ∈ ps, q.1 < n ∧ q.2 < n) (hc : ∀ l u, (l, u) ∈ ps → ∀ a, a < n → p l a = true → p u a = true) {b : Nat} (hb : b < n) :
    mask n (p b) = mask n fun a => reachB ps a b := by
  refine mask_ext fun a ha => ?_
  rw [Bool.eq_iff_iff, reachB_iff]
  refine ⟨g.sound b a hb ha, fun h => ?_⟩
  exact Reach.of_closed (fun b => p b a = true) (g.refl a ha) (fun l u m h => hc l u m a ha h) h
theorem inV_strs' {xs : List Str} {x : Str} {i : Nat} (h : xs[i]? = some x) : (if true = true then !inV (.str x) (xs.map V.str) else inV (.str x) (xs.map V.str)) = false := by
  show (!inV (.str x) (xs.map V.str)) = false
  rw [inV_strs, decide_eq_true (List.mem_of_getElem? h)]; rfl
/-- names.index(x): the first place of x -/
theorem index_at {xs : List Str} {x : Str} {i : Nat} (nd : xs.Nodup) (hx : xs[i]? = some x) : (xs.map V.str)[i]? = some (.str x) ∧ eqV (.str x) (.str x) = true ∧ ∀ (m : Nat) (z' : V), m < i → (xs.map V.str)[m]? = some z' → eqV z' (.str x) = false := by
  refine ⟨by rw [List.getElem?_map, hx]; rfl, by rw [eqV_str']; exact beq_self_eq_true x, fun j z hj hz => ?_⟩
  rw [List.getElem?_map] at hz
  obtain ⟨y, hy, rfl⟩ := Option.map_eq_some_iff.mp hz
  exact beq_eq_false_iff_ne.mpr fun z => by
    subst z
    have := nodup_at' nd hy hx
    omega
def sp_closed (K : PySem.W.Frag) : Sp := fun vs H Q _ => ∃ (a b : Addr) (xs : List Str) (ps : List (Nat × Nat)), vs = [.ref a, .ref b] ∧ SqL K H a (xs.map V.str) ∧ PairsAt K H b xs ps ∧ xs.Nodup ∧ xs.length ≤ 60 ∧ ps.length ≤ 1000 ∧
  ∀ l H', Same H H' → H l = none → H' l = some (.lst (maskV xs.length fun b a => reachB ps a b)) → Q (.ref l) H'
theorem ok_closed (T : Tx K mg W_) : FnOk P w K mg base CX0 1 T.a_closed_downs T.d_closed_downs ["names", "pairs"] (sp_closed K) := by
  refine T.F_closed_downs.ok sc_closed_downs (fun vs H Q E h => ?_) (fun cdv A outer s H vs Q E hr h => ?_)
  · obtain ⟨a, b, xs, ps, rfl, _⟩ := h
    rfl
  obtain ⟨a, b, xs, ps, rfl, ha, ⟨vs, h1, h2, h3⟩, nd, n60, pz, q⟩ := h
  refine ⟨_, pss_cons (ps_for PassesOwn.never rfl (pi_list (pv 1)) (pg_tup rfl (pgs_cons (pg_name (i := 2) sc_closed_downs.nd rfl (Or.inl rfl)) (pgs_cons (pg_name (i := 3) sc_closed_downs.nd rfl (Or.inl rfl)) pgs_nil))) (pss_one (ps_if (PW.pt (pw_or (pt_cmpR op_notIn_seq (pv 2) (pv 0) (by rfl)) (pw_or1 (pt_cmpR op_notIn_seq (pv 3) (pv 0) (by rfl))))) (pss_one ps_dead) pss_nil)))
    (pss_cons (ps_setLc (i := 4) (own := [("place", 5)]) (g := gName 5) (tt := tYes) rfl sc_closed_downs.nd rfl rfl (sw_true rfl rfl rfl (by decide +kernel)) (pi_range1 (by rfl) T.n_range (pa_cons (pe_callB call_len_seq (by rfl) T.n_len (by decide +kernel) (pa_cons (pv 0) pa_nil)) pa_nil)) (blkOk_by (N := N_closed_downs) (sc := defScope St_closed_downs) (by decide +kernel)) (fun _ _ _ _ _ => (pg_name (i := 5) sc_closed_downs.nd rfl (Or.inl rfl))) (fun _ _ _ _ _ => pts_nil) (fun _ _ _ _ _ => (pe_op op_shl pe_int (pv 5))))
    (pss_cons (ps_set (i := 6) sc_closed_downs.nd rfl (Or.inl rfl) pe_bl)
    (pss_cons (ps_while PassesOwn.never (pt_val (pv 6)) (pss_cons (ps_set (i := 6) sc_closed_downs.nd rfl (Or.inl rfl) pe_bl)
    (pss_one (ps_for PassesOwn.never rfl (pi_list (pv 1)) (pg_tup rfl (pgs_cons (pg_name (i := 2) sc_closed_downs.nd rfl (Or.inl rfl)) (pgs_cons (pg_name (i := 3) sc_closed_downs.nd rfl (Or.inl rfl)) pgs_nil))) (pss_cons (ps_set (i := 7) sc_closed_downs.nd rfl (Or.inl rfl) (pe_op op_or (pe_ix ix_list (pv 4) (pe_bm PySem.F.plainAttrs_list PySem.F.slot_list_index PySem.F.type_list_index mt_index (pv 0) (pa_cons (pv 3) pa_nil)) (fun _ _ => rfl)) (pe_ix ix_list (pv 4) (pe_bm PySem.F.plainAttrs_list PySem.F.slot_list_index PySem.F.type_list_index mt_index (pv 0) (pa_cons (pv 2) pa_nil)) (fun _ _ => rfl))))
    (pss_one (ps_if (pt_cmpR op_ne (pv 7) (pe_ix ix_list (pv 4) (pe_bm PySem.F.plainAttrs_list PySem.F.slot_list_index PySem.F.type_list_index mt_index (pv 0) (pa_cons (pv 3) pa_nil)) (fun _ _ => rfl)) (nomark _)) (pss_cons (ps_asg (pv 7) (pg_sub (pv 4) (pe_bm PySem.F.plainAttrs_list PySem.F.slot_list_index PySem.F.type_list_index mt_index (pv 0) (pa_cons (pv 3) pa_nil)) set_list))
    (pss_one (ps_set (i := 6) sc_closed_downs.nd rfl (Or.inl rfl) pe_bl))) pss_nil)))))))
    (pss_one (ps_ret (pv 4)))))), ?_⟩
  refine ⟨_, rfl, b, rfl, ⟨_, h1⟩, for_list (K := K) (a := b) (xs := vs) (fun i σ H2 => ∃ v2 v3, σ = [some (.ref a), some (.ref b), v2, v3, none, none, none, none] ∧ Same H H2) ⟨_, _, rfl, Same.refl _⟩ (fun i σ H2 _ ⟨_, _, _, s⟩ => s.seq h1) ?_ ?_⟩
  · rintro i x σ H2 hx ⟨v2, v3, rfl, s2⟩
    have hi := (List.getElem?_eq_some_iff.mp hx).1
    rw [h2] at hi
    obtain ⟨t, x1, y1, e1, e2, e3, e4⟩ := h3 i ps[i] (List.getElem?_eq_getElem hi)
    rw [hx] at e1
    cases e1
    refine ⟨t, _, rfl, s2.keeps.sqT e2, rfl, _, _, rfl, _, _, rfl, ⟨rfl, ?_⟩⟩
    refine ⟨_, rfl, _, rfl, a, _, rfl, .inl (s2.seq ha), rfl, flat_strs _, _, rfl, ?_⟩
    rw [inV_strs' e3]
    refine iteF ?_
    refine ⟨_, rfl, _, rfl, a, _, rfl, .inl (s2.seq ha), rfl, flat_strs _, _, rfl, ?_⟩
    rw [inV_strs' e4]
    refine iteF ?_
    exact ⟨_, _, rfl, s2⟩
  rintro σ H2 ⟨v2, v3, rfl, s2⟩
  have pn : ∀ q ∈ ps, q.1 < xs.length ∧ q.2 < xs.length := fun q hq => by
    obtain ⟨i, hi⟩ := List.getElem?_of_mem hq
    obtain ⟨t, x1, y1, e1, e2, e3, e4⟩ := h3 i q hi
    exact ⟨(List.getElem?_eq_some_iff.mp e3).1, (List.getElem?_eq_some_iff.mp e4).1⟩
  generalize hn : xs.length = n at pn n60
  refine ⟨_, rfl, a, _, rfl, .inl (s2.seq ha), _, rfl, by rw [List.length_map, hn]; omega, by rw [List.length_map, hn]; omega, fun D hD => ?_⟩
  rw [List.length_map, hn]
  refine lc_fold walk_range hD (fun i _ ys => i ≤ n ∧ ys = (List.range i).map fun b => V.int ((mask n (fun a => a == b) : Nat) : Int)) (fun _ => ⟨Nat.zero_le _, rfl⟩) (fun i _ _ xs _ h => h) ?_ (fun _ _ => trivial) ?_ ?_
  · rintro i _ ys ⟨hi, rfl⟩
    rw [List.length_map, List.length_range]; omega
  · rintro i x H3 H4 ys Nx Ex hi s3 ⟨_, rfl⟩ ⟨rfl, ex⟩ k1 k2
    have hi : i < n := hi
    obtain rfl := yfn0 ex
    refine ⟨rfl, ?_⟩
    refine lcY ?_
    refine ⟨_, rfl, _, _, rfl, rfl, ⟨Int.natCast_nonneg _, by omega, by decide⟩, k1 _ _ (Same.refl _) ⟨hi, ?_⟩⟩
    rw [List.range_succ, List.map_append]
    show _ ++ [V.int (1 * 2 ^ ((i : Int)).toNat)] = _ ++ [V.int ((mask n (fun a => a == i) : Nat) : Int)]
    rw [one_shl, mask_one hi]
  rintro H3 ys s3 h3' ⟨_, rfl⟩
  have s03 := s2.trans s3
  have nD : ∀ {c : Addr} {o : HO}, H2 c = some o → c ≠ D := fun h => ne_of_none h hD
  refine ⟨fun k σ H4 => ∃ (p : Nat → Nat → Bool) (ch : Bool) (v2 v3 v5 v7 : Option V), k = 2 * (n * n - marks n p) + (if ch then 1 else 0) ∧ σ = [some (.ref a), some (.ref b), v2, v3, some (.ref D), v5, some (.bl ch), v7] ∧ But D H3 H4 ∧ H4 D = some (.lst (maskV n p)) ∧ Grow n ps p ∧
      (ch = false → ∀ l u, (l, u) ∈ ps → ∀ a, a < n → p l a = true → p u a = true), ⟨_, fun b a => a == b, true, _, _, _, _, rfl, rfl, But.refl _ _, h3', grow0 n ps, fun z => nomatch z⟩, ?_⟩
  rintro k σ H4 ⟨p, ch, v2, v3, v5, v7, rfl, rfl, b4, d4, g, hc⟩
  refine ⟨_, rfl, _, rfl, ?_⟩
  cases ch with
  | false =>
    refine iteF ?_
    refine ⟨_, rfl, q D H4 (fun c o hc' => ?_) ?_ ?_⟩
    · have := s03 c o hc'
      exact b4 c o (ne_of_none (s2 c o hc') hD) this
    · cases e : H D with
      | none => rfl
      | some o => have := s2 D o e; rw [hD] at this; cases this
    · rw [d4, hn]
      congr 2
      unfold maskV
      refine List.map_congr_left fun b hb => ?_
      rw [g.done pn (hc rfl) (List.mem_range.mp hb)]
  | true =>
    refine iteT ?_
    refine ⟨fun σ' H' => ∃ m' < _, _, fun _ _ h => h, ?_⟩
    dsimp only
    have bD : ∀ {H5 : Hp}, But D H3 H5 → SqL K H5 a (xs.map V.str) ∧ SqL K H5 b vs ∧ ∀ t ws, SqT K H t ws → SqT K H5 t ws := fun {H5} b5 => by
      have b25 : But D H2 H5 := fun c o nc hc => b5 c o nc (s3 c o hc)
      have sq : ∀ c zs, SqL K H c zs → SqL K H5 c zs := fun c zs h => by
        rcases s2.seq h with (h | ⟨o, h⟩) | h
        · exact .inl (.inl (b25 _ _ (ne_of_none h hD) h))
        · exact .inl (.inr ⟨o, b25 _ _ (ne_of_none h hD) h⟩)
        · exact .inr h
      refine ⟨sq _ _ ha, sq _ _ h1, fun t ws h => ?_⟩
      rcases s2.keeps.sqT h with (h | ⟨o, h⟩) | h
      · exact .inl (.inl (b25 _ _ (ne_of_none h hD) h))
      · exact .inl (.inr ⟨o, b25 _ _ (ne_of_none h hD) h⟩)
      · exact .inr h
    refine ⟨_, rfl, b, rfl, ⟨_, (bD b4).2.1⟩, for_list (K := K) (a := b) (xs := vs) (fun i σ H5 => ∃ (p' : Nat → Nat → Bool) (ch : Bool) (v2 v3 v5 v7 : Option V), σ = [some (.ref a), some (.ref b), v2, v3, some (.ref D), v5, some (.bl ch), v7] ∧ But D H3 H5 ∧ H5 D = some (.lst (maskV n p')) ∧ Grow n ps p' ∧
        (ch = false → (∀ l u, (l, u) ∈ ps.take i → ∀ a, a < n → p' l a = true → p' u a = true) ∧ marks n p ≤ marks n p') ∧ (ch = true → marks n p < marks n p')) ?_ (fun i σ H5 _ ⟨_, _, _, _, _, _, _, b5, _⟩ => (bD b5).2.1) ?_ ?_⟩
    · exact ⟨p, false, _, _, _, _, rfl, b4, d4, g, fun _ => ⟨fun l u h => by simp at h, Nat.le_refl _⟩, fun z => nomatch z⟩
    · rintro i x σ H5 hx ⟨p', ch, v2, v3, v5, v7, rfl, b5, d5, g5, c1, c2⟩
      have hi := (List.getElem?_eq_some_iff.mp hx).1
      rw [h2] at hi
      obtain ⟨t, x1, y1, e1, e2, e3, e4⟩ := h3 i ps[i] (List.getElem?_eq_getElem hi)
      rw [hx] at e1
      cases e1
      obtain ⟨ha5, hb5, ht5⟩ := bD b5
      have pm : ps[i] ∈ ps := List.getElem_mem hi
      generalize hq : ps[i] = lu at e3 e4 pm
      obtain ⟨l, u⟩ := lu
      obtain ⟨ln, un⟩ := pn _ pm
      dsimp only at e3 e4 ln un
      refine ⟨t, _, rfl, ht5 _ _ e2, rfl, _, _, rfl, _, _, rfl, ⟨rfl, ?_⟩⟩
      have dq : SqL K H5 D (maskV n p') := SqL.of d5
      have at5 : ∀ {j : Nat}, j < n → atI (maskV n p') (j : Int) = some (.int ((mask n (p' j) : Nat) : Int)) := fun hj => atI_nat (at_map hj)
      obtain ⟨iu1, iu2, iu3⟩ := index_at nd e4
      obtain ⟨il1, il2, il3⟩ := index_at nd e3
      refine ⟨_, rfl, _, rfl, .inl ⟨rfl, _, ha5⟩, _, rfl, a, _, _, u, _, rfl, rfl, ha5, rfl, flat_strs _, iu1, iu2, iu3, ?_⟩
      refine ⟨D, _, _, _, rfl, rfl, dq, at5 un, ?_⟩
      refine ⟨_, rfl, _, rfl, .inl ⟨rfl, _, ha5⟩, _, rfl, a, _, _, l, _, rfl, rfl, ha5, rfl, flat_strs _, il1, il2, il3, ?_⟩
      refine ⟨D, _, _, _, rfl, rfl, dq, at5 ln, _, _, rfl, rfl, ?_⟩
      have eg : Builtin.bitOr ((mask n (p' u) : Nat) : Int) ((mask n (p' l) : Nat) : Int) = ((mask n (fun a => p' u a || p' l a) : Nat) : Int) := by rw [or_int_nat, mask_or]
      refine ⟨_, rfl, _, rfl, _, rfl, .inl ⟨rfl, _, ha5⟩, _, rfl, a, _, _, u, _, rfl, rfl, ha5, rfl, flat_strs _, iu1, iu2, iu3, ?_⟩
      refine ⟨D, _, _, _, rfl, rfl, dq, at5 un, rfl, _, rfl, ?_⟩
      have et : (!decide (V.int (Builtin.bitOr ((mask n (p' u) : Nat) : Int) ((mask n (p' l) : Nat) : Int)) = V.int ((mask n (p' u) : Nat) : Int))) = !(mask n (fun a => p' u a || p' l a) == mask n (p' u)) := by rw [eg, int_ext]
      show if (!decide (V.int (Builtin.bitOr ((mask n (p' u) : Nat) : Int) ((mask n (p' l) : Nat) : Int)) = V.int ((mask n (p' u) : Nat) : Int))) = true then _ else _
      rw [et]
      have two : ∀ l' u', (l', u') ∈ ps.take (i + 1) → (l', u') ∈ ps.take i ∨ (l', u') = (l, u) := fun l' u' h => by
        rw [take_snoc (by rw [List.getElem?_eq_getElem hi, hq])] at h
        rcases List.mem_append.mp h with h | h
        · exact .inl h
        · exact .inr (by simpa using h)
      by_cases hs : mask n (fun a => p' u a || p' l a) = mask n (p' u)
      · rw [beq_iff_eq.mpr hs]
        refine iteF ?_
        refine ⟨p', ch, _, _, _, _, rfl, b5, d5, g5, fun z => ⟨fun l' u' h a' ha' h2 => ?_, (c1 z).2⟩, c2⟩
        rcases two l' u' h with h | h
        · exact (c1 z).1 l' u' h a' ha' h2
        · cases h
          have := mask_eq.mp hs a' ha'
          rw [h2, Bool.or_true] at this
          exact this.symm
      · rw [beq_eq_false_iff_ne.mpr hs]
        refine iteT ?_
        refine ⟨_, rfl, _, rfl, _, rfl, .inl ⟨rfl, _, ha5⟩, _, rfl, a, _, _, u, _, rfl, rfl, ha5, rfl, flat_strs _, iu1, iu2, iu3, ?_⟩
        refine ⟨D, _, _, u, rfl, rfl, d5, ixN_nat (Int.natCast_nonneg _) (by unfold maskV; rw [List.length_map, List.length_range]; exact un), ?_⟩
        have es : (maskV n p').set u (.int (Builtin.bitOr ((mask n (p' u) : Nat) : Int) ((mask n (p' l) : Nat) : Int))) = maskV n (growOne p' l u) := by
          rw [eg]
          refine map_set un ?_ fun j hj => ?_
          · unfold growOne
            congr 3
            funext a
            rw [if_pos rfl]
          · unfold growOne
            congr 3
            funext a
            rw [if_neg hj]
        rw [es]
        have up : ∀ b a, b < n → a < n → p' b a = true → growOne p' l u b a = true := fun b a _ _ h => by
          unfold growOne
          split
          · rename_i e; subst e; rw [h]; rfl
          · exact h
        obtain ⟨a', ha', hne⟩ : ∃ a', a' < n ∧ (p' u a' || p' l a') ≠ p' u a' := by
          refine Classical.byContradiction fun z => hs (mask_ext fun i hi => Classical.byContradiction fun z2 => z ⟨i, hi, z2⟩)
        have pu : p' u a' = false := by cases h : p' u a' with
          | false => rfl
          | true => rw [h] at hne; exact absurd rfl hne
        have pl : p' l a' = true := by cases h : p' l a' with
          | true => rfl
          | false => rw [pu, h] at hne; exact absurd rfl hne
        have lt : marks n p' < marks n (growOne p' l u) := marks_lt up un ha' pu (by unfold growOne; rw [if_pos rfl, pl, Bool.or_true])
        have le : marks n p ≤ marks n p' := by cases ch with
          | false => exact (c1 rfl).2
          | true => exact Nat.le_of_lt (c2 rfl)
        exact ⟨growOne p' l u, true, _, _, _, _, rfl, b5.upd _, upd_same, g5.one pm ln un, (fun z => Bool.noConfusion z), (fun _ => Nat.lt_of_le_of_lt le lt)⟩
    · rintro σ H5 ⟨p', ch, v2, v3, v5, v7, rfl, b5, d5, g5, c1, c2⟩
      have mle := marks_le n p'
      have mle2 := marks_le n p
      refine ⟨_, ?_, p', ch, _, _, _, _, rfl, rfl, b5, d5, g5, fun z l u hm => (c1 z).1 l u (by rw [h2, List.take_length]; exact hm)⟩
      cases ch with
      | false => have := (c1 rfl).2; simp; omega
      | true => have := c2 rfl; simp; omega
end
section
theorem join_len (sep : Str) (xs : List Str) : (PySem.Txt.join sep xs).length ≤ (xs.map (·.length)).sum + xs.length * sep.length := by
  rw [show PySem.Txt.join sep xs = Str.join sep xs from StrLaws.glued_eq_join _ _]
  exact StrLaws.join_length_le sep xs
theorem join_le {sep : Str} {xs : List Str} {m n : Nat} (hs : sep.length ≤ 1) (h : ∀ z ∈ xs, z.length ≤ m) (hn : xs.length ≤ n) : (PySem.Txt.join sep xs).length ≤ n * (m + 1) ∧ (xs.map (·.length)).sum + xs.length * sep.length ≤ n * (m + 1) := by
  have h1 := join_len sep xs
  have h2 := sum_bound h
  have h3 : xs.length * sep.length ≤ xs.length * 1 := Nat.mul_le_mul_left _ hs
  have h4 : xs.length * (m + 1) ≤ n * (m + 1) := Nat.mul_le_mul_right _ hn
  have h5 : xs.length * (m + 1) = xs.length * m + xs.length * 1 := Nat.mul_add _ _ _
  omega
noncomputable def orderL (xs : List Str) (ps : List (Nat × Nat)) : Lt :=
  { label := ("(order (" : Str) ++ PySem.Txt.join " " xs ++ (") (" : Str) ++ PySem.Txt.join " " (pairW xs ps) ++ ("))" : Str), names := xs, le := fun a b => reachB ps a b, depth := 1 }
variable {w W_ : World} {K : PySem.W.Frag} {mg : Str → Option Value} {base : Heap}
def sp_order (K : PySem.W.Frag) (mm : List (Str × Addr)) (C : Addr) : Sp := fun vs H Q _ => ∃ (p dx a b : Addr) (xs : List Str) (ps : List (Nat × Nat)), vs = [.ref p, .ref a, .ref b] ∧ H p = some (.ins C dx []) ∧ SqL K H a (xs.map V.str) ∧ PairsAt K H b xs ps ∧ a ≠ p ∧ b ≠ p ∧ 1 ≤ xs.length ∧ xs.length ≤ 16 ∧ xs.Nodup ∧ (∀ x ∈ xs, NameW x) ∧ ps.length ≤ 1000 ∧
  ∀ H', But p H H' → IsLat K mm H' p (orderL xs ps) → Q .non H'
theorem ok_order (T : Tx K mg W_) : FnOk PL w K mg base CX0 3 T.a_OrderLattice_init T.d_OrderLattice_init ["self", "names", "pairs"] (sp_order K T.mm T.a_OrderLattice) := by
  have G_Lattice_init := ok_lat_init (P := PL) (w := w) (base := base) T
  have G_check_names := ok_check (P := PL) (w := w) (base := base) T
  have G_closed_downs := ok_closed (P := PL) (w := w) (base := base) T
  have G_pair_words := ok_pwords (P := PL) (w := w) (base := base) T
  obtain ⟨u4, B4⟩ := T.b4_Lattice_init
  refine T.F_OrderLattice_init.ok sc_OrderLattice_init (by rfl) (by rfl) (by rfl) ⟨_, rfl, rfl⟩ (by decide +kernel) T.ci_OrderLattice T.n_super T.st_any (fun vs H Q E h => ?_) (fun cda cc A outer s H vs Q E hr S h => ?_)
  · obtain ⟨p, dx, a, b, xs, ps, rfl, _⟩ := h
    rfl
  obtain ⟨p, dx, a, b, xs, ps, rfl, hp, ha, hb, na, nb, n1, n16, nd, nw, pz, q⟩ := h
  refine ⟨_, psa_cons (ps_expr (pe_call G_check_names (hr.mono (by omega)) (by rfl) T.g_check_names T.F_check_names.kp T.b_check_names .nil pass0 (pa_cons (pv 1) (pa_cons pe_int pa_nil))))
    (psa_cons (ps_set (i := 3) sc_OrderLattice_init.nd rfl (Or.inl rfl) (pe_call G_closed_downs (hr.mono (by omega)) (by rfl) T.g_closed_downs T.F_closed_downs.kp T.b_closed_downs .nil pass0 (pa_cons (pv 1) (pa_cons (pv 2) pa_nil))))
    (psa_super (dvs := [.int 1]) S rfl (pa_cons (pe_joinedT (.cons pe_str (.cons (pe_fmt (pe_join pe_str (pv 1))) (.cons pe_str (.cons (pe_fmt (pe_call G_pair_words (hr.mono (by omega)) (by rfl) T.g_pair_words T.F_pair_words.kp T.b_pair_words .nil pass0 (pa_cons (pv 2) pa_nil))) (.cons pe_str PJ.nil)))))) (pa_cons (pv 1) (pa_cons (pv 3) pa_nil))) G_Lattice_init (hr.mono (by omega)) B4 (.cons ⟨_, rfl⟩ .nil) pass0 T.ty_Lattice T.fi_Lattice (by decide) rfl rfl rfl rfl rfl (psa_any pss_nil))), ?_⟩
  refine ⟨_, rfl, a, xs, 16, rfl, ha, n1, n16, nd, nw, fun H1 s1 => ?_⟩
  refine ⟨_, rfl, _, rfl, a, b, xs, ps, rfl, s1.seq ha, hb.same s1, nd, by omega, pz, fun l H2 s2 hl h2 => ?_⟩
  have p2 := s2 _ _ (s1 _ _ hp)
  have s02 := s1.trans s2
  refine ⟨p, _, dx, _, rfl, p2, T.mr_OrderLattice, T.su_OrderLattice, ?_⟩
  have lx : ∀ x ∈ xs, x.length ≤ 12 := fun x hx => (nw x hx).le
  obtain ⟨j1, j2⟩ := join_le (sep := " ") (by decide) lx n16
  obtain ⟨k1, k2⟩ := join_le (sep := " ") (by decide) (pairW_len lx ps) (by show (List.map _ ps).length ≤ 1000; rw [List.length_map]; exact pz)
  have o0 : (Str.empty).length = 0 := rfl
  have o1 : ("(order (" : Str).length = 8 := rfl
  have o2 : (") (" : Str).length = 3 := rfl
  have o3 : ("))" : Str).length = 2 := rfl
  refine ⟨"(order (", rfl, by decide, ⟨_, rfl⟩, _, rfl, " ", a, xs, rfl, rfl, .inl (s02.seq ha), by omega, .inl ⟨_, rfl, small_line (by omega), _, rfl, small_line (by rw [Str.length_append, Str.length_append]; omega), ") (", rfl, small_line (by rw [Str.length_append, Str.length_append, Str.length_append]; omega), ?_⟩⟩
  refine ⟨_, rfl, b, xs, ps, rfl, hb.same s02, pz, lx, fun H3 s3 => .inl ⟨_, rfl, small_line (by omega), _, rfl, small_line (by rw [Str.length_append, Str.length_append, Str.length_append, Str.length_append]; omega), "))", rfl, small_line (by rw [Str.length_append, Str.length_append, Str.length_append, Str.length_append, Str.length_append]; omega), ?_⟩⟩
  have p3 := s3 _ _ p2
  have s03 := s02.trans s3
  have hl3 := s3 _ _ h2
  refine ⟨_, rfl, _, rfl, p, a, l, _, dx, [], orderL xs ps, ?_, p3, T.lc_OrderLattice, by decide, fun _ _ => rfl, na, s03.seq ha, .inl ⟨ne_of hl3 p3 (by intro z; cases z), SqL.of (K := K) hl3⟩, by show xs.length ≤ 64; omega, fun H4 fs tn td tu b4 A _ => ?_⟩
  · rw [empty_app]; rfl
  exact q H4 ((s03.but p).trans b4) ⟨_, _, _, _, _, _, A⟩
end
section
def turnL (L : Lt) : Lt := { label := ("(turned " : Str) ++ L.label ++ (")" : Str), names := L.names, le := fun a b => L.le b a, depth := L.depth + 1 }
/-- a label is not too long, nor are the names -/
structure Lt.Fit (L : Lt) : Prop where
  lab : L.label.length ≤ 20000
  nam : ∀ x ∈ L.names, x.length ≤ 5000
/-- a field of an instance -/
def FldAt (H : Hp) (p : Addr) (f : Str) (v : V) : Prop := ∃ C dx fs, H p = some (.ins C dx fs) ∧ fs.lookup f = some v
/-- the same, its class told -/
def FldC (H : Hp) (p C : Addr) (f : Str) (v : V) : Prop := ∃ dx fs, H p = some (.ins C dx fs) ∧ fs.lookup f = some v
theorem FldC.fld {H : Hp} {p C : Addr} {f : Str} {v : V} (h : FldC H p C f v) : FldAt H p f v := by
  obtain ⟨dx, fs, a, b⟩ := h
  exact ⟨C, dx, fs, a, b⟩
theorem FldC.same {H H' : Hp} {p C : Addr} {f : Str} {v : V} (h : FldC H p C f v) (s : Same H H') : FldC H' p C f v := by
  obtain ⟨dx, fs, a, b⟩ := h
  exact ⟨dx, fs, s _ _ a, b⟩
def foldD : Nat → List Lt → Nat := List.foldl fun d L => if L.depth ≥ d then L.depth + 1 else d
variable {w W_ : World} {K : PySem.W.Frag} {mg : Str → Option Value} {base : Heap}
def sp_cdepth (K : PySem.W.Frag) (mm : List (Str × Addr)) : Sp := fun vs H Q _ => ∃ (z : Nat) (a : Addr) (ls : List (Addr × Lt)), vs = [.int (z : Nat), .ref a] ∧ SqL K H a (ls.map fun q => V.ref q.1) ∧ (∀ q ∈ ls, IsLat K mm H q.1 q.2) ∧ z ≤ 64 ∧ foldD 1 (ls.map (·.2)) ≤ 10 ∧
  ∀ H', Same H H' → Q (.int (foldD 1 (ls.map (·.2)) : Nat)) H'
theorem ok_cdepth {P : Program} (T : Tx K mg W_) : FnOk P w K mg base CX0 1 T.a_checked_depth T.d_checked_depth ["size", "lattices"] (sp_cdepth K T.mm) := by
  refine T.F_checked_depth.ok sc_checked_depth (fun vs H Q E h => ?_) (fun cdv A outer s H vs Q E hr h => ?_)
  · obtain ⟨z, a, ls, rfl, _⟩ := h
    rfl
  obtain ⟨z, a, ls, rfl, ha, hl, hz, hd, q⟩ := h
  refine ⟨_, pss_cons (ps_set (i := 2) sc_checked_depth.nd rfl (Or.inl rfl) pe_int)
    (pss_cons (ps_for PassesOwn.never rfl (pi_list (pv 1)) (pg_name (i := 3) sc_checked_depth.nd rfl (Or.inl rfl)) (pss_one (ps_if (pt_cmpR op_ge (pe_fld (pv 3) rfl) (pv 2) (nomark _)) (pss_one (ps_set (i := 2) sc_checked_depth.nd rfl (Or.inl rfl) (pe_op op_add (pe_fld (pv 3) rfl) pe_int))) pss_nil)))
    (pss_cons (ps_if (PW.pt (pw_or (pt_cmpR op_gt (pv 0) (pe_glob (v := .int 64) (by rfl) T.g_MOST_VALUES.choose_spec ⟨_, rfl⟩) (nomark _)) (pw_or1 (pt_cmpR op_gt (pv 2) (pe_glob (v := .int 10) (by rfl) T.g_DEEPEST.choose_spec ⟨_, rfl⟩) (nomark _))))) (pss_one ps_dead) pss_nil)
    (pss_one (ps_ret (pv 2))))), ?_⟩
  refine ⟨_, rfl, a, rfl, ⟨_, ha⟩, for_list (K := K) (a := a) (xs := ls.map fun q => V.ref q.1) (fun i σ H2 => ∃ v3, σ = [some (.int (z : Nat)), some (.ref a), some (.int (foldD 1 ((ls.take i).map (·.2)) : Nat)), v3] ∧ Same H H2) ⟨_, rfl, Same.refl _⟩ (fun i σ H2 _ ⟨_, _, s⟩ => s.seq ha) ?_ ?_⟩
  · rintro i x σ H2 hx ⟨v3, rfl, s2⟩
    rw [List.getElem?_map] at hx
    obtain ⟨⟨p, L⟩, hq, rfl⟩ := Option.map_eq_some_iff.mp hx
    have hL : IsLat K T.mm H p L := hl _ (List.mem_of_getElem? hq)
    obtain ⟨C, dx, fs, tn, td, tu, A2⟩ := hL.same s2
    have ef : foldD 1 ((ls.take (i + 1)).map (·.2)) = if L.depth ≥ foldD 1 ((ls.take i).map (·.2)) then L.depth + 1 else foldD 1 ((ls.take i).map (·.2)) := by
      rw [take_snoc hq, List.map_append]
      unfold foldD
      rw [List.foldl_append]
      rfl
    refine ⟨_, rfl, p, C, dx, fs, _, rfl, A2.at_, A2.c.cl, A2.c.na _ (by decide), A2.depth, _, rfl, _, _, rfl, rfl, _, rfl, ?_⟩
    by_cases c : L.depth ≥ foldD 1 ((ls.take i).map (·.2))
    · refine iteY (by omega) ?_
      refine ⟨_, rfl, p, C, dx, fs, _, rfl, A2.at_, A2.c.cl, A2.c.na _ (by decide), A2.depth, _, _, rfl, rfl, ?_⟩
      refine ⟨some (.ref p), ?_, s2⟩
      rw [ef, if_pos c]
      rfl
    · refine iteN (by omega) ?_
      refine ⟨some (.ref p), ?_, s2⟩
      rw [ef, if_neg c]
      rfl
  · rintro σ H2 ⟨v3, rfl, s2⟩
    rw [List.length_map, List.take_length]
    refine ⟨_, rfl, _, _, rfl, rfl, _, rfl, ?_⟩
    refine iteN (by omega) ?_
    refine ⟨_, rfl, _, _, rfl, rfl, _, rfl, ?_⟩
    refine iteN (by omega) ?_
    exact ⟨_, rfl, q H2 s2⟩
def sp_turn (K : PySem.W.Frag) (mm : List (Str × Addr)) (C : Addr) : Sp := fun vs H Q _ => ∃ (p dx z : Addr) (L : Lt), vs = [.ref p, .ref z] ∧ H p = some (.ins C dx []) ∧ IsLat K mm H z L ∧ z ≠ p ∧ L.n ≤ 64 ∧ L.depth ≤ 9 ∧ 1 ≤ L.depth ∧ L.Fit ∧
  ∀ H', But p H H' → IsLat K mm H' p (turnL L) → FldC H' p C "inner" (.ref z) → Q .non H'
theorem ok_turn (T : Tx K mg W_) : FnOk PL w K mg base CX0 3 T.a_TurnedLattice_init T.d_TurnedLattice_init ["self", "inner"] (sp_turn K T.mm T.a_TurnedLattice) := by
  have G_Lattice_init := ok_lat_init (P := PL) (w := w) (base := base) T
  have G_checked_depth := ok_cdepth (P := PL) (w := w) (base := base) T
  have G_Lattice_name_at := ok_name_at (P := PL) (w := w) (base := base) T
  refine T.F_TurnedLattice_init.ok sc_TurnedLattice_init (by rfl) (by rfl) (by rfl) ⟨_, rfl, rfl⟩ (by decide +kernel) T.ci_TurnedLattice T.n_super T.st_any (fun vs H Q E h => ?_) (fun cda cc A outer s H vs Q E hr S h => ?_)
  · obtain ⟨p, dx, z, L, rfl, _⟩ := h
    rfl
  obtain ⟨p, dx, z, L, rfl, hp, hz, nz, n64, d9, d1, fit, q⟩ := h
  refine ⟨_, psa_cons (ps_set (i := 2) sc_TurnedLattice_init.nd rfl (Or.inl rfl) (pe_call G_checked_depth (hr.mono (by omega)) (by rfl) T.g_checked_depth T.F_checked_depth.kp T.b_checked_depth .nil pass0 (pa_cons (pe_fld (pv 1) rfl) (pa_cons (pe_lst (pa_cons (pv 1) pa_nil)) pa_nil))))
    (psa_cons (ps_fld (pv 0) (pv 1) rfl)
    (psa_cons (ps_setLc (i := 3) (own := [("place", 4)]) (g := gName 4) (tt := tYes) rfl sc_TurnedLattice_init.nd rfl rfl (sw_true rfl rfl rfl (by decide +kernel)) (pi_range1 (by rfl) T.n_range (pa_cons (pe_fld (pv 1) rfl) pa_nil)) (blkOk_by (N := N_TurnedLattice_init) (sc := defScope St_TurnedLattice_init) (by decide +kernel)) (fun _ _ _ _ _ => (pg_name (i := 4) sc_TurnedLattice_init.nd rfl (Or.inl rfl))) (fun _ _ _ _ _ => pts_nil) (fun _ _ _ _ _ => (kx_methG K (pe_methG (pv 1) G_Lattice_name_at (hr.mono (by omega)) T.b_Lattice_name_at .nil pass0 (pa_cons (pv 4) pa_nil)))))
    (psa_super (dvs := []) S rfl (pa_cons (pe_joinedT (.cons pe_str (.cons (pe_fmt (pe_fld (pv 1) rfl)) (.cons pe_str PJ.nil)))) (pa_cons (pv 3) (pa_cons (pe_fld (pv 1) rfl) (pa_cons (pv 2) pa_nil)))) G_Lattice_init (hr.mono (by omega)) T.b5_Lattice_init .nil pass0 T.ty_Lattice T.fi_Lattice (by decide) rfl rfl rfl rfl rfl (psa_any pss_nil)))), ?_⟩
  obtain ⟨C, dz, fs, tn, td, tu, A0⟩ := id hz
  refine ⟨_, rfl, z, C, dz, fs, _, rfl, A0.at_, A0.c.cl, A0.c.na _ (by decide), A0.size, _, rfl, (by show 1 ≤ sizeLine; decide), newQ (.lst [.ref z]) fun l hl s1 h1 => ?_⟩
  generalize upd H l (.lst [.ref z]) = H1 at s1 h1 ⊢
  have fd : foldD 1 [L] = L.depth + 1 := by show (if L.depth ≥ 1 then L.depth + 1 else 1) = _; rw [if_pos d1]
  refine ⟨L.n, l, [(z, L)], rfl, SqL.of (K := K) h1, fun x hx => ?_, n64, by rw [show ([(z, L)] : List (Addr × Lt)).map (·.2) = [L] from rfl, fd]; omega, fun H2 s2 => ?_⟩
  · have : x = (z, L) := by simpa using hx
    subst this
    exact hz.same s1
  rw [show ([(z, L)] : List (Addr × Lt)).map (·.2) = [L] from rfl, fd]
  have p2 := s2 _ _ (s1 _ _ hp)
  have s02 := s1.trans s2
  have hz2 := hz.same s02
  refine ⟨_, rfl, _, rfl, p, T.a_TurnedLattice, dx, [], rfl, p2, T.lc_TurnedLattice.cl, T.n_TurnedLattice_inner, by decide, ?_⟩
  have b3 : But p H2 (upd H2 p (.ins T.a_TurnedLattice dx [(("inner" : Str), .ref z)])) := (But.refl p H2).upd _
  have p3 : upd H2 p (.ins T.a_TurnedLattice dx [(("inner" : Str), .ref z)]) p = _ := upd_same
  show (_ : Hp → Prop) (upd H2 p (.ins T.a_TurnedLattice dx [(("inner" : Str), .ref z)]))
  generalize upd H2 p (.ins T.a_TurnedLattice dx [(("inner" : Str), .ref z)]) = H3 at b3 p3 ⊢
  have hz3 := hz2.but b3 p2 trivial nz
  obtain ⟨C3, dz3, fs3, tn3, td3, tu3, A3⟩ := id hz3
  refine ⟨_, rfl, z, C3, dz3, fs3, _, rfl, A3.at_, A3.c.cl, A3.c.na _ (by decide), A3.size, _, rfl, by omega, by omega, fun D hD => ?_⟩
  refine lc_fold walk_range hD (fun i _ ys => i ≤ L.n ∧ ys = (L.names.take i).map V.str) (fun _ => ⟨Nat.zero_le _, rfl⟩) (fun i _ _ xs _ h => h) ?_ (fun _ _ => trivial) ?_ ?_
  · rintro i _ ys ⟨hi, rfl⟩
    rw [List.length_map, List.length_take]; omega
  · rintro j x H4 H5 ys Nx Ex hj s4 ⟨_, rfl⟩ ⟨rfl, ex⟩ k1 k2
    have hj : j < L.n := hj
    obtain rfl := yfn0 ex
    refine ⟨rfl, ?_⟩
    refine lcY ?_
    have hL4 := hz3.same s4
    obtain ⟨C5, dx5, fs5, tn5, td5, tu5, A4⟩ := id hL4
    have hjn : L.names[j]? = some L.names[j] := List.getElem?_eq_getElem hj
    refine ⟨_, rfl, z, C5, dx5, fs5, rfl, A4.at_, A4.c.cl, A4.c.me _ T.in_name_at, A4.no _ T.in_name_at, _, rfl, z, L, j, _, rfl, hL4, hjn, fun H6 s6 => k1 _ _ s6 ⟨hj, ?_⟩⟩
    rw [take_snoc hjn, List.map_append]
    rfl
  rintro H4 ys s4 h4 ⟨_, rfl⟩
  have et : L.names.take L.n = L.names := List.take_length
  have h4 : H4 D = some (.lst (L.names.map V.str)) := by
    have := h4
    rw [show ((L.n : Int)).toNat = L.n from rfl, et] at this
    exact this
  have p4 := s4 _ _ p3
  have A4 := A3.same s4
  have o0 : (Str.empty).length = 0 := rfl
  have o1 : ("(turned " : Str).length = 8 := rfl
  have o2 : (")" : Str).length = 1 := rfl
  have fl := fit.lab
  refine ⟨p, _, dx, _, rfl, p4, T.mr_TurnedLattice, T.su_TurnedLattice, ?_⟩
  refine ⟨"(turned ", rfl, by decide, _, rfl, z, C3, dz3, fs3, _, rfl, A4.at_, A4.c.cl, A4.c.na _ (by decide), A4.label, .inl ⟨_, rfl, small_line (by omega), _, rfl, small_line (by rw [Str.length_append, Str.length_append]; omega), ")", rfl, small_line (by rw [Str.length_append, Str.length_append, Str.length_append]; omega), ?_⟩⟩
  refine ⟨_, rfl, _, rfl, z, C3, dz3, fs3, _, rfl, A4.at_, A4.c.cl, A4.c.na _ (by decide), A4.ups, _, rfl, ?_⟩
  refine ⟨p, D, tu3, _, dx, [(("inner" : Str), .ref z)], turnL L, ?_, p4, T.lc_TurnedLattice, (by show 1 ≤ 10; decide), fun x hx => ?_, ne_of h4 p4 (by intro z; cases z), SqL.of (K := K) h4, .inr A4.tu, n64, fun H5 fs tn td tu b5 A5 oth => ?_⟩
  · rw [empty_app]; rfl
  · have := T.mm_out' x hx
    have e : (x.1 == ("inner" : Str)) = false := beq_eq_false_iff_ne.mpr this.2.2
    simp [List.lookup, e]
  · refine q H5 ((((s02.but p).trans b3).trans (s4.but p)).trans b5) ⟨_, _, _, _, _, _, A5⟩ ⟨_, _, A5.at_, ?_⟩
    rw [oth _ (by decide)]
    rfl
end
section
/-- pairs: the place is a * (size of the right one) + b -/
def pairNm (L R : Lt) (k : Nat) : Str := ("<" : Str) ++ L.names.getD (k / R.n) Str.empty ++ ("/" : Str) ++ R.names.getD (k % R.n) Str.empty ++ (">" : Str)
def pairL (L R : Lt) : Lt where
  label := ("(pair " : Str) ++ L.label ++ (" " : Str) ++ R.label ++ (")" : Str)
  names := (List.range (L.n * R.n)).map (pairNm L R)
  le := fun a b => L.le (a / R.n) (b / R.n) && R.le (a % R.n) (b % R.n)
  depth := foldD 1 [L, R]
theorem pairL_n (L R : Lt) : (pairL L R).n = L.n * R.n := by simp [pairL, Lt.n]
variable {w W_ : World} {K : PySem.W.Frag} {mg : Str → Option Value} {base : Heap}
/-- the k-th pair of places -/
def pr (m k : Nat) : List V := [.int ((k / m : Nat) : Int), .int ((k % m : Nat) : Int)]
/-- pairs of places in the heap: n of them -/
def PrsAt (K : PySem.W.Frag) (H : Hp) (b : Addr) (m n : Nat) : Prop := ∃ vs : List V, SqL K H b vs ∧ vs.length = n ∧ ∀ k, k < n → ∃ t, vs[k]? = some (.ref t) ∧ SqT K H t (pr m k)
theorem PrsAt.same {H H' : Hp} {b : Addr} {m n : Nat} (h : PrsAt K H b m n) (s : Same H H') : PrsAt K H' b m n := by
  obtain ⟨vs, h1, h2, h3⟩ := h
  refine ⟨vs, s.seq h1, h2, fun k hk => ?_⟩
  obtain ⟨t, e1, e2⟩ := h3 k hk
  exact ⟨t, e1, s.keeps.sqT e2⟩
theorem mask_succ (i : Nat) (p : Nat → Bool) : mask (i + 1) p = if p i then mask i p ||| 2 ^ i else mask i p := by
  show mask i p + (if p i = true then 2 ^ i else 0) = _
  by_cases c : p i = true
  · rw [if_pos c, if_pos c, Nat.or_comm, Nat.add_comm]
    have h := mask_lt p i
    have := Nat.two_pow_add_eq_or_of_lt h 1
    rw [Nat.mul_one] at this
    exact this
  · rw [if_neg c, if_neg c, Nat.add_zero]
def sp_prw (K : PySem.W.Frag) (mm : List (Str × Addr)) (C : Addr) : Sp := fun vs H Q _ => ∃ (p dx b t x y : Addr) (fs : List (Str × V)) (L R : Lt) (k : Nat), vs = [.ref p, .ref b, .ref t] ∧ H p = some (.ins C dx fs) ∧ fs.lookup ("left" : Str) = some (.ref x) ∧ fs.lookup ("right" : Str) = some (.ref y) ∧ IsLat K mm H x L ∧ IsLat K mm H y R ∧
  1 ≤ R.n ∧ L.n * R.n ≤ 64 ∧ k < L.n * R.n ∧ PrsAt K H b R.n (L.n * R.n) ∧ SqT K H t (pr R.n k) ∧ ∀ H', Same H H' → Q (.int ((pairL L R).down k : Nat)) H'
theorem div_lt' {k m n : Nat} (hm : 1 ≤ m) (h : k < n * m) : k / m < n := by rw [Nat.div_lt_iff_lt_mul hm]; exact h
theorem ok_prw {P : Program} (T : Tx K mg W_) : FnOk P w K mg base CX0 2 T.a_PairLattice_pairs_within T.d_PairLattice_pairs_within ["self", "pairs", "upper"] (sp_prw K T.mm T.a_PairLattice) := by
  have G_Lattice_within_at := ok_within (P := P) (w := w) (base := base) T
  refine T.F_PairLattice_pairs_within.ok sc_PairLattice_pairs_within (fun vs H Q E h => ?_) (fun cdv A outer s H vs Q E hr h => ?_)
  · obtain ⟨p, dx, b, t, x, y, fs, L, R, k, rfl, _⟩ := h
    rfl
  obtain ⟨p, dx, b, t, x, y, fs, L, R, k, rfl, hp, fl, fr, hx, hy, r1, n64, hk, hb, ht, q⟩ := h
  refine ⟨_, pss_cons (ps_set (i := 3) sc_PairLattice_pairs_within.nd rfl (Or.inl rfl) pe_int)
    (pss_cons (ps_for PassesOwn.never rfl (pi_enum (by rfl) T.n_enumerate (pa_cons (pv 1) pa_nil)) (pg_tup rfl (pgs_cons (pg_name (i := 4) sc_PairLattice_pairs_within.nd rfl (Or.inl rfl)) (pgs_cons (pg_name (i := 5) sc_PairLattice_pairs_within.nd rfl (Or.inl rfl)) pgs_nil))) (pss_one (ps_if (PW.pt (pw_and (pt_val (pe_methG (pe_fld (pv 0) rfl) G_Lattice_within_at (hr.mono (by omega)) T.b_Lattice_within_at .nil pass0 (pa_cons (pe_ix ix_tup (pv 5) pe_int (fun _ _ => rfl)) (pa_cons (pe_ix ix_tup (pv 2) pe_int (fun _ _ => rfl)) pa_nil)))) (pw_and1 (pt_val (pe_methG (pe_fld (pv 0) rfl) G_Lattice_within_at (hr.mono (by omega)) T.b_Lattice_within_at .nil pass0 (pa_cons (pe_ix ix_tup (pv 5) pe_int (fun _ _ => rfl)) (pa_cons (pe_ix ix_tup (pv 2) pe_int (fun _ _ => rfl)) pa_nil))))))) (pss_one (ps_set (i := 3) sc_PairLattice_pairs_within.nd rfl (Or.inl rfl) (pe_op op_or (pv 3) (pe_op op_shl pe_int (pv 4))))) pss_nil)))
    (pss_one (ps_ret (pv 3)))), ?_⟩
  obtain ⟨vs, h1, h2, h3⟩ := hb
  refine ⟨_, rfl, b, vs, rfl, h1, for_it (walk_enum (K := K) (a := b) (xs := vs)) (fun i σ H2 => ∃ v4 v5, σ = [some (.ref p), some (.ref b), some (.ref t), some (.int ((mask i (fun a => (pairL L R).le a k) : Nat) : Int)), v4, v5] ∧ Same H H2) ⟨_, _, rfl, Same.refl _⟩ (fun i σ H2 _ ⟨_, _, _, s⟩ => s.seq h1) ?_ ?_⟩
  · rintro i z σ H2 H3 hi ⟨v4, v5, rfl, s2⟩ ⟨u, x1, x2, rfl, hu, rfl, e1, e2⟩
    cases e1
    rw [h2] at hi
    obtain ⟨t', f1, f2⟩ := h3 i hi
    have e2 : vs[i]? = some _ := e2
    rw [f1] at e2
    cases e2
    have s3 : Same H2 (upd H2 u (.tup [.int (i : Nat), .ref t'])) := Same.new hu _
    have u3 : upd H2 u (.tup [.int (i : Nat), .ref t']) u = _ := upd_same
    generalize upd H2 u (.tup [.int (i : Nat), .ref t']) = H3 at s3 u3 ⊢
    have s03 := s2.trans s3
    have ht3 := s03.keeps.sqT ht
    have f3 := s03.keeps.sqT f2
    obtain ⟨Cx, dxx, fx, tnx, tdx, tux, Ax⟩ := hx.same s03
    refine ⟨u, _, rfl, SqT.of (K := K) u3, rfl, _, _, rfl, _, _, rfl, ⟨rfl, ?_⟩⟩
    refine ⟨_, rfl, p, T.a_PairLattice, dx, fs, _, rfl, s03 _ _ hp, T.lc_PairLattice.cl, T.n_PairLattice_left, fl, x, Cx, dxx, fx, rfl, Ax.at_, Ax.c.cl, Ax.c.me _ T.in_within_at, Ax.no _ T.in_within_at, ?_⟩
    refine ⟨_, rfl, t', _, _, _, rfl, rfl, f3, atI_nat (j := 0) rfl, _, rfl, t, _, _, _, rfl, rfl, ht3, atI_nat (j := 0) rfl, x, L, i / R.n, k / R.n, rfl, hx.same s03, div_lt' r1 hi, div_lt' r1 hk, fun H4 s4 => ⟨_, rfl, ?_⟩⟩
    have le : (pairL L R).le i k = (L.le (i / R.n) (k / R.n) && R.le (i % R.n) (k % R.n)) := rfl
    have mt : (pairL L R).le i k = true → mask (i + 1) (fun a => (pairL L R).le a k) = mask i (fun a => (pairL L R).le a k) ||| 2 ^ i := fun z => by rw [mask_succ, if_pos z]
    have mf : (pairL L R).le i k = false → mask (i + 1) (fun a => (pairL L R).le a k) = mask i (fun a => (pairL L R).le a k) := fun z => by rw [mask_succ, if_neg (by rw [z]; decide)]
    by_cases c1 : L.le (i / R.n) (k / R.n) = true
    · rw [c1]
      refine iteT ?_
      have s04 := s03.trans s4
      obtain ⟨Cy, dxy, fy, tny, tdy, tuy, Ay⟩ := hy.same s04
      have f4 := s4.keeps.sqT f3
      have ht4 := s4.keeps.sqT ht3
      refine ⟨_, rfl, p, T.a_PairLattice, dx, fs, _, rfl, s04 _ _ hp, T.lc_PairLattice.cl, T.n_PairLattice_right, fr, y, Cy, dxy, fy, rfl, Ay.at_, Ay.c.cl, Ay.c.me _ T.in_within_at, Ay.no _ T.in_within_at, ?_⟩
      refine ⟨_, rfl, t', _, _, _, rfl, rfl, f4, atI_nat (j := 1) rfl, _, rfl, t, _, _, _, rfl, rfl, ht4, atI_nat (j := 1) rfl, y, R, i % R.n, k % R.n, rfl, hy.same s04, Nat.mod_lt _ r1, Nat.mod_lt _ r1, fun H5 s5 => ⟨_, rfl, ?_⟩⟩
      by_cases c2 : R.le (i % R.n) (k % R.n) = true
      · rw [c2]
        refine iteT ?_
        refine ⟨_, rfl, _, rfl, _, _, rfl, rfl, ⟨Int.natCast_nonneg _, by omega, by decide⟩, _, _, rfl, rfl, ?_⟩
        refine ⟨some (.int (i : Nat)), some (.ref t'), ?_, (s04.trans s5)⟩
        rw [mt (by rw [le, c1, c2]; rfl), ← or_int_nat, ← one_shl]
        rfl
      · have c2 : _ = false := Bool.eq_false_iff.mpr c2
        rw [c2]
        refine iteF ?_
        refine ⟨some (.int (i : Nat)), some (.ref t'), ?_, (s04.trans s5)⟩
        rw [mf (by rw [le, c2, Bool.and_false])]
        rfl
    · have c1 : _ = false := Bool.eq_false_iff.mpr c1
      rw [c1]
      refine iteF ?_
      refine ⟨some (.int (i : Nat)), some (.ref t'), ?_, (s03.trans s4)⟩
      rw [mf (by rw [le, c1, Bool.false_and])]
      rfl
  · rintro σ H2 ⟨v4, v5, rfl, s2⟩
    rw [h2]
    have e : mask (L.n * R.n) (fun a => (pairL L R).le a k) = (pairL L R).down k := by unfold Lt.down; rw [pairL_n]
    rw [e]
    exact ⟨_, rfl, q H2 s2⟩
end
section
variable {w W_ : World} {K : PySem.W.Frag} {mg : Str → Option Value} {base : Heap}
/-- the list of pairs while it is made -/
def PrsL (K : PySem.W.Frag) (H : Hp) (D : Addr) (m n : Nat) : Prop := ∃ vs : List V, H D = some (.lst vs) ∧ vs.length = n ∧ ∀ k, k < n → ∃ t, vs[k]? = some (.ref t) ∧ SqT K H t (pr m k)
theorem PrsL.at {H : Hp} {D : Addr} {m n : Nat} (h : PrsL K H D m n) : PrsAt K H D m n := by
  obtain ⟨vs, h1, h2, h3⟩ := h
  exact ⟨vs, SqL.of (K := K) h1, h2, h3⟩
theorem PrsL.same {H H' : Hp} {D : Addr} {m n : Nat} (h : PrsL K H D m n) (s : Same H H') : PrsL K H' D m n := by
  obtain ⟨vs, h1, h2, h3⟩ := h
  refine ⟨vs, s _ _ h1, h2, fun k hk => ?_⟩
  obtain ⟨t, e1, e2⟩ := h3 k hk
  exact ⟨t, e1, s.keeps.sqT e2⟩
theorem PrsL.snoc {H : Hp} {D u : Addr} {m n : Nat} {vs : List V} (h : PrsL K H D m n) (e : H D = some (.lst vs)) (hu : SqT K H u (pr m n)) : vs.length = n ∧ PrsL K (upd H D (.lst (vs ++ [.ref u]))) D m (n + 1) := by
  obtain ⟨vs', h1, h2, h3⟩ := h
  rw [e] at h1
  cases h1
  have kp : Keeps H (upd H D (.lst (vs ++ [.ref u]))) := ((But.refl D H).upd _).keeps e trivial
  refine ⟨h2, _, upd_same, by rw [List.length_append, h2]; rfl, fun k hk => ?_⟩
  rcases Nat.lt_or_ge k n with l | l
  · obtain ⟨t, e1, e2⟩ := h3 k l
    exact ⟨t, by rw [List.getElem?_append_left (by omega)]; exact e1, kp.sqT e2⟩
  · have : k = n := by omega
    subst this
    exact ⟨u, by rw [← h2, List.getElem?_append_right (Nat.le_refl _), Nat.sub_self]; rfl, kp.sqT hu⟩
def sp_pairl (K : PySem.W.Frag) (mm : List (Str × Addr)) (C : Addr) : Sp := fun vs H Q _ => ∃ (p dx x y : Addr) (L R : Lt), vs = [.ref p, .ref x, .ref y] ∧ H p = some (.ins C dx []) ∧ IsLat K mm H x L ∧ IsLat K mm H y R ∧ x ≠ p ∧ y ≠ p ∧ 1 ≤ L.n ∧ 1 ≤ R.n ∧ L.n * R.n ≤ 64 ∧ foldD 1 [L, R] ≤ 10 ∧ L.Fit ∧ R.Fit ∧
  ∀ H', But p H H' → IsLat K mm H' p (pairL L R) → FldC H' p C "left" (.ref x) → FldC H' p C "right" (.ref y) → Q .non H'
theorem ok_pairl (T : Tx K mg W_) : FnOk PL w K mg base CX0 3 T.a_PairLattice_init T.d_PairLattice_init ["self", "left", "right"] (sp_pairl K T.mm T.a_PairLattice) := by
  have G_Lattice_init := ok_lat_init (P := PL) (w := w) (base := base) T
  have G_checked_depth := ok_cdepth (P := PL) (w := w) (base := base) T
  have G_PairLattice_pairs_within := ok_prw (P := PL) (w := w) (base := base) T
  have G_Lattice_name_at := ok_name_at (P := PL) (w := w) (base := base) T
  have B4 := T.b5_Lattice_init
  refine T.F_PairLattice_init.ok sc_PairLattice_init (by rfl) (by rfl) (by rfl) ⟨_, rfl, rfl⟩ (by decide +kernel) T.ci_PairLattice T.n_super T.st_any (fun vs H Q E h => ?_) (fun cda cc A outer s H vs Q E hr S h => ?_)
  · obtain ⟨p, dx, x, y, L, R, rfl, _⟩ := h
    rfl
  obtain ⟨p, dx, x, y, L, R, rfl, hp, hx, hy, nx, ny, l1, r1, n64, dep, fl, fr, q⟩ := h
  refine ⟨_, psa_cons (ps_set (i := 3) sc_PairLattice_init.nd rfl (Or.inl rfl) (pe_call G_checked_depth (hr.mono (by omega)) (by rfl) T.g_checked_depth T.F_checked_depth.kp T.b_checked_depth .nil pass0 (pa_cons (pe_op op_mul (pe_fld (pv 1) rfl) (pe_fld (pv 2) rfl)) (pa_cons (pe_lst (pa_cons (pv 1) (pa_cons (pv 2) pa_nil))) pa_nil))))
    (psa_cons (ps_fld (pv 0) (pv 1) rfl)
    (psa_cons (ps_fld (pv 0) (pv 2) rfl)
    (psa_cons (ps_set (i := 4) sc_PairLattice_init.nd rfl (Or.inr rfl) (pe_lc2 (own := [("a", 5), ("b", 6)]) (vs1 := [6]) (g := gName 5) (tt := tYes) (g1 := gName 6) (tt1 := tYes) rfl sc_PairLattice_init.nd (pi_range1 (by rfl) T.n_range (pa_cons (pe_fld (pv 1) rfl) pa_nil)) (blkOk_by (N := N_PairLattice_init) (sc := defScope St_PairLattice_init) (by decide +kernel)) (by decide) (fun _ _ _ _ _ => (pg_name (i := 5) sc_PairLattice_init.nd rfl (Or.inl rfl))) (fun _ _ _ _ _ => pts_nil) (fun _ _ _ _ _ => (pi_range1 (by rfl) T.n_range (pa_cons (kx_pe_fld K (pe_fld (pv 2) rfl)) pa_nil))) (fun _ _ _ _ _ => (pg_name (i := 6) sc_PairLattice_init.nd rfl (Or.inl rfl))) (fun _ _ _ _ _ => pts_nil) (fun _ _ _ _ _ => (pe_tup (pa_cons (pv 5) (pa_cons (pv 6) pa_nil))))))
    (psa_cons (ps_setLc (i := 7) (own := [("a", 5), ("b", 6)]) (g := gTup K 2 (gCons (gName 5) (gCons (gName 6) gNil))) (tt := tYes) rfl sc_PairLattice_init.nd rfl rfl (sw_true rfl rfl rfl (by decide +kernel)) (pi_list (pv 4)) (blkOk_by (N := N_PairLattice_init) (sc := defScope St_PairLattice_init) (by decide +kernel)) (fun _ _ _ _ _ => (pg_tup rfl (pgs_cons (pg_name (i := 5) sc_PairLattice_init.nd rfl (Or.inl rfl)) (pgs_cons (pg_name (i := 6) sc_PairLattice_init.nd rfl (Or.inl rfl)) pgs_nil)))) (fun _ _ _ _ _ => pts_nil) (fun _ _ _ _ _ => (pe_joinedT (.cons pe_str (.cons (pe_fmt (kx_methG K (pe_methG (pv 1) G_Lattice_name_at (hr.mono (by omega)) T.b_Lattice_name_at .nil pass0 (pa_cons (pv 5) pa_nil)))) (.cons pe_str (.cons (pe_fmt (kx_methG K (pe_methG (pv 2) G_Lattice_name_at (hr.mono (by omega)) T.b_Lattice_name_at .nil pass0 (pa_cons (pv 6) pa_nil)))) (.cons pe_str PJ.nil))))))))
    (psa_cons (ps_setLc (i := 8) (own := [("upper", 9)]) (g := gName 9) (tt := tYes) rfl sc_PairLattice_init.nd rfl rfl (sw_true rfl rfl rfl (by decide +kernel)) (pi_list (pv 4)) (blkOk_by (N := N_PairLattice_init) (sc := defScope St_PairLattice_init) (by decide +kernel)) (fun _ _ _ _ _ => (pg_name (i := 9) sc_PairLattice_init.nd rfl (Or.inl rfl))) (fun _ _ _ _ _ => pts_nil) (fun _ _ _ _ _ => (pe_meth (pv 0) T.c_PairLattice T.m_PairLattice_pairs_within G_PairLattice_pairs_within (hr.mono (by omega)) T.b_PairLattice_pairs_within .nil pass0 (pa_cons (pv 4) (pa_cons (pv 9) pa_nil)))))
    (psa_super (dvs := []) S rfl (pa_cons (pe_joinedT (.cons pe_str (.cons (pe_fmt (pe_fld (pv 1) rfl)) (.cons pe_str (.cons (pe_fmt (pe_fld (pv 2) rfl)) (.cons pe_str PJ.nil)))))) (pa_cons (pv 7) (pa_cons (pv 8) (pa_cons (pv 3) pa_nil)))) G_Lattice_init (hr.mono (by omega)) T.b5_Lattice_init .nil pass0 T.ty_Lattice T.fi_Lattice (by decide) rfl rfl rfl rfl rfl (psa_any pss_nil))))))), ?_⟩
  have ln : L.n ≤ 64 := Nat.le_trans (Nat.le_mul_of_pos_right _ r1) n64
  have rn : R.n ≤ 64 := Nat.le_trans (Nat.le_mul_of_pos_left _ l1) n64
  obtain ⟨C, dz, fs, tn, td, tu, A0⟩ := id hx
  obtain ⟨C', dz', fs', tn', td', tu', A0'⟩ := id hy
  refine ⟨_, rfl, x, C, dz, fs, _, rfl, A0.at_, A0.c.cl, A0.c.na _ (by decide), A0.size, _, rfl, y, C', dz', fs', _, rfl, A0'.at_, A0'.c.cl, A0'.c.na _ (by decide), A0'.size, _, _, rfl, rfl, .inl ⟨by omega, by omega⟩, _, rfl, _, rfl, (by show 2 ≤ sizeLine; decide), newQ (.lst [.ref x, .ref y]) fun l hl s1 h1 => ?_⟩
  generalize upd H l (.lst [.ref x, .ref y]) = H1 at s1 h1 ⊢
  have ez : ((L.n : Int) * (R.n : Int)) = ((L.n * R.n : Nat) : Int) := (Int.natCast_mul _ _).symm
  refine ⟨L.n * R.n, l, [(x, L), (y, R)], by show [V.int ((L.n : Int) * (R.n : Int)), V.ref l] = _; rw [ez], SqL.of (K := K) h1, fun z hz => ?_, n64, dep, fun H2 s2 => ?_⟩
  · rcases List.mem_cons.mp hz with e | e
    · subst e; exact hx.same s1
    · have : z = (y, R) := by simpa using e
      subst this; exact hy.same s1
  rw [show ([(x, L), (y, R)] : List (Addr × Lt)).map (·.2) = [L, R] from rfl]
  have p2 := s2 _ _ (s1 _ _ hp)
  have s02 := s1.trans s2
  have hx2 := hx.same s02
  have hy2 := hy.same s02
  refine ⟨_, rfl, _, rfl, p, T.a_PairLattice, dx, [], rfl, p2, T.lc_PairLattice.cl, T.n_PairLattice_left, by decide, ?_⟩
  have b3 : But p H2 (upd H2 p (.ins T.a_PairLattice dx [(("left" : Str), .ref x)])) := (But.refl p H2).upd _
  have p3 : upd H2 p (.ins T.a_PairLattice dx [(("left" : Str), .ref x)]) p = _ := upd_same
  show (_ : Hp → Prop) (upd H2 p (.ins T.a_PairLattice dx [(("left" : Str), .ref x)]))
  generalize upd H2 p (.ins T.a_PairLattice dx [(("left" : Str), .ref x)]) = H3 at b3 p3 ⊢
  have hx3 := hx2.but b3 p2 trivial nx
  have hy3 := hy2.but b3 p2 trivial ny
  refine ⟨_, rfl, _, rfl, p, T.a_PairLattice, dx, _, rfl, p3, T.lc_PairLattice.cl, T.n_PairLattice_right, by show 1 < 1000; decide, ?_⟩
  have b4 : But p H3 (upd H3 p (.ins T.a_PairLattice dx [(("left" : Str), .ref x), (("right" : Str), .ref y)])) := (But.refl p H3).upd _
  have p4 : upd H3 p (.ins T.a_PairLattice dx [(("left" : Str), .ref x), (("right" : Str), .ref y)]) p = _ := upd_same
  show (_ : Hp → Prop) (upd H3 p (.ins T.a_PairLattice dx [(("left" : Str), .ref x), (("right" : Str), .ref y)]))
  generalize upd H3 p (.ins T.a_PairLattice dx [(("left" : Str), .ref x), (("right" : Str), .ref y)]) = H4 at b4 p4 ⊢
  have hx4 := hx3.but b4 p3 trivial nx
  have hy4 := hy3.but b4 p3 trivial ny
  obtain ⟨Cx, dxx, fx, tnx, tdx, tux, Ax⟩ := id hx4
  obtain ⟨Cy, dxy, fy, tny, tdy, tuy, Ay⟩ := id hy4
  refine ⟨_, rfl, x, Cx, dxx, fx, _, rfl, Ax.at_, Ax.c.cl, Ax.c.na _ (by decide), Ax.size, _, rfl, by omega, by omega, fun D hD => ?_⟩
  have newD : ∀ {v : HO}, Same H4 (upd H4 D v) := fun {v} => Same.new hD v
  refine lc2_it walk_range (fun i H5 => Same H4 H5 ∧ PrsL K H5 D R.n (i * R.n)) ⟨newD, [], upd_same, by simp, fun k hk => by omega⟩ (fun _ _ _ _ => trivial) ?_ ?_
  · rintro i z H5 H6 hi ⟨s5, P5⟩ ⟨rfl, ex⟩
    obtain rfl := yfn0 ex
    refine ⟨rfl, ?_⟩
    refine lcY ?_
    have A5 := Ay.same s5
    refine ⟨_, rfl, y, Cy, dxy, fy, _, rfl, A5.at_, A5.c.cl, A5.c.na _ (by decide), A5.size, _, rfl, by omega, by omega, ?_⟩
    refine in_fold walk_range (fun j H7 => Same H4 H7 ∧ PrsL K H7 D R.n (i * R.n + j)) ⟨s5, P5⟩ (fun _ _ _ _ => trivial) ?_ ?_
    · rintro j z H7 H8 hj ⟨s7, P7⟩ ⟨rfl, ex⟩
      have hj : j < R.n := hj
      have hi : i < L.n := hi
      obtain rfl := yfn0 ex
      refine ⟨rfl, ?_⟩
      refine lcY ?_
      refine ⟨_, rfl, _, rfl, (by show 2 ≤ sizeLine; decide), newQ (.tup [.int (i : Nat), .int (j : Nat)]) fun u hu s8 h8 => ?_⟩
      generalize upd H8 u (.tup [.int (i : Nat), .int (j : Nat)]) = H9 at s8 h8 ⊢
      obtain ⟨acc, a1, a2, a3⟩ := id (P7.same s8)
      have ek : pr R.n (i * R.n + j) = [.int (i : Nat), .int (j : Nat)] := by
        unfold pr
        rw [Nat.mul_comm, Nat.mul_add_div (by omega), Nat.div_eq_of_lt hj, Nat.mul_add_mod, Nat.mod_eq_of_lt hj]
        rfl
      have hb : i * R.n + j < L.n * R.n := by
        have := Nat.mul_le_mul_right R.n (show i + 1 ≤ L.n from hi)
        rw [Nat.succ_mul] at this
        omega
      refine ⟨acc, a1, by rw [a2]; exact Nat.lt_of_lt_of_le hb (Nat.le_trans n64 (by decide)), ?_, ?_⟩
      · exact fun q o e => by rw [upd_ne (fun z => by subst z; rw [hD] at e; cases e)]; exact s8 _ _ (s7 _ _ e)
      · exact ((P7.same s8).snoc a1 (by rw [ek]; exact SqT.of (K := K) h8)).2
    · rintro H7 ⟨s7, P7⟩
      have P7 : PrsL K H7 D R.n (i * R.n + R.n) := P7
      refine ⟨s7, ?_⟩
      rw [Nat.succ_mul]
      exact P7
  rintro H5 ⟨s5, P5⟩
  have P5 : PrsL K H5 D R.n (L.n * R.n) := P5
  obtain ⟨vs, v1, v2, v3⟩ := id P5
  have hx5 := hx4.same s5
  have hy5 := hy4.same s5
  refine ⟨_, rfl, D, rfl, ⟨_, SqL.of (K := K) v1⟩, fun D2 hD2 => ?_⟩
  refine lc_fold (walk_list (K := K) (a := D) (xs := vs)) hD2 (fun i _ ys => i ≤ L.n * R.n ∧ ys = ((pairL L R).names.take i).map V.str) (fun _ => ⟨Nat.zero_le _, rfl⟩) (fun i _ _ xs _ h => h) ?_ (fun H9 s9 => s9.seq (SqL.of (K := K) v1)) ?_ ?_
  · rintro i _ ys ⟨hi, rfl⟩
    rw [List.length_map, List.length_take]; omega
  · rintro k z H6 H7 ys Nx Ex hk s6 ⟨_, rfl⟩ ⟨rfl, ex⟩ k1 k2
    rw [v2] at hk
    obtain ⟨t, e1, e2⟩ := v3 k hk
    rw [ex] at e1
    cases e1
    refine ⟨t, _, rfl, s6.keeps.sqT e2, rfl, _, _, rfl, _, _, rfl, ⟨rfl, rfl, ?_⟩⟩
    refine lcY ?_
    have hx6 := hx5.same s6
    obtain ⟨Cx6, dxx6, fx6, tnx6, tdx6, tux6, Ax6⟩ := id hx6
    have ka := div_lt' r1 hk
    have kb : k % R.n < R.n := Nat.mod_lt _ r1
    have na : L.names[k / R.n]? = some L.names[k / R.n] := List.getElem?_eq_getElem ka
    have nb : R.names[k % R.n]? = some R.names[k % R.n] := List.getElem?_eq_getElem kb
    have la := fl.nam _ (List.mem_of_getElem? na)
    have lb := fr.nam _ (List.mem_of_getElem? nb)
    generalize L.names[k / R.n] = xa at na la
    generalize R.names[k % R.n] = xb at nb lb
    have o0 : (Str.empty).length = 0 := rfl
    have o1 : ("<" : Str).length = 1 := rfl
    have o2 : ("/" : Str).length = 1 := rfl
    have o3 : (">" : Str).length = 1 := rfl
    refine ⟨"<", rfl, by decide, _, rfl, x, Cx6, dxx6, fx6, rfl, Ax6.at_, Ax6.c.cl, Ax6.c.me _ T.in_name_at, Ax6.no _ T.in_name_at, _, rfl, x, L, k / R.n, xa, rfl, hx6, na, fun H8 s8 => .inl ⟨_, rfl, small_line (by omega), _, rfl, small_line (by rw [Str.length_append, Str.length_append]; omega), "/", rfl, small_line (by rw [Str.length_append, Str.length_append, Str.length_append]; omega), ?_⟩⟩
    have hy8 := (hy5.same s6).same s8
    obtain ⟨Cy8, dxy8, fy8, tny8, tdy8, tuy8, Ay8⟩ := id hy8
    refine ⟨_, rfl, y, Cy8, dxy8, fy8, rfl, Ay8.at_, Ay8.c.cl, Ay8.c.me _ T.in_name_at, Ay8.no _ T.in_name_at, _, rfl, y, R, k % R.n, xb, rfl, hy8, nb, fun H9 s9 => .inl ⟨_, rfl, small_line (by omega), _, rfl, small_line (by rw [Str.length_append, Str.length_append, Str.length_append, Str.length_append]; omega), ">", rfl, small_line (by rw [Str.length_append, Str.length_append, Str.length_append, Str.length_append, Str.length_append]; omega), ?_⟩⟩
    refine k1 _ _ (s8.trans s9) ⟨hk, ?_⟩
    have e : (pairL L R).names[k]? = some (("<" : Str) ++ xa ++ ("/" : Str) ++ xb ++ (">" : Str)) := by
      show ((List.range (L.n * R.n)).map (pairNm L R))[k]? = _
      rw [List.getElem?_map, List.getElem?_range hk]
      unfold pairNm
      rw [Option.map_some, List.getD_eq_getElem?_getD, List.getD_eq_getElem?_getD, na, nb]
      rfl
    rw [take_snoc e, List.map_append, empty_app]
    rfl
  rintro H6 ys s6 h6 ⟨_, rfl⟩
  have et : (pairL L R).names.take vs.length = (pairL L R).names := by rw [v2, ← pairL_n]; exact List.take_length
  rw [et] at h6
  have v16 := s6 _ _ v1
  have P6 := P5.same s6
  have p6 := s6 _ _ (s5 _ _ p4)
  have hx6 := hx5.same s6
  have hy6 := hy5.same s6
  refine ⟨_, rfl, D, rfl, ⟨_, SqL.of (K := K) v16⟩, fun D3 hD3 => ?_⟩
  refine lc_fold (walk_list (K := K) (a := D) (xs := vs)) hD3 (fun i _ ys => i ≤ L.n * R.n ∧ ys = (List.range i).map fun b => V.int ((pairL L R).down b : Nat)) (fun _ => ⟨Nat.zero_le _, rfl⟩) (fun i _ _ xs _ h => h) ?_ (fun H9 s9 => s9.seq (SqL.of (K := K) v16)) ?_ ?_
  · rintro i _ ys ⟨hi, rfl⟩
    rw [List.length_map, List.length_range]; omega
  · rintro k z H7 H8 ys Nx Ex hk s7 ⟨_, rfl⟩ ⟨rfl, ex⟩ k1 k2
    rw [v2] at hk
    obtain ⟨t, e1, e2⟩ := v3 k hk
    rw [ex] at e1
    cases e1
    refine ⟨rfl, ?_⟩
    refine lcY ?_
    refine ⟨_, rfl, p, dx, _, rfl, s7 _ _ p6, rfl, _, rfl, _, rfl, p, dx, D, t, x, y, _, L, R, k, rfl, s7 _ _ p6, rfl, rfl, hx6.same s7, hy6.same s7, r1, n64, hk, (P6.same s7).at, (s6.trans s7).keeps.sqT e2, fun H8 s8 => k1 _ _ s8 ⟨hk, ?_⟩⟩
    rw [List.range_succ, List.map_append]
    rfl
  rintro H7 ys s7 h7 ⟨_, rfl⟩
  rw [v2] at h7
  have p7 := s7 _ _ p6
  have hx7 := hx6.same s7
  have hy7 := hy6.same s7
  obtain ⟨C1, dx1, fs1, tn1, td1, tu1, A1⟩ := id hx7
  obtain ⟨C2, dx2, fs2, tn2, td2, tu2, A2⟩ := id hy7
  have h67 := s7 _ _ h6
  have lx := fl.lab
  have ly := fr.lab
  have o0 : (Str.empty).length = 0 := rfl
  have o1 : ("(pair " : Str).length = 6 := rfl
  have o2 : (" " : Str).length = 1 := rfl
  have o3 : (")" : Str).length = 1 := rfl
  refine ⟨p, _, dx, _, rfl, p7, T.mr_PairLattice, T.su_PairLattice, ?_⟩
  refine ⟨"(pair ", rfl, by decide, _, rfl, x, C1, dx1, fs1, _, rfl, A1.at_, A1.c.cl, A1.c.na _ (by decide), A1.label, .inl ⟨_, rfl, small_line (by omega), _, rfl, small_line (by rw [Str.length_append, Str.length_append]; omega), " ", rfl, small_line (by rw [Str.length_append, Str.length_append, Str.length_append]; omega), ?_⟩⟩
  refine ⟨_, rfl, y, C2, dx2, fs2, _, rfl, A2.at_, A2.c.cl, A2.c.na _ (by decide), A2.label, .inl ⟨_, rfl, small_line (by omega), _, rfl, small_line (by rw [Str.length_append, Str.length_append, Str.length_append, Str.length_append]; omega), ")", rfl, small_line (by rw [Str.length_append, Str.length_append, Str.length_append, Str.length_append, Str.length_append]; omega), ?_⟩⟩
  refine ⟨_, rfl, _, rfl, _, rfl, p, D2, D3, _, dx, [(("left" : Str), .ref x), (("right" : Str), .ref y)], pairL L R, ?_, p7, T.lc_PairLattice, (by show 2 ≤ 10; decide), fun z hz => ?_, ne_of h67 p7 (by intro z; cases z), SqL.of (K := K) h67, .inl ⟨ne_of h7 p7 (by intro z; cases z), SqL.of (K := K) (by rw [h7]; unfold downsV; rw [pairL_n])⟩, by rw [pairL_n]; exact n64, fun H8 fs9 tn9 td9 tu9 b9 A9 oth => ?_⟩
  · rw [empty_app]; rfl
  · have := T.mm_out' z hz
    have e1 : (z.1 == ("left" : Str)) = false := beq_eq_false_iff_ne.mpr this.1
    have e2 : (z.1 == ("right" : Str)) = false := beq_eq_false_iff_ne.mpr this.2.1
    simp [List.lookup, e1, e2]
  · refine q H8 ((((((s02.but p).trans b3).trans b4).trans (s5.but p)).trans ((s6.trans s7).but p)).trans b9) ⟨_, _, _, _, _, _, A9⟩ ⟨_, _, A9.at_, ?_⟩ ⟨_, _, A9.at_, ?_⟩
    · rw [oth _ (by decide)]
      rfl
    · rw [oth _ (by decide)]
      rfl
end
section
/-- the names within the name b, as places -/
noncomputable def dn (n : Nat) (ps : List (Nat × Nat)) (b : Nat) : Nat := mask n fun a => reachB ps a b
/-- the set h holds with each name all names within it -/
noncomputable def heapB (n : Nat) (ps : List (Nat × Nat)) (h : Nat) : Bool := ((List.range n).filter h.testBit).all fun a => part (dn n ps a) h
noncomputable def heaps (n : Nat) (ps : List (Nat × Nat)) : List Nat := (List.range (2 ^ n)).filter (heapB n ps)
def heapIn (xs : List Str) (h : Nat) : List Str := ((List.range xs.length).filter h.testBit).map fun a => xs.getD a Str.empty
def heapNm (xs : List Str) (h : Nat) : Str := ("{" : Str) ++ PySem.Txt.join "," (heapIn xs h) ++ ("}" : Str)
noncomputable def downL (xs : List Str) (ps : List (Nat × Nat)) : Lt where
  label := ("(downs (" : Str) ++ PySem.Txt.join " " xs ++ (") (" : Str) ++ PySem.Txt.join " " (pairW xs ps) ++ ("))" : Str)
  names := (heaps xs.length ps).map (heapNm xs)
  le := fun i j => part ((heaps xs.length ps).getD i 0) ((heaps xs.length ps).getD j 0)
  depth := 1
theorem downL_n (xs : List Str) (ps : List (Nat × Nat)) : (downL xs ps).n = (heaps xs.length ps).length := by
  show ((heaps xs.length ps).map (heapNm xs)).length = _
  rw [List.length_map]
theorem heaps_le (n : Nat) (ps : List (Nat × Nat)) : (heaps n ps).length ≤ 2 ^ n := filter_le _ _
/-- no two names lie within each other -/
def Anti (n : Nat) (ps : List (Nat × Nat)) : Prop := ∀ a b, a < n → b < n → Reach ps a b → Reach ps b a → a = b
theorem dn_inj {n : Nat} {ps : List (Nat × Nat)} (h : Anti n ps) {a b : Nat} (ha : a < n) (hb : b < n) (e : dn n ps a = dn n ps b) : a = b := by
  have e := mask_eq.mp e
  refine h a b ha hb (reachB_iff.mp ?_) (reachB_iff.mp ?_)
  · rw [← e a ha]; exact reachB_iff.mpr .here
  · rw [e b hb]; exact reachB_iff.mpr .here
theorem count_dn {n : Nat} {f : Nat → Nat} (h : ∀ a b, a < n → b < n → f a = f b → a = b) {i : Nat} (hi : i < n) : ((List.range n).map fun b => V.int (f b : Nat)).countP (fun z => eqV z (.int (f i : Nat))) ≤ 1 := by
  rw [List.countP_map]
  have e : (List.range n).countP ((fun z => eqV z (.int (f i : Nat))) ∘ fun b => V.int (f b : Nat)) = (List.range n).count i := by
    refine List.countP_congr fun b hb => ?_
    show eqV (.int (f b : Nat)) (.int (f i : Nat)) = true ↔ (b == i) = true
    rw [eqV_nat, beq_iff_eq, beq_iff_eq]
    exact ⟨fun z => h b i (List.mem_range.mp hb) hi z, fun z => by rw [z]⟩
  rw [e]
  exact List.nodup_iff_count.mp List.nodup_range i
variable {w W_ : World} {K : PySem.W.Frag} {mg : Str → Option Value} {base : Heap}
theorem seq_new {H0 H H' : Hp} {p a : Addr} {xs : List V} (n : H0 p = none) (s : Same H0 H) (e : But p H H') (h : SqL K H0 a xs) : SqL K H' a xs := by
  rcases h with h | h
  · have ne : a ≠ p := fun z => by
      rcases h with h | ⟨o, h⟩ <;> (rw [z, n] at h; cases h)
    exact e.seq ne (s.seq (.inl h))
  · exact .inr h
def sp_downl (K : PySem.W.Frag) (mm : List (Str × Addr)) (C : Addr) : Sp := fun vs H Q _ => ∃ (p dx a b : Addr) (xs : List Str) (ps : List (Nat × Nat)), vs = [.ref p, .ref a, .ref b] ∧ H p = some (.ins C dx []) ∧ SqL K H a (xs.map V.str) ∧ PairsAt K H b xs ps ∧ a ≠ p ∧ b ≠ p ∧ 1 ≤ xs.length ∧ xs.length ≤ 6 ∧ xs.Nodup ∧ (∀ x ∈ xs, NameW x) ∧ ps.length ≤ 1000 ∧ Anti xs.length ps ∧
  ∀ H', But p H H' → IsLat K mm H' p (downL xs ps) → Q .non H'
end
/-! ### lattices made by C(..) -/
section
variable {K : PySem.W.Frag} {mm : List (Str × Addr)} {C : Addr} {H : Hp} {Q : VK} {E : XK}
theorem made_same2 {x dx : Addr} {H2 : Hp} {C : Addr} (hx : H x = none) (hd : H dx = none) (ne : dx ≠ x) (b : But x (upd (upd H dx (.own x)) x (.ins C dx [])) H2) : Same H H2 := fun z o e => by
  have n1 : z ≠ x := fun y => by rw [y, hx] at e; cases e
  have n2 : z ≠ dx := fun y => by rw [y, hd] at e; cases e
  exact b _ _ n1 (by rw [upd_ne n1, upd_ne n2]; exact e)
theorem in_same2 {x dx : Addr} {C : Addr} (hx : H x = none) (hd : H dx = none) : Same H (upd (upd H dx (.own x)) x (.ins C dx [])) := fun z o e => by
  have n1 : z ≠ x := fun y => by rw [y, hx] at e; cases e
  have n2 : z ≠ dx := fun y => by rw [y, hd] at e; cases e
  rw [upd_ne n1, upd_ne n2]; exact e
theorem IsLat.ne {z x : Addr} {L : Lt} (h : IsLat K mm H z L) (hx : H x = none) : z ≠ x := fun e => by
  obtain ⟨C, dx, fs, tn, td, tu, A⟩ := h
  have := A.at_
  rw [e, hx] at this
  cases this
theorem same_skip {H A B : Hp} {l : Addr} (s : Same H A) (hl : H l = none) (b : But l A B) : Same H B := fun z o e => b _ _ (fun y => by rw [y, hl] at e; cases e) (s _ _ e)
theorem IsLat.app {H' : Hp} {z l : Addr} {L : Lt} {xs : List V} (h : IsLat K mm H z L) (hl : H l = some (.lst xs)) (b : But l H H') : IsLat K mm H' z L := h.but b hl trivial fun e => by
  obtain ⟨C, dx, fs, tn, td, tu, A⟩ := h
  have := A.at_
  rw [e, hl] at this
  cases this
theorem mk_chain {i : Int} {n : Nat} (e : i = (n : Nat)) (h1 : 1 ≤ n) (h64 : n ≤ 64) {x dx : Addr} (hx : H x = none) (hd : H dx = none) (ne : dx ≠ x) (q : ∀ H2, Same H H2 → IsLat K mm H2 x (chainL n) → Q .non H2) :
    sp_chain K mm C [.ref x, .int i] (upd (upd H dx (.own x)) x (.ins C dx [])) Q E := by
  subst e
  exact ⟨x, dx, n, rfl, upd_same, h1, h64, fun H2 b hL => q H2 (made_same2 hx hd ne b) hL⟩
theorem mk_sets {i : Int} {n : Nat} (e : i = (n : Nat)) (h1 : 1 ≤ n) (h6 : n ≤ 6) {x dx : Addr} (hx : H x = none) (hd : H dx = none) (ne : dx ≠ x) (q : ∀ H2, Same H H2 → IsLat K mm H2 x (setsL n) → Q .non H2) :
    sp_sets K mm C [.ref x, .int i] (upd (upd H dx (.own x)) x (.ins C dx [])) Q E := by
  subst e
  exact ⟨x, dx, n, rfl, upd_same, h1, h6, fun H2 b hL => q H2 (made_same2 hx hd ne b) hL⟩
theorem mk_turn {z : Addr} {L : Lt} (hz : IsLat K mm H z L) (n64 : L.n ≤ 64) (d9 : L.depth ≤ 9) (d1 : 1 ≤ L.depth) (fit : L.Fit) {x dx : Addr} (hx : H x = none) (hd : H dx = none) (ne : dx ≠ x) (q : ∀ H2, Same H H2 → IsLat K mm H2 x (turnL L) → FldAt H2 x "inner" (.ref z) → Q .non H2) :
    sp_turn K mm C [.ref x, .ref z] (upd (upd H dx (.own x)) x (.ins C dx [])) Q E :=
  ⟨x, dx, z, L, rfl, upd_same, hz.same (in_same2 hx hd), hz.ne hx, n64, d9, d1, fit, fun H2 b hL f => q H2 (made_same2 hx hd ne b) hL f.fld⟩
theorem mk_turnC {z : Addr} {L : Lt} (hz : IsLat K mm H z L) (n64 : L.n ≤ 64) (d9 : L.depth ≤ 9) (d1 : 1 ≤ L.depth) (fit : L.Fit) {x dx : Addr} (hx : H x = none) (hd : H dx = none) (ne : dx ≠ x) (q : ∀ H2, Same H H2 → IsLat K mm H2 x (turnL L) → FldC H2 x C "inner" (.ref z) → Q .non H2) :
    sp_turn K mm C [.ref x, .ref z] (upd (upd H dx (.own x)) x (.ins C dx [])) Q E :=
  ⟨x, dx, z, L, rfl, upd_same, hz.same (in_same2 hx hd), hz.ne hx, n64, d9, d1, fit, fun H2 b hL f => q H2 (made_same2 hx hd ne b) hL f⟩
theorem mk_pairl {y z : Addr} {L R : Lt} (hy : IsLat K mm H y L) (hz : IsLat K mm H z R) (l1 : 1 ≤ L.n) (r1 : 1 ≤ R.n) (n64 : L.n * R.n ≤ 64) (dd : foldD 1 [L, R] ≤ 10) (fl : L.Fit) (fr : R.Fit)
    {x dx : Addr} (hx : H x = none) (hd : H dx = none) (ne : dx ≠ x) (q : ∀ H2, Same H H2 → IsLat K mm H2 x (pairL L R) → FldAt H2 x "left" (.ref y) → FldAt H2 x "right" (.ref z) → Q .non H2) :
    sp_pairl K mm C [.ref x, .ref y, .ref z] (upd (upd H dx (.own x)) x (.ins C dx [])) Q E :=
  ⟨x, dx, y, z, L, R, rfl, upd_same, hy.same (in_same2 hx hd), hz.same (in_same2 hx hd), hy.ne hx, hz.ne hx, l1, r1, n64, dd, fl, fr, fun H2 b hL f1 f2 => q H2 (made_same2 hx hd ne b) hL f1.fld f2.fld⟩
theorem mk_pairlC {y z : Addr} {L R : Lt} (hy : IsLat K mm H y L) (hz : IsLat K mm H z R) (l1 : 1 ≤ L.n) (r1 : 1 ≤ R.n) (n64 : L.n * R.n ≤ 64) (dd : foldD 1 [L, R] ≤ 10) (fl : L.Fit) (fr : R.Fit)
    {x dx : Addr} (hx : H x = none) (hd : H dx = none) (ne : dx ≠ x) (q : ∀ H2, Same H H2 → IsLat K mm H2 x (pairL L R) → FldC H2 x C "left" (.ref y) → FldC H2 x C "right" (.ref z) → Q .non H2) :
    sp_pairl K mm C [.ref x, .ref y, .ref z] (upd (upd H dx (.own x)) x (.ins C dx [])) Q E :=
  ⟨x, dx, y, z, L, R, rfl, upd_same, hy.same (in_same2 hx hd), hz.same (in_same2 hx hd), hy.ne hx, hz.ne hx, l1, r1, n64, dd, fl, fr, fun H2 b hL f1 f2 => q H2 (made_same2 hx hd ne b) hL f1 f2⟩
theorem mk_order {a b : Addr} {xs : List Str} {ps : List (Nat × Nat)} {ob : HO} (ha : H a = some (.lst (xs.map V.str))) (hb : PairsAt K H b xs ps) (hob : H b = some ob) (n1 : 1 ≤ xs.length) (n16 : xs.length ≤ 16) (nd : xs.Nodup) (nw : ∀ x ∈ xs, NameW x) (pz : ps.length ≤ 1000)
    {x dx : Addr} (hx : H x = none) (hd : H dx = none) (ne : dx ≠ x) (q : ∀ H2, Same H H2 → IsLat K mm H2 x (orderL xs ps) → Q .non H2) :
    sp_order K mm C [.ref x, .ref a, .ref b] (upd (upd H dx (.own x)) x (.ins C dx [])) Q E :=
  ⟨x, dx, a, b, xs, ps, rfl, upd_same, SqL.of (K := K) (in_same2 hx hd _ _ ha), hb.same (in_same2 hx hd), fun z => (by rw [z, hx] at ha; cases ha), fun z => (by rw [z, hx] at hob; cases hob), n1, n16, nd, nw, pz, fun H2 b hL => q H2 (made_same2 hx hd ne b) hL⟩
theorem mk_downl {a b : Addr} {xs : List Str} {ps : List (Nat × Nat)} {ob : HO} (ha : H a = some (.lst (xs.map V.str))) (hb : PairsAt K H b xs ps) (hob : H b = some ob) (n1 : 1 ≤ xs.length) (n6 : xs.length ≤ 6) (nd : xs.Nodup) (nw : ∀ x ∈ xs, NameW x) (pz : ps.length ≤ 1000) (anti : Anti xs.length ps)
    {x dx : Addr} (hx : H x = none) (hd : H dx = none) (ne : dx ≠ x) (q : ∀ H2, Same H H2 → IsLat K mm H2 x (downL xs ps) → Q .non H2) :
    sp_downl K mm C [.ref x, .ref a, .ref b] (upd (upd H dx (.own x)) x (.ins C dx [])) Q E :=
  ⟨x, dx, a, b, xs, ps, rfl, upd_same, SqL.of (K := K) (in_same2 hx hd _ _ ha), hb.same (in_same2 hx hd), fun z => (by rw [z, hx] at ha; cases ha), fun z => (by rw [z, hx] at hob; cases hob), n1, n6, nd, nw, pz, anti, fun H2 b hL => q H2 (made_same2 hx hd ne b) hL⟩
end
/-! ### lists of places, compared -/
section
variable {K : PySem.W.Frag}
def natD (xs : List Nat) : List PyData := xs.map fun i => PyData.int (i : Nat)
theorem dpAll_nats {H : Hp} : ∀ xs : List Nat, DpAll K H (natV xs) (natD xs)
  | [] => .nil
  | x :: xs => .cons (.int _) (dpAll_nats xs)
theorem dp_nats {H : Hp} {a : Addr} {xs : List Nat} (h : SqL K H a (natV xs)) : Dp K H (.ref a) (.list (natD xs)) := .lst h (dpAll_nats xs)
theorem eqvAll_nats : ∀ xs ys : List Nat, PyData.eqvAll (natD xs) (natD ys) = decide (xs = ys)
  | [], [] => by simp [natD, PyData.eqvAll]
  | [], y :: ys => by simp [natD, PyData.eqvAll]
  | x :: xs, [] => by simp [natD, PyData.eqvAll]
  | x :: xs, y :: ys => by
    have h := eqvAll_nats xs ys
    unfold natD at h ⊢
    simp only [List.map_cons, PyData.eqvAll, PyData.eqv, h]
    by_cases c : x = y
    · subst c; simp
    · have : ((x : Nat) : Int) ≠ (y : Nat) := fun z => c (by omega)
      simp [c, this]
theorem eqv_nats (xs ys : List Nat) : PyData.eqv (.list (natD xs)) (.list (natD ys)) = decide (xs = ys) := by
  rw [← eqvAll_nats]
  simp [PyData.eqv]
theorem depth_nats : ∀ xs : List Nat, PyData.depthAll (natD xs) ≤ 1
  | [] => by simp [natD, PyData.depthAll]
  | x :: xs => by have := depth_nats xs; simp [natD, PyData.depthAll, PyData.depth] at this ⊢; omega
theorem lay_nats : ∀ xs : List Nat, PyData.canLayAll0 (natD xs) = true
  | [] => by simp [natD, PyData.canLayAll0]
  | x :: xs => by have := lay_nats xs; simp [natD, PyData.canLayAll0, PyData.canLay0] at this ⊢; exact this
theorem shp_nats {xs : List Nat} : Shp 190 (.list (natD xs)) :=
  ⟨by simp [PyData.canLay0, lay_nats xs], by have := depth_nats xs; simp [PyData.depth]; omega⟩
theorem if_end {c : TT} {t u : TS} {D : Ends} {σ : L2.St} {H : Hp} (Pv : Bool → Hp → Prop) (h : ∀ Q' : Bool → Hp → Prop, (∀ b H', Pv b H' → Q' b H') → c σ H Q')
    (q : ∀ b H', Pv b H' → if b = true then t D σ H' else u D σ H') : tIfS c t u D σ H := h _ fun b H' p => q b H' p
theorem nat_at {xs : List Nat} {j : Nat} {x : V} (hx : (natV xs)[j]? = some x) : ∃ b, xs[j]? = some b ∧ x = .int (b : Nat) := by
  unfold natV at hx
  rw [List.getElem?_map] at hx
  cases e : xs[j]? with
  | none => rw [e] at hx; cases hx
  | some b => rw [e] at hx; cases hx; exact ⟨b, rfl, rfl⟩
theorem ft_no {p : Nat → Bool} {xs : List Nat} {i c : Nat} (hc : xs[i]? = some c) (h : p c = false) : natV ((xs.take i).filter p) = natV ((xs.take (i + 1)).filter p) := by
  rw [List.take_add_one, hc, List.filter_append, show (some c).toList = [c] from rfl, List.filter_cons_of_neg (by rw [h]; decide), List.filter_nil, List.append_nil]
theorem ft_yes {p : Nat → Bool} {xs : List Nat} {i c : Nat} (hc : xs[i]? = some c) (h : p c = true) : natV ((xs.take i).filter p) ++ [V.int (c : Nat)] = natV ((xs.take (i + 1)).filter p) := by
  rw [List.take_add_one, hc, List.filter_append, show (some c).toList = [c] from rfl, List.filter_cons_of_pos h, List.filter_nil]
  unfold natV
  rw [List.map_append]
  rfl
theorem fr_no {p : Nat → Bool} {i : Nat} (h : p i = false) : natV ((List.range i).filter p) = natV ((List.range (i + 1)).filter p) := by
  rw [List.range_succ, List.filter_append, List.filter_cons_of_neg (by rw [h]; decide), List.filter_nil, List.append_nil]
theorem fr_yes {p : Nat → Bool} {i : Nat} (h : p i = true) : natV ((List.range i).filter p) ++ [V.int (i : Nat)] = natV ((List.range (i + 1)).filter p) := by
  rw [List.range_succ, List.filter_append, List.filter_cons_of_pos h, List.filter_nil]
  unfold natV
  rw [List.map_append]
  rfl
theorem inV_nats (x : Nat) : ∀ xs : List Nat, inV (.int (x : Nat)) (natV xs) = decide (x ∈ xs)
  | [] => rfl
  | y :: ys => by
    show (eqV (.int (y : Nat)) (.int (x : Nat)) || inV (.int (x : Nat)) (natV ys)) = _
    rw [inV_nats x ys, eqV_nat]
    by_cases h : y = x
    · subst h; simp
    · have h' : ¬ x = y := fun e => h e.symm
      simp [h, h']
theorem flat_nats : ∀ xs : List Nat, (natV xs).all flatV = true
  | [] => rfl
  | _ :: ys => flat_nats ys
theorem shp_int {i : Int} : Shp 190 (.int i) := ⟨by simp [PyData.canLay0], by simp [PyData.depth]⟩
theorem kit_ll : PySem.W.kitOne K (.type "list") (.type "list") = some true := kit_ty (by decide +kernel)
theorem Src.but {H H' : Hp} {p ce D : Addr} (s : Src K ce H p) (h1 : D ≠ p) (h2 : D ≠ ce) (b : But D H H') : Src K ce H' p := by
  obtain ⟨cs, i, l, m, S⟩ := s
  exact ⟨cs, i, l, m, ⟨b _ _ h1.symm S.at_, b.seq h2.symm S.cel, S.ne, S.hi, S.hl, S.hc, S.m0, S.m1⟩⟩
end
/-! ### orders as rows: the heap, the law's own defs over rows -/
section
open PyProof.Rows
variable {w W_ : World} {K : PySem.W.Frag} {mg : Str → Option Value} {base : Heap} {H H' : Hp} {n : Nat} {R : Nat → Nat → Bool}
/-- the values stand for the items, one by one -/
inductive Al {α β : Type} (F : α → β → Prop) : List α → List β → Prop
  | nil : Al F [] []
  | cons {a : α} {b : β} {as : List α} {bs : List β} : F a b → Al F as bs → Al F (a :: as) (b :: bs)
theorem al_imp {α β : Type} {F G : α → β → Prop} {as : List α} {bs : List β} (h : Al F as bs) (i : ∀ a b, F a b → G a b) : Al G as bs := by
  induction h with
  | nil => exact .nil
  | cons x _ ih => exact .cons (i _ _ x) ih
theorem al_len {α β : Type} {F : α → β → Prop} {as : List α} {bs : List β} (h : Al F as bs) : as.length = bs.length := by
  induction h with
  | nil => rfl
  | cons _ _ ih => rw [List.length_cons, List.length_cons, ih]
theorem al_snoc {α β : Type} {F : α → β → Prop} {as : List α} {bs : List β} {a : α} {b : β} (h : Al F as bs) (x : F a b) : Al F (as ++ [a]) (bs ++ [b]) := by
  induction h with
  | nil => exact .cons x .nil
  | cons y _ ih => exact .cons y ih
theorem al_get {α β : Type} {F : α → β → Prop} {as : List α} {bs : List β} (h : Al F as bs) : ∀ {i : Nat} {a : α}, as[i]? = some a → ∃ b, bs[i]? = some b ∧ F a b := by
  induction h with
  | nil => exact fun h => nomatch h
  | cons x _ ih =>
    intro i a hi
    cases i with
    | zero => cases hi; exact ⟨_, rfl, x⟩
    | succ i => exact ih (by simpa using hi)
theorem al_refs {β : Type} {G : Addr → β → Prop} {vs : List V} {ms : List β} (h : Al (fun v m => ∃ l, v = V.ref l ∧ G l m) vs ms) : ∃ ls : List Addr, vs = ls.map V.ref ∧ Al G ls ms := by
  induction h with
  | nil => exact ⟨[], rfl, .nil⟩
  | cons a _ ih =>
    obtain ⟨l, rfl, g⟩ := a
    obtain ⟨ls, rfl, gs⟩ := ih
    exact ⟨l :: ls, rfl, .cons g gs⟩
theorem al_map {β : Type} {f : β → V} {vs : List V} {ms : List β} (h : Al (fun v m => v = f m) vs ms) : vs = ms.map f := by
  induction h with
  | nil => rfl
  | cons a _ ih => rw [ih, a]; rfl
/-- a comprehension over range(n): what is known of an item stays where the new list D alone changes -/
theorem lc_rng {β : Type} {G : Hp → V → β → Prop} (P : Nat → Bool) (f : Nat → β) {n : Nat} {g : TG} {tt : TT} {te : TE} {vs : List Nat} {σ : L2.St} {H1 : Hp} {D : Addr} {Qd : Hp → Prop} (hD : H1 D = none)
    (kG : ∀ {H H' : Hp} {v : V} {m : β}, Same H H' → G H v m → G H' v m) (kD : ∀ {H : Hp} {v : V} {m : β} {zs : List V}, G H v m → G (upd H D (.lst zs)) v m) (xz : n ≤ 1000)
    (hs : ∀ i H (Nx : V → Hp → Prop) (Ex : Hp → Prop), i < n → Same H1 H → (∃ ys, H D = some (.lst ys)) → (P i = true → ∀ y H2, Same H H2 → G H2 y (f i) → Nx y H2) → (P i = false → ∀ H2, Same H H2 → Ex H2) →
      g (.int (i : Nat)) (wipe σ vs) H fun σ2 H2 => wipe σ2 vs = wipe σ vs ∧ tt σ2 H2 fun b H3 => if b = true then te σ2 H3 Nx else Ex H3)
    (hd : ∀ H ys, Same H1 H → H D = some (.lst ys) → Al (G H) ys (((List.range n).filter P).map f) → Qd H) :
    ∃ W : Nat → Nat → Hp → Prop, (∃ m, W 0 m (upd H1 D (.lst []))) ∧ ∀ i m H, W i m H →
      ((Itr 0 n).stop i H ∧ Qd H) ∨ ((Itr 0 n).go i H ∧ ∃ Nx : Hp → Prop, (∀ H', Nx H' → ∃ m', m' < m ∧ W (i + 1) m' H') ∧ ∀ x H', (Itr 0 n).yld i H x H' → g x (wipe σ vs) H' fun σ2 H2 => wipe σ2 vs = wipe σ vs ∧ tt σ2 H2 fun b H3 =>
        if b = true then te σ2 H3 fun y H4 => ∃ acc, H4 D = some (.lst acc) ∧ acc.length < sizeLine ∧ Nx (upd H4 D (.lst (acc ++ [y]))) else Nx H3) := by
  refine lc_foldF (walk_range (lo := 0) (n := n)) (fun H => Same H1 H) (fun i H ys => i ≤ n ∧ Al (G H) ys (((List.range i).filter P).map f)) (Same.new hD _) (fun H ys zs s _ => s.mut hD _) ⟨Nat.zero_le _, .nil⟩ (fun i H ys zs xs r _ => ⟨r.1, al_imp r.2 fun v b => kD⟩) (fun i H ys r => ?_) (fun _ _ => trivial) ?_ (fun H ys s hy r => hd H ys s hy r.2)
  · have := al_len r.2
    have h1 : ((List.range i).filter P).length ≤ (List.range i).length := List.length_filter_le _ _
    rw [List.length_range] at h1
    rw [this, List.length_map]
    have := r.1
    omega
  · rintro i x H2 H3 ys Nx Ex hi s hy ⟨_, r⟩ ⟨e, hx⟩ k1 k2
    obtain rfl : H2 = H3 := e.symm
    obtain rfl := yfn0 hx
    rw [List.range_succ, List.filter_append, List.map_append] at k1 k2
    refine hs i H2 Nx Ex hi s ⟨_, hy⟩ (fun hp y H4 s4 gy => k1 y H4 (s.trans s4) (s4 _ _ hy) ⟨hi, ?_⟩) (fun hp H4 s4 => k2 H4 (s.trans s4) (s4 _ _ hy) ⟨hi, ?_⟩)
    · rw [show [i].filter P = [i] by rw [List.filter_cons, if_pos hp, List.filter_nil]]
      exact al_snoc (al_imp r fun v b => kG s4) gy
    · rw [show [i].filter P = [] by rw [List.filter_cons, if_neg (by rw [hp]; decide), List.filter_nil], List.map_nil, List.append_nil]
      exact al_imp r fun v b => kG s4
/-- a comprehension over a list of places -/
theorem lc_lst {β : Type} {G : Hp → V → β → Prop} (P : Nat → Bool) (f : Nat → β) {a : Addr} {us : List Nat} {g : TG} {tt : TT} {te : TE} {vs : List Nat} {σ : L2.St} {H1 : Hp} {D : Addr} {Qd : Hp → Prop} (hD : H1 D = none)
    (kG : ∀ {H H' : Hp} {v : V} {m : β}, Same H H' → G H v m → G H' v m) (kD : ∀ {H : Hp} {v : V} {m : β} {zs : List V}, G H v m → G (upd H D (.lst zs)) v m) (xz : us.length ≤ 1000) (hl : H1 a = some (.lst (us.map fun c => V.int (c : Nat))))
    (hs : ∀ c H (Nx : V → Hp → Prop) (Ex : Hp → Prop), c ∈ us → Same H1 H → (∃ ys, H D = some (.lst ys)) → (P c = true → ∀ y H2, Same H H2 → G H2 y (f c) → Nx y H2) → (P c = false → ∀ H2, Same H H2 → Ex H2) →
      g (.int (c : Nat)) (wipe σ vs) H fun σ2 H2 => wipe σ2 vs = wipe σ vs ∧ tt σ2 H2 fun b H3 => if b = true then te σ2 H3 Nx else Ex H3)
    (hd : ∀ H ys, Same H1 H → H D = some (.lst ys) → Al (G H) ys ((us.filter P).map f) → Qd H) :
    ∃ W : Nat → Nat → Hp → Prop, (∃ m, W 0 m (upd H1 D (.lst []))) ∧ ∀ i m H, W i m H →
      ((Itl K a).stop i H ∧ Qd H) ∨ ((Itl K a).go i H ∧ ∃ Nx : Hp → Prop, (∀ H', Nx H' → ∃ m', m' < m ∧ W (i + 1) m' H') ∧ ∀ x H', (Itl K a).yld i H x H' → g x (wipe σ vs) H' fun σ2 H2 => wipe σ2 vs = wipe σ vs ∧ tt σ2 H2 fun b H3 =>
        if b = true then te σ2 H3 fun y H4 => ∃ acc, H4 D = some (.lst acc) ∧ acc.length < sizeLine ∧ Nx (upd H4 D (.lst (acc ++ [y]))) else Nx H3) := by
  refine lc_foldF (walk_list (K := K) (a := a) (xs := us.map fun c => V.int (c : Nat))) (fun H => Same H1 H) (fun i H ys => Al (G H) ys (((us.take i).filter P).map f)) (Same.new hD _) (fun H ys zs s _ => s.mut hD _) .nil (fun i H ys zs xs r _ => al_imp r fun v b => kD) (fun i H ys r => ?_) (fun H s => SqL.of (K := K) (s _ _ hl)) ?_ (fun H ys s hy r => hd H ys s hy (by rw [List.length_map, List.take_length] at r; exact r))
  · have := al_len r
    have h1 : ((us.take i).filter P).length ≤ (us.take i).length := List.length_filter_le _ _
    rw [List.length_take] at h1
    rw [this, List.length_map]
    omega
  · rintro i x H2 H3 ys Nx Ex hi s hy r ⟨e, hx⟩ k1 k2
    obtain rfl : H2 = H3 := e.symm
    rw [List.length_map] at hi
    have ha : us[i]? = some us[i] := List.getElem?_eq_getElem hi
    have hx : (us.map fun c => V.int (c : Nat))[i]? = some x := hx
    rw [List.getElem?_map, ha] at hx
    obtain rfl := Option.some.inj hx
    have et : us.take (i + 1) = us.take i ++ [us[i]] := by rw [List.take_add_one, ha]; rfl
    rw [et, List.filter_append, List.map_append] at k1 k2
    refine hs us[i] H2 Nx Ex (List.getElem_mem hi) s ⟨_, hy⟩ (fun hp y H4 s4 gy => k1 y H4 (s.trans s4) (s4 _ _ hy) ?_) (fun hp H4 s4 => k2 H4 (s.trans s4) (s4 _ _ hy) ?_)
    · rw [show [us[i]].filter P = [us[i]] by rw [List.filter_cons, if_pos hp, List.filter_nil]]
      exact al_snoc (al_imp r fun v b => kG s4) gy
    · rw [show [us[i]].filter P = [] by rw [List.filter_cons, if_neg (by rw [hp]; decide), List.filter_nil], List.map_nil, List.append_nil]
      exact al_imp r fun v b => kG s4
/-- False not in [..] -/
theorem inV_blsG : ∀ bs : List Bool, inV (.bl false) (bs.map V.bl) = !(bs.all id)
  | [] => rfl
  | b :: bs => by
    have ih := inV_blsG bs
    show (eqV (.bl b) (.bl false) || inV (.bl false) (bs.map V.bl)) = _
    rw [ih]
    cases b <;> rfl
theorem flat_blsG : ∀ bs : List Bool, (bs.map V.bl).all flatV = true
  | [] => rfl
  | _ :: bs => flat_blsG bs
theorem noFG {bs : List Bool} {A B : Prop} (yes : bs.all id = true → A) (no : bs.all id = false → B) : if (if true = true then !inV (V.bl false) (bs.map V.bl) else inV (V.bl false) (bs.map V.bl)) = true then A else B := by
  rw [show (if true = true then !inV (V.bl false) (bs.map V.bl) else inV (V.bl false) (bs.map V.bl)) = bs.all id from by rw [if_pos rfl, inV_blsG, Bool.not_not]]
  cases c : bs.all id with
  | true => exact iteT (yes c)
  | false => exact iteF (no c)
theorem if1_runG {c : TT} {t u : TS} {D : Ends} {σ : L2.St} {H : Hp} (Pv : Bool → Hp → Prop) (h : ∀ Q' : Bool → Hp → Prop, (∀ b H', Pv b H' → Q' b H') → c σ H Q')
    (q : ∀ b H', Pv b H' → if b = true then t D σ H' else u D σ H') : tIfS c t u D σ H := h _ fun b H' p => q b H' p
theorem find_filter {p q : Nat → Bool} : ∀ xs : List Nat, xs.find? (fun c => p c && q c) = (xs.filter p).find? q
  | [] => rfl
  | x :: xs => by
    have ih := find_filter (p := p) (q := q) xs
    rw [List.find?_cons, List.filter_cons]
    cases c : p x with
    | false => simpa using ih
    | true =>
      rw [if_pos rfl, List.find?_cons, Bool.true_and]
      cases q x with
      | true => rfl
      | false => exact ih
theorem find_at {q : Nat → Bool} {us : List Nat} {i c : Nat} (h : us[i]? = some c) (hq : q c = true) (hb : ∀ j x, j < i → us[j]? = some x → q x = false) : us.find? q = some c := by
  rw [List.find?_eq_some_iff_getElem]
  obtain ⟨h1, h2⟩ := List.getElem?_eq_some_iff.mp h
  refine ⟨hq, i, h1, h2, fun j hj => ?_⟩
  rw [hb j us[j] hj (List.getElem?_eq_getElem _)]
  rfl
theorem all_filter {p q : Nat → Bool} (xs : List Nat) : (xs.all fun d => !(p d) || q d) = ((xs.filter p).map q).all id := by
  rw [Bool.eq_iff_iff, List.all_eq_true, List.all_map, List.all_eq_true]
  constructor
  · intro h x hx
    obtain ⟨h1, h2⟩ := List.mem_filter.mp hx
    have := h x h1
    rw [h2] at this
    simpa using this
  · intro h x hx
    cases c : p x with
    | false => rfl
    | true =>
      have : q x = true := h x (List.mem_filter.mpr ⟨hx, c⟩)
      rw [this]; rfl
theorem rowJ_find {n : Nat} {R : Nat → Nat → Bool} {a b : Nat} : rowJ n R a b = ((List.range n).filter fun c => R a c && R b c).find? fun c => ((((List.range n).filter fun c => R a c && R b c)).map (R c)).all id := by
  unfold rowJ first
  rw [← find_filter]
  congr 1
  funext c
  rw [all_filter]
/-- rows of values -/
structure GridAt (H : Hp) (t : Addr) (n : Nat) (f : Nat → Nat → V) : Prop where
  ex : ∃ ls : List Addr, H t = some (.lst (ls.map V.ref)) ∧ ls.length = n ∧ ∀ (a : Nat) (l : Addr), ls[a]? = some l → H l = some (.lst ((List.range n).map (f a)))
theorem GridAt.same {t : Addr} {f : Nat → Nat → V} (h : GridAt H t n f) (s : Same H H') : GridAt H' t n f := by
  obtain ⟨ls, h1, h2, h3⟩ := h.ex
  exact ⟨ls, s _ _ h1, h2, fun a l e => s _ _ (h3 a l e)⟩
theorem GridAt.row {t : Addr} {f : Nat → Nat → V} (h : GridAt H t n f) {a : Nat} (ha : a < n) : ∃ (ls : List Addr) (l : Addr), H t = some (.lst (ls.map V.ref)) ∧ (ls.map V.ref)[a]? = some (.ref l) ∧ H l = some (.lst ((List.range n).map (f a))) := by
  obtain ⟨ls, h1, h2, h3⟩ := h.ex
  have e : ls[a]? = some ls[a] := List.getElem?_eq_getElem (by omega)
  exact ⟨ls, ls[a], h1, by rw [List.getElem?_map, e]; rfl, h3 a _ e⟩
theorem GridAt.len {t : Addr} {f : Nat → Nat → V} (h : GridAt H t n f) : ∃ ls : List Addr, H t = some (.lst (ls.map V.ref)) ∧ (ls.map V.ref).length = n := by
  obtain ⟨ls, h1, h2, h3⟩ := h.ex
  exact ⟨ls, h1, by rw [List.length_map, h2]⟩
theorem GridAt.ext {t : Addr} {f g : Nat → Nat → V} (h : GridAt H t n f) (e : ∀ a b, a < n → b < n → f a b = g a b) : GridAt H t n g := by
  obtain ⟨ls, h1, h2, h3⟩ := h.ex
  refine ⟨ls, h1, h2, fun a l el => ?_⟩
  have ha : a < n := by have := (List.getElem?_eq_some_iff.mp el).1; omega
  rw [h3 a l el]
  rw [show (List.range n).map (f a) = (List.range n).map (g a) from List.map_congr_left fun b hb => e a b ha (List.mem_range.mp hb)]
theorem rg_atG {n i : Nat} {f : Nat → V} (h : i < n) : ((List.range n).map f)[i]? = some (f i) := by rw [List.getElem?_map, List.getElem?_range h]; rfl
theorem flt_idG {α : Type} (xs : List α) : xs.filter (fun _ => true) = xs := List.filter_eq_self.mpr fun _ _ => rfl
/-- a grid from the rows a comprehension made -/
theorem grid_of {t : Addr} {f : Nat → Nat → V} {ys : List V} (hy : H t = some (.lst ys)) (r : Al (fun v (a : Nat) => ∃ l, v = V.ref l ∧ (l ≠ t ∧ H l = some (.lst ((List.range n).map (f a))))) ys (List.range n)) : GridAt H t n f := by
  obtain ⟨ls, rfl, gs⟩ := al_refs r
  have gl := al_len gs
  rw [List.length_range] at gl
  refine ⟨ls, hy, gl, fun a l e => ?_⟩
  obtain ⟨b, hb, m, hl⟩ := al_get gs e
  obtain rfl : a = b := by
    have := (List.getElem?_eq_some_iff.mp e).1
    rw [List.getElem?_range (by omega)] at hb
    exact Option.some.inj hb
  exact hl
def rowV (R : Nat → Nat → Bool) : Nat → Nat → V := fun a b => .bl (R a b)
/-- _law_flipped -/
def sp_flip : Sp := fun vs H Q _ => ∃ (a : Addr) (n : Nat) (f : Nat → Nat → V), vs = [.ref a] ∧ GridAt H a n f ∧ n ≤ 64 ∧ ∀ r H', Same H H' → GridAt H' r n (fun i j => f j i) → Q (.ref r) H'
theorem ok_flip (T : Tx K mg w) : FnOk PL w K mg base CX0 1 T.a__law_flipped T.d__law_flipped ["rows"] sp_flip := by
  refine T.F__law_flipped.ok sc__law_flipped (fun vs H Q E h => ?_) (fun cdv A outer s H vs Q E hr h => ?_)
  · obtain ⟨a, n, f, rfl, _⟩ := h
    rfl
  obtain ⟨a, n, f, rfl, hg, n64, q⟩ := h
  refine ⟨_, pss_one (ps_ret (pe_lc (own := [("a", 2)]) (g := gName 2) (tt := tYes) rfl sc__law_flipped.nd (pi_range1 (by rfl) T.n_range (pa_cons (pe_callB call_len_seq (by rfl) T.n_len (by decide +kernel) (pa_cons (pv 0) pa_nil)) pa_nil)) (blkOk_by (N := N__law_flipped) (sc := defScope St__law_flipped) (by decide +kernel)) (fun _ _ _ _ _ => (pg_name (i := 2) sc__law_flipped.nd rfl (Or.inr rfl))) (fun _ _ _ _ _ => pts_nil) (fun _ _ _ _ _ => (pe_lc (own := [("b", 1)]) (g := gName 1) (tt := tYes) rfl sc__law_flipped.nd (pi_range1 (by rfl) T.n_range (pa_cons (pe_callB (kx_call_len_seq K) (by rfl) T.n_len (by decide +kernel) (pa_cons (pv 0) pa_nil)) pa_nil)) (blkOk_by (N := N__law_flipped) (by first | rfl | kernel_rfl)) (fun _ _ _ _ _ => (pg_name (i := 1) sc__law_flipped.nd rfl (Or.inl rfl))) (fun _ _ _ _ _ => pts_nil) (fun _ _ _ _ _ => (pe_ix (kx_ix_list K) (pe_ix (kx_ix_list K) (pv 0) (pv 1) (fun _ _ => rfl)) (pv 2) (fun _ _ => rfl))))))), ?_⟩
  obtain ⟨ls, h1, h2⟩ := hg.len
  refine ⟨_, rfl, a, _, rfl, .inl (SqL.of (K := K) h1), _, rfl, ?_⟩
  rw [h2]
  refine ⟨by omega, by omega, fun D hD => ?_⟩
  refine lc_rng (n := n) (G := fun H v (i : Nat) => ∃ l, v = V.ref l ∧ (l ≠ D ∧ H l = some (.lst ((List.range n).map ((fun i j => f j i) i))))) (fun _ => true) id hD (fun s ⟨l, e, m, h⟩ => ⟨l, e, m, s _ _ h⟩) (fun ⟨l, e, m, h⟩ => ⟨l, e, m, (upd_ne m).trans h⟩) (by omega) ?_ (fun H2 ys s2 hy rr => ?_)
  · rintro i H2 Nx Ex hi s2 ⟨ys, hyD⟩ ky kn
    refine ⟨rfl, ?_⟩
    refine lcY ?_
    refine ⟨_, rfl, a, _, rfl, .inl (SqL.of (K := K) (s2 _ _ h1)), _, rfl, ?_⟩
    rw [h2]
    refine ⟨by omega, by omega, fun D2 hD2 => ?_⟩
    refine lc_rng (n := n) (G := fun _ v (j : Nat) => v = f j i) (fun _ => true) id hD2 (fun _ h => h) (fun h => h) (by omega) ?_ (fun H3 zs s3 hz rr => ?_)
    · rintro j H3 Nx' Ex' hj s3 _ ky' kn'
      obtain ⟨ls', l', g1, g2, g3⟩ := ((hg.same s2).same s3).row hj
      refine ⟨rfl, ?_⟩
      refine lcY ?_
      exact ⟨_, rfl, _, rfl, a, _, _, _, rfl, rfl, SqL.of (K := K) g1, atI_nat g2, _, rfl, l', _, _, _, rfl, rfl, SqL.of (K := K) g3, atI_nat (rg_atG hi), ky' rfl _ _ (Same.refl _) rfl⟩
    · rw [flt_idG, List.map_id] at rr
      rw [al_map rr] at hz
      exact ky rfl _ _ s3 ⟨D2, rfl, fun e => (by rw [e, hyD] at hD2; cases hD2), hz⟩
  · rw [flt_idG, List.map_id] at rr
    exact q D _ s2 (grid_of hy rr)
def optV' : Option Nat → V := optV
/-- _law_join -/
def sp_lj : Sp := fun vs H Q _ => ∃ (p : Addr) (n a b : Nat) (R : Nat → Nat → Bool), vs = [.ref p, .int (a : Nat), .int (b : Nat)] ∧ GridAt H p n (rowV R) ∧ n ≤ 64 ∧ a < n ∧ b < n ∧ ∀ H', Same H H' → Q (optV (rowJ n R a b)) H'
theorem ok_lj (T : Tx K mg w) : FnOk PL w K mg base CX0 1 T.a__law_join T.d__law_join ["rows", "a", "b"] sp_lj := by
  refine T.F__law_join.ok sc__law_join (fun vs H Q E h => ?_) (fun cdv A outer s H vs Q E hr h => ?_)
  · obtain ⟨p, n, a, b, R, rfl, _⟩ := h
    rfl
  obtain ⟨p, n, a, b, R, rfl, hg, n64, ha, hb, q⟩ := h
  refine ⟨_, pss_cons (ps_setLc (i := 3) (own := [("c", 4)]) (g := gName 4) rfl sc__law_join.nd rfl rfl (sw_true rfl rfl rfl (by decide +kernel)) (pi_range1 (by rfl) T.n_range (pa_cons (pe_callB call_len_seq (by rfl) T.n_len (by decide +kernel) (pa_cons (pv 0) pa_nil)) pa_nil)) (blkOk_by (N := N__law_join) (sc := defScope St__law_join) (by decide +kernel)) (fun _ _ _ _ _ => (pg_name (i := 4) sc__law_join.nd rfl (Or.inl rfl))) (fun _ _ _ _ _ => (pts_one (PW.pt (pw_and (pt_val (pe_ix (kx_ix_list K) (pe_ix (kx_ix_list K) (pv 0) (pv 1) (fun _ _ => rfl)) (pv 4) (fun _ _ => rfl))) (pw_and1 (pt_val (pe_ix (kx_ix_list K) (pe_ix (kx_ix_list K) (pv 0) (pv 2) (fun _ _ => rfl)) (pv 4) (fun _ _ => rfl)))))))) (fun _ _ _ _ _ => (pv 4)))
    (pss_cons (ps_for PassesOwn.never rfl (pi_list (pv 3)) (pg_name (i := 4) sc__law_join.nd rfl (Or.inr rfl)) (pss_one (ps_if (pt_cmpR op_notIn_seq pe_bl (pe_lc (own := [("d", 5)]) (g := gName 5) (tt := tYes) rfl sc__law_join.nd (pi_list (pv 3)) (blkOk_by (N := N__law_join) (sc := defScope St__law_join) (by decide +kernel)) (fun _ _ _ _ _ => (pg_name (i := 5) sc__law_join.nd rfl (Or.inl rfl))) (fun _ _ _ _ _ => pts_nil) (fun _ _ _ _ _ => (pe_ix (kx_ix_list K) (pe_ix (kx_ix_list K) (pv 0) (pv 4) (fun _ _ => rfl)) (pv 5) (fun _ _ => rfl)))) (by rfl)) (pss_one (ps_ret (pv 4))) pss_nil)))
    (pss_one (ps_ret pe_non))), ?_⟩
  obtain ⟨ls, h1, h2⟩ := hg.len
  refine set_run (fun v H' => ∃ u, v = .ref u ∧ Same H H' ∧ H' u = some (.lst (((List.range n).filter fun c => R a c && R b c).map fun c => V.int (c : Nat)))) (fun Q' q' => ?_) ?_
  · refine ⟨_, rfl, p, _, rfl, .inl (SqL.of (K := K) h1), _, rfl, ?_⟩
    rw [h2]
    refine ⟨by omega, by omega, fun D hD => ?_⟩
    refine lc_rng (n := n) (G := fun _ v (j : Nat) => v = V.int (j : Nat)) (fun c => R a c && R b c) id hD (fun _ h => h) (fun h => h) (by omega) ?_ (fun H2 ys s2 hy rr => ?_)
    · rintro c H2 Nx Ex hc s2 _ ky kn
      obtain ⟨ls1, l1, g1, g2, g3⟩ := (hg.same s2).row ha
      obtain ⟨ls2, l2, k1, k2, k3⟩ := (hg.same s2).row hb
      refine ⟨rfl, ?_⟩
      refine ⟨_, rfl, _, rfl, p, _, _, _, rfl, rfl, SqL.of (K := K) g1, atI_nat g2, _, rfl, l1, _, _, _, rfl, rfl, SqL.of (K := K) g3, atI_nat (rg_atG hc), _, rfl, ?_⟩
      cases c1 : R a c with
      | false => exact iteF (kn (by rw [c1]; rfl) _ (Same.refl _))
      | true =>
        refine iteT ⟨_, rfl, _, rfl, p, _, _, _, rfl, rfl, SqL.of (K := K) k1, atI_nat k2, _, rfl, l2, _, _, _, rfl, rfl, SqL.of (K := K) k3, atI_nat (rg_atG hc), _, rfl, ?_⟩
        cases c2 : R b c with
        | false => exact kn (by rw [c1, c2]; rfl) _ (Same.refl _)
        | true => exact ⟨_, rfl, ky (by rw [c1, c2]; rfl) _ _ (Same.refl _) rfl⟩
    · rw [List.map_id] at rr
      rw [al_map rr] at hy
      exact q' _ _ ⟨D, rfl, s2, hy⟩
  rintro _ H2 ⟨u, rfl, s2, hu⟩
  dsimp only [gName]
  have ulen : ((List.range n).filter fun c => R a c && R b c).length ≤ 1000 := Nat.le_trans (List.length_filter_le _ _) (by rw [List.length_range]; omega)
  have ult : ∀ x ∈ (List.range n).filter (fun c => R a c && R b c), x < n := fun x hx => List.mem_range.mp (List.mem_filter.mp hx).1
  have hg2 := hg.same s2
  rw [rowJ_find] at q
  generalize (List.range n).filter (fun c => R a c && R b c) = us at hu ulen ult q
  show tSeq _ _ _ [some (.ref p), some (.int (a : Nat)), some (.int (b : Nat)), some (.ref u), none, none] H2
  refine ⟨_, rfl, u, rfl, ⟨_, SqL.of (K := K) hu⟩, ?_⟩
  refine for_it (walk_list (K := K) (a := u) (xs := us.map fun c => V.int (c : Nat))) (fun i σ H' => ∃ v4 : Option V, σ = [some (.ref p), some (.int (a : Nat)), some (.int (b : Nat)), some (.ref u), v4, none] ∧ Same H2 H' ∧ ∀ j x, j < i → us[j]? = some x → ((us.map (R x)).all id) = false) ⟨_, rfl, Same.refl _, fun j x h => absurd h (Nat.not_lt_zero _)⟩ (fun i σ H' _ ⟨_, _, s, _⟩ => SqL.of (K := K) (s _ _ hu)) ?_ ?_
  · rintro i x σ H3 H4 hi ⟨v4, rfl, s3, bad⟩ ⟨e4, hx⟩
    obtain rfl : H3 = H4 := e4.symm
    rw [List.length_map] at hi
    have hi' : us[i]? = some us[i] := List.getElem?_eq_getElem hi
    have hx : (us.map fun c => V.int (c : Nat))[i]? = some x := hx
    rw [List.getElem?_map, hi'] at hx
    obtain rfl := Option.some.inj hx
    generalize us[i] = c at hi'
    have hc := ult c (List.mem_of_getElem? hi')
    dsimp only [gName]
    have hg3 := hg2.same s3
    have hu3 := s3 _ _ hu
    refine if1_runG (fun b H' => b = (us.map (R c)).all id ∧ Same H3 H') (fun Q' q' => ?_) ?_
    · refine ⟨_, rfl, u, rfl, ⟨_, SqL.of (K := K) hu3⟩, fun D2 hD2 => ?_⟩
      refine lc_lst (G := fun _ v (b : Bool) => v = V.bl b) (fun _ => true) (R c) hD2 (fun _ h => h) (fun h => h) ulen hu3 ?_ (fun H4 zs s4 hz rr => ?_)
      · rintro j H4 Nx Ex hj s4 _ ky kn
        obtain ⟨ls1, l1, g1, g2, g3⟩ := (hg3.same s4).row hc
        refine ⟨rfl, ?_⟩
        refine lcY ?_
        exact ⟨_, rfl, _, rfl, p, _, _, _, rfl, rfl, SqL.of (K := K) g1, atI_nat g2, _, rfl, l1, _, _, _, rfl, rfl, SqL.of (K := K) g3, atI_nat (rg_atG (ult j hj)), ky rfl _ _ (Same.refl _) rfl⟩
      · rw [flt_idG] at rr
        rw [al_map rr] at hz
        refine ⟨D2, _, rfl, .inl (SqL.of (K := K) hz), rfl, flat_blsG _, _, rfl, ?_⟩
        rw [show (if true = true then !inV (V.bl false) (((us.map (R c))).map V.bl) else inV (V.bl false) ((us.map (R c)).map V.bl)) = (us.map (R c)).all id from by rw [if_pos rfl, inV_blsG, Bool.not_not]]
        exact q' _ _ ⟨rfl, s4⟩
    · rintro b H4 ⟨rfl, s4⟩
      refine ite2 (fun cc => ?_) (fun cc => ?_)
      · refine ⟨_, rfl, ?_⟩
        have := q H4 ((s2.trans s3).trans s4)
        rw [find_at hi' cc bad] at this
        exact this
      · refine ⟨_, rfl, s3.trans s4, fun j x hj hxj => ?_⟩
        rcases Nat.lt_or_ge j i with l | l
        · exact bad j x l hxj
        · obtain rfl : i = j := by omega
          rw [hi'] at hxj
          obtain rfl := Option.some.inj hxj
          exact Bool.eq_false_iff.mpr cc
  · rintro σ H3 ⟨v4, rfl, s3, bad⟩
    rw [List.length_map] at bad
    have e : us.find? (fun c => (us.map (R c)).all id) = none := List.find?_eq_none.mpr fun x hx => by
      obtain ⟨j, hj⟩ := List.getElem?_of_mem hx
      have := bad j x (List.getElem?_eq_some_iff.mp hj).1 hj
      rw [this]
      exact Bool.false_ne_true
    rw [e] at q
    exact q H3 (s2.trans s3)
def sp_lmt : Sp := fun vs H Q _ => ∃ (p : Addr) (n a b : Nat) (R : Nat → Nat → Bool), vs = [.ref p, .int (a : Nat), .int (b : Nat)] ∧ GridAt H p n (rowV R) ∧ n ≤ 64 ∧ a < n ∧ b < n ∧ ∀ H', Same H H' → Q (optV (rowJ n (rowF R) a b)) H'
/-- _law_low -/
def sp_low : Sp := fun vs H Q _ => ∃ (p : Addr) (n : Nat) (R : Nat → Nat → Bool), vs = [.ref p] ∧ GridAt H p n (rowV R) ∧ n ≤ 64 ∧ ∀ H', Same H H' → Q (optV (rowLow n R)) H'
end
/-! ### orders as rows: tables, irreducible values -/
section
open PyProof.Rows
variable {w W_ : World} {K : PySem.W.Frag} {mg : Str → Option Value} {base : Heap} {H H' : Hp} {n : Nat} {R : Nat → Nat → Bool}
theorem flat_opts : ∀ os : List (Option Nat), (os.map optV).all flatV = true
  | [] => rfl
  | none :: os => flat_opts os
  | some _ :: os => flat_opts os
theorem eqV_opt (a : Nat) : ∀ o : Option Nat, eqV (optV o) (.int (a : Nat)) = (o == some a)
  | none => rfl
  | some b => by
    show ((b : Int) == (a : Int)) = (some b == some a)
    rw [Bool.eq_iff_iff, beq_iff_eq, beq_iff_eq]
    exact ⟨fun h => by rw [Int.ofNat.inj h], fun h => by rw [Option.some.inj h]⟩
theorem inV_opts (a : Nat) : ∀ os : List (Option Nat), inV (.int (a : Nat)) (os.map optV) = os.any fun o => o == some a
  | [] => rfl
  | o :: os => by
    have ih := inV_opts a os
    show (eqV (optV o) (.int (a : Nat)) || inV (.int (a : Nat)) (os.map optV)) = _
    rw [ih, eqV_opt]
    rfl
/-- _law_table -/
def tabV (n : Nat) (R : Nat → Nat → Bool) : Nat → Nat → V := fun a b => optV (rowJ n R a b)
def sp_ltb : Sp := fun vs H Q _ => ∃ (p : Addr) (n : Nat) (R : Nat → Nat → Bool), vs = [.ref p] ∧ GridAt H p n (rowV R) ∧ n ≤ 64 ∧ ∀ r H', Same H H' → GridAt H' r n (tabV n R) → Q (.ref r) H'
theorem ok_ltb (T : Tx K mg w) : FnOk PL w K mg base CX0 2 T.a__law_table T.d__law_table ["rows"] sp_ltb := by
  have G__law_join := ok_lj (w := w) (base := base) T
  refine T.F__law_table.ok sc__law_table (fun vs H Q E h => ?_) (fun cdv A outer s H vs Q E hr h => ?_)
  · obtain ⟨a, n, R, rfl, _⟩ := h
    rfl
  obtain ⟨a, n, R, rfl, hg, n64, q⟩ := h
  have hu := hu_of hr
  refine ⟨_, pss_one (ps_ret (pe_lc (own := [("a", 2)]) (g := gName 2) (tt := tYes) rfl sc__law_table.nd (pi_range1 (by rfl) T.n_range (pa_cons (pe_callB call_len_seq (by rfl) T.n_len (by decide +kernel) (pa_cons (pv 0) pa_nil)) pa_nil)) (blkOk_by (N := N__law_table) (sc := defScope St__law_table) (by decide +kernel)) (fun _ _ _ _ _ => (pg_name (i := 2) sc__law_table.nd rfl (Or.inr rfl))) (fun _ _ _ _ _ => pts_nil) (fun _ _ _ _ _ => (pe_lc (own := [("b", 1)]) (g := gName 1) (tt := tYes) rfl sc__law_table.nd (pi_range1 (by rfl) T.n_range (pa_cons (pe_callB (kx_call_len_seq K) (by rfl) T.n_len (by decide +kernel) (pa_cons (pv 0) pa_nil)) pa_nil)) (blkOk_by (N := N__law_table) (by first | rfl | kernel_rfl)) (fun _ _ _ _ _ => (pg_name (i := 1) sc__law_table.nd rfl (Or.inl rfl))) (fun _ _ _ _ _ => pts_nil) (fun _ _ _ _ _ => (pe_call G__law_join (hr.mono (by omega)) (by rfl) T.g__law_join T.F__law_join.kp T.b__law_join .nil pass0 (pa_cons (pv 0) (pa_cons (pv 2) (pa_cons (pv 1) pa_nil))))))))), ?_⟩
  obtain ⟨ls, h1, h2⟩ := hg.len
  refine ⟨_, rfl, a, _, rfl, .inl (SqL.of (K := K) h1), _, rfl, ?_⟩
  rw [h2]
  refine ⟨by omega, by omega, fun D hD => ?_⟩
  refine lc_rng (n := n) (G := fun H v (i : Nat) => ∃ l, v = V.ref l ∧ (l ≠ D ∧ H l = some (.lst ((List.range n).map (tabV n R i))))) (fun _ => true) id hD (fun s ⟨l, e, m, h⟩ => ⟨l, e, m, s _ _ h⟩) (fun ⟨l, e, m, h⟩ => ⟨l, e, m, (upd_ne m).trans h⟩) (by omega) ?_ (fun H2 ys s2 hy rr => ?_)
  · rintro i H2 Nx Ex hi s2 ⟨ys, hyD⟩ ky kn
    refine ⟨rfl, ?_⟩
    refine lcY ?_
    refine ⟨_, rfl, a, _, rfl, .inl (SqL.of (K := K) (s2 _ _ h1)), _, rfl, ?_⟩
    rw [h2]
    refine ⟨by omega, by omega, fun D2 hD2 => ?_⟩
    refine lc_rng (n := n) (G := fun _ v (j : Nat) => v = tabV n R i j) (fun _ => true) id hD2 (fun _ h => h) (fun h => h) (by omega) ?_ (fun H3 zs s3 hz rr => ?_)
    · rintro j H3 Nx' Ex' hj s3 _ ky' kn'
      refine ⟨rfl, ?_⟩
      refine lcY ?_
      exact ⟨_, rfl, _, rfl, _, rfl, a, n, i, j, R, rfl, (hg.same s2).same s3, n64, hi, hj, fun H4 s4 => ky' rfl _ _ s4 rfl⟩
    · rw [flt_idG, List.map_id] at rr
      rw [al_map rr] at hz
      exact ky rfl _ _ s3 ⟨D2, rfl, fun e => (by rw [e, hyD] at hD2; cases hD2), hz⟩
  · rw [flt_idG, List.map_id] at rr
    exact q D _ s2 (grid_of hy rr)
/-- _law_pieces -/
def others (n a : Nat) : List Nat := (List.range n).filter fun b => !(b == a)
def madeR (n : Nat) (R : Nat → Nat → Bool) (a b : Nat) : Bool := ((others n a).map fun c => rowJ n R b c).any fun o => o == some a
theorem any_filterG {p q : Nat → Bool} : ∀ xs : List Nat, (xs.any fun b => p b && q b) = (xs.filter p).any q
  | [] => rfl
  | x :: xs => by
    have ih := any_filterG (p := p) (q := q) xs
    rw [List.any_cons, ih, List.filter_cons]
    cases p x with
    | false => simp
    | true => simp
theorem rowIrr_is {n : Nat} {R : Nat → Nat → Bool} {a : Nat} : rowIrr n R a = (!((others n a).any (madeR n R a)) && !(some a == rowLow n R)) := by
  unfold rowIrr others
  rw [any_filterG]
  congr 2
  unfold madeR others
  congr 1
  funext b
  rw [any_filterG, List.any_map]
  rfl
def sp_lpc : Sp := fun vs H Q _ => ∃ (p t : Addr) (n : Nat) (R : Nat → Nat → Bool), vs = [.ref p, .ref t] ∧ GridAt H p n (rowV R) ∧ GridAt H t n (tabV n R) ∧ n ≤ 64 ∧ ∀ l H', Same H H' → H' l = some (.lst (((List.range n).filter (rowIrr n R)).map fun c => V.int (c : Nat))) → Q (.ref l) H'
end
/-! ### orders as rows: _law_closed -/
section
open PyProof.Rows
variable {w W_ : World} {K : PySem.W.Frag} {mg : Str → Option Value} {base : Heap} {H0 H H' : Hp} {n : Nat} {t : Addr} {f : Nat → Nat → V}
/-- rows of one's own, made behind H0 -/
structure MGrid (H0 H : Hp) (t : Addr) (n : Nat) (f : Nat → Nat → V) : Prop where
  same : Same H0 H
  ex : ∃ ls : List Addr, H t = some (.lst (ls.map V.ref)) ∧ ls.length = n ∧ ls.Nodup ∧ ∀ (a : Nat) (l : Addr), ls[a]? = some l → l ≠ t ∧ H0 l = none ∧ H l = some (.lst ((List.range n).map (f a)))
theorem MGrid.grid (h : MGrid H0 H t n f) : GridAt H t n f := by
  obtain ⟨ls, h1, h2, _, h3⟩ := h.ex
  exact ⟨ls, h1, h2, fun a l e => (h3 a l e).2.2⟩
theorem MGrid.ext {g : Nat → Nat → V} (h : MGrid H0 H t n f) (e : ∀ a b, a < n → b < n → f a b = g a b) : MGrid H0 H t n g := by
  obtain ⟨ls, h1, h2, nd, h3⟩ := h.ex
  refine ⟨h.same, ls, h1, h2, nd, fun a l el => ?_⟩
  have ha : a < n := by have := (List.getElem?_eq_some_iff.mp el).1; omega
  obtain ⟨q1, q2, q3⟩ := h3 a l el
  refine ⟨q1, q2, q3.trans ?_⟩
  rw [show (List.range n).map (f a) = (List.range n).map (g a) from List.map_congr_left fun b hb => e a b ha (List.mem_range.mp hb)]
theorem set_range {n y : Nat} {g : Nat → V} {v : V} : ((List.range n).map g).set y v = (List.range n).map fun b => if b = y then v else g b := by
  refine List.ext_getElem? fun k => ?_
  rw [List.getElem?_set, List.length_map, List.length_range]
  by_cases hk : k < n
  · rw [List.getElem?_map, List.getElem?_map, List.getElem?_range hk]
    by_cases ck : y = k
    · rw [if_pos ck, if_pos (by omega)]
      show _ = some (if k = y then v else g k)
      rw [if_pos ck.symm]
    · rw [if_neg ck]
      show _ = some (if k = y then v else g k)
      rw [if_neg fun e => ck e.symm]
      rfl
  · have : (List.range n)[k]? = none := List.getElem?_eq_none (by rw [List.length_range]; omega)
    rw [List.getElem?_map, List.getElem?_map, this]
    by_cases ck : y = k
    · rw [if_pos ck, if_neg (by omega)]; rfl
    · rw [if_neg ck]; rfl
/-- rows[x][y] = v -/
theorem MGrid.set (h : MGrid H0 H t n f) {x y : Nat} (hx : x < n) (v : V) : ∃ (ls : List Addr) (l : Addr), H t = some (.lst (ls.map V.ref)) ∧ (ls.map V.ref)[x]? = some (.ref l) ∧ H l = some (.lst ((List.range n).map (f x))) ∧
    MGrid H0 (upd H l (.lst (((List.range n).map (f x)).set y v))) t n (fun a b => if a = x ∧ b = y then v else f a b) := by
  obtain ⟨ls, h1, h2, nd, h3⟩ := h.ex
  have e : ls[x]? = some ls[x] := List.getElem?_eq_getElem (by omega)
  generalize ls[x] = l at e
  obtain ⟨q1, q2, q3⟩ := h3 x l e
  refine ⟨ls, l, h1, by rw [List.getElem?_map, e]; rfl, q3, h.same.mut q2 _, ls, (upd_ne (Ne.symm q1)).trans h1, h2, nd, fun a k ek => ?_⟩
  obtain ⟨r1, r2, r3⟩ := h3 a k ek
  refine ⟨r1, r2, ?_⟩
  by_cases ax : a = x
  · subst ax
    rw [e] at ek
    obtain rfl := Option.some.inj ek
    rw [upd_same, set_range]
    refine congrArg (fun z => some (HO.lst z)) (List.map_congr_left fun b _ => ?_)
    by_cases hb : b = y
    · rw [if_pos hb, if_pos ⟨rfl, hb⟩]
    · rw [if_neg hb, if_neg fun z => hb z.2]
  · have kl : k ≠ l := fun z => by
      subst z
      have h4 := List.getElem?_eq_some_iff.mp ek
      have h5 := List.getElem?_eq_some_iff.mp e
      exact ax ((List.getElem_inj nd).mp (h4.2.trans h5.2.symm))
    rw [upd_ne kl, r3]
    refine congrArg (fun z => some (HO.lst z)) (List.map_congr_left fun b _ => ?_)
    rw [if_neg fun z => ax z.1]
/-- pairs of places -/
structure DuosAt (H : Hp) (p : Addr) (ps : List (Nat × Nat)) : Prop where
  ex : ∃ ls : List Addr, H p = some (.lst (ls.map V.ref)) ∧ Al (fun l q => H l = some (.lst [.int (q.1 : Nat), .int (q.2 : Nat)])) ls ps
theorem DuosAt.same {p : Addr} {ps : List (Nat × Nat)} (h : DuosAt H p ps) (s : Same H H') : DuosAt H' p ps := by
  obtain ⟨ls, h1, h2⟩ := h.ex
  exact ⟨ls, s _ _ h1, al_imp h2 fun a b h => s _ _ h⟩
def sp_lcl : Sp := fun vs H Q _ => ∃ (p : Addr) (n : Nat) (ps : List (Nat × Nat)), vs = [.int (n : Nat), .ref p] ∧ DuosAt H p ps ∧ n ≤ 64 ∧ ps.length ≤ 100000 ∧ (∀ q ∈ ps, q.1 < n ∧ q.2 < n) ∧ ∀ r H', Same H H' → GridAt H' r n (rowV (closedR n ps)) → Q (.ref r) H'
theorem ok_lcl (T : Tx K mg w) : FnOk PL w K mg base CX0 1 T.a__law_closed T.d__law_closed ["many", "pairs"] sp_lcl := by
  refine T.F__law_closed.ok sc__law_closed (fun vs H Q E h => ?_) (fun cdv A outer s H vs Q E hr h => ?_)
  · obtain ⟨p, n, ps, rfl, _⟩ := h
    rfl
  obtain ⟨p, n, ps, rfl, hp, n64, pl, hps, q⟩ := h
  refine ⟨_, pss_cons (ps_setLc (i := 2) (own := [("a", 4)]) (g := gName 4) (tt := tYes) rfl sc__law_closed.nd rfl rfl (sw_true rfl rfl rfl (by decide +kernel)) (pi_range1 (by rfl) T.n_range (pa_cons (pv 0) pa_nil)) (blkOk_by (N := N__law_closed) (sc := defScope St__law_closed) (by decide +kernel)) (fun _ _ _ _ _ => (pg_name (i := 4) sc__law_closed.nd rfl (Or.inr rfl))) (fun _ _ _ _ _ => pts_nil) (fun _ _ _ _ _ => (pe_lc (own := [("b", 3)]) (g := gName 3) (tt := tYes) rfl sc__law_closed.nd (pi_range1 (by rfl) T.n_range (pa_cons (pv 0) pa_nil)) (blkOk_by (N := N__law_closed) (by first | rfl | kernel_rfl)) (fun _ _ _ _ _ => (pg_name (i := 3) sc__law_closed.nd rfl (Or.inl rfl))) (fun _ _ _ _ _ => pts_nil) (fun _ _ _ _ _ => (pe_cmpR op_eq (pv 4) (pv 3) (nomark _))))))
    (pss_cons (ps_for PassesOwn.never rfl (pi_list (pv 1)) (pg_name (i := 5) sc__law_closed.nd rfl (Or.inl rfl)) (pss_one (ps_asg pe_bl (pg_sub (pe_ix ix_list (pv 2) (pe_ix ix_list (pv 5) pe_int (fun _ _ => rfl)) (fun _ _ => rfl)) (pe_ix ix_list (pv 5) pe_int (fun _ _ => rfl)) set_list))))
    (pss_cons (ps_for PassesOwn.never rfl (pi_range1 (by rfl) T.n_range (pa_cons (pv 0) pa_nil)) (pg_name (i := 6) sc__law_closed.nd rfl (Or.inl rfl)) (pss_one (ps_for PassesOwn.never rfl (pi_range1 (by rfl) T.n_range (pa_cons (pv 0) pa_nil)) (pg_name (i := 4) sc__law_closed.nd rfl (Or.inl rfl)) (pss_one (ps_for PassesOwn.never rfl (pi_range1 (by rfl) T.n_range (pa_cons (pv 0) pa_nil)) (pg_name (i := 3) sc__law_closed.nd rfl (Or.inl rfl)) (pss_one (ps_if (PW.pt (pw_and (pt_val (pe_ix ix_list (pe_ix ix_list (pv 2) (pv 4) (fun _ _ => rfl)) (pv 6) (fun _ _ => rfl))) (pw_and1 (pt_val (pe_ix ix_list (pe_ix ix_list (pv 2) (pv 6) (fun _ _ => rfl)) (pv 3) (fun _ _ => rfl)))))) (pss_one (ps_asg pe_bl (pg_sub (pe_ix ix_list (pv 2) (pv 4) (fun _ _ => rfl)) (pv 3) set_list))) pss_nil)))))))
    (pss_one (ps_ret (pv 2))))), ?_⟩
  refine set_run (fun v H' => ∃ r, v = .ref r ∧ MGrid H H' r n (rowV (rowsOf []))) (fun Q' q' => ?_) ?_
  · refine ⟨_, rfl, _, rfl, by omega, by omega, fun D hD => ?_⟩
    refine lc_foldF (walk_range (lo := 0) (n := n)) (fun H' => Same H H') (fun i H' ys => i ≤ n ∧ ∃ ls : List Addr, ys = ls.map V.ref ∧ ls.length = i ∧ ls.Nodup ∧ ∀ (a : Nat) (l : Addr), ls[a]? = some l → l ≠ D ∧ H l = none ∧ H' l = some (.lst ((List.range n).map (rowV (rowsOf []) a)))) (Same.new hD _) (fun H' ys zs s _ => s.mut hD _) ⟨Nat.zero_le _, [], rfl, rfl, List.nodup_nil, fun a l e => by simp at e⟩ ?_ ?_ (fun _ _ => trivial) ?_ ?_
    · rintro i H' ys zs xs ⟨hi, ls, e, l1, nd, r⟩ _
      exact ⟨hi, ls, e, l1, nd, fun a l el => ⟨(r a l el).1, (r a l el).2.1, (upd_ne (r a l el).1).trans (r a l el).2.2⟩⟩
    · rintro i H' ys ⟨hi, ls, rfl, l1, _⟩
      rw [List.length_map, l1]; omega
    · rintro i x H2 H3 ys Nx Ex hi s2 hy ⟨_, ls, rfl, l1, nd, r⟩ ⟨e, ex⟩ k1 k2
      obtain rfl : H2 = H3 := e.symm
      have hi : i < n := hi
      obtain rfl := yfn0 ex
      refine ⟨rfl, ?_⟩
      refine lcY ?_
      refine ⟨_, rfl, _, rfl, by omega, by omega, fun D2 hD2 => ?_⟩
      refine lc_rng (n := n) (G := fun _ v (j : Nat) => v = rowV (rowsOf []) i j) (fun _ => true) id hD2 (fun _ h => h) (fun h => h) (by omega) ?_ (fun H3 zs s3 hz rr => ?_)
      · rintro j H3 Nx' Ex' hj s3 _ ky' kn'
        refine ⟨rfl, ?_⟩
        refine lcY ?_
        refine ⟨_, rfl, _, rfl, rfl, ky' rfl _ _ (Same.refl _) ?_⟩
        show V.bl (decide (V.int (i : Nat) = V.int (j : Nat))) = V.bl (i == j || ([] : List (Nat × Nat)).contains (i, j))
        rw [int_ext]
        simp
      · rw [flt_idG, List.map_id] at rr
        rw [al_map rr] at hz
        refine k1 _ _ (s2.trans s3) (s3 _ _ hy) ⟨hi, ls ++ [D2], ?_, ?_, ?_, ?_⟩
        · rw [List.map_append]; rfl
        · rw [List.length_append, l1]; rfl
        · refine List.nodup_append.mpr ⟨nd, by simp, fun a ha b hb => ?_⟩
          obtain rfl : b = D2 := by simpa using hb
          intro e
          obtain ⟨j, hj⟩ := List.getElem?_of_mem ha
          have := (r j a hj).2.2
          rw [e, hD2] at this
          cases this
        · intro a l el
          rw [List.getElem?_append] at el
          by_cases ca : a < ls.length
          · rw [if_pos ca] at el
            obtain ⟨r1, r2, r3⟩ := r a l el
            exact ⟨r1, r2, s3 _ _ r3⟩
          · rw [if_neg ca] at el
            have ea : a - ls.length = 0 := by
              have := (List.getElem?_eq_some_iff.mp el).1
              simp at this; omega
            rw [ea] at el
            obtain rfl : D2 = l := by simpa using el
            obtain rfl : a = i := by omega
            refine ⟨fun e => (by rw [e, hy] at hD2; cases hD2), ?_, hz⟩
            cases eh : H D2 with
            | none => rfl
            | some o => have := s2 _ _ eh; rw [hD2] at this; cases this
    · rintro H2 ys s2 hy ⟨_, ls, rfl, l1, nd, r⟩
      exact q' _ _ ⟨D, rfl, s2, ls, hy, l1, nd, r⟩
  rintro _ H2 ⟨r, rfl, hg⟩
  dsimp only [gName]
  obtain ⟨as, p1, p2⟩ := hp.ex
  have al := al_len p2
  show tSeq _ _ _ [some (.int (n : Nat)), some (.ref p), some (.ref r), none, none, none, none] H2
  refine st_run (fun σ H' => ∃ v5 : Option V, σ = [some (.int (n : Nat)), some (.ref p), some (.ref r), none, none, v5, none] ∧ MGrid H H' r n (rowV (rowsOf ps))) (fun D' hD q' => ?_) ?_
  · refine ⟨_, rfl, p, rfl, ⟨_, SqL.of (K := K) (hg.same _ _ p1)⟩, ?_⟩
    refine for_it (walk_list (K := K) (a := p) (xs := as.map V.ref)) (fun i σ H' => ∃ v5 : Option V, σ = [some (.int (n : Nat)), some (.ref p), some (.ref r), none, none, v5, none] ∧ MGrid H H' r n (rowV (rowsOf (ps.take i)))) ⟨_, rfl, hg⟩ (fun i σ H' _ ⟨_, _, g⟩ => SqL.of (K := K) (g.same _ _ p1)) ?_ ?_
    · rintro i x σ H3 H4 hi ⟨v5, rfl, g⟩ ⟨e4, hx⟩
      obtain rfl : H3 = H4 := e4.symm
      rw [List.length_map] at hi
      have ha : as[i]? = some as[i] := List.getElem?_eq_getElem hi
      have hx : (as.map V.ref)[i]? = some x := hx
      rw [List.getElem?_map, ha] at hx
      obtain rfl := Option.some.inj hx
      generalize as[i] = u at ha
      obtain ⟨qq, hq, hu⟩ := al_get p2 ha
      obtain ⟨b1, b2⟩ := hps qq (List.mem_of_getElem? hq)
      obtain ⟨ls, l, g1, g2, g3, g4⟩ := g.set (x := qq.1) (y := qq.2) b1 (.bl true)
      have hu3 := g.same _ _ hu
      dsimp only [gName]
      refine ⟨_, rfl, _, rfl, u, _, _, _, rfl, rfl, SqL.of (K := K) hu3, atI_nat (j := 0) rfl, r, _, _, _, rfl, rfl, SqL.of (K := K) g1, atI_nat g2, _, rfl, u, _, _, _, rfl, rfl, SqL.of (K := K) hu3, atI_nat (j := 1) rfl, l, _, _, qq.2, rfl, rfl, g3, (by rw [List.length_map, List.length_range]; exact ixN_nat (z := (qq.2 : Int)) (by omega) (by omega)), ?_⟩
      refine ⟨_, rfl, g4.ext fun a b _ _ => ?_⟩
      rw [show ps.take (i + 1) = ps.take i ++ [qq] by rw [List.take_add_one, hq]; rfl]
      show _ = V.bl (a == b || (ps.take i ++ [qq]).contains (a, b))
      by_cases c : a = qq.1 ∧ b = qq.2
      · rw [if_pos c, show (ps.take i ++ [qq]).contains (a, b) = true by rw [c.1, c.2]; simp, Bool.or_true]
      · rw [if_neg c]
        have : (a, b) ≠ qq := fun e => c ⟨by rw [← e], by rw [← e]⟩
        show V.bl (a == b || (ps.take i).contains (a, b)) = _
        congr 2
        rw [Bool.eq_iff_iff, List.contains_iff_mem, List.contains_iff_mem, List.mem_append]
        exact ⟨.inl, fun h => h.elim id fun h => absurd (by simpa using h) this⟩
    · rintro σ H3 ⟨v5, rfl, g⟩
      rw [List.length_map, al, List.take_length] at g
      exact q' _ _ ⟨_, rfl, g⟩
  rintro _ H3 ⟨v5, rfl, hg3⟩
  -- mixed rows: gone over up to (a, b)
  generalize hR : rowsOf ps = R0 at hg3
  have mixE : ∀ c a b x y : Nat, (if x < a ∨ (x = a ∧ y < b) then closeK R0 (c + 1) x y else closeK R0 c x y) = true ↔ (if x < a ∨ (x = a ∧ y < b) then closeK R0 (c + 1) x y else closeK R0 c x y) = true := fun _ _ _ _ _ => Iff.rfl
  clear mixE
  show tSeq _ _ _ [some (.int (n : Nat)), some (.ref p), some (.ref r), none, none, v5, none] H3
  refine st_run (fun σ H' => ∃ v3 v4 v6 : Option V, σ = [some (.int (n : Nat)), some (.ref p), some (.ref r), v3, v4, v5, v6] ∧ MGrid H H' r n (rowV (closeK R0 n))) (fun D' hD q' => ?_) ?_
  · refine ⟨_, rfl, _, rfl, by omega, by omega, ?_⟩
    refine for_range (lo := 0) (n := n) (fun c σ H' => ∃ v3 v4 v6 : Option V, σ = [some (.int (n : Nat)), some (.ref p), some (.ref r), v3, v4, v5, v6] ∧ MGrid H H' r n (rowV (closeK R0 c))) ⟨_, _, _, rfl, hg3⟩ ?_ (fun σ H' ⟨v3, v4, v6, e, g⟩ => q' _ _ ⟨v3, v4, v6, e, g⟩)
    rintro c σ H4 hc ⟨v3, v4, v6, rfl, g⟩
    have hc : c < n := hc
    rw [show (0 : Int) + (c : Int) = ((c : Nat) : Int) by omega]
    dsimp only [gName]
    refine ⟨_, rfl, _, rfl, by omega, by omega, ?_⟩
    refine for_range (lo := 0) (n := n) (fun a σ H' => ∃ v3 v4 : Option V, σ = [some (.int (n : Nat)), some (.ref p), some (.ref r), v3, v4, v5, some (.int (c : Nat))] ∧ MGrid H H' r n (rowV fun x y => if x < a then closeK R0 (c + 1) x y else closeK R0 c x y)) ⟨_, _, rfl, g.ext fun a b _ _ => by show _ = V.bl (if a < 0 then _ else _); rw [if_neg (Nat.not_lt_zero _)]; rfl⟩ ?_ (fun σ H' ⟨v3, v4, e, g⟩ => ⟨v3, v4, _, e, g.ext fun a b ha _ => by show V.bl (if a < n then _ else _) = _; rw [if_pos ha]; rfl⟩)
    rintro a σ H5 ha ⟨v3, v4, rfl, g5⟩
    have ha : a < n := ha
    rw [show (0 : Int) + (a : Int) = ((a : Nat) : Int) by omega]
    dsimp only [gName]
    refine ⟨_, rfl, _, rfl, by omega, by omega, ?_⟩
    refine for_range (lo := 0) (n := n) (fun b σ H' => ∃ v3 : Option V, σ = [some (.int (n : Nat)), some (.ref p), some (.ref r), v3, some (.int (a : Nat)), v5, some (.int (c : Nat))] ∧ MGrid H H' r n (rowV fun x y => if x < a ∨ (x = a ∧ y < b) then closeK R0 (c + 1) x y else closeK R0 c x y)) ⟨_, rfl, g5.ext fun x y _ _ => ?_⟩ ?_ (fun σ H' ⟨v3, e, g⟩ => ⟨v3, _, e, g.ext fun x y _ hy => ?_⟩)
    · show V.bl (if x < a then _ else _) = V.bl (if x < a ∨ (x = a ∧ y < 0) then _ else _)
      have : (x < a ∨ (x = a ∧ y < 0)) ↔ x < a := by omega
      simp only [this]
    · rintro b σ H6 hb ⟨v3, rfl, g6⟩
      have hb : b < n := hb
      rw [show (0 : Int) + (b : Int) = ((b : Nat) : Int) by omega]
      dsimp only [gName]
      have e1 : (if a < a ∨ (a = a ∧ c < b) then closeK R0 (c + 1) a c else closeK R0 c a c) = closeK R0 c a c := by
        split
        · exact closeK_col
        · rfl
      have e2 : (if c < a ∨ (c = a ∧ b < b) then closeK R0 (c + 1) c b else closeK R0 c c b) = closeK R0 c c b := by
        split
        · exact closeK_row
        · rfl
      obtain ⟨ls1, l1, u1, u2, u3⟩ := g6.grid.row ha
      obtain ⟨ls2, l2, w1, w2, w3⟩ := g6.grid.row hc
      have next : ∀ x y : Nat, ¬ (x = a ∧ y = b) → (if x < a ∨ (x = a ∧ y < b) then closeK R0 (c + 1) x y else closeK R0 c x y) = if x < a ∨ (x = a ∧ y < b + 1) then closeK R0 (c + 1) x y else closeK R0 c x y := fun x y h => by
        have : (x < a ∨ (x = a ∧ y < b)) ↔ (x < a ∨ (x = a ∧ y < b + 1)) := by omega
        simp only [this]
      refine if1_runG (fun v H' => v = (closeK R0 c a c && closeK R0 c c b) ∧ H' = H6) (fun Q' q' => ?_) ?_
      · refine ⟨_, rfl, _, rfl, r, _, _, _, rfl, rfl, SqL.of (K := K) u1, atI_nat u2, _, rfl, l1, _, _, _, rfl, rfl, SqL.of (K := K) u3, atI_nat (rg_atG hc), closeK R0 c a c, congrArg V.bl e1, ?_⟩
        cases h1 : closeK R0 c a c with
        | false => exact iteF (q' _ _ ⟨by rw [h1]; rfl, rfl⟩)
        | true => exact iteT ⟨_, rfl, _, rfl, r, _, _, _, rfl, rfl, SqL.of (K := K) w1, atI_nat w2, _, rfl, l2, _, _, _, rfl, rfl, SqL.of (K := K) w3, atI_nat (rg_atG hb), closeK R0 c c b, congrArg V.bl e2, q' _ _ ⟨by rw [h1]; rfl, rfl⟩⟩
      rintro v _ ⟨hv, rfl⟩
      cases v with
      | false =>
        refine iteF ?_
        refine ⟨_, rfl, g6.ext fun x y _ _ => congrArg V.bl ?_⟩
        by_cases cx : x = a ∧ y = b
        · obtain ⟨rfl, rfl⟩ := cx
          show (if x < x ∨ (x = x ∧ y < y) then _ else _) = if x < x ∨ (x = x ∧ y < y + 1) then _ else _
          rw [if_neg (by omega), if_pos (by omega)]
          show _ = (closeK R0 c x y || (closeK R0 c x c && closeK R0 c c y))
          rw [← hv, Bool.or_false]
        · exact next x y cx
      | true =>
        refine iteT ?_
        obtain ⟨ls, l, k1, k2, k3, k4⟩ := g6.set (x := a) (y := b) ha (.bl true)
        refine ⟨_, rfl, _, rfl, r, _, _, _, rfl, rfl, SqL.of (K := K) k1, atI_nat k2, _, rfl, l, _, _, b, rfl, rfl, k3, (by rw [List.length_map, List.length_range]; exact ixN_nat (z := (b : Int)) (by omega) (by omega)), ?_⟩
        refine ⟨_, rfl, k4.ext fun x y _ _ => ?_⟩
        by_cases cx : x = a ∧ y = b
        · rw [if_pos cx]
          obtain ⟨rfl, rfl⟩ := cx
          show _ = V.bl (if x < x ∨ (x = x ∧ y < y + 1) then _ else _)
          rw [if_pos (by omega)]
          show _ = V.bl (closeK R0 c x y || (closeK R0 c x c && closeK R0 c c y))
          rw [← hv, Bool.or_true]
        · rw [if_neg cx]
          exact congrArg V.bl (next x y cx)
    · show V.bl (if x < a ∨ (x = a ∧ y < n) then _ else _) = V.bl (if x < a + 1 then _ else _)
      have : (x < a ∨ (x = a ∧ y < n)) ↔ x < a + 1 := by omega
      simp only [this]
  rintro _ H4 ⟨v3, v4, v6, rfl, g⟩
  rw [← hR] at g
  exact ⟨_, rfl, q r H4 g.same g.grid⟩
end
/-! ### _law_shows: a lattice shown by rows -/
section
open PyProof.Rows
variable {w W_ : World} {K : PySem.W.Frag} {mg : Str → Option Value} {base : Heap} {mm : List (Str × Addr)} {H H' : Hp} {L : Lt}
def optD : Option Nat → Dv
  | none => .non
  | some a => .int (a : Nat)
theorem ld_opt : ∀ o : Option Nat, Ld K H (optD o) (optV o)
  | none => rfl
  | some _ => rfl
theorem inV_none : ∀ os : List (Option Nat), inV .non (os.map optV) = os.any fun o => o.isNone
  | [] => rfl
  | none :: os => by
    show (eqV .non .non || inV .non (os.map optV)) = _
    rw [inV_none os]; rfl
  | some a :: os => by
    show (eqV (.int (a : Nat)) .non || inV .non (os.map optV)) = _
    rw [inV_none os]; rfl
theorem inV_true : ∀ bs : List Bool, inV (.bl true) (bs.map V.bl) = bs.any id
  | [] => rfl
  | b :: bs => by
    show (eqV (.bl b) (.bl true) || inV (.bl true) (bs.map V.bl)) = _
    rw [inV_true bs]
    cases b <;> rfl
theorem at_me {z : Addr} {m : Str} {f : Addr} {k : Prop} (hL : IsLat K mm H z L) (hm : (m, f) ∈ mm) (q : k) : ∃ a C dx fs, V.ref z = V.ref a ∧ H a = some (.ins C dx fs) ∧ Cls K C ∧ Meth K C m f ∧ fs.lookup m = none ∧ k := by
  obtain ⟨C, dx, fs, tn, td, tu, A⟩ := hL
  exact ⟨z, C, dx, fs, rfl, A.at_, A.c.cl, A.c.me _ hm, A.no _ hm, q⟩
theorem ldA_nats : ∀ us : List Nat, LdA K H (us.map fun (c : Nat) => Dv.int (c : Nat)) (us.map fun c => V.int (c : Nat))
  | [] => rfl
  | c :: us => ⟨_, _, rfl, rfl, ldA_nats us⟩
theorem dep_nats : ∀ us : List Nat, Dv.depthA (us.map fun (c : Nat) => Dv.int (c : Nat)) ≤ 1
  | [] => Nat.zero_le _
  | c :: us => by
    have := dep_nats us
    show max 1 (Dv.depthA (us.map fun (c : Nat) => Dv.int (c : Nat))) ≤ 1
    omega
theorem wid_nats : ∀ us : List Nat, Dv.wideA (us.map fun (c : Nat) => Dv.int (c : Nat))
  | [] => trivial
  | c :: us => ⟨trivial, wid_nats us⟩
def sp_lsh (K : PySem.W.Frag) (mm : List (Str × Addr)) : Sp := fun vs H Q _ => ∃ (z na p : Addr) (L : Lt), vs = [.ref z, .ref na, .ref p] ∧ IsLat K mm H z L ∧ 1 ≤ L.n ∧ L.n ≤ 64 ∧ L.names.Nodup ∧ H na = some (.lst (L.names.map V.str)) ∧ GridAt H p L.n (rowV L.le) ∧ L.Ord ∧ Pre L.n L.le ∧ ∀ H', Same H H' → Q (.bl true) H'
end
/-! ### pairs of drawn places -/
section
open PyProof.Rows
variable {w W_ : World} {K : PySem.W.Frag} {mg : Str → Option Value} {base : Heap} {mm : List (Str × Addr)} {H H' : Hp} {L : Lt}
theorem DuosAt.drawn {p c pl : Addr} {ps : List (Nat × Nat)} (h : DuosAt H pl ps) (s : Src K c H p) (ne : pl ≠ p) (b : But p H H') : DuosAt H' pl ps := by
  obtain ⟨ls, h1, h2⟩ := h.ex
  refine ⟨ls, b _ _ ne h1, al_imp h2 fun l q hl => b _ _ (fun e => ?_) hl⟩
  obtain ⟨cs, i, l', m, S⟩ := s
  have := S.at_
  rw [← e, hl] at this
  cases this
theorem duo_ne {pl l : Addr} {as : List Addr} {i j : Int} (h1 : H pl = some (.lst (as.map V.ref))) (h2 : H l = some (.lst [.int i, .int j])) : l ≠ pl := fun e => by
  rw [e, h1] at h2
  have := HO.lst.inj (Option.some.inj h2)
  cases as with
  | nil => simp at this
  | cons a as => simp at this
theorem DuosAt.app {pl l : Addr} {ps : List (Nat × Nat)} {q : Nat × Nat} (h : DuosAt H pl ps) (hl : H l = some (.lst [.int (q.1 : Nat), .int (q.2 : Nat)])) {ls : List V} (e : H pl = some (.lst ls)) : DuosAt (upd H pl (.lst (ls ++ [.ref l]))) pl (ps ++ [q]) := by
  obtain ⟨as, h1, h2⟩ := h.ex
  rw [h1] at e
  obtain rfl : as.map V.ref = ls := HO.lst.inj (Option.some.inj e)
  refine ⟨as ++ [l], by rw [upd_same, List.map_append]; rfl, al_snoc (al_imp h2 fun a b ha => ?_) ?_⟩
  · rw [upd_ne (duo_ne h1 ha)]; exact ha
  · rw [upd_ne (duo_ne h1 hl)]; exact hl
/-- no drawn name -/
theorem no_nameW {x : Str} (h : x.length = 0 ∨ 12 < x.length ∨ ∃ c ∈ x.cps.toList, c ∉ lettersS.cps.toList) : ¬ NameW x := fun w => by
  rcases h with h | h | ⟨c, h1, h2⟩
  · have := w.pos; omega
  · have := w.le; omega
  · exact h2 (w.all c h1)
/-- a comprehension over a list of objects -/
theorem lc_refs {β γ : Type} {G : Hp → V → γ → Prop} (f : β → γ) {a : Addr} {as : List Addr} {bs : List β} {g : TG} {tt : TT} {te : TE} {vs : List Nat} {σ : L2.St} {H1 : Hp} {D : Addr} {Qd : Hp → Prop} (hD : H1 D = none)
    (kG : ∀ {H H' : Hp} {v : V} {m : γ}, Same H H' → G H v m → G H' v m) (kD : ∀ {H : Hp} {v : V} {m : γ} {zs : List V}, G H v m → G (upd H D (.lst zs)) v m) (xz : as.length ≤ 100000) (hab : as.length = bs.length) (hl : H1 a = some (.lst (as.map V.ref)))
    (hs : ∀ (i : Nat) (l : Addr) (b : β) (H : Hp) (Nx : V → Hp → Prop) (Ex : Hp → Prop), as[i]? = some l → bs[i]? = some b → Same H1 H → (∃ ys, H D = some (.lst ys)) → (∀ y H2, Same H H2 → G H2 y (f b) → Nx y H2) →
      g (.ref l) (wipe σ vs) H fun σ2 H2 => wipe σ2 vs = wipe σ vs ∧ tt σ2 H2 fun b H3 => if b = true then te σ2 H3 Nx else Ex H3)
    (hd : ∀ H ys, Same H1 H → H D = some (.lst ys) → Al (G H) ys (bs.map f) → Qd H) :
    ∃ W : Nat → Nat → Hp → Prop, (∃ m, W 0 m (upd H1 D (.lst []))) ∧ ∀ i m H, W i m H →
      ((Itl K a).stop i H ∧ Qd H) ∨ ((Itl K a).go i H ∧ ∃ Nx : Hp → Prop, (∀ H', Nx H' → ∃ m', m' < m ∧ W (i + 1) m' H') ∧ ∀ x H', (Itl K a).yld i H x H' → g x (wipe σ vs) H' fun σ2 H2 => wipe σ2 vs = wipe σ vs ∧ tt σ2 H2 fun b H3 =>
        if b = true then te σ2 H3 fun y H4 => ∃ acc, H4 D = some (.lst acc) ∧ acc.length < sizeLine ∧ Nx (upd H4 D (.lst (acc ++ [y]))) else Nx H3) := by
  refine lc_foldF (walk_list (K := K) (a := a) (xs := as.map V.ref)) (fun H => Same H1 H) (fun i H ys => Al (G H) ys ((bs.take i).map f)) (Same.new hD _) (fun H ys zs s _ => s.mut hD _) .nil (fun i H ys zs xs r _ => al_imp r fun v b => kD) (fun i H ys r => ?_) (fun H s => SqL.of (K := K) (s _ _ hl)) ?_ (fun H ys s hy r => hd H ys s hy (by rw [List.length_map, hab, List.take_length] at r; exact r))
  · have := al_len r
    rw [this, List.length_map, List.length_take]
    omega
  · rintro i x H2 H3 ys Nx Ex hi s hy r ⟨e, hx⟩ k1 k2
    obtain rfl : H2 = H3 := e.symm
    rw [List.length_map] at hi
    have ha : as[i]? = some as[i] := List.getElem?_eq_getElem hi
    have hb : bs[i]? = some (bs[i]'(hab ▸ hi)) := List.getElem?_eq_getElem (hab ▸ hi)
    have hx : (as.map V.ref)[i]? = some x := hx
    rw [List.getElem?_map, ha] at hx
    obtain rfl := Option.some.inj hx
    have et : bs.take (i + 1) = bs.take i ++ [bs[i]'(hab ▸ hi)] := by rw [List.take_add_one, hb]; rfl
    rw [et, List.map_append] at k1
    refine hs i as[i] _ H2 Nx Ex ha hb s ⟨_, hy⟩ fun y H4 s4 gy => k1 y H4 (s.trans s4) (s4 _ _ hy) ?_
    exact al_snoc (al_imp r fun v b => kG s4) gy
/-- a list of new pairs of names, by places -/
def duoS (xs : List Str) (q : Nat × Nat) : Str × Str := (xs.getD q.1 Str.empty, xs.getD q.2 Str.empty)
def TupsAt (H : Hp) (D : Addr) (ts : List Addr) (xs : List Str) (ps : List (Nat × Nat)) : Prop := H D = some (.lst (ts.map V.ref)) ∧ Al (fun t q => H t = some (.tup [.str (duoS xs q).1, .str (duoS xs q).2])) ts ps
theorem TupsAt.same {D : Addr} {ts : List Addr} {xs : List Str} {ps : List (Nat × Nat)} (h : TupsAt H D ts xs ps) (s : Same H H') : TupsAt H' D ts xs ps := ⟨s _ _ h.1, al_imp h.2 fun _ _ e => s _ _ e⟩
theorem get_d {xs : List Str} {i : Nat} (h : i < xs.length) : xs[i]? = some (xs.getD i Str.empty) := by rw [List.getD_eq_getElem?_getD, List.getElem?_eq_getElem h]; rfl
theorem TupsAt.pairs {D : Addr} {ts : List Addr} {xs : List Str} {ps : List (Nat × Nat)} (h : TupsAt H D ts xs ps) (hp : ∀ q ∈ ps, q.1 < xs.length ∧ q.2 < xs.length) : PairsAt K H D xs ps := by
  refine ⟨ts.map V.ref, SqL.of (K := K) h.1, by rw [List.length_map]; exact al_len h.2, fun i q hq => ?_⟩
  have hi := (List.getElem?_eq_some_iff.mp hq).1
  have hi2 : i < ts.length := by rw [al_len h.2]; exact hi
  obtain ⟨q', e1, e2⟩ := al_get h.2 (List.getElem?_eq_getElem hi2)
  rw [hq] at e1
  obtain rfl := Option.some.inj e1
  have m := hp q (List.mem_of_getElem? hq)
  exact ⟨ts[i], _, _, by rw [List.getElem?_map, List.getElem?_eq_getElem hi2]; rfl, SqT.of (K := K) e2, get_d m.1, get_d m.2⟩
theorem al_unmap {α β γ : Type} {f : γ → β} {F : α → β → Prop} : ∀ {as : List α} {bs : List γ}, Al F as (bs.map f) → Al (fun a b => F a (f b)) as bs
  | [], [], _ => .nil
  | [], _ :: _, h => nomatch h
  | _ :: _, [], h => nomatch h
  | _ :: _, _ :: _, .cons x h => .cons x (al_unmap h)
theorem TupsAt.of {D : Addr} {ys : List V} {xs : List Str} {ps : List (Nat × Nat)} (hy : H D = some (.lst ys)) (h : Al (fun v (x : Str × Str) => ∃ t, v = V.ref t ∧ t ≠ D ∧ H t = some (.tup [.str x.1, .str x.2])) ys (ps.map (duoS xs))) : ∃ ts, TupsAt H D ts xs ps := by
  obtain ⟨ts, rfl, h2⟩ := al_refs h
  exact ⟨ts, hy, al_imp (al_unmap h2) fun _ _ e => e.2⟩
theorem str_d {xs : List Str} {i : Nat} (h : i < xs.length) : (xs.map V.str)[i]? = some (.str (xs.getD i Str.empty)) := by rw [List.getElem?_map, get_d h]; rfl
theorem NameW.strOk {x : Str} (h : NameW x) : PyData.strOk x = true := by
  unfold PyData.strOk
  rw [← Array.all_toList, List.all_eq_true]
  intro c hc
  have q : ∀ c ∈ lettersS.cps.toList, decide (c < 0x110000) = true := by decide +kernel
  exact q c (h.all c hc)
def strD (xs : List Str) : List PyData := xs.map PyData.str
theorem dpAll_strs {H : Hp} : ∀ xs : List Str, DpAll K H (xs.map V.str) (strD xs)
  | [] => .nil
  | x :: xs => .cons (.str _) (dpAll_strs xs)
theorem lay_strs : ∀ {xs : List Str}, (∀ x ∈ xs, PyData.strOk x = true) → PyData.canLayAll0 (strD xs) = true
  | [], _ => by simp [strD, PyData.canLayAll0]
  | x :: xs, h => by
    have := lay_strs (xs := xs) fun y hy => h y (List.mem_cons_of_mem _ hy)
    have h1 := h x List.mem_cons_self
    simp [strD, PyData.canLayAll0, PyData.canLay0, h1] at this ⊢; exact this
theorem depth_strs : ∀ xs : List Str, PyData.depthAll (strD xs) ≤ 1
  | [] => by simp [strD, PyData.depthAll]
  | x :: xs => by have := depth_strs xs; simp [strD, PyData.depthAll, PyData.depth] at this ⊢; omega
def tupD (qs : List (Str × Str)) : List PyData := qs.map fun q => .tuple [.str q.1, .str q.2]
theorem dpAll_tups {xs : List Str} : ∀ {ts : List Addr} {ps : List (Nat × Nat)}, Al (fun t q => H t = some (.tup [.str (duoS xs q).1, .str (duoS xs q).2])) ts ps → DpAll K H (ts.map V.ref) (tupD (ps.map (duoS xs)))
  | [], [], _ => .nil
  | [], _ :: _, h => nomatch h
  | _ :: _, [], h => nomatch h
  | _ :: _, _ :: _, .cons x h => .cons (.tup (SqT.of (K := K) x) (.cons (.str _) (.cons (.str _) .nil))) (dpAll_tups h)
theorem lay_tups : ∀ {qs : List (Str × Str)}, (∀ q ∈ qs, PyData.strOk q.1 = true ∧ PyData.strOk q.2 = true) → PyData.canLayAll0 (tupD qs) = true
  | [], _ => by simp [tupD, PyData.canLayAll0]
  | x :: xs, h => by
    have := lay_tups (qs := xs) fun y hy => h y (List.mem_cons_of_mem _ hy)
    have h1 := h x List.mem_cons_self
    simp [tupD, PyData.canLayAll0, PyData.canLay0, h1.1, h1.2] at this ⊢; exact this
theorem depth_tups : ∀ qs : List (Str × Str), PyData.depthAll (tupD qs) ≤ 2
  | [] => by simp [tupD, PyData.depthAll]
  | x :: xs => by have := depth_tups xs; simp [tupD, PyData.depthAll, PyData.depth] at this ⊢; omega
/-- [names, pairs] as data -/
def givenD (xs : List Str) (ps : List (Nat × Nat)) : PyData := .list [.list (strD xs), .list (tupD (ps.map (duoS xs)))]
theorem given_shp {xs : List Str} {ps : List (Nat × Nat)} (nw : ∀ x ∈ xs, NameW x) (hp : ∀ q ∈ ps, q.1 < xs.length ∧ q.2 < xs.length) : Shp 190 (givenD xs ps) := by
  refine ⟨?_, ?_⟩
  · have h1 := lay_strs (xs := xs) fun x hx => (nw x hx).strOk
    have h2 := lay_tups (qs := ps.map (duoS xs)) fun q hq => by
      obtain ⟨z, hz, rfl⟩ := List.mem_map.mp hq
      exact ⟨(nw _ (List.mem_of_getElem? (get_d (hp z hz).1))).strOk, (nw _ (List.mem_of_getElem? (get_d (hp z hz).2))).strOk⟩
    simp [givenD, PyData.canLay0, PyData.canLayAll0, h1, h2]
  · have h1 := depth_strs xs
    have h2 := depth_tups (ps.map (duoS xs))
    simp [givenD, PyData.depth, PyData.depthAll]; omega
theorem given_dp {xs : List Str} {ps : List (Nat × Nat)} {g a D : Addr} {ts : List Addr} (hg : H g = some (.lst [.ref a, .ref D])) (ha : H a = some (.lst (xs.map V.str))) (hD : TupsAt H D ts xs ps) : Dp K H (.ref g) (givenD xs ps) :=
  .lst (SqL.of (K := K) hg) (.cons (.lst (SqL.of (K := K) ha) (dpAll_strs _)) (.cons (.lst (SqL.of (K := K) hD.1) (dpAll_tups hD.2)) .nil))
theorem closed_le {n : Nat} {ps : List (Nat × Nat)} (hp : ∀ q ∈ ps, q.1 < n ∧ q.2 < n) : closedR n ps = fun a b => reachB ps a b :=
  funext fun _ => funext fun _ => Bool.eq_iff_iff.mpr ((closed_reach hp).trans reachB_iff.symm)
theorem pairW_duo (xs : List Str) (ps : List (Nat × Nat)) : pairW xs ps = (ps.map (duoS xs)).map fun q => q.1 ++ (" " : Str) ++ q.2 := by
  unfold pairW
  rw [List.map_map]
  rfl
theorem duo_len {xs : List Str} (hx : ∀ x ∈ xs, x.length ≤ 12) {q : Nat × Nat} (hq : q.1 < xs.length ∧ q.2 < xs.length) : (duoS xs q).1.length ≤ 12 ∧ (duoS xs q).2.length ≤ 12 :=
  ⟨hx _ (List.mem_of_getElem? (get_d hq.1)), hx _ (List.mem_of_getElem? (get_d hq.2))⟩
end
/-! ### sets of a drawn order, as ascending numbers -/
section
open PyProof.Rows
variable {w W_ : World} {K : PySem.W.Frag} {mg : Str → Option Value} {base : Heap} {mm : List (Str × Addr)} {H H' : Hp} {L : Lt}
theorem al_cat {α β : Type} {F : α → β → Prop} {as cs : List α} {bs ds : List β} (h : Al F as bs) (g : Al F cs ds) : Al F (as ++ cs) (bs ++ ds) := by
  induction h with
  | nil => exact g
  | cons x _ ih => exact .cons x ih
/-- a comprehension over range(n) that draws -/
theorem lc_rngD {β : Type} {G : Hp → V → β → Prop} (B : Nat → β → Prop) {p ce : Addr} {n : Nat} {g : TG} {tt : TT} {te : TE} {vs : List Nat} {σ : L2.St} {H1 : Hp} {D : Addr} {Qd : Hp → Prop} (hD : H1 D = none) (s1 : Src K ce H1 p) (hc : ∃ o, H1 ce = some o)
    (kG : ∀ {H H' : Hp} {v : V} {m : β}, Src K ce H p → But p H H' → G H v m → G H' v m) (kD : ∀ {H : Hp} {v : V} {m : β} {zs : List V}, G H v m → G (upd H D (.lst zs)) v m) (xz : n ≤ 1000)
    (hs : ∀ (i : Nat) (H : Hp) (Nx : V → Hp → Prop) (Ex : Hp → Prop), i < n → But p H1 H → Src K ce H p → (∃ ys, H D = some (.lst ys)) → (∀ y H2 b, B i b → But p H H2 → Src K ce H2 p → G H2 y b → Nx y H2) → (∀ H2, But p H H2 → Src K ce H2 p → Ex H2) →
      g (.int (i : Nat)) (wipe σ vs) H fun σ2 H2 => wipe σ2 vs = wipe σ vs ∧ tt σ2 H2 fun b H3 => if b = true then te σ2 H3 Nx else Ex H3)
    (hd : ∀ H ys bs, But p H1 H → Src K ce H p → H D = some (.lst ys) → Al (G H) ys bs → (∀ b ∈ bs, ∃ i, i < n ∧ B i b) → bs.length ≤ n → Qd H) :
    ∃ W : Nat → Nat → Hp → Prop, (∃ m, W 0 m (upd H1 D (.lst []))) ∧ ∀ i m H, W i m H →
      ((Itr 0 n).stop i H ∧ Qd H) ∨ ((Itr 0 n).go i H ∧ ∃ Nx : Hp → Prop, (∀ H', Nx H' → ∃ m', m' < m ∧ W (i + 1) m' H') ∧ ∀ x H', (Itr 0 n).yld i H x H' → g x (wipe σ vs) H' fun σ2 H2 => wipe σ2 vs = wipe σ vs ∧ tt σ2 H2 fun b H3 =>
        if b = true then te σ2 H3 fun y H4 => ∃ acc, H4 D = some (.lst acc) ∧ acc.length < sizeLine ∧ Nx (upd H4 D (.lst (acc ++ [y]))) else Nx H3) := by
  have Dp : D ≠ p := s1.ne hD
  have Dc : D ≠ ce := fun e => by obtain ⟨o, hc⟩ := hc; rw [← e, hD] at hc; cases hc
  refine lc_foldF (walk_range (lo := 0) (n := n)) (fun H => But p H1 H ∧ Src K ce H p) (fun i H ys => ∃ bs, Al (G H) ys bs ∧ (∀ b ∈ bs, ∃ i, i < n ∧ B i b) ∧ bs.length ≤ i ∧ i ≤ n) ⟨(Same.new hD _).but p, s1.upd Dp Dc _⟩ (fun H ys zs s hy => ⟨fun b o n h => ?_, s.2.upd Dp Dc _⟩) ⟨[], .nil, (fun b hb => by cases hb), Nat.le_refl _, Nat.zero_le _⟩ (fun i H ys zs xs ⟨bs, r, r2⟩ _ => ⟨bs, al_imp r fun v b => kD, r2⟩) (fun i H ys ⟨bs, r, _, r3, r4⟩ => ?_) (fun _ _ => trivial) ?_ (fun H ys s hy ⟨bs, r1, r2, r3, _⟩ => hd H ys bs s.1 s.2 hy r1 r2 r3)
  · rw [upd_ne (fun e => by rw [e, hD] at h; cases h)]
    exact s.1 b o n h
  · rw [al_len r]
    omega
  · rintro i x H2 H3 ys Nx Ex hi s hy ⟨bs, r1, r2, r3, r4⟩ ⟨e, hx⟩ k1 k2
    obtain rfl : H2 = H3 := e.symm
    obtain rfl := yfn0 hx
    refine hs i H2 Nx Ex hi s.1 s.2 ⟨_, hy⟩ (fun y H4 b hb b4 s4 gy => k1 y H4 ⟨s.1.trans b4, s4⟩ (b4 _ _ Dp hy) ⟨bs ++ [b], al_snoc (al_imp r1 fun v b => kG s.2 b4) gy, fun z hz => ?_, by rw [List.length_append]; show _ + 1 ≤ _; omega, hi⟩) (fun H4 b4 s4 => k2 H4 ⟨s.1.trans b4, s4⟩ (b4 _ _ Dp hy) ⟨bs, al_imp r1 fun v b => kG s.2 b4, r2, by omega, hi⟩)
    rcases List.mem_append.mp hz with hz | hz
    · exact r2 z hz
    · obtain rfl : z = b := by simpa using hz
      exact ⟨i, hi, hb⟩
theorem ne_src {p ce l : Addr} {i : Int} {xs : List V} (s : Src K ce H p) (hl : H l = some (.lst (.int i :: xs))) : l ≠ p := fun e => by
  obtain ⟨cs, k, l', m, S⟩ := s
  have := S.at_
  rw [← e, hl] at this
  cases this
theorem DuosAt.of {D : Addr} {ys : List V} {qs : List (Nat × Nat)} (hy : H D = some (.lst ys)) (h : Al (fun v (q : Nat × Nat) => ∃ t, v = V.ref t ∧ t ≠ D ∧ H t = some (.lst [.int (q.1 : Nat), .int (q.2 : Nat)])) ys qs) : DuosAt H D qs := by
  obtain ⟨ts, rfl, h2⟩ := al_refs h
  exact ⟨ts, hy, al_imp h2 fun _ _ e => e.2⟩
theorem DuosAt.cat {a b l : Addr} {ps qs : List (Nat × Nat)} {xs ys : List V} (h : DuosAt H a ps) (g : DuosAt H b qs) (ea : H a = some (.lst xs)) (eb : H b = some (.lst ys)) (hl : H l = none) : DuosAt (upd H l (.lst (xs ++ ys))) l (ps ++ qs) := by
  obtain ⟨as, h1, h2⟩ := h.ex
  obtain ⟨bs, g1, g2⟩ := g.ex
  rw [h1] at ea
  rw [g1] at eb
  obtain rfl := HO.lst.inj (Option.some.inj ea)
  obtain rfl := HO.lst.inj (Option.some.inj eb)
  refine ⟨as ++ bs, by rw [upd_same, List.map_append], ?_⟩
  have s := Same.new hl (.lst (as.map V.ref ++ bs.map V.ref))
  exact al_imp (F := fun x (q : Nat × Nat) => H x = some (.lst [.int (q.1 : Nat), .int (q.2 : Nat)])) (al_cat h2 g2) fun x q e => s _ _ e
theorem set1_run {te : TE} {g : TG} {D : Ends} {σ : L2.St} {H : Hp} (Pv : V → Hp → Prop) (h : ∀ Q' : V → Hp → Prop, (∀ v H', Pv v H' → Q' v H') → te σ H Q') (q : ∀ v H', Pv v H' → g v σ H' D.nx) : tAsg te g D σ H := h _ fun v H' p => q v H' p
theorem bit0 (a : Nat) : decide (V.int (((0 : Nat) : Int) / 2 ^ a % 2) = V.int 1) = false := by
  rw [decide_eq_false_iff_not]
  intro e
  have := V.int.inj e
  simp at this
def sp_lhp (K : PySem.W.Frag) : Sp := fun vs H Q _ => ∃ (p ce : Addr) (m : Nat), vs = [.ref p, .int (m : Nat)] ∧ Src K ce H p ∧ (∃ o, H ce = some o) ∧ ce ≠ p ∧ m ≤ 4 ∧
  ∀ (l o h : Addr) (hs : List Nat) (H' : Hp), But p H H' → Src K ce H' p → H l = none → H h = none → H' l = some (.lst [.ref o, .ref h]) → H' h = some (.lst (natV hs)) → hs.Pairwise (· < ·) → (∀ x ∈ hs, x < 2 ^ m) → 1 ≤ hs.length → Q (.ref l) H'
theorem ok_lhp (T : Tx K mg w) : FnOk PL w K mg base CX0 2 T.a__law_heaps T.d__law_heaps ["source", "most"] (sp_lhp K) := by
  have G__law_pick := ok__law_pick (P := PL) (w := w) (base := base) T
  have G__law_closed := ok_lcl (w := w) (base := base) T
  refine T.F__law_heaps.ok sc__law_heaps (fun vs H Q E h => ?_) (fun cdv A outer s H vs Q E hr h => ?_)
  · obtain ⟨p, ce, m, rfl, _⟩ := h
    rfl
  obtain ⟨p, ce, m, rfl, src, ⟨oc, hc⟩, cp, m4, q⟩ := h
  refine ⟨_, pss_cons (ps_set (i := 2) sc__law_heaps.nd rfl (Or.inl rfl) (pe_call G__law_pick (hr.mono (by omega)) (by rfl) T.g__law_pick T.F__law_pick.kp T.b__law_pick .nil pass0 (pa_cons (pv 0) (pa_cons (pe_op op_add (pv 1) pe_int) pa_nil))))
    (pss_cons (ps_set (i := 3) sc__law_heaps.nd rfl (Or.inl rfl) (pe_lst pa_nil))
    (pss_cons (ps_for PassesOwn.never rfl (pi_range1 (by rfl) T.n_range (pa_cons (pv 2) pa_nil)) (pg_name (i := 4) sc__law_heaps.nd rfl (Or.inr rfl)) (pss_one (ps_set (i := 3) sc__law_heaps.nd rfl (Or.inl rfl) (pe_op op_cat (pv 3) (pe_lc (own := [("a", 5)]) (g := gName 5) rfl sc__law_heaps.nd (pi_range1 (by rfl) T.n_range (pa_cons (pv 4) pa_nil)) (blkOk_by (N := N__law_heaps) (sc := defScope St__law_heaps) (by decide +kernel)) (fun _ _ _ _ _ => (pg_name (i := 5) sc__law_heaps.nd rfl (Or.inl rfl))) (fun _ _ _ _ _ => (pts_one (pt_cmpR op_eq (pe_call G__law_pick (hr.mono (by omega)) (by rfl) T.g__law_pick T.F__law_pick.kp T.b__law_pick .nil pass0 (pa_cons (pv 0) (pa_cons pe_int pa_nil))) pe_int (nomark _)))) (fun _ _ _ _ _ => (pe_lst (pa_cons (pv 5) (pa_cons (pv 4) pa_nil)))))))))
    (pss_cons (ps_set (i := 6) sc__law_heaps.nd rfl (Or.inr rfl) (pe_call G__law_closed (hr.mono (by omega)) (by rfl) T.g__law_closed T.F__law_closed.kp T.b__law_closed .nil pass0 (pa_cons (pv 2) (pa_cons (pv 3) pa_nil))))
    (pss_cons (ps_set (i := 7) sc__law_heaps.nd rfl (Or.inl rfl) (pe_lst pa_nil))
    (pss_cons (ps_for PassesOwn.never rfl (pi_range1 (by rfl) T.n_range (pa_cons (pe_op op_shl pe_int (pv 2)) pa_nil)) (pg_name (i := 8) sc__law_heaps.nd rfl (Or.inr rfl)) (pss_cons (ps_set (i := 9) sc__law_heaps.nd rfl (Or.inr rfl) (pe_lc (own := [("a", 5)]) (g := gName 5) rfl sc__law_heaps.nd (pi_range1 (by rfl) T.n_range (pa_cons (pv 2) pa_nil)) (blkOk_by (N := N__law_heaps) (sc := defScope St__law_heaps) (by decide +kernel)) (fun _ _ _ _ _ => (pg_name (i := 5) sc__law_heaps.nd rfl (Or.inl rfl))) (fun _ _ _ _ _ => (pts_one (pt_cmpR op_eq (pe_op op_mod (pe_callTy call_int1 (by rfl) T.n_int (by decide +kernel) (pa_cons (pe_op op_shr (pv 8) (pv 5)) pa_nil)) pe_int) pe_int (nomark _)))) (fun _ _ _ _ _ => (pv 5))))
    (pss_cons (ps_set (i := 10) sc__law_heaps.nd rfl (Or.inl rfl) pe_bl)
    (pss_cons (ps_for PassesOwn.never rfl (pi_list (pv 9)) (pg_name (i := 4) sc__law_heaps.nd rfl (Or.inr rfl)) (pss_cons (ps_setLc (i := 11) (own := [("a", 5)]) (g := gName 5) rfl sc__law_heaps.nd rfl rfl (sw_true rfl rfl rfl (by decide +kernel)) (pi_range1 (by rfl) T.n_range (pa_cons (pv 2) pa_nil)) (blkOk_by (N := N__law_heaps) (sc := defScope St__law_heaps) (by decide +kernel)) (fun _ _ _ _ _ => (pg_name (i := 5) sc__law_heaps.nd rfl (Or.inl rfl))) (fun _ _ _ _ _ => (pts_one (PW.pt (pw_and (pt_val (pe_ix (kx_ix_list K) (pe_ix (kx_ix_list K) (pv 6) (pv 5) (fun _ _ => rfl)) (pv 4) (fun _ _ => rfl))) (pw_and1 (pt_cmpR (kx_op_notIn_seq K) (pv 5) (pv 9) (by rfl))))))) (fun _ _ _ _ _ => (pv 5)))
    (pss_one (ps_set (i := 10) sc__law_heaps.nd rfl (Or.inl rfl) (pe_and (pv 10) (pe_one (pe_cmpR (op_eqX hr.un2) (pv 11) (pe_lst pa_nil) (nomark _))))))))
    (pss_one (ps_if (pt_val (pv 10)) (pss_one (ps_expr (pe_bm PySem.F.plainAttrs_list PySem.F.slot_list_append PySem.F.type_list_append mt_append (pv 7) (pa_cons (pv 8) pa_nil)))) pss_nil))))))
    (pss_one (ps_ret (pe_lst (pa_cons (pv 6) (pa_cons (pv 7) pa_nil)))))))))), ?_⟩
  refine ⟨_, rfl, _, rfl, _, _, rfl, rfl, p, ce, (m : Int) + 1, rfl, src, by omega, fun n H1 b1 s1 n0 n1 => ?_⟩
  obtain ⟨n, rfl⟩ : ∃ i : Nat, n = (i : Int) := ⟨n.toNat, by omega⟩
  have nm : n ≤ m := by omega
  dsimp only [gName]
  refine set_run (fun v H' => ∃ pl, v = .ref pl ∧ H' pl = some (.lst []) ∧ H1 pl = none ∧ Same H1 H') (fun Q' q' => ⟨(by show 0 ≤ sizeLine; decide), newQ (.lst []) fun l hl s e => q' _ _ ⟨l, rfl, e, hl, s⟩⟩) ?_
  rintro _ H2 ⟨pl, rfl, epl, pl0, s2⟩
  have hc1 := b1 _ _ cp hc
  have plp : pl ≠ p := s1.ne pl0
  have plc : pl ≠ ce := fun e => by rw [← e, pl0] at hc1; cases hc1
  dsimp only [gName]
  show tSeq _ _ _ [some (.ref p), some (.int (m : Nat)), some (.int (n : Nat)), some (.ref pl), none, none, none, none, none, none, none, none] H2
  -- the pairs
  refine st_run (fun σ H' => ∃ (pl : Addr) (ps : List (Nat × Nat)) (v4 v5 : Option V), σ = [some (.ref p), some (.int (m : Nat)), some (.int (n : Nat)), some (.ref pl), v4, v5, none, none, none, none, none, none] ∧ But p H H' ∧ Src K ce H' p ∧ DuosAt H' pl ps ∧ ps.length ≤ 100 ∧ ∀ q ∈ ps, q.1 < n ∧ q.2 < n) (fun D' hD q' => ?_) ?_
  · refine ⟨_, rfl, _, rfl, by omega, by omega, for_range (lo := 0) (n := n) (fun k σ H' => ∃ (pl : Addr) (ps : List (Nat × Nat)) (v4 v5 : Option V), σ = [some (.ref p), some (.int (m : Nat)), some (.int (n : Nat)), some (.ref pl), v4, v5, none, none, none, none, none, none] ∧ But p H H' ∧ Src K ce H' p ∧ pl ≠ p ∧ DuosAt H' pl ps ∧ ps.length ≤ k * n ∧ ∀ q ∈ ps, q.1 < n ∧ q.2 < n) ⟨pl, [], none, none, rfl, b1.trans (s2.but p), s1.same s2, plp, ⟨[], epl, .nil⟩, Nat.zero_le _, fun q hq => by simp at hq⟩ ?_ ?_⟩
    · rintro b σ H3 hb ⟨pl, ps, v4, v5, rfl, b3, s3, plp, hd, lps, hps⟩
      have hb : b < n := hb
      rw [show (0 : Int) + (b : Int) = ((b : Nat) : Int) by omega]
      dsimp only [gName]
      refine ⟨_, rfl, _, rfl, _, rfl, by omega, by omega, fun D hD => ?_⟩
      have hc3 := b3 _ _ cp hc
      refine lc_rngD (n := b) (G := fun H v (q : Nat × Nat) => ∃ t, v = V.ref t ∧ t ≠ D ∧ H t = some (.lst [.int (q.1 : Nat), .int (q.2 : Nat)])) (fun i q => q = (i, b)) hD s3 ⟨_, hc3⟩ (fun s bb ⟨t, e, n, h⟩ => ⟨t, e, n, bb _ _ (ne_src s h) h⟩) (fun ⟨t, e, n, h⟩ => ⟨t, e, n, (upd_ne n).trans h⟩) (by omega) ?_ (fun H4 ys qs b4 s4 hy r1 r2 r3 => ?_)
      · rintro i H4 Nx Ex hi b4 s4 ⟨ys, hy⟩ ky kn
        refine ⟨rfl, ?_⟩
        refine ⟨_, rfl, p, ce, 3, rfl, s4, by decide, fun d H5 b5 s5 d0 d1 => ⟨rfl, _, rfl, ?_⟩⟩
        have Dp : D ≠ p := s3.ne hD
        refine ite2 (fun _ => ?_) (fun _ => kn _ b5 s5)
        refine ⟨_, rfl, _, rfl, (by show 2 ≤ sizeLine; decide), newQ (.lst [.int (i : Nat), .int (b : Nat)]) fun t ht s6 e6 => ?_⟩
        exact ky _ _ (i, b) rfl (b5.trans (s6.but p)) (s5.same s6) ⟨t, rfl, (fun e => by rw [e, b5 _ _ Dp hy] at ht; cases ht), e6⟩
      · have hd4 := hd.drawn s3 plp b4
        have hq4 := DuosAt.of hy r1
        obtain ⟨as, h1, h2⟩ := id hd4.ex
        have qb : qs.length ≤ n := by omega
        have l1 : as.length = ps.length := al_len h2
        have l2 : ys.length = qs.length := al_len r1
        have nn : ps.length ≤ 4 * 4 := Nat.le_trans lps (Nat.mul_le_mul (by omega) (by omega))
        refine ⟨pl, D, _, _, rfl, rfl, h1, hy, small_line (by rw [List.length_map, l1, l2]; omega), newQ (.lst (as.map V.ref ++ ys)) fun t ht s5 e5 => ?_⟩
        have hcat := hd4.cat hq4 h1 hy ht
        refine ⟨t, ps ++ qs, _, _, rfl, (b3.trans b4).trans (s5.but p), s4.same s5, s4.ne ht, hcat, ?_, fun q hq => ?_⟩
        · rw [List.length_append, Nat.succ_mul]; omega
        · rcases List.mem_append.mp hq with hq | hq
          · exact hps q hq
          · obtain ⟨i, hi, rfl⟩ := r2 q hq
            exact ⟨by omega, hb⟩
    · rintro σ H3 ⟨pl, ps, v4, v5, rfl, b3, s3, plp, hd, lps, hps⟩
      refine q' _ _ ⟨pl, ps, v4, v5, rfl, b3, s3, hd, Nat.le_trans lps ?_, hps⟩
      have : n ≤ 4 := by omega
      calc n * n ≤ 4 * 4 := Nat.mul_le_mul this this
        _ ≤ 100 := by decide
  clear s1 s2 pl0 epl plp plc hc1 b1
  rintro _ H3 ⟨pl, ps, v4, v5, rfl, b3, s3, hd, lps, hps⟩
  refine ⟨_, rfl, _, rfl, pl, n, ps, rfl, hd, by omega, by omega, hps, fun r H4 s4 hg => ?_⟩
  dsimp only [gName]
  refine set_run (fun v H' => ∃ hp, v = .ref hp ∧ H' hp = some (.lst []) ∧ H4 hp = none ∧ Same H4 H') (fun Q' q' => ⟨(by show 0 ≤ sizeLine; decide), newQ (.lst []) fun l hl s e => q' _ _ ⟨l, rfl, e, hl, s⟩⟩) ?_
  rintro _ H5 ⟨hp, rfl, ehp, hp0, s5⟩
  dsimp only [gName]
  have s35 := s4.trans s5
  have src4 := s3.same s4
  have b4 := b3.trans (s4.but p)
  have hpp : hp ≠ p := src4.ne hp0
  have hc4 := b4 _ _ cp hc
  have hpc : hp ≠ ce := fun e => by rw [← e, hp0] at hc4; cases hc4
  have hh0 : H hp = none := by
    cases e : H hp with
    | none => rfl
    | some o => have := b4 _ _ hpp e; rw [hp0] at this; cases this
  clear hd lps hps s3 b3 s4 s35
  refine st_run (fun σ H' => ∃ (hs : List Nat) (v4 v5 v8 v9 v10 v11 : Option V), σ = [some (.ref p), some (.int (m : Nat)), some (.int (n : Nat)), some (.ref pl), v4, v5, some (.ref r), some (.ref hp), v8, v9, v10, v11] ∧ Same H4 H' ∧ H' hp = some (.lst (natV hs)) ∧ hs.Pairwise (· < ·) ∧ (∀ x ∈ hs, x < 2 ^ n) ∧ hs ≠ []) (fun D' hD q' => ?_) ?_
  · refine rg_run (fun z H' => z = ((2 ^ n : Nat) : Int) ∧ H5 = H') (fun Q' q'' => ?_) ?_
    · refine ⟨_, rfl, _, _, rfl, rfl, ⟨Int.natCast_nonneg _, (by show ((n : Nat) : Int) ≤ _; omega), by decide⟩, q'' _ _ ⟨?_, rfl⟩⟩
      exact one_shl n
    rintro _ _ ⟨rfl, rfl⟩
    have n16 : 2 ^ n ≤ 16 := Nat.le_trans (Nat.pow_le_pow_right (by decide) (show n ≤ 4 by omega)) (by decide)
    have z16 : ((2 ^ n : Nat) : Int) ≤ 16 := Int.ofNat_le.mpr n16
    refine ⟨_, rfl, Int.natCast_nonneg _, (by generalize ((2 ^ n : Nat) : Int) = z at z16 ⊢; omega), for_range (lo := 0) (n := 2 ^ n) (fun i σ H' => ∃ (hs : List Nat) (v4 v5 v8 v9 v10 v11 : Option V), σ = [some (.ref p), some (.int (m : Nat)), some (.int (n : Nat)), some (.ref pl), v4, v5, some (.ref r), some (.ref hp), v8, v9, v10, v11] ∧ Same H4 H' ∧ H' hp = some (.lst (natV hs)) ∧ hs.Pairwise (· < ·) ∧ (∀ x ∈ hs, x < i) ∧ (0 < i → hs ≠ [])) ⟨[], _, _, _, _, _, _, rfl, s5, ehp, .nil, (fun x hx => by cases hx), (fun h => absurd h (Nat.lt_irrefl 0))⟩ ?_ ?_⟩
    · rintro i σ H6 hi ⟨hs, v4, v5, v8, v9, v10, v11, rfl, s6, eh6, pw, lt, nn⟩
      rw [show (0 : Int) + (i : Int) = ((i : Nat) : Int) by omega]
      dsimp only [gName]
      have hg6 := hg.same s6
      refine ⟨_, rfl, _, rfl, by omega, by omega, fun D hD => ?_⟩
      refine lc_rng (n := n) (G := fun _ v (y : Nat) => v = V.int (y : Nat)) (fun a => decide (V.int (((i : Nat) : Int) / 2 ^ a % 2) = V.int 1)) id hD (fun _ h => h) (fun h => h) (by omega) ?_ (fun H7 zs s7 hz rr => ?_)
      · rintro a H7 Nx Ex ha s7 _ ky kn
        refine ⟨rfl, ?_⟩
        refine ⟨_, rfl, _, rfl, _, _, rfl, rfl, Int.natCast_nonneg _, .inl ⟨_, rfl, _, _, rfl, rfl, (by show (0 : Int) < 2; decide), rfl, _, rfl, ?_⟩⟩
        show if decide (V.int (((i : Nat) : Int) / 2 ^ a % 2) = V.int 1) = true then _ else _
        cases e : decide (V.int (((i : Nat) : Int) / 2 ^ a % 2) = V.int 1) with
        | true => exact iteT ⟨_, rfl, ky e _ _ (Same.refl _) rfl⟩
        | false => exact iteF (kn e _ (Same.refl _))
      rw [List.map_id] at rr
      rw [al_map rr] at hz
      have mem0 : i = 0 → (List.range n).filter (fun a => decide (V.int (((i : Nat) : Int) / 2 ^ a % 2) = V.int 1)) = [] := fun e => by
        subst e
        exact List.filter_eq_nil_iff.mpr fun a _ => by rw [bit0]; decide
      have memn : ∀ x ∈ (List.range n).filter (fun a => decide (V.int (((i : Nat) : Int) / 2 ^ a % 2) = V.int 1)), x < n := fun x hx => List.mem_range.mp (List.mem_filter.mp hx).1
      have meml : ((List.range n).filter (fun a => decide (V.int (((i : Nat) : Int) / 2 ^ a % 2) = V.int 1))).length ≤ n := filter_le _ _
      generalize (List.range n).filter (fun a => decide (V.int (((i : Nat) : Int) / 2 ^ a % 2) = V.int 1)) = us at hz mem0 memn meml
      have hz : H7 D = some (.lst (natV us)) := hz
      have hg7 := hg6.same s7
      dsimp only [gName]
      refine set_run (fun v H' => v = .bl true ∧ H7 = H') (fun Q' q' => q' _ _ ⟨rfl, rfl⟩) ?_
      rintro _ _ ⟨rfl, rfl⟩
      dsimp only [gName]
      have s47 := s6.trans s7
      have eh7 := s7 _ _ eh6
      clear s6 s7 hg6 eh6 rr
      show tSeq _ _ _ [some (.ref p), some (.int (m : Nat)), some (.int (n : Nat)), some (.ref pl), v4, v5, some (.ref r), some (.ref hp), some (.int (i : Nat)), some (.ref D), some (.bl true), v11] H7
      refine st_run (fun σ H' => ∃ (f : Bool) (v4 v5 v11 : Option V), σ = [some (.ref p), some (.int (m : Nat)), some (.int (n : Nat)), some (.ref pl), v4, v5, some (.ref r), some (.ref hp), some (.int (i : Nat)), some (.ref D), some (.bl f), v11] ∧ Same H7 H' ∧ (i = 0 → f = true)) (fun D'' hD' kk => ?_) ?_
      · refine ⟨_, rfl, D, rfl, ⟨_, SqL.of (K := K) hz⟩, for_list (K := K) (a := D) (xs := natV us) (fun j σ H' => ∃ (f : Bool) (v4 v5 v11 : Option V), σ = [some (.ref p), some (.int (m : Nat)), some (.int (n : Nat)), some (.ref pl), v4, v5, some (.ref r), some (.ref hp), some (.int (i : Nat)), some (.ref D), some (.bl f), v11] ∧ Same H7 H' ∧ (i = 0 → f = true)) ⟨true, _, _, _, rfl, Same.refl _, fun _ => rfl⟩ (fun j σ H' _ ⟨_, _, _, _, _, s, _⟩ => SqL.of (K := K) (s _ _ hz)) ?_ (fun σ H' h => kk _ _ h)⟩
        rintro j x σ H8 hx ⟨f, v4, v5, v11, rfl, s8, hf⟩
        obtain ⟨b, hb, rfl⟩ := nat_at hx
        have hbn := memn _ (List.mem_of_getElem? hb)
        have i0 : i ≠ 0 := fun e => by rw [mem0 e] at hb; simp at hb
        dsimp only [gName]
        refine ⟨_, rfl, _, rfl, by omega, by omega, fun D2 hD2 => ?_⟩
        have hg8 := hg7.same s8
        refine lc_rng (n := n) (G := fun _ v (y : Nat) => v = V.int (y : Nat)) (fun a => closedR n ps a b && !(decide (a ∈ us))) id hD2 (fun _ h => h) (fun h => h) (by omega) ?_ (fun H9 zs s9 hz9 rr => ?_)
        · rintro a H9 Nx Ex ha s9 _ ky kn
          refine ⟨rfl, ?_⟩
          obtain ⟨la, ra, a1, a2, a3⟩ := (hg8.same s9).row ha
          refine ⟨_, rfl, _, rfl, r, _, _, _, rfl, rfl, SqL.of (K := K) a1, atI_nat a2, _, rfl, ra, _, _, _, rfl, rfl, SqL.of (K := K) a3, atI_nat (rg_atG hbn), closedR n ps a b, rfl, ?_⟩
          cases cl : closedR n ps a b with
          | false => exact iteF (kn (by rw [cl]; rfl) _ (Same.refl _))
          | true =>
            refine iteT ?_
            refine ⟨_, rfl, _, rfl, D, _, rfl, .inl (SqL.of (K := K) (s9 _ _ (s8 _ _ hz))), rfl, flat_nats _, _, rfl, ?_⟩
            rw [if_pos rfl, inV_nats]
            cases ed : decide (a ∈ us) with
            | false => exact iteT ⟨_, rfl, ky (by rw [cl, ed]; rfl) _ _ (Same.refl _) rfl⟩
            | true => exact iteF (kn (by rw [cl, ed]; rfl) _ (Same.refl _))
        · rw [List.map_id] at rr
          rw [al_map rr] at hz9
          generalize (List.range n).filter (fun a => closedR n ps a b && !(decide (a ∈ us))) = ws at hz9
          have hz9 : H9 D2 = some (.lst (natV ws)) := hz9
          dsimp only [gName]
          refine set1_run (fun v H' => ∃ f2 : Bool, v = .bl f2 ∧ Same H9 H') (fun Q' q' => ?_) ?_
          · refine ⟨_, rfl, _, rfl, ?_⟩
            cases f with
            | false => exact iteF (q' _ _ ⟨false, rfl, Same.refl _⟩)
            | true =>
              refine iteT ?_
              refine ⟨_, rfl, (by show 0 ≤ sizeLine; decide), newQ (.lst []) fun l0 hl0 s10 e10 => ?_⟩
              exact ⟨.list (natD ws), .list (natD []), dp_nats (SqL.of (K := K) (s10 _ _ hz9)), dp_nats (SqL.of (K := K) e10), shp_nats, shp_nats, q' _ _ ⟨_, rfl, s10⟩⟩
          rintro _ H10 ⟨f2, rfl, s10⟩
          exact ⟨f2, _, _, _, rfl, (s8.trans s9).trans s10, fun e => absurd e i0⟩
      rintro _ H8 ⟨f, v4, v5, v11, rfl, s8, hf⟩
      refine ⟨_, rfl, _, rfl, ?_⟩
      have eh8 := s8 _ _ eh7
      have hl : (natV hs).length ≤ 100000 := by
        have : hs.length ≤ 16 := by
          have := (show hs.Nodup from pw.imp fun h => Nat.ne_of_lt h)
          have h2 := List.Nodup.length_le_of_subset this (fun x hx => List.mem_range.mpr (lt x hx))
          rw [List.length_range] at h2
          omega
        rw [natV_length]; omega
      cases f with
      | false =>
        refine iteF ?_
        exact ⟨hs, _, _, _, _, _, _, rfl, s47.trans s8, eh8, pw, fun x hx => Nat.lt_succ_of_lt (lt x hx), fun _ => nn (Nat.pos_of_ne_zero fun e => by have := hf e; cases this)⟩
      | true =>
        refine iteT ?_
        refine ⟨_, rfl, .inl ⟨rfl, _, SqL.of (K := K) eh8⟩, _, rfl, hp, _, _, rfl, rfl, eh8, smallM (by omega), ?_⟩
        refine ⟨hs ++ [i], _, _, _, _, _, _, rfl, same_skip (s47.trans s8) hp0 ((But.refl _ _).upd _), ?_, ?_, fun x hx => ?_, fun _ => by simp⟩
        · rw [upd_same, natV_append]; rfl
        · exact List.pairwise_append.mpr ⟨pw, List.pairwise_singleton _ _, fun x hx y hy => (List.mem_singleton.mp hy) ▸ lt x hx⟩
        · rcases List.mem_append.mp hx with hx | hx
          · exact Nat.lt_succ_of_lt (lt x hx)
          · obtain rfl : x = i := by simpa using hx
            exact Nat.lt_succ_self _
    · rintro σ H6 ⟨hs, v4, v5, v8, v9, v10, v11, rfl, s6, eh6, pw, lt, nn⟩
      exact q' _ _ ⟨hs, _, _, _, _, _, _, rfl, s6, eh6, pw, lt, nn (Nat.pow_pos (by decide))⟩
  rintro _ H6 ⟨hs, v4, v5, v8, v9, v10, v11, rfl, s6, eh6, pw, lt, nn⟩
  refine ⟨_, rfl, _, rfl, (by show 2 ≤ sizeLine; decide), newQ (.lst [.ref r, .ref hp]) fun l hl s7 e7 => ?_⟩
  have hl0 : H l = none := by
    cases e : H l with
    | none => rfl
    | some o =>
      have lp : l ≠ p := (src4.same s6).ne hl
      have := s6 _ _ (b4 _ _ lp e)
      rw [hl] at this; cases this
  refine q l r hp hs _ (b4.trans ((s6.trans s7).but p)) (src4.same (s6.trans s7)) hl0 hh0 e7 (s7 _ _ eh6) pw (fun x hx => Nat.lt_of_lt_of_le (lt x hx) (Nat.pow_le_pow_right (by decide) nm)) ?_
  cases hs with
  | nil => exact absurd rfl nn
  | cons _ _ => exact Nat.succ_le_succ (Nat.zero_le _)
end
/-! ### lattices of sets, written as orders -/
section
open PyProof.Rows
variable {w W_ : World} {K : PySem.W.Frag} {mg : Str → Option Value} {base : Heap} {mm : List (Str × Addr)} {H H' : Hp} {L : Lt}
theorem range_getD (hs : List Nat) : hs = (List.range hs.length).map fun i => hs.getD i 0 := by
  refine List.ext_getElem? fun i => ?_
  by_cases h : i < hs.length
  · rw [List.getElem?_map, List.getElem?_range h, List.getElem?_eq_getElem h]
    show some hs[i] = some (hs.getD i 0)
    rw [List.getD_eq_getElem?_getD, List.getElem?_eq_getElem h]; rfl
  · rw [List.getElem?_eq_none (by omega), List.getElem?_eq_none (by rw [List.length_map, List.length_range]; omega)]
theorem row_of (hs : List Nat) (f : Nat → V) : hs.map f = (List.range hs.length).map fun j => f (hs.getD j 0) := by
  have e := congrArg (List.map f) (range_getD hs)
  rw [List.map_map] at e
  exact e
def partR (hs : List Nat) : Nat → Nat → Bool := fun i j => part (hs.getD i 0) (hs.getD j 0)
def sp_lpt : Sp := fun vs H Q _ => ∃ (h : Addr) (hs : List Nat), vs = [.ref h] ∧ H h = some (.lst (natV hs)) ∧ hs.length ≤ 64 ∧ ∀ r H', Same H H' → H r = none → GridAt H' r hs.length (rowV (partR hs)) → Q (.ref r) H'
theorem ok_lpt (T : Tx K mg w) : FnOk PL w K mg base CX0 1 T.a__law_parts T.d__law_parts ["heaps"] sp_lpt := by
  refine T.F__law_parts.ok sc__law_parts (fun vs H Q E h => ?_) (fun cdv A outer s H vs Q E hr h => ?_)
  · obtain ⟨h, hs, rfl, _⟩ := h
    rfl
  obtain ⟨h, hs, rfl, eh, l64, q⟩ := h
  refine ⟨_, pss_one (ps_ret (pe_lc (own := [("a", 2)]) (g := gName 2) (tt := tYes) rfl sc__law_parts.nd (pi_list (pv 0)) (blkOk_by (N := N__law_parts) (sc := defScope St__law_parts) (by decide +kernel)) (fun _ _ _ _ _ => (pg_name (i := 2) sc__law_parts.nd rfl (Or.inr rfl))) (fun _ _ _ _ _ => pts_nil) (fun _ _ _ _ _ => (pe_lc (own := [("b", 1)]) (g := gName 1) (tt := tYes) rfl sc__law_parts.nd (kx_pi_list K (pi_list (pv 0))) (blkOk_by (N := N__law_parts) (by first | rfl | kernel_rfl)) (fun _ _ _ _ _ => (pg_name (i := 1) sc__law_parts.nd rfl (Or.inl rfl))) (fun _ _ _ _ _ => pts_nil) (fun _ _ _ _ _ => (pe_cmpR op_eq (pe_op op_and (pv 2) (pv 1)) (pv 2) (nomark _))))))), ?_⟩
  refine ⟨_, rfl, h, rfl, ⟨_, SqL.of (K := K) eh⟩, fun D hD => ?_⟩
  refine lc_lst (G := fun H v (a : Nat) => ∃ l, v = V.ref l ∧ (l ≠ D ∧ H l = some (.lst (hs.map fun b => V.bl (part a b))))) (fun _ => true) id hD (fun s ⟨l, e, n, h⟩ => ⟨l, e, n, s _ _ h⟩) (fun ⟨l, e, n, h⟩ => ⟨l, e, n, (upd_ne n).trans h⟩) (by omega) eh ?_ (fun H1 ys s1 hy rr => ?_)
  · rintro a H1 Nx Ex ha s1 ⟨ys, hy⟩ ky kn
    refine ⟨rfl, ?_⟩
    refine lcY ?_
    refine ⟨_, rfl, h, rfl, ⟨_, SqL.of (K := K) (s1 _ _ eh)⟩, fun D2 hD2 => ?_⟩
    refine lc_lst (G := fun _ v (b : Nat) => v = V.bl (part a b)) (fun _ => true) id hD2 (fun _ h => h) (fun h => h) (by omega) (s1 _ _ eh) ?_ (fun H2 zs s2 hz rr => ?_)
    · rintro b H2 Nx' Ex' hb s2 _ ky' kn'
      refine ⟨rfl, ?_⟩
      refine lcY ?_
      refine ⟨_, rfl, _, rfl, _, _, rfl, rfl, _, rfl, rfl, ?_⟩
      show Nx' (V.bl (decide (V.int (Builtin.bitAnd (a : Int) (b : Int)) = V.int (a : Int)))) H2
      rw [and_int_nat, int_ext]
      exact ky' rfl _ _ (Same.refl _) rfl
    · rw [flt_idG, List.map_id] at rr
      rw [al_map rr] at hz
      exact ky rfl _ _ s2 ⟨D2, rfl, (fun e => by rw [e, hy] at hD2; cases hD2), hz⟩
  · rw [flt_idG, List.map_id, range_getD hs] at rr
    have rr := al_unmap rr
    refine q D _ s1 hD (grid_of hy (al_imp rr fun v i ⟨l, e, n, hl⟩ => ⟨l, e, n, hl.trans ?_⟩))
    exact congrArg (fun z => some (HO.lst z)) (by rw [List.map_map]; rfl)
theorem TupsAt.cat {a b l : Addr} {ts us : List Addr} {xs : List Str} {ps qs : List (Nat × Nat)} (h : TupsAt H a ts xs ps) (g : TupsAt H b us xs qs) (hl : H l = none) : TupsAt (upd H l (.lst (ts.map V.ref ++ us.map V.ref))) l (ts ++ us) xs (ps ++ qs) := by
  have s := Same.new hl (.lst (ts.map V.ref ++ us.map V.ref))
  exact ⟨by rw [upd_same, List.map_append], al_imp (al_cat h.2 g.2) fun _ _ e => s _ _ e⟩
/-- the names p0, p1, .. -/
def sgS (sign : Str) (n : Nat) : List Str := (List.range n).map fun k => sign ++ natS k
theorem sgS_ok : ∀ n : Fin 9, ((sgS "p" n.val).Nodup ∧ (sgS "q" n.val).Nodup) ∧ ((sgS "p" n.val ++ sgS "q" n.val).all fun x => decide (1 ≤ x.length) && decide (x.length ≤ 12) && x.cps.toList.all fun c => lettersS.cps.toList.contains c) = true := by decide +kernel
theorem names_wG {xs : List Str} (h : (xs.all fun x => decide (1 ≤ x.length) && decide (x.length ≤ 12) && x.cps.toList.all fun c => lettersS.cps.toList.contains c) = true) : ∀ x ∈ xs, NameW x := fun x hx => by
  have := List.all_eq_true.mp h x hx
  simp only [Bool.and_eq_true, decide_eq_true_eq] at this
  exact ⟨this.1.1, this.1.2, fun c hc => by
    have := List.all_eq_true.mp this.2 c hc
    exact List.contains_iff_mem.mp this⟩
theorem sgS_nd {sign : Str} (hs : sign = "p" ∨ sign = "q") {n : Nat} (h : n ≤ 8) : (sgS sign n).Nodup := by
  have := (sgS_ok ⟨n, by omega⟩).1
  rcases hs with rfl | rfl
  · exact this.1
  · exact this.2
theorem sgS_w {sign : Str} (hs : sign = "p" ∨ sign = "q") {n : Nat} (h : n ≤ 8) : ∀ x ∈ sgS sign n, NameW x := by
  have := names_wG (sgS_ok ⟨n, by omega⟩).2
  rcases hs with rfl | rfl
  · exact fun x hx => this x (List.mem_append.mpr (.inl hx))
  · exact fun x hx => this x (List.mem_append.mpr (.inr hx))
theorem sgS_len (sign : Str) (n : Nat) : (sgS sign n).length = n := by unfold sgS; rw [List.length_map, List.length_range]
theorem all_reachG {n : Nat} {R : Nat → Nat → Bool} (pre : Pre n R) {ps : List (Nat × Nat)} (h : ∀ a b, (a, b) ∈ ps ↔ a < n ∧ b < n ∧ R a b = true) {a b : Nat} (ha : a < n) (hb : b < n) : reachB ps a b = R a b := by
  refine Bool.eq_iff_iff.mpr (reachB_iff.trans ⟨fun r => ?_, fun l => .step .here ((h a b).mpr ⟨ha, hb, l⟩)⟩)
  have : b < n ∧ R a b = true := Reach.of_closed (fun b => b < n ∧ R a b = true) ⟨ha, pre.refl a ha⟩ (fun b c m hb => by
    obtain ⟨_, h2, h4⟩ := (h b c).mp m
    exact ⟨h2, pre.trans a b c ha hb.1 h2 hb.2 h4⟩) r
  exact this.2
theorem partR_pre (hs : List Nat) (n : Nat) : Pre n (partR hs) := ⟨fun a _ => part_refl _, fun a b c _ _ _ h1 h2 => part_bits.mpr fun j h => part_bits.mp h2 j (part_bits.mp h1 j h)⟩
theorem partR_anti {hs : List Nat} (nd : hs.Nodup) {a b : Nat} (ha : a < hs.length) (hb : b < hs.length) (h1 : partR hs a b = true) (h2 : partR hs b a = true) : a = b := by
  have e : hs.getD a 0 = hs.getD b 0 := part_anti h1 h2
  rw [List.getD_eq_getElem?_getD, List.getD_eq_getElem?_getD, List.getElem?_eq_getElem ha, List.getElem?_eq_getElem hb] at e
  exact (List.getElem_inj nd).mp e
/-- what is known of a lattice that the law made of sets -/
structure MadeL (sign : Str) (L : Lt) : Prop where
  ord : L.Ord
  pre : Pre L.n L.le
  n1 : 1 ≤ L.n
  n8 : L.n ≤ 8
  nms : L.names = sgS sign L.n
  d : L.depth = 1
  lab : L.label.length ≤ 3000
  fit : L.Fit
theorem cut_from {hs : List Nat} {k : Nat} (h : k ≤ hs.length) : cutV (natV hs) (some (k : Int)) none = natV (hs.drop k) := by
  unfold cutV
  rw [sIx_some, sIx_none, natV_length, Nat.min_eq_left h]
  unfold natV
  rw [← List.map_drop]
  exact List.take_of_length_le (by rw [List.length_map, List.length_drop]; exact Nat.le_refl _)
theorem cut_upto {hs : List Nat} {k : Nat} (h : k ≤ hs.length) : cutV (natV hs) none (some (k : Int)) = natV (hs.take k) := by
  unfold cutV
  rw [sIx_none, sIx_some, natV_length, Nat.min_eq_left h, List.drop_zero, Nat.sub_zero]
  unfold natV
  rw [List.map_take]
theorem duoS_at {xs : List Str} {a b : Nat} {x y : Str} (hx : xs[a]? = some x) (hy : xs[b]? = some y) : duoS xs (a, b) = (x, y) := by
  unfold duoS
  rw [List.getD_eq_getElem?_getD, List.getD_eq_getElem?_getD, hx, hy]; rfl
def sp_lmd (K : PySem.W.Frag) (mm : List (Str × Addr)) : Sp := fun vs H Q _ => ∃ (p ce : Addr) (sign : Str), vs = [.ref p, .str sign] ∧ (sign = "p" ∨ sign = "q") ∧ Src K ce H p ∧ (∃ o, H ce = some o) ∧ ce ≠ p ∧
  ∀ (l z na r : Addr) (L : Lt) (H' : Hp), But p H H' → Src K ce H' p → H l = none → H' l = some (.lst [.ref z, .ref na, .ref r]) → IsLat K mm H' z L → H' na = some (.lst (L.names.map V.str)) → GridAt H' r L.n (rowV L.le) → MadeL sign L → Q (.ref l) H'
end
/-! ### orders of pairs and turned ones -/
section
open PyProof.Rows
variable {K : PySem.W.Frag} {H H' : Hp} {L R : Lt}
theorem GridAt.drawn {p ce t : Addr} {n : Nat} {f : Nat → Nat → V} (h : GridAt H t n f) (s : Src K ce H p) (ne : t ≠ p) (hf : ∀ a b q, f a b ≠ .ref q) (b : But p H H') : GridAt H' t n f := by
  obtain ⟨ls, h1, h2, h3⟩ := h.ex
  obtain ⟨cs, i, l', m, S⟩ := s
  refine ⟨ls, b _ _ ne h1, h2, fun a l e => b _ _ (fun z => ?_) (h3 a l e)⟩
  have h4 := h3 a l e
  have hn : a < n := by have := (List.getElem?_eq_some_iff.mp e).1; omega
  rw [z, S.at_] at h4
  have h5 := HO.lst.inj (Option.some.inj h4)
  have h6 : (.ref ce : V) = f a 0 := by
    have := congrArg (fun l => l[0]?) h5
    simp only [List.getElem?_map, List.getElem?_range (show 0 < n by omega)] at this
    exact Option.some.inj this
  exact hf a 0 ce h6.symm
theorem GridAt.ne {p ce t : Addr} {n : Nat} {f : Nat → Nat → V} (h : GridAt H t n f) (s : Src K ce H p) : t ≠ p := fun e => by
  obtain ⟨ls, h1, _⟩ := h.ex
  obtain ⟨cs, i, l', m, S⟩ := s
  rw [e, S.at_] at h1
  have := HO.lst.inj (Option.some.inj h1)
  match ls, this with
  | _ :: [], h => simp at h
  | _ :: _ :: _, h => simp at h
theorem ne_strs {p ce a : Addr} {xs : List Str} (s : Src K ce H p) (h : H a = some (.lst (xs.map V.str))) : a ≠ p := fun e => by
  obtain ⟨cs, i, l', m, S⟩ := s
  rw [e, S.at_] at h
  have := HO.lst.inj (Option.some.inj h)
  cases xs with
  | nil => simp at this
  | cons x xs => simp at this
theorem div_lt2 {k m n : Nat} (h : k < n * m) (hm : 1 ≤ m) : k / m < n := (Nat.div_lt_iff_lt_mul hm).mpr h
theorem pair_ordG (A : L.Ord) (B : R.Ord) : (pairL L R).Ord := by
  refine ⟨fun a ha => ?_, fun a b ha hb h1 h2 => ?_⟩
  · rw [pairL_n] at ha
    have hm : 1 ≤ R.n := Nat.pos_of_ne_zero fun e => by rw [e] at ha; simp at ha
    show (L.le _ _ && R.le _ _) = true
    rw [A.refl _ (div_lt2 ha hm), B.refl _ (Nat.mod_lt _ hm)]; rfl
  · rw [pairL_n] at ha hb
    have hm : 1 ≤ R.n := Nat.pos_of_ne_zero fun e => by rw [e] at ha; simp at ha
    have h1 : (L.le (a / R.n) (b / R.n) && R.le (a % R.n) (b % R.n)) = true := h1
    have h2 : (L.le (b / R.n) (a / R.n) && R.le (b % R.n) (a % R.n)) = true := h2
    obtain ⟨x1, x2⟩ := Bool.and_eq_true_iff.mp h1
    obtain ⟨y1, y2⟩ := Bool.and_eq_true_iff.mp h2
    have e1 := A.anti _ _ (div_lt2 ha hm) (div_lt2 hb hm) x1 y1
    have e2 := B.anti _ _ (Nat.mod_lt _ hm) (Nat.mod_lt _ hm) x2 y2
    have := Nat.div_add_mod a R.n
    have := Nat.div_add_mod b R.n
    rw [e1, e2] at *
    omega
theorem pair_preG (A : Pre L.n L.le) (B : Pre R.n R.le) : Pre (pairL L R).n (pairL L R).le := by
  rw [pairL_n]
  refine ⟨fun a ha => ?_, fun a b c ha hb hc h1 h2 => ?_⟩
  · have hm : 1 ≤ R.n := Nat.pos_of_ne_zero fun e => by rw [e] at ha; simp at ha
    show (L.le _ _ && R.le _ _) = true
    rw [A.refl _ (div_lt2 ha hm), B.refl _ (Nat.mod_lt _ hm)]; rfl
  · have hm : 1 ≤ R.n := Nat.pos_of_ne_zero fun e => by rw [e] at ha; simp at ha
    have h1 : (L.le (a / R.n) (b / R.n) && R.le (a % R.n) (b % R.n)) = true := h1
    have h2 : (L.le (b / R.n) (c / R.n) && R.le (b % R.n) (c % R.n)) = true := h2
    obtain ⟨x1, x2⟩ := Bool.and_eq_true_iff.mp h1
    obtain ⟨y1, y2⟩ := Bool.and_eq_true_iff.mp h2
    show (L.le _ _ && R.le _ _) = true
    rw [A.trans _ _ _ (div_lt2 ha hm) (div_lt2 hb hm) (div_lt2 hc hm) x1 y1, B.trans _ _ _ (Nat.mod_lt _ hm) (Nat.mod_lt _ hm) (Nat.mod_lt _ hm) x2 y2]; rfl
theorem turn_ordG (A : L.Ord) : (turnL L).Ord := ⟨A.refl, fun a b ha hb h1 h2 => A.anti a b ha hb h2 h1⟩
theorem turn_preG (A : Pre L.n L.le) : Pre (turnL L).n (turnL L).le := A.flip
end
/-! ### first faults: the plain law; first_fault of any order -/
section
open PyProof.Rows
def fsW {α : Type} (n : Nat) (f : Nat → Option α) : Option α := (List.range n).findSome? f
theorem fsW_none {α : Type} {n : Nat} {f : Nat → Option α} (h : ∀ j, j < n → f j = none) : fsW n f = none := List.findSome?_eq_none_iff.mpr fun j hj => h j (List.mem_range.mp hj)
theorem fsW_some {α : Type} {f : Nat → Option α} {a : Nat} {x : α} (h : f a = some x) (hb : ∀ j, j < a → f j = none) : ∀ {n : Nat}, a < n → fsW n f = some x
  | n + 1, ha => by
    unfold fsW
    rw [List.range_succ, List.findSome?_append]
    rcases Nat.lt_or_ge a n with l | l
    · rw [show (List.range n).findSome? f = some x from fsW_some h hb l]; rfl
    · obtain rfl : a = n := by omega
      rw [show (List.range a).findSome? f = none from fsW_none hb]
      show List.findSome? f [a] = some x
      rw [List.findSome?_cons, h]
def first2 (n : Nat) (p : Nat → Nat → Bool) : Option (Nat × Nat) := fsW n fun a => (first n (p a)).map fun b => (a, b)
theorem first2_some {n a b : Nat} {p : Nat → Nat → Bool} (ha : a < n) (hb : b < n) (h : p a b = true) (h1 : ∀ a', a' < a → ∀ b', b' < n → p a' b' = false) (h2 : ∀ b', b' < b → p a b' = false) : first2 n p = some (a, b) :=
  fsW_some (a := a) (by show (first n (p a)).map _ = _; rw [first_is hb h h2]; rfl) (fun j hj => by show (first n (p j)).map _ = _; rw [first_not (h1 j hj)]; rfl) ha
theorem first2_none {n : Nat} {p : Nat → Nat → Bool} (h : ∀ a, a < n → ∀ b, b < n → p a b = false) : first2 n p = none :=
  fsW_none fun j hj => by show (first n (p j)).map _ = _; rw [first_not (h j hj)]; rfl
def first3 (n : Nat) (p : Nat → Nat → Nat → Bool) : Option (Nat × Nat × Nat) := fsW n fun a => (first2 n (p a)).map fun q => (a, q)
theorem first3_some {n a b c : Nat} {p : Nat → Nat → Nat → Bool} (ha : a < n) (hb : b < n) (hc : c < n) (h : p a b c = true) (h1 : ∀ a', a' < a → ∀ b', b' < n → ∀ c', c' < n → p a' b' c' = false) (h2 : ∀ b', b' < b → ∀ c', c' < n → p a b' c' = false) (h3 : ∀ c', c' < c → p a b c' = false) : first3 n p = some (a, b, c) :=
  fsW_some (a := a) (by show (first2 n (p a)).map _ = _; rw [first2_some hb hc h h2 h3]; rfl) (fun j hj => by show (first2 n (p j)).map _ = _; rw [first2_none (h1 j hj)]; rfl) ha
theorem first3_none {n : Nat} {p : Nat → Nat → Nat → Bool} (h : ∀ a, a < n → ∀ b, b < n → ∀ c, c < n → p a b c = false) : first3 n p = none :=
  fsW_none fun j hj => by show (first2 n (p j)).map _ = _; rw [first2_none (h j hj)]; rfl
namespace Lt
def obr (L : Lt) (a b : Nat) : Bool := !(a == b) && (L.le a b && L.le b a)
def jbr (L : Lt) (a b : Nat) : Bool := (L.join a b).isNone
def mbr (L : Lt) (a b : Nat) : Bool := (L.meet a b).isNone
def jnG (L : Lt) (a b : Nat) : Nat := (L.join a b).getD 0
def mtG (L : Lt) (a b : Nat) : Nat := (L.meet a b).getD 0
def sbr (L : Lt) (a b c : Nat) : Bool := !(L.mtG a (L.jnG b c) == L.jnG (L.mtG a b) (L.mtG a c))
def pbr (L : Lt) : Nat → Nat → Nat → Bool
  | 0 => L.obr
  | 1 => L.jbr
  | _ => L.mbr
end Lt
def wbr : Nat → Str
  | 0 => "order"
  | 1 => "join"
  | _ => "meet"
/-- the first rule that fails, with its first values -/
def Lt.fltW (L : Lt) : Option (Str × List Nat) :=
  match first2 L.n L.obr with
  | some (a, b) => some ("order", [a, b])
  | none => match first2 L.n L.jbr with
    | some (a, b) => some ("join", [a, b])
    | none => match first2 L.n L.mbr with
      | some (a, b) => some ("meet", [a, b])
      | none => match first3 L.n L.sbr with
        | some (a, b, c) => some ("spread", [a, b, c])
        | none => none
theorem flt_two {L : Lt} {i a b : Nat} (hi : i < 3) (h : ∀ j, j < i → first2 L.n (L.pbr j) = none) (e : first2 L.n (L.pbr i) = some (a, b)) : L.fltW = some (wbr i, [a, b]) := by
  unfold Lt.fltW
  match i, hi with
  | 0, _ => rw [show first2 L.n L.obr = some (a, b) from e]; rfl
  | 1, _ => rw [show first2 L.n L.obr = none from h 0 (by decide), show first2 L.n L.jbr = some (a, b) from e]; rfl
  | 2, _ => rw [show first2 L.n L.obr = none from h 0 (by decide), show first2 L.n L.jbr = none from h 1 (by decide), show first2 L.n L.mbr = some (a, b) from e]; rfl
theorem flt_three {L : Lt} {a b c : Nat} (h : ∀ j, j < 3 → first2 L.n (L.pbr j) = none) (e : first3 L.n L.sbr = some (a, b, c)) : L.fltW = some (("spread" : Str), [a, b, c]) := by
  unfold Lt.fltW
  rw [show first2 L.n L.obr = none from h 0 (by decide), show first2 L.n L.jbr = none from h 1 (by decide), show first2 L.n L.mbr = none from h 2 (by decide), e]
theorem flt_none {L : Lt} (h : ∀ j, j < 3 → first2 L.n (L.pbr j) = none) (e : first3 L.n L.sbr = none) : L.fltW = none := by
  unfold Lt.fltW
  rw [show first2 L.n L.obr = none from h 0 (by decide), show first2 L.n L.jbr = none from h 1 (by decide), show first2 L.n L.mbr = none from h 2 (by decide), e]
/-- where no join and no meet lacks -/
theorem first2_no {n : Nat} {p : Nat → Nat → Bool} (h : first2 n p = none) {a b : Nat} (ha : a < n) (hb : b < n) : p a b = false := by
  have h1 := List.findSome?_eq_none_iff.mp h a (List.mem_range.mpr ha)
  have h2 : first n (p a) = none := by
    cases e : first n (p a) with
    | none => rfl
    | some x => have h1 : (first n (p a)).map (fun b => (a, b)) = none := h1; rw [e] at h1; cases h1
  exact first_none h2 b hb
theorem join_is {L : Lt} (h : first2 L.n L.jbr = none) {a b : Nat} (ha : a < L.n) (hb : b < L.n) : L.join a b = some (L.jnG a b) ∧ L.jnG a b < L.n := by
  have := first2_no h ha hb
  unfold Lt.jbr at this
  unfold Lt.jnG
  cases e : L.join a b with
  | none => rw [e] at this; cases this
  | some k => exact ⟨rfl, (first_some e).1⟩
theorem meet_is {L : Lt} (h : first2 L.n L.mbr = none) {a b : Nat} (ha : a < L.n) (hb : b < L.n) : L.meet a b = some (L.mtG a b) ∧ L.mtG a b < L.n := by
  have := first2_no h ha hb
  unfold Lt.mbr at this
  unfold Lt.mtG
  cases e : L.meet a b with
  | none => rw [e] at this; cases this
  | some k => exact ⟨rfl, (first_some e).1⟩
def fltD (xs : List Str) : Option (Str × List Nat) → Dv
  | none => .non
  | some (w, ps) => .tup [.str w, .tup (ps.map fun a => .str (xs.getD a Str.empty))]
theorem opt_ne (x y : Nat) : (!decide (optV (some x) = optV (some y))) = !(x == y) := by
  rw [show optV (some x) = V.int (x : Nat) from rfl, show optV (some y) = V.int (y : Nat) from rfl, int_ext]
theorem opt_no (o : Option Nat) : decide (optV o = V.non) = o.isNone := by
  cases o with
  | none => rfl
  | some k => exact decide_eq_false fun z => by cases z
variable {P : Program} {w W_ : World} {K : PySem.W.Frag} {mg : Str → Option Value} {base : Heap} {H H' : Hp}
theorem fun_name {x x' q q' : Str} {st st' : Stmt} {f : Addr} {d d' : FuncData} (F : Fun K x q st f d) (F' : Fun K x' q' st' f d') : x = x' := by
  obtain ⟨oc, od, kV, doc, pm, an, cdv, ct, osl, rfl, lk, _⟩ := F.ex
  obtain ⟨oc', od', kV', doc', pm', an', cdv', ct', osl', rfl, lk', _⟩ := F'.ex
  rw [lk] at lk'
  injection Option.some.inj lk' with h1 h2 h3 h4
  injection h3 with h5
  exact congrArg FuncData.name h5
def sp_brkG (K : PySem.W.Frag) (mm : List (Str × Addr)) (p : Lt → Nat → Nat → Bool) : Sp := fun vs H Q _ => ∃ (z : Addr) (L : Lt) (a b : Nat), vs = [.ref z, .int (a : Nat), .int (b : Nat)] ∧ IsLat K mm H z L ∧ L.n ≤ 64 ∧ a < L.n ∧ b < L.n ∧ ∀ H', Same H H' → Q (.bl (p L a b)) H'
theorem ok_obrkG (T : Tx K mg W_) : FnOk P w K mg base CX0 3 T.a_order_broken T.d_order_broken ["lattice", "a", "b"] (sp_brkG K T.mm Lt.obr) := by
  have G_Lattice_within_at := ok_within (P := P) (w := w) (base := base) T
  refine T.F_order_broken.ok sc_order_broken (fun vs H Q E h => ?_) (fun cdv A outer s H vs Q E hr h => ?_)
  · obtain ⟨z, L, a, b, rfl, _⟩ := h
    rfl
  obtain ⟨z, L, a, b, rfl, hz, n64, ha, hb, q⟩ := h
  refine ⟨_, pss_one (ps_ret (pe_and (pe_cmpR op_ne (pv 1) (pv 2) (nomark _)) (pe_and (pe_methG (pv 0) G_Lattice_within_at (hr.mono (by omega)) T.b_Lattice_within_at .nil pass0 (pa_cons (pv 1) (pa_cons (pv 2) pa_nil))) (pe_one (pe_methG (pv 0) G_Lattice_within_at (hr.mono (by omega)) T.b_Lattice_within_at .nil pass0 (pa_cons (pv 2) (pa_cons (pv 1) pa_nil))))))), ?_⟩
  refine ⟨_, rfl, _, rfl, rfl, _, rfl, ?_⟩
  rw [int_ext]
  cases e : a == b with
  | true =>
    refine iteF ?_
    have q := q H (Same.refl _)
    unfold Lt.obr at q
    rw [e] at q
    exact q
  | false =>
    refine iteT ?_
    refine ⟨_, rfl, at_me hz T.in_within_at ⟨_, rfl, _, rfl, z, L, a, b, rfl, hz, ha, hb, fun H1 s1 => ⟨_, rfl, ?_⟩⟩⟩
    cases e1 : L.le a b with
    | false =>
      refine iteF ?_
      have q := q H1 s1
      unfold Lt.obr at q
      rw [e, e1] at q
      exact q
    | true =>
      refine iteT ?_
      refine ⟨_, rfl, at_me (hz.same s1) T.in_within_at ⟨_, rfl, _, rfl, z, L, b, a, rfl, hz.same s1, hb, ha, fun H2 s2 => ?_⟩⟩
      have q := q H2 (s1.trans s2)
      unfold Lt.obr at q
      rw [e, e1] at q
      exact q
theorem ok_jbrkG (T : Tx K mg W_) : FnOk P w K mg base CX0 3 T.a_join_broken T.d_join_broken ["lattice", "a", "b"] (sp_brkG K T.mm Lt.jbr) := by
  have G_Lattice_join_at := ok_join (P := P) (w := w) (base := base) T
  refine T.F_join_broken.ok sc_join_broken (fun vs H Q E h => ?_) (fun cdv A outer s H vs Q E hr h => ?_)
  · obtain ⟨z, L, a, b, rfl, _⟩ := h
    rfl
  obtain ⟨z, L, a, b, rfl, hz, n64, ha, hb, q⟩ := h
  refine ⟨_, pss_one (ps_ret (pe_cmpR op_isN (pe_methG (pv 0) G_Lattice_join_at (hr.mono (by omega)) T.b_Lattice_join_at .nil pass0 (pa_cons (pv 1) (pa_cons (pv 2) pa_nil))) pe_non (nomark _))), ?_⟩
  refine ⟨_, rfl, at_me hz T.in_join_at ⟨_, rfl, _, rfl, z, L, a, b, rfl, hz, by omega, ha, hb, fun H1 s1 => ⟨rfl, ?_⟩⟩⟩
  rw [opt_no]
  exact q H1 s1
theorem ok_mbrkG (T : Tx K mg W_) : FnOk P w K mg base CX0 3 T.a_meet_broken T.d_meet_broken ["lattice", "a", "b"] (sp_brkG K T.mm Lt.mbr) := by
  have G_Lattice_meet_at := ok_meet (P := P) (w := w) (base := base) T
  refine T.F_meet_broken.ok sc_meet_broken (fun vs H Q E h => ?_) (fun cdv A outer s H vs Q E hr h => ?_)
  · obtain ⟨z, L, a, b, rfl, _⟩ := h
    rfl
  obtain ⟨z, L, a, b, rfl, hz, n64, ha, hb, q⟩ := h
  refine ⟨_, pss_one (ps_ret (pe_cmpR op_isN (pe_methG (pv 0) G_Lattice_meet_at (hr.mono (by omega)) T.b_Lattice_meet_at .nil pass0 (pa_cons (pv 1) (pa_cons (pv 2) pa_nil))) pe_non (nomark _))), ?_⟩
  refine ⟨_, rfl, at_me hz T.in_meet_at ⟨_, rfl, _, rfl, z, L, a, b, rfl, hz, by omega, ha, hb, fun H1 s1 => ⟨rfl, ?_⟩⟩⟩
  rw [opt_no]
  exact q H1 s1
def sp_sprG (K : PySem.W.Frag) (mm : List (Str × Addr)) : Sp := fun vs H Q _ => ∃ (z : Addr) (L : Lt) (a b c : Nat), vs = [.ref z, .int (a : Nat), .int (b : Nat), .int (c : Nat)] ∧ IsLat K mm H z L ∧ first2 L.n L.jbr = none ∧ first2 L.n L.mbr = none ∧ L.n ≤ 64 ∧ a < L.n ∧ b < L.n ∧ c < L.n ∧ ∀ H', Same H H' → Q (.bl (L.sbr a b c)) H'
theorem ok_sprG (T : Tx K mg W_) : FnOk P w K mg base CX0 3 T.a_spread_broken T.d_spread_broken ["lattice", "a", "b", "c"] (sp_sprG K T.mm) := by
  have G_Lattice_join_at := ok_join (P := P) (w := w) (base := base) T
  have G_Lattice_meet_at := ok_meet (P := P) (w := w) (base := base) T
  refine T.F_spread_broken.ok sc_spread_broken (fun vs H Q E h => ?_) (fun cdv A outer s H vs Q E hr h => ?_)
  · obtain ⟨z, L, a, b, c, rfl, _⟩ := h
    rfl
  obtain ⟨z, L, a, b, c, rfl, hz, hJ, hM, n64, ha, hb, hc, q⟩ := h
  refine ⟨_, pss_cons (ps_set (i := 4) sc_spread_broken.nd rfl (Or.inl rfl) (pe_methG (pv 0) G_Lattice_meet_at (hr.mono (by omega)) T.b_Lattice_meet_at .nil pass0 (pa_cons (pv 1) (pa_cons (pe_methG (pv 0) G_Lattice_join_at (hr.mono (by omega)) T.b_Lattice_join_at .nil pass0 (pa_cons (pv 2) (pa_cons (pv 3) pa_nil))) pa_nil))))
    (pss_one (ps_ret (pe_cmpR op_ne (pv 4) (pe_methG (pv 0) G_Lattice_join_at (hr.mono (by omega)) T.b_Lattice_join_at .nil pass0 (pa_cons (pe_methG (pv 0) G_Lattice_meet_at (hr.mono (by omega)) T.b_Lattice_meet_at .nil pass0 (pa_cons (pv 1) (pa_cons (pv 2) pa_nil))) (pa_cons (pe_methG (pv 0) G_Lattice_meet_at (hr.mono (by omega)) T.b_Lattice_meet_at .nil pass0 (pa_cons (pv 1) (pa_cons (pv 3) pa_nil))) pa_nil))) (nomark _)))), ?_⟩
  obtain ⟨j1, j2⟩ := join_is hJ hb hc
  obtain ⟨m1, m2⟩ := meet_is hM ha j2
  obtain ⟨x1, x2⟩ := meet_is hM ha hb
  obtain ⟨y1, y2⟩ := meet_is hM ha hc
  obtain ⟨k1, k2⟩ := join_is hJ x2 y2
  obtain ⟨Cz, dz, fz, tn, td, tu, A0⟩ := id hz
  refine ⟨_, rfl, z, Cz, dz, fz, rfl, A0.at_, A0.c.cl, A0.c.me _ T.in_meet_at, A0.no _ T.in_meet_at, _, rfl, _, rfl, z, Cz, dz, fz, rfl, A0.at_, A0.c.cl, A0.c.me _ T.in_join_at, A0.no _ T.in_join_at, _, rfl, _, rfl, z, L, b, c, rfl, hz, by omega, hb, hc, fun H1 s1 => ?_⟩
  have A1 := A0.same s1
  rw [j1]
  refine ⟨z, L, a, _, rfl, hz.same s1, by omega, ha, j2, fun H2 s2 => ?_⟩
  rw [m1]
  have s12 := s1.trans s2
  have A2 := A0.same s12
  refine ⟨_, rfl, _, rfl, z, Cz, dz, fz, rfl, A2.at_, A2.c.cl, A2.c.me _ T.in_join_at, A2.no _ T.in_join_at, _, rfl, z, Cz, dz, fz, rfl, A2.at_, A2.c.cl, A2.c.me _ T.in_meet_at, A2.no _ T.in_meet_at, _, rfl, _, rfl, z, L, a, b, rfl, hz.same s12, by omega, ha, hb, fun H3 s3 => ?_⟩
  rw [x1]
  have s13 := s12.trans s3
  have A3 := A0.same s13
  refine ⟨_, rfl, z, Cz, dz, fz, rfl, A3.at_, A3.c.cl, A3.c.me _ T.in_meet_at, A3.no _ T.in_meet_at, _, rfl, _, rfl, z, L, a, c, rfl, hz.same s13, by omega, ha, hc, fun H4 s4 => ?_⟩
  rw [y1]
  refine ⟨z, L, _, _, rfl, hz.same (s13.trans s4), by omega, x2, y2, fun H5 s5 => ?_⟩
  rw [k1]
  have q := q H5 ((s13.trans s4).trans s5)
  unfold Lt.sbr at q
  rw [← opt_ne] at q
  exact ⟨rfl, q⟩
end
/-! ### first_fault and the law's own search for faults -/
section
open PyProof.Rows
set_option pp.maxSteps 600
variable {w W_ : World} {K : PySem.W.Frag} {mg : Str → Option Value} {base : Heap} {H H' : Hp}
/-- a fault that was found, as it is returned -/
theorem flt_ret {xs : List Str} {wd : Str} {t1 t2 : Addr} {as : List Nat} {zs : List V} (e1 : H t1 = some (.tup zs)) (hz : zs = as.map fun a => V.str (xs.getD a Str.empty)) (e2 : H t2 = some (.tup [.str wd, .ref t1])) : Ld K H (fltD xs (some (wd, as))) (.ref t2) := by
  refine ⟨t2, _, rfl, SqT.of (K := K) e2, _, _, rfl, rfl, _, _, rfl, ⟨t1, zs, rfl, SqT.of (K := K) e1, ?_⟩, rfl⟩
  subst hz
  clear e1 e2
  induction as with
  | nil => rfl
  | cons a as ih => exact ⟨_, _, rfl, rfl, ih⟩
def sp_ffaultG (K : PySem.W.Frag) (mm : List (Str × Addr)) : Sp := fun vs H Q _ => ∃ (z : Addr) (L : Lt), vs = [.ref z] ∧ IsLat K mm H z L ∧ L.n ≤ 64 ∧ ∀ v H', Same H H' → Ld K H' (fltD L.names L.fltW) v → Q v H'
theorem ok_ffaultG {P : Program} (T : Tx K mg W_) : FnOk P w K mg base CX0 4 T.a_first_fault T.d_first_fault ["lattice"] (sp_ffaultG K T.mm) := by
  have G_spread_broken := ok_sprG (P := P) (w := w) (base := base) T
  have G_Lattice_name_at := ok_name_at (P := P) (w := w) (base := base) T
  have njo : T.a_join_broken ≠ T.a_order_broken := fun e => by
    have := fun_name T.F_order_broken (e ▸ T.F_join_broken)
    exact absurd this (by decide)
  have nmo : T.a_meet_broken ≠ T.a_order_broken := fun e => by
    have := fun_name T.F_order_broken (e ▸ T.F_meet_broken)
    exact absurd this (by decide)
  have nmj : T.a_meet_broken ≠ T.a_join_broken := fun e => by
    have := fun_name T.F_join_broken (e ▸ T.F_meet_broken)
    exact absurd this (by decide)
  let S : Addr → Option Sp := fun f => if f = T.a_order_broken then some (sp_brkG K T.mm Lt.obr) else if f = T.a_join_broken then some (sp_brkG K T.mm Lt.jbr) else if f = T.a_meet_broken then some (sp_brkG K T.mm Lt.mbr) else none
  have S0 : S T.a_order_broken = some (sp_brkG K T.mm Lt.obr) := if_pos rfl
  have S1 : S T.a_join_broken = some (sp_brkG K T.mm Lt.jbr) := (if_neg njo).trans (if_pos rfl)
  have S2 : S T.a_meet_broken = some (sp_brkG K T.mm Lt.mbr) := (if_neg nmo).trans ((if_neg nmj).trans (if_pos rfl))
  have HA : ∀ f sp, S f = some sp → Held P w K mg base 3 f sp := fun f sp h => by
    by_cases c0 : f = T.a_order_broken
    · subst c0
      cases S0.symm.trans h
      exact ⟨_, _, ok_obrkG T, T.F_order_broken.kp, T.b_order_broken⟩
    by_cases c1 : f = T.a_join_broken
    · subst c1
      cases S1.symm.trans h
      exact ⟨_, _, ok_jbrkG T, T.F_join_broken.kp, T.b_join_broken⟩
    by_cases c2 : f = T.a_meet_broken
    · subst c2
      cases S2.symm.trans h
      exact ⟨_, _, ok_mbrkG T, T.F_meet_broken.kp, T.b_meet_broken⟩
    · have h : none = some sp := ((if_neg c0).trans ((if_neg c1).trans (if_neg c2))).symm.trans h
      cases h
  refine T.F_first_fault.ok sc_first_fault (fun vs H Q E h => ?_) (fun cdv A outer s H vs Q E hr h => ?_)
  · obtain ⟨z, L, rfl, _⟩ := h
    rfl
  obtain ⟨z, L, rfl, hz, n64, q⟩ := h
  refine ⟨_, pss_cons (ps_set (i := 1) sc_first_fault.nd rfl (Or.inl rfl) (pe_listRg rfl (by rfl) T.n_list (prg_1 (by rfl) T.n_range (pe_fld (pv 0) rfl))))
    (pss_cons (ps_for PassesOwn.never rfl (pi_tup (pe_tup (pa_cons (pe_tup (pa_cons pe_str (pa_cons (pe_glob (v := .ref T.a_order_broken) (by rfl) T.g_order_broken rfl) pa_nil))) (pa_cons (pe_tup (pa_cons pe_str (pa_cons (pe_glob (v := .ref T.a_join_broken) (by rfl) T.g_join_broken rfl) pa_nil))) (pa_cons (pe_tup (pa_cons pe_str (pa_cons (pe_glob (v := .ref T.a_meet_broken) (by rfl) T.g_meet_broken rfl) pa_nil))) pa_nil))))) (pg_tup rfl (pgs_cons (pg_name (i := 2) sc_first_fault.nd rfl (Or.inl rfl)) (pgs_cons (pg_name (i := 3) sc_first_fault.nd rfl (Or.inl rfl)) pgs_nil))) (pss_one (ps_for PassesOwn.never rfl (pi_list (pv 1)) (pg_name (i := 4) sc_first_fault.nd rfl (Or.inl rfl)) (pss_one (ps_for PassesOwn.never rfl (pi_list (pv 1)) (pg_name (i := 5) sc_first_fault.nd rfl (Or.inl rfl)) (pss_one (ps_if (pt_val (pe_callA (i := 3) HA (hr.mono (by omega)) rfl (Or.inl rfl) (pa_cons (pv 0) (pa_cons (pv 4) (pa_cons (pv 5) pa_nil))))) (pss_one (ps_ret (pe_tup (pa_cons (pv 2) (pa_cons (pe_tup (pa_cons (pe_methG (pv 0) G_Lattice_name_at (hr.mono (by omega)) T.b_Lattice_name_at .nil pass0 (pa_cons (pv 4) pa_nil)) (pa_cons (pe_methG (pv 0) G_Lattice_name_at (hr.mono (by omega)) T.b_Lattice_name_at .nil pass0 (pa_cons (pv 5) pa_nil)) pa_nil))) pa_nil))))) pss_nil)))))))
    (pss_cons (ps_for PassesOwn.never rfl (pi_list (pv 1)) (pg_name (i := 4) sc_first_fault.nd rfl (Or.inl rfl)) (pss_one (ps_for PassesOwn.never rfl (pi_list (pv 1)) (pg_name (i := 5) sc_first_fault.nd rfl (Or.inl rfl)) (pss_one (ps_for PassesOwn.never rfl (pi_list (pv 1)) (pg_name (i := 6) sc_first_fault.nd rfl (Or.inl rfl)) (pss_one (ps_if (pt_val (pe_call G_spread_broken (hr.mono (by omega)) (by rfl) T.g_spread_broken T.F_spread_broken.kp T.b_spread_broken .nil pass0 (pa_cons (pv 0) (pa_cons (pv 4) (pa_cons (pv 5) (pa_cons (pv 6) pa_nil)))))) (pss_one (ps_ret (pe_tup (pa_cons pe_str (pa_cons (pe_tup (pa_cons (pe_methG (pv 0) G_Lattice_name_at (hr.mono (by omega)) T.b_Lattice_name_at .nil pass0 (pa_cons (pv 4) pa_nil)) (pa_cons (pe_methG (pv 0) G_Lattice_name_at (hr.mono (by omega)) T.b_Lattice_name_at .nil pass0 (pa_cons (pv 5) pa_nil)) (pa_cons (pe_methG (pv 0) G_Lattice_name_at (hr.mono (by omega)) T.b_Lattice_name_at .nil pass0 (pa_cons (pv 6) pa_nil)) pa_nil)))) pa_nil))))) pss_nil)))))))
    (pss_one (ps_ret pe_non)))), ?_⟩
  obtain ⟨Cz, dz, fz, tn, td, tu, A0⟩ := id hz
  refine ⟨_, rfl, z, Cz, dz, fz, _, rfl, A0.at_, A0.c.cl, A0.c.na _ (by decide), A0.size, _, rfl, RgOk.of_le (by decide) (by omega) (by decide) (by omega), newQ (.lst (rgV 0 (L.n : Nat))) fun pl hpl s1 h1 => ?_⟩
  rw [rg_nat] at s1 h1
  rw [rg_nat]
  generalize upd H pl (.lst (natV (List.range L.n))) = H1 at s1 h1 ⊢
  have hz1 := hz.same s1
  have pl1 : SqL K H1 pl (natV (List.range L.n)) := SqL.of (K := K) h1
  show tSeq _ _ _ [some (.ref z), some (.ref pl), none, none, none, none, none] H1
  refine ⟨(by show 2 ≤ sizeLine; decide), newQ (.tup [.str (("order" : Str)), .ref T.a_order_broken]) fun t1 ht1 s2 e1 => ?_⟩
  generalize upd H1 t1 (.tup [.str (("order" : Str)), .ref T.a_order_broken]) = H2 at s2 e1 ⊢
  refine ⟨(by show 2 ≤ sizeLine; decide), newQ (.tup [.str (("join" : Str)), .ref T.a_join_broken]) fun t2 ht2 s3 e2 => ?_⟩
  generalize upd H2 t2 (.tup [.str (("join" : Str)), .ref T.a_join_broken]) = H3 at s3 e2 ⊢
  refine ⟨(by show 2 ≤ sizeLine; decide), newQ (.tup [.str (("meet" : Str)), .ref T.a_meet_broken]) fun t3 ht3 s4 e3 => ?_⟩
  generalize upd H3 t3 (.tup [.str (("meet" : Str)), .ref T.a_meet_broken]) = H4 at s4 e3 ⊢
  refine ⟨(by show 3 ≤ sizeLine; decide), newQ (.tup [.ref t1, .ref t2, .ref t3]) fun tt htt s5 e4 => ?_⟩
  generalize upd H4 tt (.tup [.ref t1, .ref t2, .ref t3]) = H5 at s5 e4 ⊢
  have f1 := ((s3.trans s4).trans s5) _ _ e1
  have f2 := (s4.trans s5) _ _ e2
  have f3 := s5 _ _ e3
  have s15 := ((s2.trans s3).trans s4).trans s5
  have hz5 := hz1.same s15
  have pl5 := s15.seq pl1
  have s05 := s1.trans s15
  have htt5 : SqT K H5 tt [.ref t1, .ref t2, .ref t3] := SqT.of (K := K) e4
  have nat : ∀ {i : Nat} {x : V}, (natV (List.range L.n))[i]? = some x → i < L.n ∧ x = .int (i : Nat) := fun h => at_map' h
  have nln : (natV (List.range L.n)).length = L.n := by rw [natV_length, List.length_range]
  have nm : ∀ a, a < L.n → L.names[a]? = some (L.names.getD a Str.empty) := fun a ha => get_d ha
  clear s1 h1 hz1 pl1 s2 s3 s4 s5 e1 e2 e3 s15 hpl
  refine ⟨tt, rfl, ⟨_, htt5⟩, for_it (walk_tup (K := K) (a := tt) (xs := [.ref t1, .ref t2, .ref t3])) (fun i σ H6 => (∃ v2 v3 v4 v5 v6, σ = [some (.ref z), some (.ref pl), v2, v3, v4, v5, v6]) ∧ Same H5 H6 ∧ ∀ j, j < i → first2 L.n (L.pbr j) = none) ⟨⟨_, _, _, _, _, rfl⟩, Same.refl _, fun j hj => absurd hj (Nat.not_lt_zero _)⟩ (fun i σ H6 _ ⟨_, s, _⟩ => s.keeps.sqT htt5) ?_ ?_⟩
  · rintro i x σ H6 H7 hi ⟨⟨v2, v3, v4, v5, v6, rfl⟩, s6, no⟩ ⟨e7, ex⟩
    obtain rfl : H6 = H7 := e7.symm
    have hi : i < 3 := hi
    obtain ⟨tr, fr, hx, hS, hT⟩ : ∃ (tr fr : Addr), x = .ref tr ∧ S fr = some (sp_brkG K T.mm fun L => L.pbr i) ∧ H5 tr = some (.tup [.str (wbr i), .ref fr]) := by
      match i, hi, ex with
      | 0, _, ex => cases ex; exact ⟨_, _, rfl, S0, f1⟩
      | 1, _, ex => cases ex; exact ⟨_, _, rfl, S1, f2⟩
      | 2, _, ex => cases ex; exact ⟨_, _, rfl, S2, f3⟩
    subst hx
    refine ⟨tr, _, rfl, SqT.of (K := K) (s6 _ _ hT), rfl, _, _, rfl, _, _, rfl, ⟨rfl, ?_⟩⟩
    refine ⟨_, rfl, pl, rfl, ⟨_, s6.seq pl5⟩, for_list (K := K) (a := pl) (xs := natV (List.range L.n)) (fun j σ H7 => (∃ v4 v5 v6, σ = [some (.ref z), some (.ref pl), some (.str (wbr i)), some (.ref fr), v4, v5, v6]) ∧ Same H5 H7 ∧ ∀ a, a < j → ∀ b, b < L.n → L.pbr i a b = false) ⟨⟨_, _, _, rfl⟩, s6, fun j hj => absurd hj (Nat.not_lt_zero _)⟩ (fun i σ H6 _ ⟨_, s, _⟩ => s.seq pl5) ?_ ?_⟩
    · rintro a x σ H7 hx ⟨⟨v4, v5, v6, rfl⟩, s7, na⟩
      obtain ⟨ha, rfl⟩ := nat hx
      refine ⟨_, rfl, pl, rfl, ⟨_, s7.seq pl5⟩, for_list (K := K) (a := pl) (xs := natV (List.range L.n)) (fun k σ H8 => (∃ v5 v6, σ = [some (.ref z), some (.ref pl), some (.str (wbr i)), some (.ref fr), some (.int (a : Nat)), v5, v6]) ∧ Same H5 H8 ∧ ∀ b, b < k → L.pbr i a b = false) ⟨⟨_, _, rfl⟩, s7, fun j hj => absurd hj (Nat.not_lt_zero _)⟩ (fun i σ H6 _ ⟨_, s, _⟩ => s.seq pl5) ?_ ?_⟩
      · rintro b x σ H8 hx ⟨⟨v5, v6, rfl⟩, s8, nb⟩
        obtain ⟨hb, rfl⟩ := nat hx
        refine ⟨fr, _, rfl, hS, _, rfl, _, rfl, _, rfl, z, L, a, b, rfl, hz5.same s8, n64, ha, hb, fun H9 s9 => ⟨_, rfl, ?_⟩⟩
        have s59 := s8.trans s9
        show if L.pbr i a b = true then _ else _
        cases ep : L.pbr i a b with
        | false =>
          refine iteF ?_
          refine ⟨⟨_, _, rfl⟩, s59, fun b' hb' => ?_⟩
          rcases Nat.lt_or_ge b' b with l | l
          · exact nb b' l
          · obtain rfl : b' = b := by omega
            exact ep
        | true =>
          refine iteT ?_
          have hz9 := hz5.same s59
          refine ⟨_, rfl, _, rfl, at_me hz9 T.in_name_at ⟨_, rfl, z, L, a, _, rfl, hz9, nm a ha, fun H10 s10 => ?_⟩⟩
          refine ⟨_, rfl, at_me (hz9.same s10) T.in_name_at ⟨_, rfl, z, L, b, _, rfl, hz9.same s10, nm b hb, fun H11 s11 => ?_⟩⟩
          refine ⟨(by show 2 ≤ sizeLine; decide), newQ (.tup [.str (L.names.getD a Str.empty), .str (L.names.getD b Str.empty)]) fun r1 hr1 s12 e12 => ?_⟩
          generalize upd H11 r1 (.tup [.str (L.names.getD a Str.empty), .str (L.names.getD b Str.empty)]) = H12 at s12 e12 ⊢
          refine ⟨(by show 2 ≤ sizeLine; decide), newQ (.tup [.str (wbr i), .ref r1]) fun r2 hr2 s13 e13 => ?_⟩
          refine q _ _ (s05.trans (s59.trans (((s10.trans s11).trans s12).trans s13))) ?_
          rw [flt_two hi no (first2_some ha hb ep na nb)]
          exact flt_ret (s13 _ _ e12) rfl e13
      · rintro σ H8 ⟨⟨v5, v6, rfl⟩, s8, nb⟩
        rw [nln] at nb
        refine ⟨⟨_, _, _, rfl⟩, s8, fun a' ha' => ?_⟩
        rcases Nat.lt_or_ge a' a with l | l
        · exact na a' l
        · obtain rfl : a' = a := by omega
          exact nb
    · rintro σ H7 ⟨⟨v4, v5, v6, rfl⟩, s7, na⟩
      rw [nln] at na
      refine ⟨⟨_, _, _, _, _, rfl⟩, s7, fun j hj => ?_⟩
      rcases Nat.lt_or_ge j i with l | l
      · exact no j l
      · obtain rfl : j = i := by omega
        exact first2_none na
  · rintro σ H6 ⟨⟨v2, v3, v4, v5, v6, rfl⟩, s6, no⟩
    have no : ∀ j, j < 3 → first2 L.n (L.pbr j) = none := no
    have hJ : first2 L.n L.jbr = none := no 1 (by decide)
    have hM : first2 L.n L.mbr = none := no 2 (by decide)
    refine ⟨_, rfl, pl, rfl, ⟨_, s6.seq pl5⟩, for_list (K := K) (a := pl) (xs := natV (List.range L.n)) (fun j σ H7 => (∃ v4 v5 v6, σ = [some (.ref z), some (.ref pl), v2, v3, v4, v5, v6]) ∧ Same H5 H7 ∧ ∀ a, a < j → ∀ b, b < L.n → ∀ c, c < L.n → L.sbr a b c = false) ⟨⟨_, _, _, rfl⟩, s6, fun j hj => absurd hj (Nat.not_lt_zero _)⟩ (fun i σ H6 _ ⟨_, s, _⟩ => s.seq pl5) ?_ ?_⟩
    · rintro a x σ H7 hx ⟨⟨v4, v5, v6, rfl⟩, s7, na⟩
      obtain ⟨ha, rfl⟩ := nat hx
      refine ⟨_, rfl, pl, rfl, ⟨_, s7.seq pl5⟩, for_list (K := K) (a := pl) (xs := natV (List.range L.n)) (fun k σ H8 => (∃ v5 v6, σ = [some (.ref z), some (.ref pl), v2, v3, some (.int (a : Nat)), v5, v6]) ∧ Same H5 H8 ∧ ∀ b, b < k → ∀ c, c < L.n → L.sbr a b c = false) ⟨⟨_, _, rfl⟩, s7, fun j hj => absurd hj (Nat.not_lt_zero _)⟩ (fun i σ H6 _ ⟨_, s, _⟩ => s.seq pl5) ?_ ?_⟩
      · rintro b x σ H8 hx ⟨⟨v5, v6, rfl⟩, s8, nb⟩
        obtain ⟨hb, rfl⟩ := nat hx
        refine ⟨_, rfl, pl, rfl, ⟨_, s8.seq pl5⟩, for_list (K := K) (a := pl) (xs := natV (List.range L.n)) (fun l σ H9 => (∃ v6, σ = [some (.ref z), some (.ref pl), v2, v3, some (.int (a : Nat)), some (.int (b : Nat)), v6]) ∧ Same H5 H9 ∧ ∀ c, c < l → L.sbr a b c = false) ⟨⟨_, rfl⟩, s8, fun j hj => absurd hj (Nat.not_lt_zero _)⟩ (fun i σ H6 _ ⟨_, s, _⟩ => s.seq pl5) ?_ ?_⟩
        · rintro c x σ H9 hx ⟨⟨v6, rfl⟩, s9, nc⟩
          obtain ⟨hc, rfl⟩ := nat hx
          refine ⟨_, rfl, _, rfl, _, rfl, _, rfl, z, L, a, b, c, rfl, hz5.same s9, hJ, hM, n64, ha, hb, hc, fun H10 s10 => ⟨_, rfl, ?_⟩⟩
          have s510 := s9.trans s10
          cases ep : L.sbr a b c with
          | false =>
            refine iteF ?_
            refine ⟨⟨_, rfl⟩, s510, fun c' hc' => ?_⟩
            rcases Nat.lt_or_ge c' c with l | l
            · exact nc c' l
            · obtain rfl : c' = c := by omega
              exact ep
          | true =>
            refine iteT ?_
            have hz9 := hz5.same s510
            refine ⟨_, rfl, at_me hz9 T.in_name_at ⟨_, rfl, z, L, a, _, rfl, hz9, nm a ha, fun H11 s11 => ?_⟩⟩
            refine ⟨_, rfl, at_me (hz9.same s11) T.in_name_at ⟨_, rfl, z, L, b, _, rfl, hz9.same s11, nm b hb, fun H12 s12 => ?_⟩⟩
            have s1012 := s11.trans s12
            refine ⟨_, rfl, at_me (hz9.same s1012) T.in_name_at ⟨_, rfl, z, L, c, _, rfl, hz9.same s1012, nm c hc, fun H13 s13 => ?_⟩⟩
            refine ⟨(by show 3 ≤ sizeLine; decide), newQ (.tup [.str (L.names.getD a Str.empty), .str (L.names.getD b Str.empty), .str (L.names.getD c Str.empty)]) fun r1 hr1 s14 e14 => ?_⟩
            generalize upd H13 r1 (.tup [.str (L.names.getD a Str.empty), .str (L.names.getD b Str.empty), .str (L.names.getD c Str.empty)]) = H14 at s14 e14 ⊢
            refine ⟨(by show 2 ≤ sizeLine; decide), newQ (.tup [.str "spread", .ref r1]) fun r2 hr2 s15 e15 => ?_⟩
            refine q _ _ (s05.trans (s510.trans (((s1012.trans s13).trans s14).trans s15))) ?_
            rw [flt_three no (first3_some ha hb hc ep na nb nc)]
            exact flt_ret (s15 _ _ e14) rfl e15
        · rintro σ H9 ⟨⟨v6, rfl⟩, s9, nc⟩
          rw [nln] at nc
          refine ⟨⟨_, _, rfl⟩, s9, fun b' hb' => ?_⟩
          rcases Nat.lt_or_ge b' b with l | l
          · exact nb b' l
          · obtain rfl : b' = b := by omega
            exact nc
      · rintro σ H8 ⟨⟨v5, v6, rfl⟩, s8, nb⟩
        rw [nln] at nb
        refine ⟨⟨_, _, _, rfl⟩, s8, fun a' ha' => ?_⟩
        rcases Nat.lt_or_ge a' a with l | l
        · exact na a' l
        · obtain rfl : a' = a := by omega
          exact nb
    · rintro σ H7 ⟨⟨v4, v5, v6, rfl⟩, s7, na⟩
      rw [nln] at na
      refine q _ H7 (s05.trans s7) ?_
      rw [flt_none no (first3_none na)]
      rfl
end
/-! ### the law's own search for faults -/
section
open PyProof.Rows
set_option pp.maxSteps 900
variable {w W_ : World} {K : PySem.W.Frag} {mg : Str → Option Value} {base : Heap} {H H' : Hp}
def sp_lflt (K : PySem.W.Frag) : Sp := fun vs H Q _ => ∃ (p na : Addr) (L : Lt), vs = [.ref p, .ref na] ∧ GridAt H p L.n (rowV L.le) ∧ L.n ≤ 64 ∧ H na = some (.lst (L.names.map V.str)) ∧ Pre L.n L.le ∧ ∀ v H', Same H H' → Ld K H' (fltD L.names L.fltW) v → Q v H'
theorem ok_lflt (T : Tx K mg w) : FnOk PL w K mg base CX0 5 T.a__law_fault T.d__law_fault ["rows", "names"] (sp_lflt K) := by
  have G__law_table := ok_ltb (w := w) (base := base) T
  have G__law_flipped := ok_flip (w := w) (base := base) T
  refine T.F__law_fault.ok sc__law_fault (fun vs H Q E h => ?_) (fun cdv A outer s H vs Q E hr h => ?_)
  · obtain ⟨p, na, L, rfl, _⟩ := h
    rfl
  obtain ⟨p, na, L, rfl, hg, n64, ena, pre, q⟩ := h
  refine ⟨_, pss_cons (ps_set (i := 2) sc__law_fault.nd rfl (Or.inl rfl) (pe_callB call_len_seq (by rfl) T.n_len (by decide +kernel) (pa_cons (pv 0) pa_nil)))
    (pss_cons (ps_set (i := 3) sc__law_fault.nd rfl (Or.inl rfl) (pe_call G__law_table (hr.mono (by omega)) (by rfl) T.g__law_table T.F__law_table.kp T.b__law_table .nil pass0 (pa_cons (pv 0) pa_nil)))
    (pss_cons (ps_set (i := 4) sc__law_fault.nd rfl (Or.inl rfl) (pe_call G__law_table (hr.mono (by omega)) (by rfl) T.g__law_table T.F__law_table.kp T.b__law_table .nil pass0 (pa_cons (pe_call G__law_flipped (hr.mono (by omega)) (by rfl) T.g__law_flipped T.F__law_flipped.kp T.b__law_flipped .nil pass0 (pa_cons (pv 0) pa_nil)) pa_nil)))
    (pss_cons (ps_for PassesOwn.never rfl (pi_list (pe_lst (pa_cons pe_str (pa_cons pe_str (pa_cons pe_str pa_nil))))) (pg_name (i := 5) sc__law_fault.nd rfl (Or.inl rfl)) (pss_one (ps_for PassesOwn.never rfl (pi_range1 (by rfl) T.n_range (pa_cons (pv 2) pa_nil)) (pg_name (i := 6) sc__law_fault.nd rfl (Or.inl rfl)) (pss_one (ps_for PassesOwn.never rfl (pi_range1 (by rfl) T.n_range (pa_cons (pv 2) pa_nil)) (pg_name (i := 7) sc__law_fault.nd rfl (Or.inl rfl)) (pss_cons (ps_set (i := 8) sc__law_fault.nd rfl (Or.inl rfl) (pe_and (pe_cmpR op_ne (pv 6) (pv 7) (nomark _)) (pe_and (pe_ix ix_list (pe_ix ix_list (pv 0) (pv 6) (fun _ _ => rfl)) (pv 7) (fun _ _ => rfl)) (pe_one (pe_ix ix_list (pe_ix ix_list (pv 0) (pv 7) (fun _ _ => rfl)) (pv 6) (fun _ _ => rfl))))))
    (pss_cons (ps_if (pt_cmpR op_ne (pv 5) pe_str (nomark _)) (pss_one (ps_set (i := 8) sc__law_fault.nd rfl (Or.inl rfl) (pe_cmpR op_isN (pe_ix ix_list (pe_ix ix_list (pe_ifExp (pt_cmpR op_eq (pv 5) pe_str (nomark _)) (pv 3) (pv 4)) (pv 6) (fun _ _ => rfl)) (pv 7) (fun _ _ => rfl)) pe_non (nomark _)))) pss_nil)
    (pss_one (ps_if (pt_val (pv 8)) (pss_one (ps_ret (pe_tup (pa_cons (pv 5) (pa_cons (pe_tup (pa_cons (pe_ix ix_list (pv 1) (pv 6) (fun _ _ => rfl)) (pa_cons (pe_ix ix_list (pv 1) (pv 7) (fun _ _ => rfl)) pa_nil))) pa_nil))))) pss_nil)))))))))
    (pss_cons (ps_for PassesOwn.never rfl (pi_range1 (by rfl) T.n_range (pa_cons (pv 2) pa_nil)) (pg_name (i := 6) sc__law_fault.nd rfl (Or.inl rfl)) (pss_one (ps_for PassesOwn.never rfl (pi_range1 (by rfl) T.n_range (pa_cons (pv 2) pa_nil)) (pg_name (i := 7) sc__law_fault.nd rfl (Or.inl rfl)) (pss_one (ps_for PassesOwn.never rfl (pi_range1 (by rfl) T.n_range (pa_cons (pv 2) pa_nil)) (pg_name (i := 9) sc__law_fault.nd rfl (Or.inl rfl)) (pss_cons (ps_set (i := 10) sc__law_fault.nd rfl (Or.inl rfl) (pe_ix ix_list (pe_ix ix_list (pv 4) (pv 6) (fun _ _ => rfl)) (pe_ix ix_list (pe_ix ix_list (pv 3) (pv 7) (fun _ _ => rfl)) (pv 9) (fun _ _ => rfl)) (fun _ _ => rfl)))
    (pss_one (ps_if (pt_cmpR op_ne (pv 10) (pe_ix ix_list (pe_ix ix_list (pv 3) (pe_ix ix_list (pe_ix ix_list (pv 4) (pv 6) (fun _ _ => rfl)) (pv 7) (fun _ _ => rfl)) (fun _ _ => rfl)) (pe_ix ix_list (pe_ix ix_list (pv 4) (pv 6) (fun _ _ => rfl)) (pv 9) (fun _ _ => rfl)) (fun _ _ => rfl)) (nomark _)) (pss_one (ps_ret (pe_tup (pa_cons pe_str (pa_cons (pe_tup (pa_cons (pe_ix ix_list (pv 1) (pv 6) (fun _ _ => rfl)) (pa_cons (pe_ix ix_list (pv 1) (pv 7) (fun _ _ => rfl)) (pa_cons (pe_ix ix_list (pv 1) (pv 9) (fun _ _ => rfl)) pa_nil)))) pa_nil))))) pss_nil))))))))
    (pss_one (ps_ret pe_non)))))), ?_⟩
  obtain ⟨ls, e1, e2⟩ := hg.len
  refine ⟨_, rfl, p, _, rfl, .inl (SqL.of (K := K) e1), ?_⟩
  rw [e2]
  dsimp only [gName]
  refine ⟨_, rfl, p, L.n, L.le, rfl, hg, n64, fun jl H1 s1 hj => ?_⟩
  dsimp only [gName]
  refine ⟨_, rfl, p, L.n, rowV L.le, rfl, hg.same s1, n64, fun bk H2 s2 hb => ?_⟩
  refine ⟨bk, L.n, rowF L.le, rfl, hb, n64, fun ml H3 s3 hm => ?_⟩
  have hj : GridAt H3 jl L.n (fun a b => optV (L.join a b)) := ((hj.same s2).same s3).ext fun a b ha hb' => by show optV _ = optV _; rw [join_row pre ha hb']
  have hm : GridAt H3 ml L.n (fun a b => optV (L.meet a b)) := hm.ext fun a b ha hb' => by show optV _ = optV _; rw [meet_row pre ha hb']
  have s03 := (s1.trans s2).trans s3
  have hg := hg.same s03
  have ena := s03 _ _ ena
  clear hb s1 s2 s3 e1 e2
  dsimp only [gName]
  have nm : ∀ a, a < L.n → (L.names.map V.str)[a]? = some (.str (L.names.getD a Str.empty)) := fun a ha => str_d ha
  show tSeq _ _ _ [some (.ref p), some (.ref na), some (.int (L.n : Nat)), some (.ref jl), some (.ref ml), none, none, none, none, none, none] H3
  refine ⟨(by show 3 ≤ sizeLine; decide), newQ (.lst [.str "order", .str "join", .str "meet"]) fun wl wl0 s4 e4 => ?_⟩
  generalize upd H3 wl (.lst [.str "order", .str "join", .str "meet"]) = H4 at s4 e4 ⊢
  have hg := hg.same s4
  have hj := hj.same s4
  have hm := hm.same s4
  have ena := s4 _ _ ena
  have s04 := s03.trans s4
  clear s03 s4
  refine ⟨wl, rfl, ⟨_, SqL.of (K := K) e4⟩, for_list (K := K) (a := wl) (xs := [.str "order", .str "join", .str "meet"]) (fun i σ H' => (∃ v5 v6 v7 v8 v9 v10, σ = [some (.ref p), some (.ref na), some (.int (L.n : Nat)), some (.ref jl), some (.ref ml), v5, v6, v7, v8, v9, v10]) ∧ Same H4 H' ∧ ∀ j, j < i → first2 L.n (L.pbr j) = none) ⟨⟨_, _, _, _, _, _, rfl⟩, Same.refl _, fun j hj => absurd hj (Nat.not_lt_zero _)⟩ (fun i σ H' _ ⟨_, s, _⟩ => SqL.of (K := K) (s _ _ e4)) ?_ ?_⟩
  · rintro i x σ H5 hx ⟨⟨v5, v6, v7, v8, v9, v10, rfl⟩, s5, no⟩
    obtain ⟨hi, rfl⟩ : i < 3 ∧ x = .str (wbr i) := by
      match i, hx with
      | 0, hx => cases hx; exact ⟨by decide, rfl⟩
      | 1, hx => cases hx; exact ⟨by decide, rfl⟩
      | 2, hx => cases hx; exact ⟨by decide, rfl⟩
      | i + 3, hx => simp at hx
    dsimp only [gName]
    refine ⟨_, rfl, _, rfl, by omega, by omega, for_range (lo := 0) (n := L.n) (fun a σ H' => (∃ v6 v7 v8 v9 v10, σ = [some (.ref p), some (.ref na), some (.int (L.n : Nat)), some (.ref jl), some (.ref ml), some (.str (wbr i)), v6, v7, v8, v9, v10]) ∧ Same H4 H' ∧ ∀ a', a' < a → ∀ b, b < L.n → L.pbr i a' b = false) ⟨⟨_, _, _, _, _, rfl⟩, s5, fun j hj => absurd hj (Nat.not_lt_zero _)⟩ ?_ ?_⟩
    · rintro a σ H6 ha ⟨⟨v6, v7, v8, v9, v10, rfl⟩, s6, na'⟩
      have ha : a < L.n := ha
      rw [show (0 : Int) + (a : Int) = ((a : Nat) : Int) by omega]
      dsimp only [gName]
      refine ⟨_, rfl, _, rfl, by omega, by omega, for_range (lo := 0) (n := L.n) (fun b σ H' => (∃ v7 v8 v9 v10, σ = [some (.ref p), some (.ref na), some (.int (L.n : Nat)), some (.ref jl), some (.ref ml), some (.str (wbr i)), some (.int (a : Nat)), v7, v8, v9, v10]) ∧ Same H4 H' ∧ ∀ b', b' < b → L.pbr i a b' = false) ⟨⟨_, _, _, _, rfl⟩, s6, fun j hj => absurd hj (Nat.not_lt_zero _)⟩ ?_ ?_⟩
      · rintro b σ H7 hb ⟨⟨v7, v8, v9, v10, rfl⟩, s7, nb⟩
        have hb : b < L.n := hb
        rw [show (0 : Int) + (b : Int) = ((b : Nat) : Int) by omega]
        dsimp only [gName]
        obtain ⟨la, ra, a1, a2, a3⟩ := (hg.same s7).row ha
        obtain ⟨lb, rb, b1, b2, b3⟩ := (hg.same s7).row hb
        obtain ⟨lc, rc, c1, c2, c3⟩ := (hj.same s7).row ha
        obtain ⟨ld, rd, d1, d2, d3⟩ := (hm.same s7).row ha
        refine set_run (fun v H' => v = .bl (L.obr a b) ∧ H7 = H') (fun Q' q' => ?_) ?_
        · refine ⟨_, rfl, _, rfl, rfl, _, rfl, ?_⟩
          rw [int_ext]
          have fin : ∀ t : Bool, t = L.obr a b → Q' (.bl t) H7 := fun t e => q' _ _ ⟨by rw [e], rfl⟩
          cases eab : a == b with
          | true => exact iteF (fin _ (by unfold Lt.obr; rw [eab]; rfl))
          | false =>
            refine iteT ?_
            refine ⟨_, rfl, _, rfl, p, _, _, _, rfl, rfl, SqL.of (K := K) a1, atI_nat a2, _, rfl, ra, _, _, _, rfl, rfl, SqL.of (K := K) a3, atI_nat (rg_atG hb), L.le a b, rfl, ?_⟩
            cases l1 : L.le a b with
            | false => exact iteF (fin _ (by unfold Lt.obr; rw [eab, l1]; rfl))
            | true =>
              refine iteT ?_
              refine ⟨_, rfl, _, rfl, p, _, _, _, rfl, rfl, SqL.of (K := K) b1, atI_nat b2, _, rfl, rb, _, _, _, rfl, rfl, SqL.of (K := K) b3, atI_nat (rg_atG ha), ?_⟩
              exact fin (L.le b a) (by unfold Lt.obr; rw [eab, l1]; rfl)
        rintro _ _ ⟨rfl, rfl⟩
        dsimp only [gName]
        show tSeq _ _ _ [some (.ref p), some (.ref na), some (.int (L.n : Nat)), some (.ref jl), some (.ref ml), some (.str (wbr i)), some (.int (a : Nat)), some (.int (b : Nat)), some (.bl (L.obr a b)), v9, v10] H7
        refine st_run (fun σ H' => σ = [some (.ref p), some (.ref na), some (.int (L.n : Nat)), some (.ref jl), some (.ref ml), some (.str (wbr i)), some (.int (a : Nat)), some (.int (b : Nat)), some (.bl (L.pbr i a b)), v9, v10] ∧ H7 = H') (fun D' hD kk => ?_) ?_
        · refine ⟨_, rfl, rfl, _, rfl, ?_⟩
          match i, hi with
          | 0, _ =>
            rw [show (!decide (V.str (wbr 0) = V.str "order")) = false from by decide]
            exact iteF (nx_run (kk _ _ ⟨rfl, rfl⟩))
          | 1, _ =>
            rw [show (!decide (V.str (wbr 1) = V.str "order")) = true from by decide]
            refine iteT ?_
            refine ⟨_, rfl, rfl, _, rfl, ?_⟩
            rw [show decide (V.str (wbr 1) = V.str "join") = true from by decide]
            refine iteT ?_
            refine ⟨_, rfl, _, rfl, jl, _, _, _, rfl, rfl, SqL.of (K := K) c1, atI_nat c2, _, rfl, rc, _, _, _, rfl, rfl, SqL.of (K := K) c3, atI_nat (rg_atG hb), rfl, ?_⟩
            rw [opt_no]
            exact kk _ _ ⟨rfl, rfl⟩
          | 2, _ =>
            rw [show (!decide (V.str (wbr 2) = V.str "order")) = true from by decide]
            refine iteT ?_
            refine ⟨_, rfl, rfl, _, rfl, ?_⟩
            rw [show decide (V.str (wbr 2) = V.str "join") = false from by decide]
            refine iteF ?_
            refine ⟨_, rfl, _, rfl, ml, _, _, _, rfl, rfl, SqL.of (K := K) d1, atI_nat d2, _, rfl, rd, _, _, _, rfl, rfl, SqL.of (K := K) d3, atI_nat (rg_atG hb), rfl, ?_⟩
            rw [opt_no]
            exact kk _ _ ⟨rfl, rfl⟩
        rintro _ _ ⟨rfl, rfl⟩
        refine ⟨_, rfl, _, rfl, ?_⟩
        cases ep : L.pbr i a b with
        | false =>
          refine iteF ?_
          refine ⟨⟨_, _, _, _, rfl⟩, s7, fun b' hb' => ?_⟩
          rcases Nat.lt_or_ge b' b with l | l
          · exact nb b' l
          · obtain rfl : b' = b := by omega
            exact ep
        | true =>
          refine iteT ?_
          have ena7 := s7 _ _ ena
          refine ⟨_, rfl, _, rfl, _, rfl, na, _, _, _, rfl, rfl, SqL.of (K := K) ena7, atI_nat (nm a ha), _, rfl, _, rfl, na, _, _, _, rfl, rfl, SqL.of (K := K) ena7, atI_nat (nm b hb), ?_⟩
          refine ⟨(by show 2 ≤ sizeLine; decide), newQ (.tup [.str (L.names.getD a Str.empty), .str (L.names.getD b Str.empty)]) fun r1 hr1 s12 e12 => ?_⟩
          generalize upd H7 r1 (.tup [.str (L.names.getD a Str.empty), .str (L.names.getD b Str.empty)]) = H12 at s12 e12 ⊢
          refine ⟨(by show 2 ≤ sizeLine; decide), newQ (.tup [.str (wbr i), .ref r1]) fun r2 hr2 s13 e13 => ?_⟩
          refine q _ _ (s04.trans (s7.trans (s12.trans s13))) ?_
          rw [flt_two hi no (first2_some ha hb ep na' nb)]
          exact flt_ret (s13 _ _ e12) rfl e13
      · rintro σ H7 ⟨⟨v7, v8, v9, v10, rfl⟩, s7, nb⟩
        refine ⟨⟨_, _, _, _, _, rfl⟩, s7, fun a' ha' => ?_⟩
        rcases Nat.lt_or_ge a' a with l | l
        · exact na' a' l
        · obtain rfl : a' = a := by omega
          exact nb
    · rintro σ H6 ⟨⟨v6, v7, v8, v9, v10, rfl⟩, s6, na'⟩
      refine ⟨⟨_, _, _, _, _, _, rfl⟩, s6, fun j hj => ?_⟩
      rcases Nat.lt_or_ge j i with l | l
      · exact no j l
      · obtain rfl : j = i := by omega
        exact first2_none na'
  · rintro σ H5 ⟨⟨v5, v6, v7, v8, v9, v10, rfl⟩, s5, no⟩
    have no : ∀ j, j < 3 → first2 L.n (L.pbr j) = none := no
    have hJ : first2 L.n L.jbr = none := no 1 (by decide)
    have hM : first2 L.n L.mbr = none := no 2 (by decide)
    have hjI : GridAt H4 jl L.n (fun a b => V.int (L.jnG a b : Nat)) := hj.ext fun a b ha hb => by show optV _ = _; rw [(join_is hJ ha hb).1]; rfl
    have hmI : GridAt H4 ml L.n (fun a b => V.int (L.mtG a b : Nat)) := hm.ext fun a b ha hb => by show optV _ = _; rw [(meet_is hM ha hb).1]; rfl
    clear hj hm hg
    refine ⟨_, rfl, _, rfl, by omega, by omega, for_range (lo := 0) (n := L.n) (fun a σ H' => (∃ v6 v7 v8 v9 v10, σ = [some (.ref p), some (.ref na), some (.int (L.n : Nat)), some (.ref jl), some (.ref ml), v5, v6, v7, v8, v9, v10]) ∧ Same H4 H' ∧ ∀ a', a' < a → ∀ b, b < L.n → ∀ c, c < L.n → L.sbr a' b c = false) ⟨⟨_, _, _, _, _, rfl⟩, s5, fun j hj => absurd hj (Nat.not_lt_zero _)⟩ ?_ ?_⟩
    · rintro a σ H6 ha ⟨⟨v6, v7, v8, v9, v10, rfl⟩, s6, na'⟩
      have ha : a < L.n := ha
      rw [show (0 : Int) + (a : Int) = ((a : Nat) : Int) by omega]
      dsimp only [gName]
      refine ⟨_, rfl, _, rfl, by omega, by omega, for_range (lo := 0) (n := L.n) (fun b σ H' => (∃ v7 v8 v9 v10, σ = [some (.ref p), some (.ref na), some (.int (L.n : Nat)), some (.ref jl), some (.ref ml), v5, some (.int (a : Nat)), v7, v8, v9, v10]) ∧ Same H4 H' ∧ ∀ b', b' < b → ∀ c, c < L.n → L.sbr a b' c = false) ⟨⟨_, _, _, _, rfl⟩, s6, fun j hj => absurd hj (Nat.not_lt_zero _)⟩ ?_ ?_⟩
      · rintro b σ H7 hb ⟨⟨v7, v8, v9, v10, rfl⟩, s7, nb⟩
        have hb : b < L.n := hb
        rw [show (0 : Int) + (b : Int) = ((b : Nat) : Int) by omega]
        dsimp only [gName]
        refine ⟨_, rfl, _, rfl, by omega, by omega, for_range (lo := 0) (n := L.n) (fun c σ H' => (∃ v8 v9 v10, σ = [some (.ref p), some (.ref na), some (.int (L.n : Nat)), some (.ref jl), some (.ref ml), v5, some (.int (a : Nat)), some (.int (b : Nat)), v8, v9, v10]) ∧ Same H4 H' ∧ ∀ c', c' < c → L.sbr a b c' = false) ⟨⟨_, _, _, rfl⟩, s7, fun j hj => absurd hj (Nat.not_lt_zero _)⟩ ?_ ?_⟩
        · rintro c σ H8 hc ⟨⟨v8, v9, v10, rfl⟩, s8, nc⟩
          have hc : c < L.n := hc
          rw [show (0 : Int) + (c : Int) = ((c : Nat) : Int) by omega]
          dsimp only [gName]
          obtain ⟨lj, rj, j1, j2, j3⟩ := (hjI.same s8).row hb
          obtain ⟨lm, rm, m1, m2, m3⟩ := (hmI.same s8).row ha
          have k2 := (join_is hJ hb hc).2
          have x2 := (meet_is hM ha hb).2
          have y2 := (meet_is hM ha hc).2
          obtain ⟨lx, rx, x3, x4, x5⟩ := (hjI.same s8).row x2
          refine ⟨_, rfl, _, rfl, ml, _, _, _, rfl, rfl, SqL.of (K := K) m1, atI_nat m2, _, rfl, _, rfl, jl, _, _, _, rfl, rfl, SqL.of (K := K) j1, atI_nat j2, _, rfl, rj, _, _, _, rfl, rfl, SqL.of (K := K) j3, atI_nat (rg_atG hc), rm, _, _, _, rfl, rfl, SqL.of (K := K) m3, atI_nat (rg_atG k2), ?_⟩
          dsimp only [gName]
          refine ⟨_, rfl, _, rfl, _, rfl, _, rfl, ml, _, _, _, rfl, rfl, SqL.of (K := K) m1, atI_nat m2, _, rfl, rm, _, _, _, rfl, rfl, SqL.of (K := K) m3, atI_nat (rg_atG hb), jl, _, _, _, rfl, rfl, SqL.of (K := K) x3, atI_nat x4, ?_⟩
          refine ⟨_, rfl, _, rfl, ml, _, _, _, rfl, rfl, SqL.of (K := K) m1, atI_nat m2, _, rfl, rm, _, _, _, rfl, rfl, SqL.of (K := K) m3, atI_nat (rg_atG hc), rx, _, _, _, rfl, rfl, SqL.of (K := K) x5, atI_nat (rg_atG y2), rfl, _, rfl, ?_⟩
          rw [int_ext]
          show if L.sbr a b c = true then _ else _
          cases ep : L.sbr a b c with
          | false =>
            refine iteF ?_
            refine ⟨⟨_, _, _, rfl⟩, s8, fun c' hc' => ?_⟩
            rcases Nat.lt_or_ge c' c with l | l
            · exact nc c' l
            · obtain rfl : c' = c := by omega
              exact ep
          | true =>
            refine iteT ?_
            have ena8 := s8 _ _ ena
            refine ⟨_, rfl, _, rfl, na, _, _, _, rfl, rfl, SqL.of (K := K) ena8, atI_nat (nm a ha), _, rfl, _, rfl, na, _, _, _, rfl, rfl, SqL.of (K := K) ena8, atI_nat (nm b hb), _, rfl, _, rfl, na, _, _, _, rfl, rfl, SqL.of (K := K) ena8, atI_nat (nm c hc), ?_⟩
            refine ⟨(by show 3 ≤ sizeLine; decide), newQ (.tup [.str (L.names.getD a Str.empty), .str (L.names.getD b Str.empty), .str (L.names.getD c Str.empty)]) fun r1 hr1 s12 e12 => ?_⟩
            generalize upd H8 r1 (.tup [.str (L.names.getD a Str.empty), .str (L.names.getD b Str.empty), .str (L.names.getD c Str.empty)]) = H12 at s12 e12 ⊢
            refine ⟨(by show 2 ≤ sizeLine; decide), newQ (.tup [.str "spread", .ref r1]) fun r2 hr2 s13 e13 => ?_⟩
            refine q _ _ (s04.trans (s8.trans (s12.trans s13))) ?_
            rw [flt_three no (first3_some ha hb hc ep na' nb nc)]
            exact flt_ret (s13 _ _ e12) rfl e13
        · rintro σ H8 ⟨⟨v8, v9, v10, rfl⟩, s8, nc⟩
          refine ⟨⟨_, _, _, _, rfl⟩, s8, fun b' hb' => ?_⟩
          rcases Nat.lt_or_ge b' b with l | l
          · exact nb b' l
          · obtain rfl : b' = b := by omega
            exact nc
      · rintro σ H7 ⟨⟨v7, v8, v9, v10, rfl⟩, s7, nb⟩
        refine ⟨⟨_, _, _, _, _, rfl⟩, s7, fun a' ha' => ?_⟩
        rcases Nat.lt_or_ge a' a with l | l
        · exact na' a' l
        · obtain rfl : a' = a := by omega
          exact nb
    · rintro σ H6 ⟨⟨v6, v7, v8, v9, v10, rfl⟩, s6, na'⟩
      refine q _ H6 (s04.trans s6) ?_
      rw [flt_none no (first3_none na')]
      rfl
end
/-! ### rows of a drawn order -/
section
open PyProof.Rows
set_option pp.maxSteps 900
variable {w W_ : World} {K : PySem.W.Frag} {mg : Str → Option Value} {base : Heap} {H H' : Hp}
/-- a comprehension over a list of places that draws -/
theorem lc_lstD {β : Type} {G : Hp → V → β → Prop} (B : Nat → β → Prop) {p ce a : Addr} {us : List Nat} {g : TG} {tt : TT} {te : TE} {vs : List Nat} {σ : L2.St} {H1 : Hp} {D : Addr} {Qd : Hp → Prop} (hD : H1 D = none) (s1 : Src K ce H1 p) (hc : ∃ o, H1 ce = some o) (ap : a ≠ p) (hl : H1 a = some (.lst (natV us)))
    (kG : ∀ {H H' : Hp} {v : V} {m : β}, Src K ce H p → But p H H' → G H v m → G H' v m) (kD : ∀ {H : Hp} {v : V} {m : β} {zs : List V}, G H v m → G (upd H D (.lst zs)) v m) (xz : us.length ≤ 1000)
    (hs : ∀ (c : Nat) (H : Hp) (Nx : V → Hp → Prop) (Ex : Hp → Prop), c ∈ us → But p H1 H → Src K ce H p → (∃ ys, H D = some (.lst ys)) → (∀ y H2 b, B c b → But p H H2 → Src K ce H2 p → G H2 y b → Nx y H2) → (∀ H2, But p H H2 → Src K ce H2 p → Ex H2) →
      g (.int (c : Nat)) (wipe σ vs) H fun σ2 H2 => wipe σ2 vs = wipe σ vs ∧ tt σ2 H2 fun b H3 => if b = true then te σ2 H3 Nx else Ex H3)
    (hd : ∀ H ys bs, But p H1 H → Src K ce H p → H D = some (.lst ys) → Al (G H) ys bs → (∀ b ∈ bs, ∃ c, c ∈ us ∧ B c b) → bs.length ≤ us.length → Qd H) :
    ∃ W : Nat → Nat → Hp → Prop, (∃ m, W 0 m (upd H1 D (.lst []))) ∧ ∀ i m H, W i m H →
      ((Itl K a).stop i H ∧ Qd H) ∨ ((Itl K a).go i H ∧ ∃ Nx : Hp → Prop, (∀ H', Nx H' → ∃ m', m' < m ∧ W (i + 1) m' H') ∧ ∀ x H', (Itl K a).yld i H x H' → g x (wipe σ vs) H' fun σ2 H2 => wipe σ2 vs = wipe σ vs ∧ tt σ2 H2 fun b H3 =>
        if b = true then te σ2 H3 fun y H4 => ∃ acc, H4 D = some (.lst acc) ∧ acc.length < sizeLine ∧ Nx (upd H4 D (.lst (acc ++ [y]))) else Nx H3) := by
  have Dp : D ≠ p := s1.ne hD
  have Dc : D ≠ ce := fun e => by obtain ⟨o, hc⟩ := hc; rw [← e, hD] at hc; cases hc
  have aD : a ≠ D := fun e => by rw [e, hD] at hl; cases hl
  refine lc_foldF (walk_list (K := K) (a := a) (xs := natV us)) (fun H => But p H1 H ∧ Src K ce H p) (fun i H ys => ∃ bs, Al (G H) ys bs ∧ (∀ b ∈ bs, ∃ c, c ∈ us ∧ B c b) ∧ bs.length ≤ i ∧ i ≤ us.length) ⟨(Same.new hD _).but p, s1.upd Dp Dc _⟩ (fun H ys zs s hy => ⟨fun b o n h => ?_, s.2.upd Dp Dc _⟩) ⟨[], .nil, (fun b hb => by cases hb), Nat.le_refl _, Nat.zero_le _⟩ (fun i H ys zs xs ⟨bs, r, r2⟩ _ => ⟨bs, al_imp r fun v b => kD, r2⟩) (fun i H ys ⟨bs, r, _, r3, r4⟩ => ?_) (fun H s => SqL.of (K := K) (s.1 _ _ ap hl)) ?_ (fun H ys s hy ⟨bs, r1, r2, r3, _⟩ => hd H ys bs s.1 s.2 hy r1 r2 (by rw [natV_length] at r3; exact r3))
  · rw [upd_ne (fun e => by rw [e, hD] at h; cases h)]
    exact s.1 b o n h
  · rw [al_len r]
    omega
  · rintro i x H2 H3 ys Nx Ex hi s hy ⟨bs, r1, r2, r3, r4⟩ ⟨e, hx⟩ k1 k2
    obtain rfl : H2 = H3 := e.symm
    obtain ⟨c, hc', rfl⟩ := nat_at hx
    have hi : i < us.length := by rw [natV_length] at hi; exact hi
    have cm := List.mem_of_getElem? hc'
    refine hs c H2 Nx Ex cm s.1 s.2 ⟨_, hy⟩ (fun y H4 b hb b4 s4 gy => k1 y H4 ⟨s.1.trans b4, s4⟩ (b4 _ _ Dp hy) ⟨bs ++ [b], al_snoc (al_imp r1 fun v b => kG s.2 b4) gy, fun z hz => ?_, by rw [List.length_append]; show _ + 1 ≤ _; omega, hi⟩) (fun H4 b4 s4 => k2 H4 ⟨s.1.trans b4, s4⟩ (b4 _ _ Dp hy) ⟨bs, al_imp r1 fun v b => kG s.2 b4, r2, by omega, hi⟩)
    rcases List.mem_append.mp hz with hz | hz
    · exact r2 z hz
    · obtain rfl : z = b := by simpa using hz
      exact ⟨c, cm, hb⟩
def diaP : List (Nat × Nat) := [(0, 1), (0, 2), (0, 3), (1, 4), (2, 4), (3, 4)]
def pentP : List (Nat × Nat) := [(0, 1), (1, 2), (2, 4), (0, 3), (3, 4)]
def duoG (D : Addr) : Hp → V → Nat × Nat → Prop := fun H v q => ∃ t, v = V.ref t ∧ t ≠ D ∧ H t = some (.lst [.int (q.1 : Nat), .int (q.2 : Nat)])
def sp_lor (K : PySem.W.Frag) : Sp := fun vs H Q _ => ∃ (p ce : Addr), vs = [.ref p] ∧ Src K ce H p ∧ (∃ o, H ce = some o) ∧ ce ≠ p ∧ ∀ (r : Addr) (n : Nat) (R : Nat → Nat → Bool) (H' : Hp), But p H H' → Src K ce H' p → GridAt H' r n (rowV R) → Pre n R → 1 ≤ n → n ≤ 16 → Q (.ref r) H'
theorem ok_lor (T : Tx K mg w) : FnOk PL w K mg base CX0 4 T.a__law_order T.d__law_order ["state"] (sp_lor K) := by
  have G__law_pick := ok__law_pick (P := PL) (w := w) (base := base) T
  have G__law_heaps := ok_lhp (w := w) (base := base) T
  have G__law_parts := ok_lpt (w := w) (base := base) T
  have G__law_closed := ok_lcl (w := w) (base := base) T
  refine T.F__law_order.ok sc__law_order (fun vs H Q E h => ?_) (fun cdv A outer s H vs Q E hr h => ?_)
  · obtain ⟨p, ce, rfl, _⟩ := h
    rfl
  obtain ⟨p, c, rfl, src, ⟨oc, hc⟩, cp, q⟩ := h
  refine ⟨_, pss_cons (ps_set (i := 1) sc__law_order.nd rfl (Or.inr rfl) (pe_call G__law_pick (hr.mono (by omega)) (by rfl) T.g__law_pick T.F__law_pick.kp T.b__law_pick .nil pass0 (pa_cons (pv 0) (pa_cons pe_int pa_nil))))
    (pss_cons (ps_if (pt_cmpR op_eq (pv 1) pe_int (nomark _)) (pss_cons (ps_set (i := 2) sc__law_order.nd rfl (Or.inr rfl) (pe_op op_add pe_int (pe_call G__law_pick (hr.mono (by omega)) (by rfl) T.g__law_pick T.F__law_pick.kp T.b__law_pick .nil pass0 (pa_cons (pv 0) (pa_cons pe_int pa_nil)))))
    (pss_cons (ps_set (i := 3) sc__law_order.nd rfl (Or.inl rfl) (pe_cmpR op_eq (pe_call G__law_pick (hr.mono (by omega)) (by rfl) T.g__law_pick T.F__law_pick.kp T.b__law_pick .nil pass0 (pa_cons (pv 0) (pa_cons pe_int pa_nil))) pe_int (nomark _)))
    (pss_cons (ps_setLc (i := 4) (own := [("k", 5)]) (g := gName 5) (tt := tYes) rfl sc__law_order.nd rfl rfl (sw_true rfl rfl rfl (by decide +kernel)) (pi_range1 (by rfl) T.n_range (pa_cons (pe_call G__law_pick (hr.mono (by omega)) (by rfl) T.g__law_pick T.F__law_pick.kp T.b__law_pick .nil pass0 (pa_cons (pv 0) (pa_cons pe_int pa_nil))) pa_nil)) (blkOk_by (N := N__law_order) (sc := defScope St__law_order) (by decide +kernel)) (fun _ _ _ _ _ => (pg_name (i := 5) sc__law_order.nd rfl (Or.inl rfl))) (fun _ _ _ _ _ => pts_nil) (fun _ _ _ _ _ => (pe_lst (pa_cons (pe_call G__law_pick (hr.mono (by omega)) (by rfl) T.g__law_pick T.F__law_pick.kp T.b__law_pick .nil pass0 (pa_cons (pv 0) (pa_cons (pv 2) pa_nil))) (pa_cons (pe_call G__law_pick (hr.mono (by omega)) (by rfl) T.g__law_pick T.F__law_pick.kp T.b__law_pick .nil pass0 (pa_cons (pv 0) (pa_cons (pv 2) pa_nil))) pa_nil)))))
    (pss_cons (ps_if (pt_val (pv 3)) (pss_one (ps_setLc (i := 4) (own := [("pair", 6)]) (g := gName 6) (tt := tYes) rfl sc__law_order.nd rfl rfl (sw_true rfl rfl rfl (by decide +kernel)) (pi_list (pv 4)) (blkOk_by (N := N__law_order) (sc := defScope St__law_order) (by decide +kernel)) (fun _ _ _ _ _ => (pg_name (i := 6) sc__law_order.nd rfl (Or.inl rfl))) (fun _ _ _ _ _ => pts_nil) (fun _ _ _ _ _ => (pe_lst (pa_cons (pe_callB (call_min2 rfl) (by rfl) T.n_min (by decide +kernel) (pa_cons (pe_callTy call_int1 (by rfl) T.n_int (by decide +kernel) (pa_cons (pe_ix (kx_ix_list K) (pv 6) pe_int (fun _ _ => rfl)) pa_nil)) (pa_cons (pe_callTy call_int1 (by rfl) T.n_int (by decide +kernel) (pa_cons (pe_ix (kx_ix_list K) (pv 6) pe_int (fun _ _ => rfl)) pa_nil)) pa_nil))) (pa_cons (pe_callB (call_max2 rfl) (by rfl) T.n_max (by decide +kernel) (pa_cons (pe_callTy call_int1 (by rfl) T.n_int (by decide +kernel) (pa_cons (pe_ix (kx_ix_list K) (pv 6) pe_int (fun _ _ => rfl)) pa_nil)) (pa_cons (pe_callTy call_int1 (by rfl) T.n_int (by decide +kernel) (pa_cons (pe_ix (kx_ix_list K) (pv 6) pe_int (fun _ _ => rfl)) pa_nil)) pa_nil))) pa_nil)))))) pss_nil)
    (pss_one (ps_ret (pe_call G__law_closed (hr.mono (by omega)) (by rfl) T.g__law_closed T.F__law_closed.kp T.b__law_closed .nil pass0 (pa_cons (pv 2) (pa_cons (pv 4) pa_nil))))))))) pss_nil)
    (pss_cons (ps_if (pt_cmpR op_eq (pv 1) pe_int (nomark _)) (pss_cons (ps_set (i := 7) sc__law_order.nd rfl (Or.inl rfl) (pe_lst (pa_cons (pe_lst (pa_cons pe_int (pa_cons pe_int pa_nil))) (pa_cons (pe_lst (pa_cons pe_int (pa_cons pe_int pa_nil))) (pa_cons (pe_lst (pa_cons pe_int (pa_cons pe_int pa_nil))) (pa_cons (pe_lst (pa_cons pe_int (pa_cons pe_int pa_nil))) (pa_cons (pe_lst (pa_cons pe_int (pa_cons pe_int pa_nil))) (pa_cons (pe_lst (pa_cons pe_int (pa_cons pe_int pa_nil))) pa_nil))))))))
    (pss_cons (ps_set (i := 4) sc__law_order.nd rfl (Or.inl rfl) (pe_ifExp (pt_cmpR op_eq (pe_call G__law_pick (hr.mono (by omega)) (by rfl) T.g__law_pick T.F__law_pick.kp T.b__law_pick .nil pass0 (pa_cons (pv 0) (pa_cons pe_int pa_nil))) pe_int (nomark _)) (pv 7) (pe_lst (pa_cons (pe_lst (pa_cons pe_int (pa_cons pe_int pa_nil))) (pa_cons (pe_lst (pa_cons pe_int (pa_cons pe_int pa_nil))) (pa_cons (pe_lst (pa_cons pe_int (pa_cons pe_int pa_nil))) (pa_cons (pe_lst (pa_cons pe_int (pa_cons pe_int pa_nil))) (pa_cons (pe_lst (pa_cons pe_int (pa_cons pe_int pa_nil))) pa_nil))))))))
    (pss_cons (ps_set (i := 8) sc__law_order.nd rfl (Or.inl rfl) (pe_call G__law_pick (hr.mono (by omega)) (by rfl) T.g__law_pick T.F__law_pick.kp T.b__law_pick .nil pass0 (pa_cons (pv 0) (pa_cons pe_int pa_nil))))
    (pss_one (ps_ret (pe_call G__law_closed (hr.mono (by omega)) (by rfl) T.g__law_closed T.F__law_closed.kp T.b__law_closed .nil pass0 (pa_cons (pe_op op_add pe_int (pe_callTy call_int1 (by rfl) T.n_int (by decide +kernel) (pa_cons (pe_cmpR op_gt (pv 8) pe_int (nomark _)) pa_nil))) (pa_cons (pe_op op_cat (pv 4) (pe_ix ix_list (pe_lst (pa_cons (pe_lst pa_nil) (pa_cons (pe_lst (pa_cons (pe_lst (pa_cons pe_int (pa_cons pe_int pa_nil))) pa_nil)) (pa_cons (pe_lst (pa_cons (pe_lst (pa_cons pe_int (pa_cons pe_int pa_nil))) pa_nil)) pa_nil)))) (pv 8) (fun _ _ => rfl))) pa_nil)))))))) pss_nil)
    (pss_cons (ps_set (i := 9) sc__law_order.nd rfl (Or.inr rfl) (pe_call G__law_parts (hr.mono (by omega)) (by rfl) T.g__law_parts T.F__law_parts.kp T.b__law_parts .nil pass0 (pa_cons (pe_ix ix_list (pe_call G__law_heaps (hr.mono (by omega)) (by rfl) T.g__law_heaps T.F__law_heaps.kp T.b__law_heaps .nil pass0 (pa_cons (pv 0) (pa_cons pe_int pa_nil))) pe_int (fun _ _ => rfl)) pa_nil)))
    (pss_cons (ps_set (i := 4) sc__law_order.nd rfl (Or.inl rfl) (pe_lst pa_nil))
    (pss_cons (ps_for PassesOwn.never rfl (pi_range1 (by rfl) T.n_range (pa_cons (pe_callB call_len_seq (by rfl) T.n_len (by decide +kernel) (pa_cons (pv 9) pa_nil)) pa_nil)) (pg_name (i := 10) sc__law_order.nd rfl (Or.inr rfl)) (pss_cons (ps_setLc (i := 11) (own := [("b", 12)]) (g := gName 12) rfl sc__law_order.nd rfl rfl (sw_true rfl rfl rfl (by decide +kernel)) (pi_range1 (by rfl) T.n_range (pa_cons (pe_callB call_len_seq (by rfl) T.n_len (by decide +kernel) (pa_cons (pv 9) pa_nil)) pa_nil)) (blkOk_by (N := N__law_order) (sc := defScope St__law_order) (by decide +kernel)) (fun _ _ _ _ _ => (pg_name (i := 12) sc__law_order.nd rfl (Or.inl rfl))) (fun _ _ _ _ _ => (pts_one (pt_val (pe_ix (kx_ix_list K) (pe_ix (kx_ix_list K) (pv 9) (pv 10) (fun _ _ => rfl)) (pv 12) (fun _ _ => rfl))))) (fun _ _ _ _ _ => (pv 12)))
    (pss_one (ps_set (i := 4) sc__law_order.nd rfl (Or.inl rfl) (pe_op op_cat (pv 4) (pe_lc (own := [("b", 12)]) (g := gName 12) rfl sc__law_order.nd (pi_list (pv 11)) (blkOk_by (N := N__law_order) (sc := defScope St__law_order) (by decide +kernel)) (fun _ _ _ _ _ => (pg_name (i := 12) sc__law_order.nd rfl (Or.inl rfl))) (fun _ _ _ _ _ => (pts_one (PW.pt (pw_or (pt_cmpR op_eq (pv 1) pe_int (nomark _)) (pw_or1 (pt_cmpR op_gt (pe_call G__law_pick (hr.mono (by omega)) (by rfl) T.g__law_pick T.F__law_pick.kp T.b__law_pick .nil pass0 (pa_cons (pv 0) (pa_cons pe_int pa_nil))) pe_int (nomark _))))))) (fun _ _ _ _ _ => (pe_lst (pa_cons (pv 10) (pa_cons (pv 12) pa_nil))))))))))
    (pss_one (ps_ret (pe_call G__law_closed (hr.mono (by omega)) (by rfl) T.g__law_closed T.F__law_closed.kp T.b__law_closed .nil pass0 (pa_cons (pe_callB call_len_seq (by rfl) T.n_len (by decide +kernel) (pa_cons (pv 9) pa_nil)) (pa_cons (pv 4) pa_nil)))))))))), ?_⟩
  refine ⟨_, rfl, p, c, 4, rfl, src, by decide, fun way H1 b1 s1 w0 w1 => ?_⟩
  have hc1 := b1 _ _ cp hc
  dsimp only [gName]
  refine ⟨_, rfl, rfl, _, rfl, ?_⟩
  refine ite2 (fun _ => ?_) (fun _ => nx_run ?_)
  · -- drawn pairs
    refine set_run (fun v H' => ∃ n : Nat, v = .int (n : Nat) ∧ 1 ≤ n ∧ n ≤ 6 ∧ But p H1 H' ∧ Src K c H' p) (fun Q' q' => ?_) ?_
    · refine ⟨_, rfl, p, c, 6, rfl, s1, by decide, fun d H2 b2 s2 d0 d1 => ⟨_, _, rfl, rfl, ?_⟩⟩
      exact q' _ _ ⟨(1 + d).toNat, by rw [Int.toNat_of_nonneg (by omega)], by omega, by omega, b2, s2⟩
    rintro _ H2 ⟨n, rfl, n1, n6, b2, s2⟩
    dsimp only [gName]
    refine ⟨_, rfl, p, c, 2, rfl, s2, by decide, fun d H3 b3 s3 d0 d1 => ⟨rfl, ?_⟩⟩
    generalize decide (V.int d = V.int 0) = up
    dsimp only [gName]
    refine ⟨_, rfl, p, c, 10, rfl, s3, by decide, fun m H4 b4 s4 m0 m1 => ?_⟩
    obtain ⟨m, rfl⟩ : ∃ i : Nat, m = (i : Int) := ⟨m.toNat, by omega⟩
    have b14 := (b2.trans b3).trans b4
    have hc4 := b14 _ _ cp hc1
    refine ⟨_, rfl, by omega, by omega, fun D hD => ?_⟩
    refine lc_rngD (n := m) (G := duoG D) (fun _ q => q.1 < n ∧ q.2 < n) hD s4 ⟨_, hc4⟩ (fun s bb ⟨t, e, n, h⟩ => ⟨t, e, n, bb _ _ (ne_src s h) h⟩) (fun ⟨t, e, n, h⟩ => ⟨t, e, n, (upd_ne n).trans h⟩) (by omega) ?_ (fun H5 ys qs b5 s5 hy r1 r2 r3 => ?_)
    · rintro i H5 Nx Ex hi b5 s5 ⟨ys, hy⟩ ky kn
      have Dp : D ≠ p := s4.ne hD
      refine ⟨rfl, ?_⟩
      refine lcY ?_
      refine ⟨_, rfl, _, rfl, p, c, n, rfl, s5, by omega, fun x H6 b6 s6 x0 x1 => ?_⟩
      obtain ⟨x, rfl⟩ : ∃ i : Nat, x = (i : Int) := ⟨x.toNat, by omega⟩
      refine ⟨_, rfl, _, rfl, p, c, n, rfl, s6, by omega, fun y H7 b7 s7 y0 y1 => ?_⟩
      obtain ⟨y, rfl⟩ : ∃ i : Nat, y = (i : Int) := ⟨y.toNat, by omega⟩
      refine ⟨(by show 2 ≤ sizeLine; decide), newQ (.lst [.int (x : Nat), .int (y : Nat)]) fun t ht s8 e8 => ?_⟩
      have b57 := b6.trans b7
      exact ky _ _ (x, y) ⟨by show x < n; omega, by show y < n; omega⟩ (b57.trans (s8.but p)) (s7.same s8) ⟨t, rfl, (fun e => by rw [e, b57 _ _ Dp hy] at ht; cases ht), e8⟩
    have hq5 := DuosAt.of hy r1
    have qb : ∀ q ∈ qs, q.1 < n ∧ q.2 < n := fun q hq => by
      obtain ⟨_, _, h⟩ := r2 q hq
      exact h
    have b15 := b14.trans b5
    dsimp only [gName]
    refine st_run (fun σ H' => ∃ (pl : Addr) (v5 v6 : Option V) (ps : List (Nat × Nat)), σ = [some (.ref p), some (.int way), some (.int (n : Nat)), some (.bl up), some (.ref pl), v5, v6, none, none, none, none, none, none] ∧ Same H5 H' ∧ DuosAt H' pl ps ∧ ps.length ≤ 10 ∧ ∀ q ∈ ps, q.1 < n ∧ q.2 < n) (fun D' hD' kk => ?_) ?_
    · refine ⟨_, rfl, _, rfl, ?_⟩
      cases up with
      | false => exact iteF (nx_run (kk _ _ ⟨D, _, _, qs, rfl, Same.refl _, hq5, by omega, qb⟩))
      | true =>
        refine iteT ?_
        obtain ⟨as, h1, h2⟩ := id hq5.ex
        refine ⟨_, rfl, D, rfl, ⟨_, SqL.of (K := K) h1⟩, fun D2 hD2 => ?_⟩
        refine lc_refs (G := duoG D2) (fun q : Nat × Nat => (min q.1 q.2, max q.1 q.2)) hD2 (fun s ⟨t, e, n, h⟩ => ⟨t, e, n, s _ _ h⟩) (fun ⟨t, e, n, h⟩ => ⟨t, e, n, (upd_ne n).trans h⟩) (by rw [al_len h2]; omega) (al_len h2) h1 ?_ (fun H6 ys s6 hy6 rr => ?_)
        · rintro i l b H6 Nx Ex hl hb s6 ⟨ys, hy⟩ ky
          obtain ⟨b', e1, e2⟩ := al_get h2 hl
          rw [hb] at e1
          obtain rfl := Option.some.inj e1
          have e2 := s6 _ _ e2
          refine ⟨rfl, ?_⟩
          refine lcY ?_
          refine ⟨_, rfl, l, _, _, _, rfl, rfl, SqL.of (K := K) e2, atI_nat (j := 0) rfl, .inl ⟨_, rfl, _, rfl, l, _, _, _, rfl, rfl, SqL.of (K := K) e2, atI_nat (j := 1) rfl, .inl ⟨_, rfl, _, _, rfl, ?_⟩⟩⟩
          refine ⟨_, rfl, l, _, _, _, rfl, rfl, SqL.of (K := K) e2, atI_nat (j := 0) rfl, .inl ⟨_, rfl, _, rfl, l, _, _, _, rfl, rfl, SqL.of (K := K) e2, atI_nat (j := 1) rfl, .inl ⟨_, rfl, _, _, rfl, ?_⟩⟩⟩
          have emin : (if ((b.2 : Nat) : Int) < ((b.1 : Nat) : Int) then ((b.2 : Nat) : Int) else ((b.1 : Nat) : Int)) = ((min b.1 b.2 : Nat) : Int) := by split <;> omega
          have emax : (if ((b.2 : Nat) : Int) > ((b.1 : Nat) : Int) then ((b.2 : Nat) : Int) else ((b.1 : Nat) : Int)) = ((max b.1 b.2 : Nat) : Int) := by split <;> omega
          rw [emin, emax]
          refine ⟨(by show 2 ≤ sizeLine; decide), newQ (.lst [.int ((min b.1 b.2 : Nat) : Int), .int ((max b.1 b.2 : Nat) : Int)]) fun t ht s8 e8 => ?_⟩
          exact ky _ _ s8 ⟨t, rfl, (fun e => by rw [e, hy] at ht; cases ht), e8⟩
        · have hq6 := DuosAt.of hy6 rr
          refine kk _ _ ⟨D2, _, _, _, rfl, s6, hq6, by rw [List.length_map]; omega, fun q hq => ?_⟩
          obtain ⟨z, hz, rfl⟩ := List.mem_map.mp hq
          have := qb z hz
          exact ⟨by show min _ _ < n; omega, by show max _ _ < n; omega⟩
    rintro _ H6 ⟨pl, v5, v6, ps, rfl, s6, hq6, lps, hps⟩
    refine ⟨_, rfl, _, rfl, pl, n, ps, rfl, hq6, by omega, by omega, hps, fun r H7 s7 hg => ?_⟩
    exact q r n (closedR n ps) H7 (b1.trans (b15.trans ((s6.trans s7).but p))) (s5.same (s6.trans s7)) hg (closed_pre hps) n1 (by omega)
  dsimp only
  refine ⟨_, rfl, rfl, _, rfl, ?_⟩
  refine ite2 (fun _ => ?_) (fun _ => nx_run ?_)
  · -- the least ones whose meets do not spread
    refine set_run (fun v H' => ∃ dl, v = .ref dl ∧ DuosAt H' dl diaP ∧ Same H1 H') (fun Q' q' => ?_) ?_
    · refine ⟨(by show 2 ≤ sizeLine; decide), newQ (.lst [.int 0, .int 1]) fun x0 x00 sx0 ex0 => ?_⟩
      generalize upd H1 x0 (.lst [.int 0, .int 1]) = Hx0 at sx0 ex0 ⊢
      refine ⟨(by show 2 ≤ sizeLine; decide), newQ (.lst [.int 0, .int 2]) fun x1 x10 sx1 ex1 => ?_⟩
      generalize upd Hx0 x1 (.lst [.int 0, .int 2]) = Hx1 at sx1 ex1 ⊢
      refine ⟨(by show 2 ≤ sizeLine; decide), newQ (.lst [.int 0, .int 3]) fun x2 x20 sx2 ex2 => ?_⟩
      generalize upd Hx1 x2 (.lst [.int 0, .int 3]) = Hx2 at sx2 ex2 ⊢
      refine ⟨(by show 2 ≤ sizeLine; decide), newQ (.lst [.int 1, .int 4]) fun x3 x30 sx3 ex3 => ?_⟩
      generalize upd Hx2 x3 (.lst [.int 1, .int 4]) = Hx3 at sx3 ex3 ⊢
      refine ⟨(by show 2 ≤ sizeLine; decide), newQ (.lst [.int 2, .int 4]) fun x4 x40 sx4 ex4 => ?_⟩
      generalize upd Hx3 x4 (.lst [.int 2, .int 4]) = Hx4 at sx4 ex4 ⊢
      refine ⟨(by show 2 ≤ sizeLine; decide), newQ (.lst [.int 3, .int 4]) fun x5 x50 sx5 ex5 => ?_⟩
      generalize upd Hx4 x5 (.lst [.int 3, .int 4]) = Hx5 at sx5 ex5 ⊢
      refine ⟨(by show 6 ≤ sizeLine; decide), newQ (.lst [.ref x0, .ref x1, .ref x2, .ref x3, .ref x4, .ref x5]) fun x xz sx ex => ?_⟩
      generalize upd Hx5 x (.lst [.ref x0, .ref x1, .ref x2, .ref x3, .ref x4, .ref x5]) = Hx at sx ex ⊢
      have dx : DuosAt Hx x [(0, 1), (0, 2), (0, 3), (1, 4), (2, 4), (3, 4)] := ⟨[x0, x1, x2, x3, x4, x5], ex, .cons ((((((sx1.trans sx2).trans sx3).trans sx4).trans sx5).trans sx) _ _ ex0) (.cons (((((sx2.trans sx3).trans sx4).trans sx5).trans sx) _ _ ex1) (.cons ((((sx3.trans sx4).trans sx5).trans sx) _ _ ex2) (.cons (((sx4.trans sx5).trans sx) _ _ ex3) (.cons ((sx5.trans sx) _ _ ex4) (.cons ((sx) _ _ ex5) (.nil))))))⟩
      exact q' _ _ ⟨x, rfl, dx, (((((sx0.trans sx1).trans sx2).trans sx3).trans sx4).trans sx5).trans sx⟩
    rintro _ H2 ⟨dl, rfl, hdl, s2⟩
    dsimp only [gName]
    have src2 := s1.same s2
    have hc2 := s2 _ _ hc1
    refine set_run (fun v H' => ∃ (pl : Addr) (ps : List (Nat × Nat)), v = .ref pl ∧ DuosAt H' pl ps ∧ ps.length ≤ 6 ∧ (∀ q ∈ ps, q.1 < 5 ∧ q.2 < 5) ∧ pl ≠ p ∧ But p H2 H' ∧ Src K c H' p) (fun Q' q' => ?_) ?_
    · refine ⟨_, rfl, p, c, 2, rfl, src2, by decide, fun d H3 b3 s3 d0 d1 => ⟨rfl, _, rfl, ?_⟩⟩
      have dlp : dl ≠ p := fun e => by
        obtain ⟨ls, h1, _⟩ := hdl.ex
        obtain ⟨cs, i, l', m, S⟩ := src2
        rw [e, S.at_] at h1
        have := HO.lst.inj (Option.some.inj h1)
        match ls, this with
        | _ :: [], h => simp at h
        | _ :: _ :: _, h => simp at h
      refine ite2 (fun _ => ?_) (fun _ => ?_)
      · exact ⟨_, rfl, q' _ _ ⟨dl, _, rfl, hdl.drawn src2 dlp b3, (by decide), (by decide), dlp, b3, s3⟩⟩
      · refine ⟨(by show 2 ≤ sizeLine; decide), newQ (.lst [.int 0, .int 1]) fun y0 y00 sy0 ey0 => ?_⟩
        generalize upd H3 y0 (.lst [.int 0, .int 1]) = Hy0 at sy0 ey0 ⊢
        refine ⟨(by show 2 ≤ sizeLine; decide), newQ (.lst [.int 1, .int 2]) fun y1 y10 sy1 ey1 => ?_⟩
        generalize upd Hy0 y1 (.lst [.int 1, .int 2]) = Hy1 at sy1 ey1 ⊢
        refine ⟨(by show 2 ≤ sizeLine; decide), newQ (.lst [.int 2, .int 4]) fun y2 y20 sy2 ey2 => ?_⟩
        generalize upd Hy1 y2 (.lst [.int 2, .int 4]) = Hy2 at sy2 ey2 ⊢
        refine ⟨(by show 2 ≤ sizeLine; decide), newQ (.lst [.int 0, .int 3]) fun y3 y30 sy3 ey3 => ?_⟩
        generalize upd Hy2 y3 (.lst [.int 0, .int 3]) = Hy3 at sy3 ey3 ⊢
        refine ⟨(by show 2 ≤ sizeLine; decide), newQ (.lst [.int 3, .int 4]) fun y4 y40 sy4 ey4 => ?_⟩
        generalize upd Hy3 y4 (.lst [.int 3, .int 4]) = Hy4 at sy4 ey4 ⊢
        refine ⟨(by show 5 ≤ sizeLine; decide), newQ (.lst [.ref y0, .ref y1, .ref y2, .ref y3, .ref y4]) fun y yz sy ey => ?_⟩
        generalize upd Hy4 y (.lst [.ref y0, .ref y1, .ref y2, .ref y3, .ref y4]) = Hy at sy ey ⊢
        have dy : DuosAt Hy y [(0, 1), (1, 2), (2, 4), (0, 3), (3, 4)] := ⟨[y0, y1, y2, y3, y4], ey, .cons (((((sy1.trans sy2).trans sy3).trans sy4).trans sy) _ _ ey0) (.cons ((((sy2.trans sy3).trans sy4).trans sy) _ _ ey1) (.cons (((sy3.trans sy4).trans sy) _ _ ey2) (.cons ((sy4.trans sy) _ _ ey3) (.cons ((sy) _ _ ey4) (.nil)))))⟩
        have sA := ((((sy0.trans sy1).trans sy2).trans sy3).trans sy4).trans sy
        exact q' _ _ ⟨y, _, rfl, dy, (by decide), (by decide), (s3.same ((((sy0.trans sy1).trans sy2).trans sy3).trans sy4)).ne yz, b3.trans (sA.but p), s3.same sA⟩
    rintro _ H3 ⟨pl, ps, rfl, hd, lps, hps, plp, b3, s3⟩
    dsimp only [gName]
    refine ⟨_, rfl, p, c, 3, rfl, s3, by decide, fun more H4 b4 s4 m0 m1 => ?_⟩
    have hd4 := hd.drawn s3 plp b4
    have b14 := ((s2.but p).trans b3).trans b4
    dsimp only [gName]
    obtain ⟨as, h1, h2⟩ := id hd4.ex
    have las := al_len h2
    refine ⟨_, rfl, _, _, rfl, rfl, .inr ⟨_, rfl, _, _, rfl, rfl, ?_⟩⟩
    refine ⟨_, rfl, ?_⟩
    refine ⟨(by show 0 ≤ sizeLine; decide), newQ (.lst []) fun z0 z00 sz0 ez0 => ?_⟩
    generalize upd H4 z0 (.lst []) = H5 at sz0 ez0 ⊢
    refine ⟨(by show 2 ≤ sizeLine; decide), newQ (.lst [.int 4, .int 5]) fun u0 u00 su0 eu0 => ?_⟩
    generalize upd H5 u0 (.lst [.int 4, .int 5]) = Hu0 at su0 eu0 ⊢
    refine ⟨(by show 1 ≤ sizeLine; decide), newQ (.lst [.ref u0]) fun u uz su eu => ?_⟩
    generalize upd Hu0 u (.lst [.ref u0]) = Hu at su eu ⊢
    have du : DuosAt Hu u [(4, 5)] := ⟨[u0], eu, .cons ((su) _ _ eu0) (.nil)⟩
    refine ⟨(by show 2 ≤ sizeLine; decide), newQ (.lst [.int 5, .int 0]) fun v0 v00 sv0 ev0 => ?_⟩
    generalize upd Hu v0 (.lst [.int 5, .int 0]) = Hv0 at sv0 ev0 ⊢
    refine ⟨(by show 1 ≤ sizeLine; decide), newQ (.lst [.ref v0]) fun v vz sv ev => ?_⟩
    generalize upd Hv0 v (.lst [.ref v0]) = Hv at sv ev ⊢
    have dv : DuosAt Hv v [(5, 0)] := ⟨[v0], ev, .cons ((sv) _ _ ev0) (.nil)⟩
    refine ⟨(by show 3 ≤ sizeLine; decide), newQ (.lst [.ref z0, .ref u, .ref v]) fun tt tt0 st et => ?_⟩
    generalize upd Hv tt (.lst [.ref z0, .ref u, .ref v]) = H9 at st et ⊢
    have s5u := su0.trans su
    have suv := sv0.trans sv
    have s49 := ((sz0.trans s5u).trans suv).trans st
    have src9 := s4.same s49
    have h1 := s49 _ _ h1
    have hd9 := hd4.same s49
    have b19 := b14.trans (s49.but p)
    refine ⟨_, rfl, ?_⟩
    rcases (show more = 0 ∨ more = 1 ∨ more = 2 by omega) with rfl | rfl | rfl
    · have hz : DuosAt H9 z0 [] := ⟨[], ((s5u.trans suv).trans st) _ _ ez0, .nil⟩
      have ez : H9 z0 = some (.lst []) := hz.ex.elim fun as h => by
        first | exact ((s5u.trans suv).trans st) _ _ ez0 | exact (suv.trans st) _ _ eu | exact st _ _ ev
      refine ⟨tt, _, _, _, rfl, rfl, SqL.of (K := K) et, atI_nat (j := 0) rfl, pl, z0, _, _, rfl, rfl, h1, ez, small_line (by rw [List.length_map, las]; show ps.length + 0 ≤ _; omega), newQ (.lst (as.map V.ref ++ [])) fun t ht s10 e10 => ?_⟩
      have hcat := hd9.cat hz h1 ez ht
      have hpsn : ∀ q ∈ ps ++ [], q.1 < 5 ∧ q.2 < 5 := fun q hq => by
        rcases List.mem_append.mp hq with hq | hq
        · have := hps q hq; exact ⟨by omega, by omega⟩
        · simp at hq <;> (subst hq; decide)
      refine ⟨t, 5, ps ++ [], rfl, hcat, by decide, by rw [List.length_append]; show _ + 0 ≤ _; omega, hpsn, fun r H11 s11 hg => ?_⟩
      exact q r 5 _ H11 (b1.trans (b19.trans ((s10.trans s11).but p))) (src9.same (s10.trans s11)) hg (closed_pre hpsn) (by decide) (by decide)
    · have hz : DuosAt H9 u [(4, 5)] := (du.same (suv.trans st))
      have ez : H9 u = some (.lst [.ref u0]) := hz.ex.elim fun as h => by
        first | exact ((s5u.trans suv).trans st) _ _ ez0 | exact (suv.trans st) _ _ eu | exact st _ _ ev
      refine ⟨tt, _, _, _, rfl, rfl, SqL.of (K := K) et, atI_nat (j := 1) rfl, pl, u, _, _, rfl, rfl, h1, ez, small_line (by rw [List.length_map, las]; show ps.length + 1 ≤ _; omega), newQ (.lst (as.map V.ref ++ [.ref u0])) fun t ht s10 e10 => ?_⟩
      have hcat := hd9.cat hz h1 ez ht
      have hpsn : ∀ q ∈ ps ++ [(4, 5)], q.1 < 6 ∧ q.2 < 6 := fun q hq => by
        rcases List.mem_append.mp hq with hq | hq
        · have := hps q hq; exact ⟨by omega, by omega⟩
        · simp at hq <;> (subst hq; decide)
      refine ⟨t, 6, ps ++ [(4, 5)], rfl, hcat, by decide, by rw [List.length_append]; show _ + 1 ≤ _; omega, hpsn, fun r H11 s11 hg => ?_⟩
      exact q r 6 _ H11 (b1.trans (b19.trans ((s10.trans s11).but p))) (src9.same (s10.trans s11)) hg (closed_pre hpsn) (by decide) (by decide)
    · have hz : DuosAt H9 v [(5, 0)] := (dv.same st)
      have ez : H9 v = some (.lst [.ref v0]) := hz.ex.elim fun as h => by
        first | exact ((s5u.trans suv).trans st) _ _ ez0 | exact (suv.trans st) _ _ eu | exact st _ _ ev
      refine ⟨tt, _, _, _, rfl, rfl, SqL.of (K := K) et, atI_nat (j := 2) rfl, pl, v, _, _, rfl, rfl, h1, ez, small_line (by rw [List.length_map, las]; show ps.length + 1 ≤ _; omega), newQ (.lst (as.map V.ref ++ [.ref v0])) fun t ht s10 e10 => ?_⟩
      have hcat := hd9.cat hz h1 ez ht
      have hpsn : ∀ q ∈ ps ++ [(5, 0)], q.1 < 6 ∧ q.2 < 6 := fun q hq => by
        rcases List.mem_append.mp hq with hq | hq
        · have := hps q hq; exact ⟨by omega, by omega⟩
        · simp at hq <;> (subst hq; decide)
      refine ⟨t, 6, ps ++ [(5, 0)], rfl, hcat, by decide, by rw [List.length_append]; show _ + 1 ≤ _; omega, hpsn, fun r H11 s11 hg => ?_⟩
      exact q r 6 _ H11 (b1.trans (b19.trans ((s10.trans s11).but p))) (src9.same (s10.trans s11)) hg (closed_pre hpsn) (by decide) (by decide)
  dsimp only
  refine ⟨_, rfl, p, c, 4, rfl, s1, ⟨_, hc1⟩, cp, by decide, fun l1 o1 h1 hs H2 b2 s2 l10 h10 el1 eh1 pw lt n1 => ?_⟩
  have nd : hs.Nodup := pw.imp fun h => Nat.ne_of_lt h
  have n16 : hs.length ≤ 16 := by
    have h2 := List.Nodup.length_le_of_subset nd (fun x hx => List.mem_range.mpr (lt x hx))
    rw [List.length_range] at h2
    exact h2
  refine ⟨l1, _, _, _, rfl, rfl, SqL.of (K := K) el1, atI_nat (j := 1) rfl, h1, hs, rfl, eh1, by omega, fun r H3 s3 r0 hg => ?_⟩
  have b13 := b2.trans (s3.but p)
  have src3 := s2.same s3
  have hc3 := b13 _ _ cp hc1
  have hrp := hg.ne src3
  generalize hs.length = n at hg n1 n16
  clear b2 s2 el1 eh1 s3 l10 h10 r0 pw lt nd
  dsimp only [gName]
  refine set_run (fun v H' => ∃ pl, v = .ref pl ∧ H' pl = some (.lst []) ∧ H3 pl = none ∧ Same H3 H') (fun Q' q' => ⟨(by show 0 ≤ sizeLine; decide), newQ (.lst []) fun l hl s e => q' _ _ ⟨l, rfl, e, hl, s⟩⟩) ?_
  rintro _ H4 ⟨pl, rfl, epl, pl0, s4⟩
  dsimp only [gName]
  have plp := src3.ne pl0
  show tSeq _ _ _ [some (.ref p), some (.int way), none, none, some (.ref pl), none, none, none, none, some (.ref r), none, none, none] H4
  refine st_run (fun σ H' => ∃ (pl : Addr) (ps : List (Nat × Nat)) (v10 v11 v12 : Option V), σ = [some (.ref p), some (.int way), none, none, some (.ref pl), none, none, none, none, some (.ref r), v10, v11, v12] ∧ But p H3 H' ∧ Src K c H' p ∧ DuosAt H' pl ps ∧ ps.length ≤ 256 ∧ ∀ q ∈ ps, q.1 < n ∧ q.2 < n) (fun D' hD q' => ?_) ?_
  · obtain ⟨rs, e1, e2⟩ := hg.len
    refine ⟨_, rfl, r, _, rfl, .inl (SqL.of (K := K) (s4 _ _ e1)), ?_⟩
    rw [e2]
    refine ⟨_, rfl, by omega, by omega, for_range (lo := 0) (n := n) (fun k σ H' => ∃ (pl : Addr) (ps : List (Nat × Nat)) (v10 v11 v12 : Option V), σ = [some (.ref p), some (.int way), none, none, some (.ref pl), none, none, none, none, some (.ref r), v10, v11, v12] ∧ But p H3 H' ∧ Src K c H' p ∧ pl ≠ p ∧ DuosAt H' pl ps ∧ ps.length ≤ k * n ∧ ∀ q ∈ ps, q.1 < n ∧ q.2 < n) ⟨pl, [], none, none, none, rfl, s4.but p, src3.same s4, plp, ⟨[], epl, .nil⟩, Nat.zero_le _, fun q hq => by simp at hq⟩ ?_ ?_⟩
    · rintro a σ H5 ha ⟨pl, ps, v10, v11, v12, rfl, b5, s5, plp, hd, lps, hps⟩
      have ha : a < n := ha
      rw [show (0 : Int) + (a : Int) = ((a : Nat) : Int) by omega]
      dsimp only [gName]
      have hg5 := hg.drawn src3 hrp (fun _ _ _ e => by cases e) b5
      obtain ⟨rs5, e15, e25⟩ := hg5.len
      refine ⟨_, rfl, r, _, rfl, .inl (SqL.of (K := K) e15), ?_⟩
      rw [e25]
      refine ⟨_, rfl, by omega, by omega, fun D hD => ?_⟩
      refine lc_rng (n := n) (G := fun _ v (y : Nat) => v = V.int (y : Nat)) (partR hs a) id hD (fun _ h => h) (fun h => h) (by omega) ?_ (fun H6 zs s6 hz rr => ?_)
      · rintro b H6 Nx Ex hb s6 _ ky kn
        refine ⟨rfl, ?_⟩
        obtain ⟨la, ra, a1, a2, a3⟩ := (hg5.same s6).row ha
        refine ⟨_, rfl, _, rfl, r, _, _, _, rfl, rfl, SqL.of (K := K) a1, atI_nat a2, _, rfl, ra, _, _, _, rfl, rfl, SqL.of (K := K) a3, atI_nat (rg_atG hb), partR hs a b, rfl, ?_⟩
        cases e : partR hs a b with
        | true => exact iteT ⟨_, rfl, ky e _ _ (Same.refl _) rfl⟩
        | false => exact iteF (kn e _ (Same.refl _))
      rw [List.map_id] at rr
      rw [al_map rr] at hz
      have un : ∀ x ∈ (List.range n).filter (partR hs a), x < n := fun x hx => List.mem_range.mp (List.mem_filter.mp hx).1
      have ul := filter_le (partR hs a) n
      generalize (List.range n).filter (partR hs a) = us at hz un ul
      have hz : H6 D = some (.lst (natV us)) := hz
      have Dp : D ≠ p := s5.ne hD
      have src6 := s5.same s6
      have b36 := b5.trans (s6.but p)
      have hd6 := hd.same s6
      have hc6 := b36 _ _ cp hc3
      dsimp only [gName]
      refine ⟨_, rfl, _, rfl, D, rfl, ⟨_, SqL.of (K := K) hz⟩, fun D2 hD2 => ?_⟩
      refine lc_lstD (G := duoG D2) (fun b q => q = (a, b)) hD2 src6 ⟨_, hc6⟩ Dp hz (fun s bb ⟨t, e, n, h⟩ => ⟨t, e, n, bb _ _ (ne_src s h) h⟩) (fun ⟨t, e, n, h⟩ => ⟨t, e, n, (upd_ne n).trans h⟩) (by omega) ?_ (fun H7 ys qs b7 s7 hy r1 r2 r3 => ?_)
      · rintro b H7 Nx Ex hb b7 s7 ⟨ys, hy⟩ ky kn
        have D2p : D2 ≠ p := src6.ne hD2
        refine ⟨rfl, ?_⟩
        have put : ∀ H8, But p H7 H8 → Src K c H8 p → ∀ t, H8 t = none → Nx (.ref t) (upd H8 t (.lst [.int (a : Nat), .int (b : Nat)])) := fun H8 b8 s8 t ht => ky _ _ (a, b) rfl (b8.trans ((Same.new ht _).but p)) (s8.same (Same.new ht _)) ⟨t, rfl, (fun e => by rw [e, b8 _ _ D2p hy] at ht; cases ht), upd_same⟩
        refine ⟨_, rfl, rfl, _, rfl, ?_⟩
        refine ite2 (fun _ => ?_) (fun _ => ?_)
        · exact iteT ⟨_, rfl, _, rfl, (by show 2 ≤ sizeLine; decide), put _ (But.refl _ _) s7⟩
        · refine ⟨_, rfl, p, c, 8, rfl, s7, by decide, fun d H8 b8 s8 d0 d1 => ⟨_, _, rfl, rfl, _, rfl, ?_⟩⟩
          refine ite2 (fun _ => ?_) (fun _ => ?_)
          · exact ⟨_, rfl, _, rfl, (by show 2 ≤ sizeLine; decide), put _ b8 s8⟩
          · exact kn _ b8 s8
      · have hd7 := hd6.drawn src6 plp b7
        have hq7 := DuosAt.of hy r1
        obtain ⟨as, h1, h2⟩ := id hd7.ex
        have l1 : as.length = ps.length := al_len h2
        have l2 : ys.length = qs.length := al_len r1
        have nn : ps.length ≤ 16 * 16 := Nat.le_trans lps (Nat.mul_le_mul (by omega) (by omega))
        refine ⟨pl, D2, _, _, rfl, rfl, h1, hy, small_line (by rw [List.length_map, l1, l2]; omega), newQ (.lst (as.map V.ref ++ ys)) fun t ht s8 e8 => ?_⟩
        have hcat := hd7.cat hq7 h1 hy ht
        refine ⟨t, ps ++ qs, _, _, _, rfl, (b36.trans b7).trans (s8.but p), s7.same s8, s7.ne ht, hcat, ?_, fun q hq => ?_⟩
        · rw [List.length_append, Nat.succ_mul]; omega
        · rcases List.mem_append.mp hq with hq | hq
          · exact hps q hq
          · obtain ⟨b, hb, rfl⟩ := r2 q hq
            exact ⟨ha, un b hb⟩
    · rintro σ H5 ⟨pl, ps, v10, v11, v12, rfl, b5, s5, plp, hd, lps, hps⟩
      exact q' _ _ ⟨pl, ps, v10, v11, v12, rfl, b5, s5, hd, Nat.le_trans lps (Nat.mul_le_mul n16 n16), hps⟩
  rintro _ H5 ⟨pl, ps, v10, v11, v12, rfl, b5, s5, hd, lps, hps⟩
  have hg5 := hg.drawn src3 hrp (fun _ _ _ e => by cases e) b5
  obtain ⟨rs5, e15, e25⟩ := hg5.len
  refine ⟨_, rfl, r, _, rfl, .inl (SqL.of (K := K) e15), ?_⟩
  rw [e25]
  refine ⟨_, rfl, pl, n, ps, rfl, hd, by omega, by omega, hps, fun r' H6 s6 hg6 => ?_⟩
  exact q r' n _ H6 (b1.trans (b13.trans (b5.trans (s6.but p)))) (s5.same s6) hg6 (closed_pre hps) n1 n16
end
/-! ### the law k07 -/
section
open PyProof.Rows
set_option pp.maxSteps 900
variable {w W_ : World} {K : PySem.W.Frag} {mg : Str → Option Value} {base : Heap} {mm : List (Str × Addr)} {H H' : Hp} {L R : Lt}
theorem join2 (sep a b : Str) : PySem.Txt.join sep [a, b] = a ++ sep ++ b := (StrLaws.glued_eq_join _ _).trans rfl
/-- the names v9, v8, .. -/
def vkS (n : Nat) : List Str := (List.range n).map fun k => ("v" : Str) ++ natS (n - k)
theorem vkS_ok : ∀ n : Fin 17, (vkS n.val).Nodup ∧ ((vkS n.val).all fun x => decide (1 ≤ x.length) && decide (x.length ≤ 12) && x.cps.toList.all fun c => lettersS.cps.toList.contains c) = true := by decide +kernel
theorem vkS_len (n : Nat) : (vkS n).length = n := by unfold vkS; rw [List.length_map, List.length_range]
theorem pre_of {n : Nat} {R S : Nat → Nat → Bool} (A : Pre n R) (h : ∀ a b, a < n → b < n → S a b = R a b) : Pre n S :=
  ⟨fun a ha => (h a a ha ha).trans (A.refl a ha), fun a b c ha hb hc h1 h2 => by
    rw [h a b ha hb] at h1
    rw [h b c hb hc] at h2
    rw [h a c ha hc]
    exact A.trans a b c ha hb hc h1 h2⟩
theorem chain_pre (n : Nat) : Pre (chainL n).n (chainL n).le := ⟨fun a _ => decide_eq_true (Nat.le_refl a), fun a b c _ _ _ h1 h2 => decide_eq_true (Nat.le_trans (of_decide_eq_true h1) (of_decide_eq_true h2))⟩
/-- what is known of the lattice -/
structure FltL (L : Lt) : Prop where
  pre : Pre L.n L.le
  n1 : 1 ≤ L.n
  n16 : L.n ≤ 16
  d1 : 1 ≤ L.depth
  d : L.depth ≤ 2
  fit : L.Fit
  nam : ∀ x ∈ L.names, x.length ≤ 20
/-- paired with a chain of two, on either side -/
def twoL (bh : Bool) (L : Lt) : Lt := if bh then pairL L (chainL 2) else pairL (chainL 2) L
def x01 (bh : Bool) (n k : Nat) : Nat × Nat := if bh then (k / 2, k % 2) else (k % n, k / n)
theorem two_n (bh : Bool) (L : Lt) : (twoL bh L).n = 2 * L.n := by
  cases bh
  · show (pairL (chainL 2) L).n = _
    rw [pairL_n, chainL_n]
  · show (pairL L (chainL 2)).n = _
    rw [pairL_n, chainL_n, Nat.mul_comm]
theorem two_x {bh : Bool} {n k : Nat} (hk : k < 2 * n) : (x01 bh n k).1 < n ∧ (x01 bh n k).2 < 2 := by
  cases bh
  · exact ⟨Nat.mod_lt _ (by omega), div_lt2 hk (by omega)⟩
  · exact ⟨div_lt2 (by omega) (by decide), Nat.mod_lt _ (by decide)⟩
theorem two_le (bh : Bool) (L : Lt) (a b : Nat) : (twoL bh L).le a b = (decide ((x01 bh L.n a).2 ≤ (x01 bh L.n b).2) && L.le (x01 bh L.n a).1 (x01 bh L.n b).1) := by
  cases bh
  · rfl
  · show (L.le (a / (chainL 2).n) (b / (chainL 2).n) && decide (a % (chainL 2).n ≤ b % (chainL 2).n)) = (decide (a % 2 ≤ b % 2) && L.le (a / 2) (b / 2))
    rw [chainL_n, Bool.and_comm]
theorem two_nm (bh : Bool) (L : Lt) {k : Nat} (hk : k < 2 * L.n) : (twoL bh L).names[k]? = some (if bh then ("<" : Str) ++ (L.names.getD (x01 bh L.n k).1 Str.empty ++ ("/" : Str) ++ natS (x01 bh L.n k).2) ++ (">" : Str) else ("<" : Str) ++ (natS (x01 bh L.n k).2 ++ ("/" : Str) ++ L.names.getD (x01 bh L.n k).1 Str.empty) ++ (">" : Str)) := by
  have ch : ∀ {i : Nat}, i < 2 → (chainL 2).names.getD i Str.empty = natS i := fun {i} hi => by
    match i, hi with
    | 0, _ => rfl
    | 1, _ => rfl
  have h := two_x (bh := bh) hk
  cases bh
  · show ((List.range ((chainL 2).n * L.n)).map (pairNm (chainL 2) L))[k]? = some (("<" : Str) ++ (natS (k / L.n) ++ ("/" : Str) ++ L.names.getD (k % L.n) Str.empty) ++ (">" : Str))
    rw [chainL_n, List.getElem?_map, List.getElem?_range hk]
    show some (("<" : Str) ++ (chainL 2).names.getD (k / L.n) Str.empty ++ ("/" : Str) ++ L.names.getD (k % L.n) Str.empty ++ (">" : Str)) = _
    rw [ch (show k / L.n < 2 from h.2)]
    simp only [Str.append_assoc]
  · show ((List.range (L.n * (chainL 2).n)).map (pairNm L (chainL 2)))[k]? = some (("<" : Str) ++ (L.names.getD (k / 2) Str.empty ++ ("/" : Str) ++ natS (k % 2)) ++ (">" : Str))
    rw [chainL_n, List.getElem?_map, List.getElem?_range (by omega)]
    show some (("<" : Str) ++ L.names.getD (k / (chainL 2).n) Str.empty ++ ("/" : Str) ++ (chainL 2).names.getD (k % (chainL 2).n) Str.empty ++ (">" : Str)) = _
    rw [chainL_n, ch (show k % 2 < 2 from h.2)]
    simp only [Str.append_assoc]
theorem two_pre (bh : Bool) {L : Lt} (h : Pre L.n L.le) : Pre (twoL bh L).n (twoL bh L).le := by
  cases bh
  · exact pair_preG (chain_pre 2) h
  · exact pair_preG h (chain_pre 2)
theorem flt_dep : ∀ (xs : List Str) (o : Option (Str × List Nat)), (fltD xs o).depth ≤ 3 ∧ ((∀ w ps, o = some (w, ps) → ps.length ≤ 1000) → (fltD xs o).wide)
  | _, none => ⟨by simp [fltD, Dv.depth], fun _ => by simp [fltD, Dv.wide]⟩
  | xs, some (w, ps) => by
    have h1 : Dv.depthA (ps.map fun a => Dv.str (xs.getD a Str.empty)) ≤ 1 := by
      induction ps with
      | nil => simp [Dv.depthA]
      | cons a ps ih => simp [Dv.depthA, Dv.depth] at ih ⊢; omega
    have h2 : Dv.wideA (ps.map fun a => Dv.str (xs.getD a Str.empty)) := by
      clear h1
      induction ps with
      | nil => trivial
      | cons a ps ih => exact ⟨trivial, ih⟩
    refine ⟨?_, fun hl => ?_⟩
    · simp only [fltD, Dv.depth, Dv.depthA]
      omega
    · have := hl w ps rfl
      refine ⟨by show 2 ≤ 100000; decide, trivial, ⟨by rw [List.length_map]; omega, h2⟩, trivial⟩
theorem flt_few (L : Lt) : ∀ w ps, L.fltW = some (w, ps) → ps.length ≤ 1000 := fun w ps e => by
  unfold Lt.fltW at e
  split at e
  · cases e; show 2 ≤ 1000; decide
  · split at e
    · cases e; show 2 ≤ 1000; decide
    · split at e
      · cases e; show 2 ≤ 1000; decide
      · split at e
        · cases e; show 3 ≤ 1000; decide
        · cases e
theorem ok_law (T : Tx K mg w) : FnOk PL w K mg base CX0 120 T.a_law T.d_law ["script"] (spLaw K) := by
  have G__law_cells := ok__law_cells (P := PL) (w := w) (base := base) T
  have G__law_pick := ok__law_pick (P := PL) (w := w) (base := base) T
  have G__law_like := ok_like (P := PL) (w := w) (base := base) T 4
  have G__law_order := ok_lor (w := w) (base := base) T
  have G__law_flipped := ok_flip (w := w) (base := base) T
  have G__law_fault := ok_lflt (w := w) (base := base) T
  have G_first_fault := ok_ffaultG (P := PL) (w := w) (base := base) T
  have G_OrderLattice_init := ok_order (w := w) (base := base) T
  have G_PairLattice_init := ok_pairl (w := w) (base := base) T
  have G_TurnedLattice_init := ok_turn (w := w) (base := base) T
  have G_ChainLattice_init := ok_chain (w := w) (base := base) T
  refine T.F_law.ok sc_law (fun vs H Q E h => ?_) (fun cdv A outer s H vs Q E hr h => ?_)
  · obtain ⟨a, ns, rfl, _⟩ := h
    rfl
  obtain ⟨sa, ns, rfl, hS, h63, q⟩ := h
  have hu := hu_of hr
  refine ⟨_, pss_cons (ps_set (i := 1) sc_law.nd rfl (Or.inl rfl) (pe_call G__law_cells (hr.mono (by omega)) (by rfl) T.g__law_cells T.F__law_cells.kp T.b__law_cells .nil pass0 (pa_cons (pv 0) pa_nil)))
    (pss_cons (ps_set (i := 2) sc_law.nd rfl (Or.inr rfl) (pe_call G__law_order (hr.mono (by omega)) (by rfl) T.g__law_order T.F__law_order.kp T.b__law_order .nil pass0 (pa_cons (pv 1) pa_nil)))
    (pss_cons (ps_set (i := 3) sc_law.nd rfl (Or.inr rfl) (pe_callB call_len_seq (by rfl) T.n_len (by decide +kernel) (pa_cons (pv 2) pa_nil)))
    (pss_cons (ps_set (i := 4) sc_law.nd rfl (Or.inr rfl) (pe_call G__law_pick (hr.mono (by omega)) (by rfl) T.g__law_pick T.F__law_pick.kp T.b__law_pick .nil pass0 (pa_cons (pv 1) (pa_cons (pv 3) pa_nil))))
    (pss_cons (ps_set (i := 5) sc_law.nd rfl (Or.inr rfl) (pe_lc (own := [("k", 6)]) (g := gName 6) (tt := tYes) rfl sc_law.nd (pi_range1 (by rfl) T.n_range (pa_cons (pv 3) pa_nil)) (blkOk_by (N := N_law) (sc := defScope St_law) (by decide +kernel)) (fun _ _ _ _ _ => (pg_name (i := 6) sc_law.nd rfl (Or.inl rfl))) (fun _ _ _ _ _ => pts_nil) (fun _ _ _ _ _ => (pe_op op_mod (pe_callTy call_int1 (by rfl) T.n_int (by decide +kernel) (pa_cons (pe_op op_add (pv 6) (pv 4)) pa_nil)) (pv 3)))))
    (pss_cons (ps_set (i := 2) sc_law.nd rfl (Or.inr rfl) (pe_lc (own := [("a", 8)]) (g := gName 8) (tt := tYes) rfl sc_law.nd (pi_list (pv 5)) (blkOk_by (N := N_law) (sc := defScope St_law) (by decide +kernel)) (fun _ _ _ _ _ => (pg_name (i := 8) sc_law.nd rfl (Or.inr rfl))) (fun _ _ _ _ _ => pts_nil) (fun _ _ _ _ _ => (pe_lc (own := [("b", 7)]) (g := gName 7) (tt := tYes) rfl sc_law.nd (kx_pi_list K (pi_list (pv 5))) (blkOk_by (N := N_law) (by first | rfl | kernel_rfl)) (fun _ _ _ _ _ => (pg_name (i := 7) sc_law.nd rfl (Or.inl rfl))) (fun _ _ _ _ _ => pts_nil) (fun _ _ _ _ _ => (pe_ix (kx_ix_list K) (pe_ix (kx_ix_list K) (pv 2) (pv 8) (fun _ _ => rfl)) (pv 7) (fun _ _ => rfl)))))))
    (pss_cons (ps_set (i := 9) sc_law.nd rfl (Or.inr rfl) (pe_lc (own := [("k", 6)]) (g := gName 6) (tt := tYes) rfl sc_law.nd (pi_range1 (by rfl) T.n_range (pa_cons (pv 3) pa_nil)) (blkOk_by (N := N_law) (sc := defScope St_law) (by decide +kernel)) (fun _ _ _ _ _ => (pg_name (i := 6) sc_law.nd rfl (Or.inl rfl))) (fun _ _ _ _ _ => pts_nil) (fun _ _ _ _ _ => (pe_op op_add_str pe_str (pe_callTy call_str_int (by rfl) T.n_str (by decide +kernel) (pa_cons (pe_op op_sub (pv 3) (pv 6)) pa_nil))))))
    (pss_cons (ps_set (i := 10) sc_law.nd rfl (Or.inl rfl) (pe_lst pa_nil))
    (pss_cons (ps_for PassesOwn.never rfl (pi_range1 (by rfl) T.n_range (pa_cons (pv 3) pa_nil)) (pg_name (i := 8) sc_law.nd rfl (Or.inr rfl)) (pss_one (ps_set (i := 10) sc_law.nd rfl (Or.inl rfl) (pe_op op_cat (pv 10) (pe_lc (own := [("b", 7)]) (g := gName 7) rfl sc_law.nd (pi_range1 (by rfl) T.n_range (pa_cons (pv 3) pa_nil)) (blkOk_by (N := N_law) (sc := defScope St_law) (by decide +kernel)) (fun _ _ _ _ _ => (pg_name (i := 7) sc_law.nd rfl (Or.inl rfl))) (fun _ _ _ _ _ => (pts_one (pt_val (pe_ix (kx_ix_list K) (pe_ix (kx_ix_list K) (pv 2) (pv 8) (fun _ _ => rfl)) (pv 7) (fun _ _ => rfl))))) (fun _ _ _ _ _ => (pe_tup (pa_cons (pe_ix (kx_ix_list K) (pv 9) (pv 8) (fun _ _ => rfl)) (pa_cons (pe_ix (kx_ix_list K) (pv 9) (pv 7) (fun _ _ => rfl)) pa_nil)))))))))
    (pss_cons (ps_set (i := 11) sc_law.nd rfl (Or.inl rfl) (pe_make T.M_OrderLattice G_OrderLattice_init (hr.mono (by omega)) (by rfl) T.g_OrderLattice T.b_OrderLattice_init .nil pass0 (pa_cons (pv 9) (pa_cons (pv 10) pa_nil))))
    (pss_cons (ps_if (pt_cmpR op_eq (pe_call G__law_pick (hr.mono (by omega)) (by rfl) T.g__law_pick T.F__law_pick.kp T.b__law_pick .nil pass0 (pa_cons (pv 1) (pa_cons pe_int pa_nil))) pe_int (nomark _)) (pss_cons (ps_set (i := 11) sc_law.nd rfl (Or.inl rfl) (pe_make T.M_TurnedLattice G_TurnedLattice_init (hr.mono (by omega)) (by rfl) T.g_TurnedLattice T.b_TurnedLattice_init .nil pass0 (pa_cons (pv 11) pa_nil)))
    (pss_one (ps_set (i := 2) sc_law.nd rfl (Or.inr rfl) (pe_call G__law_flipped (hr.mono (by omega)) (by rfl) T.g__law_flipped T.F__law_flipped.kp T.b__law_flipped .nil pass0 (pa_cons (pv 2) pa_nil))))) pss_nil)
    (pss_cons (ps_if (PW.pt (pw_and (pt_cmpR op_lt (pv 3) pe_int (nomark _)) (pw_and1 (pt_cmpR op_eq (pe_call G__law_pick (hr.mono (by omega)) (by rfl) T.g__law_pick T.F__law_pick.kp T.b__law_pick .nil pass0 (pa_cons (pv 1) (pa_cons pe_int pa_nil))) pe_int (nomark _))))) (pss_cons (ps_set (i := 12) sc_law.nd rfl (Or.inl rfl) (pe_cmpR op_eq (pe_call G__law_pick (hr.mono (by omega)) (by rfl) T.g__law_pick T.F__law_pick.kp T.b__law_pick .nil pass0 (pa_cons (pv 1) (pa_cons pe_int pa_nil))) pe_int (nomark _)))
    (pss_cons (ps_set (i := 13) sc_law.nd rfl (Or.inl rfl) (pe_make T.M_ChainLattice G_ChainLattice_init (hr.mono (by omega)) (by rfl) T.g_ChainLattice T.b_ChainLattice_init .nil pass0 (pa_cons pe_int pa_nil)))
    (pss_cons (ps_set (i := 11) sc_law.nd rfl (Or.inl rfl) (pe_ifExp (pt_val (pv 12)) (pe_make T.M_PairLattice G_PairLattice_init (hr.mono (by omega)) (by rfl) T.g_PairLattice T.b_PairLattice_init .nil pass0 (pa_cons (pv 11) (pa_cons (pv 13) pa_nil))) (pe_make T.M_PairLattice G_PairLattice_init (hr.mono (by omega)) (by rfl) T.g_PairLattice T.b_PairLattice_init .nil pass0 (pa_cons (pv 13) (pa_cons (pv 11) pa_nil)))))
    (pss_cons (ps_set (i := 5) sc_law.nd rfl (Or.inr rfl) (pe_lst pa_nil))
    (pss_cons (ps_for PassesOwn.never rfl (pi_range1 (by rfl) T.n_range (pa_cons (pe_op op_mul pe_int (pv 3)) pa_nil)) (pg_name (i := 6) sc_law.nd rfl (Or.inl rfl)) (pss_one (ps_expr (pe_bm PySem.F.plainAttrs_list PySem.F.slot_list_append PySem.F.type_list_append mt_append (pv 5) (pa_cons (pe_ifExp (pt_val (pv 12)) (pe_lst (pa_cons (pe_op op_fdiv (pv 6) pe_int) (pa_cons (pe_op op_mod (pe_callTy call_int1 (by rfl) T.n_int (by decide +kernel) (pa_cons (pv 6) pa_nil)) pe_int) pa_nil))) (pe_lst (pa_cons (pe_op op_mod (pe_callTy call_int1 (by rfl) T.n_int (by decide +kernel) (pa_cons (pv 6) pa_nil)) (pv 3)) (pa_cons (pe_op op_fdiv (pv 6) (pv 3)) pa_nil)))) pa_nil)))))
    (pss_cons (ps_set (i := 14) sc_law.nd rfl (Or.inr rfl) (pv 2))
    (pss_cons (ps_set (i := 2) sc_law.nd rfl (Or.inr rfl) (pe_lst pa_nil))
    (pss_cons (ps_for PassesOwn.never rfl (pi_list (pv 5)) (pg_name (i := 15) sc_law.nd rfl (Or.inr rfl)) (pss_one (ps_expr (pe_bm PySem.F.plainAttrs_list PySem.F.slot_list_append PySem.F.type_list_append mt_append (pv 2) (pa_cons (pe_lc (own := [("y", 16)]) (g := gName 16) (tt := tYes) rfl sc_law.nd (pi_list (pv 5)) (blkOk_by (N := N_law) (sc := defScope St_law) (by decide +kernel)) (fun _ _ _ _ _ => (pg_name (i := 16) sc_law.nd rfl (Or.inl rfl))) (fun _ _ _ _ _ => pts_nil) (fun _ _ _ _ _ => (pe_and (pe_cmpR op_le (pe_ix (kx_ix_list K) (pv 15) pe_int (fun _ _ => rfl)) (pe_ix (kx_ix_list K) (pv 16) pe_int (fun _ _ => rfl)) (nomark _)) (pe_one (pe_ix (kx_ix_list K) (pe_ix (kx_ix_list K) (pv 14) (pe_ix (kx_ix_list K) (pv 15) pe_int (fun _ _ => rfl)) (fun _ _ => rfl)) (pe_ix (kx_ix_list K) (pv 16) pe_int (fun _ _ => rfl)) (fun _ _ => rfl)))))) pa_nil)))))
    (pss_cons (ps_set (i := 17) sc_law.nd rfl (Or.inl rfl) (pe_lst pa_nil))
    (pss_cons (ps_for PassesOwn.never rfl (pi_list (pv 5)) (pg_name (i := 15) sc_law.nd rfl (Or.inr rfl)) (pss_cons (ps_set (i := 18) sc_law.nd rfl (Or.inl rfl) (pe_ifExp (pt_val (pv 12)) (pe_lst (pa_cons (pe_ix ix_list (pv 9) (pe_ix ix_list (pv 15) pe_int (fun _ _ => rfl)) (fun _ _ => rfl)) (pa_cons (pe_callTy call_str_int (by rfl) T.n_str (by decide +kernel) (pa_cons (pe_ix ix_list (pv 15) pe_int (fun _ _ => rfl)) pa_nil)) pa_nil))) (pe_lst (pa_cons (pe_callTy call_str_int (by rfl) T.n_str (by decide +kernel) (pa_cons (pe_ix ix_list (pv 15) pe_int (fun _ _ => rfl)) pa_nil)) (pa_cons (pe_ix ix_list (pv 9) (pe_ix ix_list (pv 15) pe_int (fun _ _ => rfl)) (fun _ _ => rfl)) pa_nil)))))
    (pss_one (ps_expr (pe_bm PySem.F.plainAttrs_list PySem.F.slot_list_append PySem.F.type_list_append mt_append (pv 17) (pa_cons (pe_op op_add_str (pe_op op_add_str pe_str (pe_join pe_str (pv 18))) pe_str) pa_nil))))))
    (pss_one (ps_set (i := 9) sc_law.nd rfl (Or.inr rfl) (pv 17))))))))))))) pss_nil)
    (pss_cons (ps_set (i := 19) sc_law.nd rfl (Or.inl rfl) (pe_call G__law_fault (hr.mono (by omega)) (by rfl) T.g__law_fault T.F__law_fault.kp T.b__law_fault .nil pass0 (pa_cons (pv 2) (pa_cons (pv 9) pa_nil))))
    (pss_one (ps_ret (pe_call G__law_like (hr.mono (by omega)) (by rfl) T.g__law_like T.F__law_like.kp T.b__law_like .nil pass0 (pa_cons (pe_lst (pa_cons (pe_call G_first_fault (hr.mono (by omega)) (by rfl) T.g_first_fault T.F_first_fault.kp T.b_first_fault .nil pass0 (pa_cons (pv 11) pa_nil)) (pa_cons (pe_call G_first_fault (hr.mono (by omega)) (by rfl) T.g_first_fault T.F_first_fault.kp T.b_first_fault .nil pass0 (pa_cons (pv 11) pa_nil)) (pa_cons (pe_fld (pv 11) rfl) pa_nil)))) (pa_cons (pe_lst (pa_cons (pv 19) (pa_cons (pv 19) (pa_cons (pe_callB call_len_seq (by rfl) T.n_len (by decide +kernel) (pa_cons (pv 2) pa_nil)) pa_nil)))) pa_nil))))))))))))))))), ?_⟩
  refine ⟨_, rfl, sa, ns, rfl, hS, h63, fun p c m cs H1 sm cp hc pos hp m0 m1 => ?_⟩
  have src1 : Src K c H1 p := ⟨cs, 0, 1, m, ⟨hp, SqL.of (K := K) hc, cp, Nat.zero_le _, by decide, pos, m0, m1⟩⟩
  dsimp only [gName]
  refine ⟨_, rfl, p, c, rfl, src1, ⟨_, hc⟩, cp, fun r0 n R H2 b2 s2 hg pre n1 n16 => ?_⟩
  have hr0 := hg.ne s2
  dsimp only [gName]
  obtain ⟨rs, e1, e2⟩ := hg.len
  refine ⟨_, rfl, r0, _, rfl, .inl (SqL.of (K := K) e1), ?_⟩
  rw [e2]
  dsimp only [gName]
  refine ⟨_, rfl, _, rfl, p, c, (n : Int), rfl, s2, by omega, fun s H3 b3 s3 x0 x1 => ?_⟩
  obtain ⟨s, rfl⟩ : ∃ i : Nat, s = (i : Int) := ⟨s.toNat, by omega⟩
  have hg3 := hg.drawn s2 hr0 (fun _ _ _ e => by cases e) b3
  clear hg src1 s2 b2 b3 e1 e2
  dsimp only [gName]
  -- spots
  refine set_run (fun v H' => ∃ sp : Addr, v = .ref sp ∧ H' sp = some (.lst (natV ((List.range n).map fun k => (k + s) % n))) ∧ Same H3 H') (fun Q' q' => ?_) ?_
  · refine ⟨_, rfl, _, rfl, by omega, by omega, fun D hD => ?_⟩
    refine lc_rng (n := n) (G := fun _ v (y : Nat) => v = V.int (y : Nat)) (fun _ => true) (fun k => (k + s) % n) hD (fun _ h => h) (fun h => h) (by omega) ?_ (fun H4 zs s4 hz rr => ?_)
    · rintro k H4 Nx Ex hk s4 _ ky kn
      refine ⟨rfl, ?_⟩
      refine lcY ?_
      refine ⟨_, rfl, _, rfl, _, _, rfl, rfl, .inl ⟨_, rfl, _, rfl, _, _, rfl, rfl, (by show (0 : Int) < (n : Int); omega), ?_⟩⟩
      refine ky rfl _ _ (Same.refl _) ?_
      show V.int ((((k : Nat) : Int) + ((s : Nat) : Int)) % ((n : Nat) : Int)) = V.int ((((k + s) % n : Nat)) : Int)
      rw [Int.natCast_emod]; rfl
    · rw [flt_idG] at rr
      rw [al_map rr] at hz
      exact q' _ _ ⟨D, rfl, hz, s4⟩
  rintro _ H4 ⟨sp, rfl, esp, s4⟩
  have hg4 := hg3.same s4
  dsimp only [gName]
  have modn : ∀ k, (k + s) % n < n := fun k => Nat.mod_lt _ (by omega)
  -- the rows, moved
  refine set_run (fun v H' => ∃ r : Addr, v = .ref r ∧ GridAt H' r n (rowV fun i j => R ((i + s) % n) ((j + s) % n)) ∧ Same H4 H') (fun Q' q' => ?_) ?_
  · have usl : ((List.range n).map fun k => (k + s) % n).length ≤ 1000 := by rw [List.length_map, List.length_range]; omega
    have usm : ∀ x ∈ ((List.range n).map fun k => (k + s) % n), x < n := fun x hx => by
      obtain ⟨k, _, rfl⟩ := List.mem_map.mp hx
      exact modn k
    refine ⟨_, rfl, sp, rfl, ⟨_, SqL.of (K := K) esp⟩, fun D hD => ?_⟩
    refine lc_lst (us := (List.range n).map fun k => (k + s) % n) (G := fun H v (a : Nat) => ∃ l, v = V.ref l ∧ (l ≠ D ∧ H l = some (.lst (((List.range n).map fun k => (k + s) % n).map fun b => V.bl (R a b))))) (fun _ => true) id hD (fun s ⟨l, e, n, h⟩ => ⟨l, e, n, s _ _ h⟩) (fun ⟨l, e, n, h⟩ => ⟨l, e, n, (upd_ne n).trans h⟩) usl esp ?_ (fun H5 ys s5 hy rr => ?_)
    · rintro a H5 Nx Ex ha s5 ⟨ys, hy⟩ ky kn
      have ha := usm a ha
      refine ⟨rfl, ?_⟩
      refine lcY ?_
      refine ⟨_, rfl, sp, rfl, ⟨_, SqL.of (K := K) (s5 _ _ esp)⟩, fun D2 hD2 => ?_⟩
      refine lc_lst (us := (List.range n).map fun k => (k + s) % n) (G := fun _ v (b : Nat) => v = V.bl (R a b)) (fun _ => true) id hD2 (fun _ h => h) (fun h => h) usl (s5 _ _ esp) ?_ (fun H6 zs s6 hz rr => ?_)
      · rintro b H6 Nx' Ex' hb s6 _ ky' kn'
        have hb := usm b hb
        obtain ⟨la, ra, a1, a2, a3⟩ := ((hg4.same s5).same s6).row ha
        refine ⟨rfl, ?_⟩
        refine lcY ?_
        refine ⟨_, rfl, _, rfl, r0, _, _, _, rfl, rfl, SqL.of (K := K) a1, atI_nat a2, _, rfl, ra, _, _, _, rfl, rfl, SqL.of (K := K) a3, atI_nat (rg_atG hb), ?_⟩
        exact ky' rfl _ _ (Same.refl _) rfl
      · rw [flt_idG, List.map_id] at rr
        rw [al_map rr] at hz
        exact ky rfl _ _ s6 ⟨D2, rfl, (fun e => by rw [e, hy] at hD2; cases hD2), hz⟩
    · rw [flt_idG, List.map_id] at rr
      have rr := al_unmap rr
      refine q' _ _ ⟨D, rfl, grid_of hy (al_imp rr fun v i ⟨l, e, ne, hl⟩ => ⟨l, e, ne, hl.trans ?_⟩), s5⟩
      exact congrArg (fun z => some (HO.lst z)) (by rw [List.map_map]; rfl)
  rintro _ H5 ⟨r, rfl, hg5, s5⟩
  have pre5 : Pre n fun i j => R ((i + s) % n) ((j + s) % n) := ⟨fun a _ => pre.refl _ (modn a), fun a b d _ _ _ h1 h2 => pre.trans _ _ _ (modn a) (modn b) (modn d) h1 h2⟩
  have src5 := (s3.same s4).same s5
  generalize (fun i j => R ((i + s) % n) ((j + s) % n)) = S at hg5 pre5
  clear hg3 hg4 s3 s4 s5 esp pre modn hr0
  dsimp only [gName]
  -- the names
  refine set_run (fun v H' => ∃ na : Addr, v = .ref na ∧ H' na = some (.lst ((vkS n).map V.str)) ∧ Same H5 H') (fun Q' q' => ?_) ?_
  · refine ⟨_, rfl, _, rfl, by omega, by omega, fun D hD => ?_⟩
    refine lc_rng (n := n) (G := fun _ v (y : Str) => v = V.str y) (fun _ => true) (fun k => ("v" : Str) ++ natS (n - k)) hD (fun _ h => h) (fun h => h) (by omega) ?_ (fun H6 zs s6 hz rr => ?_)
    · rintro k H6 Nx Ex hk s6 _ ky kn
      refine ⟨rfl, ?_⟩
      refine lcY ?_
      have nl := natS_len (i := n - k) (by omega)
      have o1 : ("v" : Str).length = 1 := rfl
      have e : ((n : Nat) : Int) - ((k : Nat) : Int) = ((n - k : Nat) : Int) := by omega
      refine ⟨_, rfl, _, rfl, _, _, rfl, rfl, _, rfl, (by show (((n : Nat) : Int) - ((k : Nat) : Int)).natAbs.log2 < 1920; rw [e]; exact log_small (by omega)), ?_⟩
      show ∃ i j, V.str "v" = V.str i ∧ V.str (Str.ofString (toString (((n : Nat) : Int) - ((k : Nat) : Int)))) = V.str j ∧ _
      rw [e]
      exact ⟨_, _, rfl, rfl, small_line (by rw [o1]; show 1 + (natS (n - k)).length ≤ _; omega), ky rfl _ _ (Same.refl _) rfl⟩
    · rw [flt_idG] at rr
      rw [al_map rr] at hz
      exact q' _ _ ⟨D, rfl, hz, s6⟩
  rintro _ H6 ⟨na, rfl, ena, s6⟩
  have xl := vkS_len n
  obtain ⟨nd, nwb⟩ := vkS_ok ⟨n, by omega⟩
  have nw := names_wG nwb
  clear nwb
  dsimp only at nd nw
  generalize vkS n = xs at ena xl nw nd
  have hg6 := hg5.same s6
  have src6 := src5.same s6
  clear hg5 src5 s6
  dsimp only [gName]
  refine set_run (fun v H' => ∃ pl, v = .ref pl ∧ H' pl = some (.lst []) ∧ Same H6 H') (fun Q' q' => ⟨(by show 0 ≤ sizeLine; decide), newQ (.lst []) fun l hl s e => q' _ _ ⟨l, rfl, e, s⟩⟩) ?_
  rintro _ H7 ⟨pl, rfl, epl, s7⟩
  dsimp only [gName]
  show tSeq _ _ _ [some (.ref sa), some (.ref p), some (.ref r), some (.int (n : Nat)), some (.int (s : Nat)), some (.ref sp), none, none, none, some (.ref na), some (.ref pl), none, none, none, none, none, none, none, none, none] H7
  refine st_run (fun σ H' => ∃ (pl : Addr) (ts : List Addr) (ps : List (Nat × Nat)) (v8 : Option V), σ = [some (.ref sa), some (.ref p), some (.ref r), some (.int (n : Nat)), some (.int (s : Nat)), some (.ref sp), none, none, v8, some (.ref na), some (.ref pl), none, none, none, none, none, none, none, none, none] ∧ Same H6 H' ∧ TupsAt H' pl ts xs ps ∧ ps.length ≤ 256 ∧ ∀ a b, (a, b) ∈ ps ↔ a < n ∧ b < n ∧ S a b = true) (fun D' hD q' => ?_) ?_
  · refine ⟨_, rfl, _, rfl, by omega, by omega, for_range (lo := 0) (n := n) (fun k σ H' => ∃ (pl : Addr) (ts : List Addr) (ps : List (Nat × Nat)) (v8 : Option V), σ = [some (.ref sa), some (.ref p), some (.ref r), some (.int (n : Nat)), some (.int (s : Nat)), some (.ref sp), none, none, v8, some (.ref na), some (.ref pl), none, none, none, none, none, none, none, none, none] ∧ Same H6 H' ∧ TupsAt H' pl ts xs ps ∧ ps.length ≤ k * n ∧ ∀ a b, (a, b) ∈ ps ↔ a < k ∧ b < n ∧ S a b = true) ⟨pl, [], [], _, rfl, s7, ⟨epl, .nil⟩, Nat.zero_le _, fun a b => ⟨fun h => (by cases h), fun h => absurd h.1 (Nat.not_lt_zero _)⟩⟩ ?_ ?_⟩
    · rintro a σ H8 ha ⟨pl, ts, ps, v8, rfl, s8, hT, lps, hps⟩
      have ha : a < n := ha
      rw [show (0 : Int) + (a : Int) = ((a : Nat) : Int) by omega]
      dsimp only [gName]
      refine ⟨_, rfl, _, rfl, _, rfl, by omega, by omega, fun D hD => ?_⟩
      refine lc_rng (n := n) (G := fun H v (x : Str × Str) => ∃ t, v = V.ref t ∧ t ≠ D ∧ H t = some (.tup [.str x.1, .str x.2])) (S a) (fun b => duoS xs (a, b)) hD (fun s ⟨t, e, n, h⟩ => ⟨t, e, n, s _ _ h⟩) (fun ⟨t, e, n, h⟩ => ⟨t, e, n, (upd_ne n).trans h⟩) (by omega) ?_ (fun H9 ys s9 hy rr2 => ?_)
      · rintro b H9 Nx Ex hb s9 ⟨ys, hy⟩ ky kn
        have ena9 := (s8.trans s9) _ _ ena
        refine ⟨rfl, ?_⟩
        obtain ⟨la, ra, a1, a2, a3⟩ := (hg6.same (s8.trans s9)).row ha
        refine ⟨_, rfl, _, rfl, r, _, _, _, rfl, rfl, SqL.of (K := K) a1, atI_nat a2, _, rfl, ra, _, _, _, rfl, rfl, SqL.of (K := K) a3, atI_nat (rg_atG hb), S a b, rfl, ?_⟩
        cases e : S a b with
        | false => exact iteF (kn e _ (Same.refl _))
        | true =>
          refine iteT ?_
          refine ⟨_, rfl, _, rfl, na, _, _, _, rfl, rfl, SqL.of (K := K) ena9, atI_nat (str_d (by omega)), _, rfl, _, rfl, na, _, _, _, rfl, rfl, SqL.of (K := K) ena9, atI_nat (str_d (by omega)), (by show 2 ≤ sizeLine; decide), newQ (.tup [.str (duoS xs (a, b)).1, .str (duoS xs (a, b)).2]) fun t ht s11 e11 => ?_⟩
          exact ky e _ _ s11 ⟨t, rfl, (fun e => by rw [e, hy] at ht; cases ht), e11⟩
      obtain ⟨us, hU⟩ := TupsAt.of (xs := xs) (ps := ((List.range n).filter (S a)).map fun b => (a, b)) hy (by rw [List.map_map]; exact rr2)
      have hT9 := hT.same s9
      have l1 : ts.length = ps.length := al_len hT.2
      have l3 : us.length ≤ n := by
        rw [al_len hU.2, List.length_map]
        exact filter_le _ _
      have nn : ps.length ≤ 16 * 16 := Nat.le_trans lps (Nat.mul_le_mul (by omega) (by omega))
      refine ⟨pl, D, _, _, rfl, rfl, hT9.1, hU.1, small_line (by rw [List.length_map, List.length_map]; omega), newQ (.lst (ts.map V.ref ++ us.map V.ref)) fun t ht s10 e10 => ?_⟩
      refine ⟨t, _, _, _, rfl, (s8.trans s9).trans s10, hT9.cat hU ht, ?_, fun c d => ?_⟩
      · have := filter_le (S a) n
        rw [List.length_append, List.length_map, Nat.succ_mul]; omega
      · rw [List.mem_append, hps]
        constructor
        · rintro (⟨h1, h2, h3⟩ | h)
          · exact ⟨by omega, h2, h3⟩
          · obtain ⟨z, hz, e⟩ := List.mem_map.mp h
            cases e
            have := List.mem_filter.mp hz
            exact ⟨by omega, List.mem_range.mp this.1, this.2⟩
        · rintro ⟨h1, h2, h3⟩
          rcases Nat.lt_or_ge c a with l | l
          · exact .inl ⟨l, h2, h3⟩
          · obtain rfl : c = a := by omega
            exact .inr (List.mem_map.mpr ⟨d, List.mem_filter.mpr ⟨List.mem_range.mpr h2, h3⟩, rfl⟩)
    · rintro σ H8 ⟨pl, ts, ps, v8, rfl, s8, hT, lps, hps⟩
      exact q' _ _ ⟨pl, ts, ps, _, rfl, s8, hT, Nat.le_trans lps (Nat.mul_le_mul n16 n16), hps⟩
  rintro _ H8 ⟨pl, ts, ps, v8, rfl, s8, hT, lps, hps⟩
  have hpx : ∀ q ∈ ps, q.1 < xs.length ∧ q.2 < xs.length := fun q hq => by
    have := (hps q.1 q.2).mp hq
    rw [xl]; exact ⟨this.1, this.2.1⟩
  refine ⟨_, rfl, _, rfl, fun z dx hz hdx ne => mk_order (a := na) (b := pl) (xs := xs) (ps := ps) (s8 _ _ ena) (hT.pairs hpx) hT.1 (by omega) (by omega) nd nw (by omega) hz hdx ne fun H9 s9 hL => ⟨rfl, ?_⟩⟩
  dsimp only [gName]
  have s69 := s8.trans s9
  have src9 := src6.same s69
  have ena9 := s69 _ _ ena
  have hg9 := hg6.same s69
  have n2 : (orderL xs ps).n = n := xl
  have le2 : ∀ a b, a < n → b < n → (orderL xs ps).le a b = S a b := fun a b ha hb => all_reachG pre5 hps ha hb
  have l12 : ∀ x ∈ xs, x.length ≤ 12 := fun x hx => (nw x hx).le
  have jn := (join_le (sep := " ") (by decide) l12 (show xs.length ≤ 16 by omega)).1
  have jp := (join_le (sep := " ") (by decide) (pairW_len l12 ps) (show (pairW xs ps).length ≤ 256 by unfold pairW; rw [List.length_map]; exact lps)).1
  have o1 : ("(order (" : Str).length = 8 := rfl
  have o2 : (") (" : Str).length = 3 := rfl
  have o3 : ("))" : Str).length = 2 := rfl
  have oll : (orderL xs ps).label.length ≤ 10000 := by
    show (("(order (" : Str) ++ PySem.Txt.join " " xs ++ (") (" : Str) ++ PySem.Txt.join " " (pairW xs ps) ++ ("))" : Str)).length ≤ 10000
    simp only [Str.length_append]
    omega
  have F0 : FltL (orderL xs ps) := {
    pre := by rw [n2]; exact pre_of pre5 le2
    n1 := by rw [n2]; exact n1
    n16 := by rw [n2]; exact n16
    d1 := Nat.le_refl 1
    d := by show 1 ≤ 2; decide
    fit := ⟨Nat.le_trans oll (by decide), fun x hx => Nat.le_trans (l12 x hx) (by decide)⟩
    nam := fun x hx => Nat.le_trans (l12 x hx) (by decide) }
  have hgL : GridAt H9 r (orderL xs ps).n (rowV (orderL xs ps).le) := by
    rw [n2]
    exact hg9.ext fun a b ha hb => by show V.bl _ = V.bl _; rw [le2 a b ha hb]
  have nms : (orderL xs ps).names = xs := rfl
  have dep0 : (orderL xs ps).depth = 1 := rfl
  generalize orderL xs ps = L0 at hL F0 hgL n2 le2 oll nms dep0
  clear hg9 hg6 src6 hT s8 s9 s69 ena le2 jn jp hpx hps lps pre5
  show tSeq _ _ _ [some (.ref sa), some (.ref p), some (.ref r), some (.int (n : Nat)), some (.int (s : Nat)), some (.ref sp), none, none, v8, some (.ref na), some (.ref pl), some (.ref z), none, none, none, none, none, none, none, none] H9
  -- perhaps turned
  refine st_run (fun σ H' => ∃ (r z : Addr) (L : Lt), σ = [some (.ref sa), some (.ref p), some (.ref r), some (.int (n : Nat)), some (.int (s : Nat)), some (.ref sp), none, none, v8, some (.ref na), some (.ref pl), some (.ref z), none, none, none, none, none, none, none, none] ∧ IsLat K T.mm H' z L ∧ FltL L ∧ L.n = n ∧ L.names = xs ∧ GridAt H' r L.n (rowV L.le) ∧ H' na = some (.lst (xs.map V.str)) ∧ Src K c H' p) (fun D' hD q' => ?_) ?_
  · refine ⟨_, rfl, p, c, 4, rfl, src9, by decide, fun d H10 b10 s10 d0 d1 => ⟨rfl, _, rfl, ?_⟩⟩
    have hL10 := hL.drawn src9 b10
    have hg10 := hgL.drawn src9 (hgL.ne src9) (fun _ _ _ e => by cases e) b10
    have ena10 := b10 _ _ (ne_strs src9 ena9) ena9
    refine ite2 (fun _ => ?_) (fun _ => nx_run (q' _ _ ⟨r, z, L0, rfl, hL10, F0, n2, nms, hg10, ena10, s10⟩))
    refine ⟨_, rfl, fun u du hu hdu neu => mk_turn hL10 (by have := F0.n16; omega) (by omega) (by omega) F0.fit hu hdu neu fun H11 s11 hU _ => ⟨rfl, ?_⟩⟩
    dsimp only [gName]
    refine ⟨_, rfl, r, L0.n, rowV L0.le, rfl, hg10.same s11, by have := F0.n16; omega, fun r' H12 s12 hg12 => ?_⟩
    refine q' _ _ ⟨r', u, turnL L0, rfl, hU.same s12, ⟨F0.pre.flip, F0.n1, F0.n16, by show 1 ≤ L0.depth + 1; omega, by show L0.depth + 1 ≤ 2; omega, ⟨?_, F0.fit.nam⟩, F0.nam⟩, n2, nms, hg12, s12 _ _ (s11 _ _ ena10), s10.same (s11.trans s12)⟩
    show (("(turned " : Str) ++ L0.label ++ (")" : Str)).length ≤ 20000
    have o4 : ("(turned " : Str).length = 8 := rfl
    have o5 : (")" : Str).length = 1 := rfl
    simp only [Str.length_append]
    omega
  clear hL F0 n2 nms hgL ena9 src9 oll dep0
  rintro _ H10 ⟨r, z, L, rfl, hL, F, n2, nms, hg, ena, src⟩
  subst n2
  have hnl : ∀ x ∈ xs, x.length ≤ 12 := l12
  show tSeq _ _ _ [some (.ref sa), some (.ref p), some (.ref r), some (.int (L.n : Nat)), some (.int (s : Nat)), some (.ref sp), none, none, v8, some (.ref na), some (.ref pl), some (.ref z), none, none, none, none, none, none, none, none] H10
  refine st_run (fun σ H' => ∃ (r z na : Addr) (L' : Lt) (v5 v6 v12 v13 v14 v15 v17 v18 : Option V), σ = [some (.ref sa), some (.ref p), some (.ref r), some (.int (L.n : Nat)), some (.int (s : Nat)), v5, v6, none, v8, some (.ref na), some (.ref pl), some (.ref z), v12, v13, v14, v15, none, v17, v18, none] ∧ IsLat K T.mm H' z L' ∧ Pre L'.n L'.le ∧ L'.n ≤ 64 ∧ GridAt H' r L'.n (rowV L'.le) ∧ H' na = some (.lst (L'.names.map V.str))) (fun D' hD q' => ?_) ?_
  · refine if1_runG (fun b H' => (b = true → L.n < 7) ∧ But p H10 H' ∧ Src K c H' p) (fun Q' kk => ?_) ?_
    · refine ⟨_, rfl, _, _, rfl, rfl, _, rfl, ?_⟩
      refine ite2 (fun c1 => ?_) (fun c1 => kk _ _ ⟨fun e => absurd (by first | exact e | exact (Bool.noConfusion e)) (by first | exact c1 | (intro z; cases z)), But.refl _ _, src⟩)
      have c1 := of_decide_eq_true c1
      exact ⟨_, rfl, p, c, 6, rfl, src, by decide, fun d H11 b11 s11 d0 d1 => ⟨rfl, _, rfl, kk _ _ ⟨fun _ => by omega, b11, s11⟩⟩⟩
    rintro bt H11 ⟨hn7, b11, src11⟩
    have hL := hL.drawn src b11
    have enaX := b11 _ _ (ne_strs src ena) ena
    have hg := hg.drawn src (hg.ne src) (fun _ _ _ e => by cases e) b11
    cases bt with
    | false =>
      refine iteF (nx_run (q' _ _ ⟨r, z, na, L, _, _, _, _, _, _, _, _, rfl, hL, F.pre, by have := F.n16; omega, hg, by rw [nms]; exact enaX⟩))
    | true =>
      refine iteT ?_
      have n7 := hn7 rfl
      clear hn7 b11 src
      refine ⟨_, rfl, p, c, 2, rfl, src11, by decide, fun d H12 b12 s12 d0 d1 => ⟨rfl, ?_⟩⟩
      have hL := hL.drawn src11 b12
      have ena := b12 _ _ (ne_strs src11 enaX) enaX
      have hg := hg.drawn src11 (hg.ne src11) (fun _ _ _ e => by cases e) b12
      clear b12 src11 enaX
      generalize decide (V.int d = V.int 0) = bh
      dsimp only [gName]
      refine fun x dx hx hd ne => mk_chain (n := 2) rfl (by decide) (by decide) hx hd ne fun H13 s13 hC => ⟨rfl, ?_⟩
      have hL := hL.same s13
      have ena := s13 _ _ ena
      have hg := hg.same s13
      clear s13 s12
      dsimp only [gName]
      have F1 := F.n1
      have Fd := F.d
      have Fd1 := F.d1
      have cf : (chainL 2).Fit := ⟨by decide +kernel, fun x hx => by
        have q : ∀ x ∈ (chainL 2).names, x.length ≤ 5000 := by decide +kernel
        exact q x hx⟩
      refine set_run (fun v H' => ∃ z' : Addr, v = .ref z' ∧ IsLat K T.mm H' z' (twoL bh L) ∧ Same H13 H') (fun Q' kk => ?_) ?_
      · refine ⟨_, rfl, _, rfl, ?_⟩
        have fd : foldD 1 [L, chainL 2] ≤ 10 ∧ foldD 1 [chainL 2, L] ≤ 10 := by
          have dc : (chainL 2).depth = 1 := rfl
          constructor
          · unfold foldD
            simp only [List.foldl, dc]
            split <;> (try split) <;> omega
          · unfold foldD
            simp only [List.foldl, dc]
            split <;> (try split) <;> omega
        have cn : (chainL 2).n = 2 := chainL_n 2
        cases bh with
        | true =>
          refine iteT ?_
          refine ⟨_, rfl, _, rfl, fun u du hu hdu neu => mk_pairl hL hC F1 (by rw [cn]; decide) (by rw [cn]; omega) fd.1 F.fit cf hu hdu neu fun H14 s14 hP _ _ => ⟨rfl, kk _ _ ⟨u, rfl, hP, s14⟩⟩⟩
        | false =>
          refine iteF ?_
          refine ⟨_, rfl, _, rfl, fun u du hu hdu neu => mk_pairl hC hL (by rw [cn]; decide) F1 (by rw [cn]; omega) fd.2 cf F.fit hu hdu neu fun H14 s14 hP _ _ => ⟨rfl, kk _ _ ⟨u, rfl, hP, s14⟩⟩⟩
      rintro _ H14 ⟨z', rfl, hP, s14⟩
      have ena := s14 _ _ ena
      have hg := hg.same s14
      clear s14 hL hC cf
      dsimp only [gName]
      refine set_run (fun v H' => ∃ nl, v = .ref nl ∧ H' nl = some (.lst []) ∧ H14 nl = none ∧ Same H14 H') (fun Q' kk => ⟨(by show 0 ≤ sizeLine; decide), newQ (.lst []) fun l hl s e => kk _ _ ⟨l, rfl, e, hl, s⟩⟩) ?_
      rintro _ H15 ⟨sq, rfl, esq, sq0, s15⟩
      dsimp only [gName]
      show tSeq _ _ _ [some (.ref sa), some (.ref p), some (.ref r), some (.int (L.n : Nat)), some (.int (s : Nat)), some (.ref sq), none, none, v8, some (.ref na), some (.ref pl), some (.ref z'), some (.bl bh), some (.ref x), none, none, none, none, none, none] H15
      -- the places of the pair
      refine st_run (fun σ H' => ∃ v6 : Option V, σ = [some (.ref sa), some (.ref p), some (.ref r), some (.int (L.n : Nat)), some (.int (s : Nat)), some (.ref sq), v6, none, v8, some (.ref na), some (.ref pl), some (.ref z'), some (.bl bh), some (.ref x), none, none, none, none, none, none] ∧ DuosAt H' sq ((List.range (2 * L.n)).map (x01 bh L.n)) ∧ Same H14 H') (fun D'' hD' kk => ?_) ?_
      · refine rg_run (fun zz H' => zz = ((2 * L.n : Nat) : Int) ∧ H15 = H') (fun Q' k2 => ?_) ?_
        · exact ⟨_, rfl, _, _, rfl, rfl, .inl ⟨by decide, by decide⟩, k2 _ _ ⟨by show (2 : Int) * (L.n : Int) = _; omega, rfl⟩⟩
        rintro _ _ ⟨rfl, rfl⟩
        refine ⟨_, rfl, by omega, by omega, for_range (lo := 0) (n := 2 * L.n) (fun k σ H' => ∃ v6 : Option V, σ = [some (.ref sa), some (.ref p), some (.ref r), some (.int (L.n : Nat)), some (.int (s : Nat)), some (.ref sq), v6, none, v8, some (.ref na), some (.ref pl), some (.ref z'), some (.bl bh), some (.ref x), none, none, none, none, none, none] ∧ DuosAt H' sq ((List.range k).map (x01 bh L.n)) ∧ Same H14 H') ⟨none, rfl, ⟨[], esq, .nil⟩, s15⟩ ?_ (fun σ H' h => kk _ _ h)⟩
        rintro k σ H16 hk ⟨v6, rfl, hd, s16⟩
        rw [show (0 : Int) + (k : Int) = ((k : Nat) : Int) by omega]
        dsimp only [gName]
        obtain ⟨ls, hls, hal⟩ := id hd.ex
        have lsl := al_len hal
        rw [List.length_map, List.length_range] at lsl
        refine ⟨_, rfl, .inl ⟨rfl, _, SqL.of (K := K) hls⟩, ?_⟩
        have fin : ∀ (t : Addr) (H17 : Hp), Same H16 H17 → H17 t = some (.lst [.int ((x01 bh L.n k).1 : Nat), .int ((x01 bh L.n k).2 : Nat)]) → DuosAt (upd H17 sq (.lst (ls.map V.ref ++ [.ref t]))) sq ((List.range (k + 1)).map (x01 bh L.n)) ∧ Same H14 (upd H17 sq (.lst (ls.map V.ref ++ [.ref t]))) := fun t H17 s17 e17 => by
          refine ⟨?_, same_skip (s16.trans s17) sq0 ((But.refl _ _).upd _)⟩
          rw [List.range_succ, List.map_append]
          exact (hd.same s17).app e17 (s17 _ _ hls)
        have lenz : (ls.map V.ref).length < sizeLine := smallM (by rw [List.length_map]; omega)
        refine ⟨_, rfl, _, rfl, ?_⟩
        cases bh with
        | true =>
          refine iteT ?_
          refine ⟨_, rfl, _, _, rfl, rfl, ⟨by omega, by omega⟩, _, rfl, .inl ⟨_, rfl, _, _, rfl, rfl, (by show (0 : Int) < 2; decide), ?_⟩⟩
          refine ⟨(by show 2 ≤ sizeLine; decide), newQ (.lst [.int ((k / 2 : Nat) : Int), .int ((k % 2 : Nat) : Int)]) fun t ht s17 e17 => ?_⟩
          obtain ⟨f1, f2⟩ := fin t _ s17 e17
          exact ⟨sq, _, _, rfl, rfl, s17 _ _ hls, lenz, _, rfl, f1, f2⟩
        | false =>
          refine iteF ?_
          refine ⟨_, rfl, .inl ⟨_, rfl, _, rfl, _, _, rfl, rfl, (by show (0 : Int) < (L.n : Int); omega), _, rfl, _, rfl, _, _, rfl, rfl, ⟨by omega, by omega⟩, ?_⟩⟩
          refine ⟨(by show 2 ≤ sizeLine; decide), newQ (.lst [.int ((k % L.n : Nat) : Int), .int ((k / L.n : Nat) : Int)]) fun t ht s17 e17 => ?_⟩
          obtain ⟨f1, f2⟩ := fin t _ s17 e17
          exact ⟨sq, _, _, rfl, rfl, s17 _ _ hls, lenz, _, rfl, f1, f2⟩
      rintro _ H16 ⟨v6, rfl, hd, s16⟩
      have ena := s16 _ _ ena
      have hg := hg.same s16
      have hP := hP.same s16
      clear s16 sq0 s15 esq
      obtain ⟨ls, hls, hal⟩ := id hd.ex
      have lsl : ls.length = 2 * L.n := by rw [al_len hal, List.length_map, List.length_range]
      have spot : ∀ {i : Nat} {x : V}, (ls.map V.ref)[i]? = some x → ∃ l, i < 2 * L.n ∧ x = .ref l ∧ H16 l = some (.lst [.int ((x01 bh L.n i).1 : Nat), .int ((x01 bh L.n i).2 : Nat)]) := fun {i x} hx => by
        rw [List.getElem?_map] at hx
        obtain ⟨l, hl, rfl⟩ := Option.map_eq_some_iff.mp hx
        obtain ⟨q', e1, e2⟩ := al_get hal hl
        have hi : i < 2 * L.n := by have := (List.getElem?_eq_some_iff.mp hl).1; omega
        rw [List.getElem?_map, List.getElem?_range hi] at e1
        obtain rfl := Option.some.inj e1
        exact ⟨l, hi, rfl, e2⟩
      refine ⟨_, rfl, ?_⟩
      dsimp only [gName]
      refine set_run (fun v H' => ∃ nl, v = .ref nl ∧ H' nl = some (.lst []) ∧ H16 nl = none ∧ Same H16 H') (fun Q' kk => ⟨(by show 0 ≤ sizeLine; decide), newQ (.lst []) fun l hl s e => kk _ _ ⟨l, rfl, e, hl, s⟩⟩) ?_
      rintro _ H17 ⟨rw', rfl, erw, rw0, s17⟩
      dsimp only [gName]
      show tSeq _ _ _ [some (.ref sa), some (.ref p), some (.ref rw'), some (.int (L.n : Nat)), some (.int (s : Nat)), some (.ref sq), v6, none, v8, some (.ref na), some (.ref pl), some (.ref z'), some (.bl bh), some (.ref x), some (.ref r), none, none, none, none, none] H17
      refine st_run (fun σ H' => ∃ v15 : Option V, σ = [some (.ref sa), some (.ref p), some (.ref rw'), some (.int (L.n : Nat)), some (.int (s : Nat)), some (.ref sq), v6, none, v8, some (.ref na), some (.ref pl), some (.ref z'), some (.bl bh), some (.ref x), some (.ref r), v15, none, none, none, none] ∧ GridAt H' rw' (2 * L.n) (rowV (twoL bh L).le) ∧ Same H16 H') (fun D'' hD' kk => ?_) ?_
      · refine ⟨_, rfl, sq, rfl, ⟨_, SqL.of (K := K) (s17 _ _ hls)⟩, for_list (K := K) (a := sq) (xs := ls.map V.ref) (fun i σ H' => ∃ v15 : Option V, σ = [some (.ref sa), some (.ref p), some (.ref rw'), some (.int (L.n : Nat)), some (.int (s : Nat)), some (.ref sq), v6, none, v8, some (.ref na), some (.ref pl), some (.ref z'), some (.bl bh), some (.ref x), some (.ref r), v15, none, none, none, none] ∧ (∃ rs : List Addr, H' rw' = some (.lst (rs.map V.ref)) ∧ Al (fun l (a : Nat) => l ≠ rw' ∧ H' l = some (.lst ((List.range (2 * L.n)).map (rowV (twoL bh L).le a)))) rs (List.range i)) ∧ Same H16 H' ∧ i ≤ 2 * L.n) ⟨none, rfl, ⟨[], erw, .nil⟩, s17, Nat.zero_le _⟩ (fun i σ H' _ ⟨_, _, _, s, _⟩ => SqL.of (K := K) (s _ _ hls)) ?_ ?_⟩
        · rintro i y σ H18 hy ⟨v15, rfl, ⟨rs, ers, ars⟩, s18, hi⟩
          obtain ⟨l, hi, rfl, hl⟩ := spot hy
          have hl18 := s18 _ _ hl
          dsimp only [gName]
          refine ⟨_, rfl, .inl ⟨rfl, _, SqL.of (K := K) ers⟩, ?_⟩
          refine ⟨_, rfl, sq, rfl, ⟨_, SqL.of (K := K) (s18 _ _ hls)⟩, fun D hD => ?_⟩
          refine lc_refs (as := ls) (bs := List.range (2 * L.n)) (G := fun _ v (j : Nat) => v = rowV (twoL bh L).le i j) id hD (fun _ h => h) (fun h => h) (by omega) (by rw [List.length_range]; exact lsl) (s18 _ _ hls) ?_ (fun H19 ys s19 hy rr => ?_)
          · rintro j l' b H19 Nx Ex hl' hb s19 _ ky
            have hj : j < 2 * L.n := by have := (List.getElem?_eq_some_iff.mp hl').1; omega
            rw [List.getElem?_range hj] at hb
            obtain rfl := Option.some.inj hb
            obtain ⟨l'', _, e, hl2⟩ := spot (i := j) (x := .ref l') (by rw [List.getElem?_map, hl']; rfl)
            cases e
            have hl19 := s19 _ _ hl18
            have hl29 := (s18.trans s19) _ _ hl2
            have xi := (two_x (bh := bh) hi).1
            have xj := (two_x (bh := bh) hj).1
            obtain ⟨la, ra, a1, a2, a3⟩ := (hg.same (s18.trans s19)).row xi
            refine ⟨rfl, ?_⟩
            refine lcY ?_
            refine ⟨_, rfl, l, _, _, _, rfl, rfl, SqL.of (K := K) hl19, atI_nat (j := 1) rfl, _, rfl, l', _, _, _, rfl, rfl, SqL.of (K := K) hl29, atI_nat (j := 1) rfl, _, _, rfl, rfl, _, rfl, ?_⟩
            have fin : ∀ t : Bool, t = (twoL bh L).le i j → Nx (.bl t) H19 := fun t e => ky _ _ (Same.refl _) (by rw [e]; rfl)
            rw [two_le] at fin
            rw [show decide ((((x01 bh L.n i).2 : Nat) : Int) ≤ (((x01 bh L.n j).2 : Nat) : Int)) = decide ((x01 bh L.n i).2 ≤ (x01 bh L.n j).2) from decide_eq_decide.mpr Int.ofNat_le]
            cases ed : decide ((x01 bh L.n i).2 ≤ (x01 bh L.n j).2) with
            | false => exact iteF (fin _ (by rw [ed]; rfl))
            | true =>
              refine iteT ?_
              refine ⟨_, rfl, _, rfl, l, _, _, _, rfl, rfl, SqL.of (K := K) hl19, atI_nat (j := 0) rfl, r, _, _, _, rfl, rfl, SqL.of (K := K) a1, atI_nat a2, _, rfl, l', _, _, _, rfl, rfl, SqL.of (K := K) hl29, atI_nat (j := 0) rfl, ra, _, _, _, rfl, rfl, SqL.of (K := K) a3, atI_nat (rg_atG xj), ?_⟩
              exact fin (L.le (x01 bh L.n i).1 (x01 bh L.n j).1) (by rw [ed]; rfl)
          · rw [List.map_id] at rr
            rw [al_map rr] at hy
            have ers19 := s19 _ _ ers
            refine ⟨rw', _, _, rfl, rfl, ers19, smallM ?_, ?_⟩
            · rw [List.length_map, al_len ars, List.length_range]; omega
            have rorw : D ≠ rw' := fun e => by rw [e, ers] at hD; cases hD
            refine ⟨_, rfl, ⟨rs ++ [D], by rw [upd_same, List.map_append]; rfl, ?_⟩, same_skip (s18.trans s19) rw0 ((But.refl _ _).upd _), hi⟩
            rw [List.range_succ]
            refine al_snoc (al_imp ars fun l a ⟨x1, x2⟩ => ⟨x1, ?_⟩) ⟨rorw, ?_⟩
            · rw [upd_ne x1]; exact s19 _ _ x2
            · rw [upd_ne rorw]; exact hy
        · rintro σ H18 ⟨v15, rfl, ⟨rs, ers, ars⟩, s18, _⟩
          rw [List.length_map, lsl] at ars
          refine kk _ _ ⟨v15, rfl, ⟨rs, ers, by rw [al_len ars, List.length_range], fun a l e => ?_⟩, s18⟩
          obtain ⟨b, e1, _, e2⟩ := al_get ars e
          have ha : a < 2 * L.n := by have := (List.getElem?_eq_some_iff.mp e).1; rw [al_len ars, List.length_range] at this; exact this
          rw [List.getElem?_range ha] at e1
          obtain rfl := Option.some.inj e1
          exact e2
      clear s17 erw
      rintro _ H17 ⟨v15, rfl, hgP, s17⟩
      have ena := s17 _ _ ena
      have hP := hP.same s17
      have hls := s17 _ _ hls
      have spot : ∀ {i : Nat} {x : V}, (ls.map V.ref)[i]? = some x → ∃ l, i < 2 * L.n ∧ x = .ref l ∧ H17 l = some (.lst [.int ((x01 bh L.n i).1 : Nat), .int ((x01 bh L.n i).2 : Nat)]) := fun {i x} hx => by
        obtain ⟨l, a, b, c⟩ := spot hx
        exact ⟨l, a, b, s17 _ _ c⟩
      clear s17 rw0 hg hal hd
      refine set_run (fun v H' => ∃ nl, v = .ref nl ∧ H' nl = some (.lst []) ∧ H17 nl = none ∧ Same H17 H') (fun Q' kk => ⟨(by show 0 ≤ sizeLine; decide), newQ (.lst []) fun l hl s e => kk _ _ ⟨l, rfl, e, hl, s⟩⟩) ?_
      rintro _ H18 ⟨wl, rfl, ewl, wl0, s18⟩
      dsimp only [gName]
      show tSeq _ _ _ [some (.ref sa), some (.ref p), some (.ref rw'), some (.int (L.n : Nat)), some (.int (s : Nat)), some (.ref sq), v6, none, v8, some (.ref na), some (.ref pl), some (.ref z'), some (.bl bh), some (.ref x), some (.ref r), v15, none, some (.ref wl), none, none] H18
      refine st_run (fun σ H' => ∃ v15 v18 : Option V, σ = [some (.ref sa), some (.ref p), some (.ref rw'), some (.int (L.n : Nat)), some (.int (s : Nat)), some (.ref sq), v6, none, v8, some (.ref na), some (.ref pl), some (.ref z'), some (.bl bh), some (.ref x), some (.ref r), v15, none, some (.ref wl), v18, none] ∧ H' wl = some (.lst ((twoL bh L).names.map V.str)) ∧ Same H17 H') (fun D'' hD' kk => ?_) ?_
      · have tn : (twoL bh L).names.length = 2 * L.n := two_n bh L
        refine ⟨_, rfl, sq, rfl, ⟨_, SqL.of (K := K) (s18 _ _ hls)⟩, for_list (K := K) (a := sq) (xs := ls.map V.ref) (fun i σ H' => ∃ v15 v18 : Option V, σ = [some (.ref sa), some (.ref p), some (.ref rw'), some (.int (L.n : Nat)), some (.int (s : Nat)), some (.ref sq), v6, none, v8, some (.ref na), some (.ref pl), some (.ref z'), some (.bl bh), some (.ref x), some (.ref r), v15, none, some (.ref wl), v18, none] ∧ H' wl = some (.lst (((twoL bh L).names.take i).map V.str)) ∧ Same H17 H' ∧ i ≤ 2 * L.n) ⟨_, _, rfl, ewl, s18, Nat.zero_le _⟩ (fun i σ H' _ ⟨_, _, _, _, s, _⟩ => SqL.of (K := K) (s _ _ hls)) ?_ ?_⟩
        · rintro i y σ H19 hy ⟨v15, v18, rfl, ew19, s19, hi⟩
          obtain ⟨l, hi, rfl, hl⟩ := spot hy
          have hl19 := s19 _ _ hl
          have ena19 := s19 _ _ ena
          obtain ⟨xi1, xi2⟩ := two_x (bh := bh) hi
          have hnm := two_nm bh L hi
          have ax : (xs.map V.str)[(x01 bh L.n i).1]? = some (.str (L.names.getD (x01 bh L.n i).1 Str.empty)) := by rw [← nms]; exact str_d xi1
          have axl : (L.names.getD (x01 bh L.n i).1 Str.empty).length ≤ 12 := hnl _ (by rw [← nms]; exact List.mem_of_getElem? (get_d xi1))
          have nl := natS_len (i := (x01 bh L.n i).2) (by omega)
          dsimp only [gName]
          refine set_run (fun v H' => ∃ (hl' : Addr) (u1 u2 : Str), v = .ref hl' ∧ H' hl' = some (.lst [.str u1, .str u2]) ∧ u1.length ≤ 12 ∧ u2.length ≤ 12 ∧ (twoL bh L).names[i]? = some (("<" : Str) ++ (u1 ++ ("/" : Str) ++ u2) ++ (">" : Str)) ∧ Same H19 H') (fun Q' k2 => ?_) ?_
          · refine ⟨_, rfl, _, rfl, ?_⟩
            cases bh with
            | true =>
              refine iteT ?_
              refine ⟨_, rfl, _, rfl, l, _, _, _, rfl, rfl, SqL.of (K := K) hl19, atI_nat (j := 0) rfl, na, _, _, _, rfl, rfl, SqL.of (K := K) ena19, atI_nat ax, ?_⟩
              refine ⟨_, rfl, l, _, _, _, rfl, rfl, SqL.of (K := K) hl19, atI_nat (j := 1) rfl, _, rfl, log_small (by omega), ?_⟩
              refine ⟨(by show 2 ≤ sizeLine; decide), newQ (.lst [.str (L.names.getD (x01 true L.n i).1 Str.empty), .str (natS (x01 true L.n i).2)]) fun t ht s20 e20 => ?_⟩
              exact k2 _ _ ⟨t, _, _, rfl, e20, axl, by omega, hnm, s20⟩
            | false =>
              refine iteF ?_
              refine ⟨_, rfl, l, _, _, _, rfl, rfl, SqL.of (K := K) hl19, atI_nat (j := 1) rfl, _, rfl, log_small (by omega), ?_⟩
              refine ⟨_, rfl, _, rfl, l, _, _, _, rfl, rfl, SqL.of (K := K) hl19, atI_nat (j := 0) rfl, na, _, _, _, rfl, rfl, SqL.of (K := K) ena19, atI_nat ax, ?_⟩
              refine ⟨(by show 2 ≤ sizeLine; decide), newQ (.lst [.str (natS (x01 false L.n i).2), .str (L.names.getD (x01 false L.n i).1 Str.empty)]) fun t ht s20 e20 => ?_⟩
              exact k2 _ _ ⟨t, _, _, rfl, e20, by omega, axl, hnm, s20⟩
          rintro _ H20 ⟨hl', u1, u2, rfl, e20, l1, l2, hnm, s20⟩
          dsimp only [gName]
          have ew20 := s20 _ _ ew19
          have o1 : ("<" : Str).length = 1 := rfl
          have o2 : ("/" : Str).length = 1 := rfl
          have o3 : (">" : Str).length = 1 := rfl
          refine ⟨_, rfl, .inl ⟨rfl, _, SqL.of (K := K) ew20⟩, ⟨_, rfl⟩, _, rfl, "/", hl', [u1, u2], rfl, rfl, .inl (SqL.of (K := K) e20), ?_, ?_⟩
          · show u1.length + (u2.length + 0) + 2 * 1 ≤ 16777216
            omega
          rw [join2]
          refine ⟨_, _, rfl, rfl, small_line (by simp only [Str.length_append]; omega), _, _, rfl, rfl, small_line (by simp only [Str.length_append]; omega), ?_⟩
          refine ⟨wl, _, _, rfl, rfl, ew20, smallM (by rw [List.length_map, List.length_take]; omega), _, _, rfl, ?_, same_skip (s19.trans s20) wl0 ((But.refl _ _).upd _), hi⟩
          rw [upd_same, take_snoc hnm, List.map_append]
          rfl
        · rintro σ H19 ⟨v15, v18, rfl, ew19, s19, _⟩
          rw [List.length_map, lsl, ← tn, List.take_length] at ew19
          exact kk _ _ ⟨_, _, rfl, ew19, s19⟩
      rintro _ H19 ⟨v15, v18, rfl, ew, s19⟩
      refine ⟨_, rfl, ?_⟩
      dsimp only [gName]
      refine q' _ _ ⟨rw', z', wl, twoL bh L, _, _, _, _, _, _, _, _, rfl, hP.same s19, two_pre bh F.pre, by rw [two_n]; omega, ?_, ew⟩
      rw [two_n]
      exact hgP.same s19
  rintro _ H11 ⟨r, z, na, L', v5, v6, v12, v13, v14, v15, v17, v18, rfl, hL, pre, n64, hg, ena⟩
  refine ⟨_, rfl, _, rfl, r, na, L', rfl, hg, n64, ena, pre, fun v H12 s12 hv => ?_⟩
  dsimp only [gName]
  have hL12 := hL.same s12
  refine ⟨_, rfl, z, L', rfl, hL12, n64, fun v1 H13 s13 hv1 => ?_⟩
  have hL13 := hL12.same s13
  refine ⟨_, rfl, z, L', rfl, hL13, n64, fun v2 H14 s14 hv2 => ?_⟩
  obtain ⟨Cz, dz, fz, tn, td, tu, A1⟩ := hL13.same s14
  refine ⟨_, rfl, z, Cz, dz, fz, _, rfl, A1.at_, A1.c.cl, A1.c.na _ (by decide), A1.size, ?_⟩
  refine ⟨(by show 3 ≤ sizeLine; decide), newQ (.lst [v1, v2, .int (L'.n : Nat)]) fun l1 l10 s15 e15 => ?_⟩
  generalize upd H14 l1 (.lst [v1, v2, .int (L'.n : Nat)]) = H15 at s15 e15 ⊢
  have s1115 := ((s12.trans s13).trans s14).trans s15
  obtain ⟨rs, e1, e2⟩ := (hg.same s1115).len
  refine ⟨_, rfl, _, rfl, _, rfl, r, _, rfl, .inl (SqL.of (K := K) e1), ?_⟩
  rw [e2]
  refine ⟨(by show 3 ≤ sizeLine; decide), newQ (.lst [v, v, .int (L'.n : Nat)]) fun l2 l20 s16 e16 => ?_⟩
  generalize upd H15 l2 (.lst [v, v, .int (L'.n : Nat)]) = H16 at s16 e16 ⊢
  have hv := Ld.same (s13.trans (s14.trans (s15.trans s16))) hv
  have hv1 := Ld.same (s14.trans (s15.trans s16)) hv1
  have hv2 := Ld.same (s15.trans s16) hv2
  obtain ⟨fd1, fd2⟩ := flt_dep L'.names L'.fltW
  have fd2 := fd2 (flt_few L')
  refine ⟨.lst [fltD L'.names L'.fltW, fltD L'.names L'.fltW, .int (L'.n : Nat)], _, _, rfl, ⟨l1, _, rfl, s16 _ _ e15, _, _, rfl, hv1, _, _, rfl, hv2, _, _, rfl, rfl, rfl⟩, ⟨l2, _, rfl, e16, _, _, rfl, hv, _, _, rfl, hv, _, _, rfl, rfl, rfl⟩, ?_, ⟨by show 3 ≤ 100000; decide, fd2, fd2, trivial, trivial⟩, fun H' _ => q _⟩
  simp only [Dv.depth, Dv.depthA]
  omega
end
end Lw
theorem PySem.Challenge.cw_latticewish_k07_first_fault_holds : PySem.Challenge.rw_latticewish_k07_first_fault.Holds := by
  exact Lw.pre fun K mg w T base => Lw.ok_law T
#print axioms PySem.Challenge.cw_latticewish_k07_first_fault_holds
