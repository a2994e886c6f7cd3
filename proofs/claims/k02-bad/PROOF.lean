import PyProof.Rows.All
import Wide.All
import OpenK.AllK
import Wide.FinOn
import HandS.ForMost
import KE.OsRunLaw
import HandS.Walk
import HandS.Zip
import KE.GoesMore
import HandS.Deep
import HandS.DictComp
import HandS.IsInst
import HandS.RaiseMore
import HandS.ExcOwn
import KE.KSuper
import HandS.ClsMeth
import KE.RegKSuper
import HandS.ExcInit
import HandS.ExcSuper
import KE.KExcSuper
import KE.KExcInit
import HandS.ExcIs
import HandS.ExcField
import HandS.TryOnly
import HandS.Strs
import HandS.FStr
import HandS.Conv
import HandS.Defaults
import HandS.SetFor
import KE.KExcIs
import KE.RegKIsAll
import HandS.WordsExc
import HandS.Small
import HandS.StrMore
import HandS.Text
import PySem.Challenge.RW_latticewish_k02_bad_orders
set_option Elab.async false
set_option linter.all false
set_option maxRecDepth 100000
set_option maxHeartbeats 4000000
namespace Lw
open PySem L2
local macro_rules | `(tactic| walk_at "up") => `(tactic| first | assumption | (refine Same.at (by assumption) ?_; walk_at "up") | (refine Same.seq (by assumption) ?_; walk_at "up"))
local macro_rules | `(tactic| walk_at "rd") => `(tactic| repeat (first | (refine ⟨_, rfl, ?_⟩) | (refine ⟨_, _, rfl, rfl, ?_⟩) | (refine ⟨(by decide), ?_⟩)))
theorem _root_.L2.Same.new {H : Hp} {p : Addr} (h : H p = none) (o : HO) : Same H (upd H p o) := fun b u q => by rw [upd_ne (ne_of_none q h)]; exact q
theorem _root_.L2.Same.mut {H H' : Hp} {p : Addr} (s : Same H H') (h : H p = none) (o : HO) : Same H (upd H' p o) := fun b u q => by
  rw [upd_ne (ne_of_none q h)]; exact s b u q
theorem _root_.L2.Same.at {H H' : Hp} {p : Addr} {o : HO} (s : Same H H') (h : H p = some o) : H' p = some o := s p o h
/-- a new object, its heap told by what is known of it -/
theorem newO {H : Hp} {o : HO} {Q : Addr → Hp → Prop} (h : ∀ p H', H p = none → Same H H' → H' p = some o → Q p H') : ∀ p, H p = none → Q p (upd H p o) :=
  fun p hp => h p _ hp (Same.new hp o) upd_same
/-- the same, the object said, the heap as it is -/
theorem newQ {H : Hp} (o : HO) {G : Addr → Prop} (h : ∀ p, H p = none → Same H (upd H p o) → upd H p o p = some o → G p) : ∀ p, H p = none → G p :=
  fun p hp => h p hp (Same.new hp o) upd_same
theorem ans_run {t : TT} {σ : L2.St} {H : Hp} {Q : Bool → Hp → Prop} (b : Bool) (h : ∀ Q' : Bool → Hp → Prop, Q' b H → t σ H Q') (q : Q b H) : t σ H Q := h Q q
theorem iteN {c A B : Prop} [Decidable c] (hc : ¬ c) (h : B) : if decide c = true then A else B := by
  rw [decide_eq_false hc]
  exact iteF h
theorem iteY {c A B : Prop} [Decidable c] (hc : c) (h : A) : if decide c = true then A else B := by
  rw [decide_eq_true hc]
  exact iteT h
theorem lcY {σ : L2.St} {H : Hp} {A B : Hp → Prop} (h : A H) : tYes σ H (fun b H3 => if b = true then A H3 else B H3) := by
  show (if true = true then A H else B H)
  exact iteT h
theorem abs_map (ns : List Int) : ∀ z ∈ ns.map (fun i : Int => if i < 0 then -i else i), 0 ≤ z := by
  intro z hz
  obtain ⟨i, _, rfl⟩ := List.mem_map.mp hz
  split <;> omega
theorem map_at {ns : List Int} {i : Nat} {x : V} (h : (ns.map V.int)[i]? = some x) : ∃ z, ns[i]? = some z ∧ x = .int z := by
  rw [List.getElem?_map] at h
  cases e : ns[i]? with
  | none => rw [e] at h; cases h
  | some z => rw [e] at h; exact ⟨z, rfl, (Option.some.inj h).symm⟩
theorem take_snoc {α : Type} {l : List α} {i : Nat} {x : α} (h : l[i]? = some x) : l.take (i + 1) = l.take i ++ [x] := by
  obtain ⟨hl, rfl⟩ := List.getElem?_eq_some_iff.mp h
  rw [List.take_succ, List.getElem?_eq_getElem hl]; rfl
/-- what draws are made of -/
structure SrcIs (K : PySem.W.Frag) (H : Hp) (p c : Addr) (cs : List Int) (i : Nat) (l m : Int) : Prop where
  at_ : H p = some (.lst [.ref c, .int i, .int l, .int m])
  cel : SqL K H c (cs.map V.int)
  ne : c ≠ p
  hi : i ≤ cs.length
  hl : 0 ≤ l
  hc : ∀ z ∈ cs, 0 ≤ z
  m0 : 0 ≤ m
  m1 : m < 2147483563
def Src (K : PySem.W.Frag) (c : Addr) (H : Hp) (p : Addr) : Prop := ∃ cs i l m, SrcIs K H p c cs i l m
/-- all but p is as it was -/
def But (p : Addr) (H H' : Hp) : Prop := ∀ b o, b ≠ p → H b = some o → H' b = some o
theorem But.refl (p : Addr) (H : Hp) : But p H H := fun _ _ _ h => h
theorem But.trans {p : Addr} {H H1 H2 : Hp} (a : But p H H1) (b : But p H1 H2) : But p H H2 := fun c o n h => b c o n (a c o n h)
theorem But.upd {p : Addr} {H H' : Hp} (s : But p H H') (o : HO) : But p H (upd H' p o) := fun b u n h => by rw [upd_ne n]; exact s b u n h
theorem _root_.L2.Same.but {H H' : Hp} (s : Same H H') (p : Addr) : But p H H' := fun b o _ h => s b o h
theorem But.seq {K : PySem.W.Frag} {H H' : Hp} {p a : Addr} {xs : List V} (e : But p H H') (n : a ≠ p) (h : SqL K H a xs) : SqL K H' a xs := by
  rcases h with (h | ⟨o, h⟩) | h
  · exact .inl (.inl (e _ _ n h))
  · exact .inl (.inr ⟨o, e _ _ n h⟩)
  · exact .inr h
theorem SrcIs.put {K : PySem.W.Frag} {H : Hp} {p c : Addr} {cs : List Int} {i : Nat} {l m : Int} (h : SrcIs K H p c cs i l m) {i' : Nat} {l' m' : Int} (a : i' ≤ cs.length) (b : 0 ≤ l') (d : 0 ≤ m') (e : m' < 2147483563) :
    SrcIs K (upd H p (.lst [.ref c, .int i', .int l', .int m'])) p c cs i' l' m' :=
  ⟨upd_same, (But.upd (But.refl p H) _).seq h.ne h.cel, h.ne, a, b, h.hc, d, e⟩
theorem smallM {n : Nat} (h : n ≤ 1000000) : n < sizeLine := Nat.lt_of_le_of_lt h (by decide)
/-- a comprehension: R i H ys: what is known of the list made so far; F: what is kept of the heap; the list itself stands at D -/
theorem lc_foldF {J : It} {n : Nat} {G : Hp → Prop} {Yw : Nat → Hp → V → Hp → Prop} (w : Walk J n G Yw) {g : TG} {tt : TT} {te : TE} {vs : List Nat} {σ : L2.St} {H1 : Hp} {D : Addr} {Qd : Hp → Prop}
    (F : Hp → Prop) (R : Nat → Hp → List V → Prop) (f0 : F (upd H1 D (.lst []))) (fD : ∀ H ys zs, F H → H D = some (.lst ys) → F (upd H D (.lst zs))) (r0 : R 0 (upd H1 D (.lst [])) [])
    (rD : ∀ i H ys zs xs, R i H xs → H D = some (.lst ys) → R i (upd H D (.lst zs)) xs) (len : ∀ i H ys, R i H ys → ys.length ≤ 1000000) (hG : ∀ H, F H → G H)
    (hs : ∀ i x H H' ys (Nx : V → Hp → Prop) (Ex : Hp → Prop), i < n → F H → H D = some (.lst ys) → R i H ys → Yw i H x H' →
      (∀ y H2, F H2 → H2 D = some (.lst ys) → R (i + 1) H2 (ys ++ [y]) → Nx y H2) → (∀ H2, F H2 → H2 D = some (.lst ys) → R (i + 1) H2 ys → Ex H2) →
      g x (wipe σ vs) H' fun σ2 H2 => wipe σ2 vs = wipe σ vs ∧ tt σ2 H2 fun b H3 => if b = true then te σ2 H3 Nx else Ex H3)
    (hd : ∀ H ys, F H → H D = some (.lst ys) → R n H ys → Qd H) :
    ∃ W : Nat → Nat → Hp → Prop, (∃ m, W 0 m (upd H1 D (.lst []))) ∧ ∀ i m H, W i m H →
      (J.stop i H ∧ Qd H) ∨ (J.go i H ∧ ∃ Nx : Hp → Prop, (∀ H', Nx H' → ∃ m', m' < m ∧ W (i + 1) m' H') ∧ ∀ x H', J.yld i H x H' → g x (wipe σ vs) H' fun σ2 H2 => wipe σ2 vs = wipe σ vs ∧ tt σ2 H2 fun b H3 =>
        if b = true then te σ2 H3 fun y H4 => ∃ acc, H4 D = some (.lst acc) ∧ acc.length < sizeLine ∧ Nx (upd H4 D (.lst (acc ++ [y]))) else Nx H3) := by
  refine lc_it w (fun i H => F H ∧ ∃ ys, H D = some (.lst ys) ∧ R i H ys) ⟨f0, [], upd_same, r0⟩ (fun i H _ h => hG H h.1) ?_ ?_
  · rintro i x H H' hi ⟨f, ys, hy, r⟩ y
    refine hs i x H H' ys _ _ hi f hy r y (fun z H2 f2 h2 r2 => ?_) (fun H2 f2 h2 r2 => ⟨f2, ys, h2, r2⟩)
    exact ⟨ys, h2, smallM (len i H ys r), fD _ _ _ f2 h2, _, upd_same, rD _ _ _ _ _ r2 h2⟩
  · rintro H ⟨f, ys, hy, r⟩
    exact hd H ys f hy r
theorem snoc_at {α : Type} {l : List α} {x y : α} {j : Nat} (h : (l ++ [x])[j]? = some y) : l[j]? = some y ∨ (j = l.length ∧ y = x) := by
  rcases Nat.lt_or_ge j l.length with hj | hj
  · rw [List.getElem?_append_left hj] at h; exact .inl h
  · rw [List.getElem?_append_right hj] at h
    have := (List.getElem?_eq_some_iff.mp h).1
    simp at this
    have e : j = l.length := by omega
    subst e
    rw [Nat.sub_self] at h
    cases h
    exact .inr ⟨rfl, rfl⟩
theorem _root_.L2.Room.un2 {k : Nat} {A : Around} (r : Room k A) : A.units + 200 < cLine := by have := r.un; omega
theorem ixN_nat {n : Nat} {z : Int} (h0 : 0 ≤ z) (h : z.toNat < n) : ixN n z = some z.toNat := by
  unfold ixN
  rw [if_pos h0, if_pos (by omega : z < (n : Int))]
theorem sIx_some (n d k : Nat) : HT.sIx n d (some (k : Int)) = min k n := by first | exact HT.sIx_nat n d k | exact HT.sIx_some n d k | simp [HT.sIx]
theorem sIx_none (n d : Nat) : HT.sIx n d none = d := by first | rfl | simp [HT.sIx]
theorem cut1 (x : V) (xs : List V) : cutV (x :: xs) (some 1) none = xs := by
  unfold cutV
  rw [show (some (1 : Int)) = some ((1 : Nat) : Int) from rfl, sIx_some, sIx_none]
  have e : min 1 (x :: xs).length = 1 := by rw [List.length_cons]; omega
  rw [e]
  show List.take ((x :: xs).length - 1) xs = xs
  exact List.take_of_length_le (by rw [List.length_cons]; omega)
theorem cut1_not (x : V) (xs : List V) : ¬ (HT.sIx (x :: xs).length 0 (some 1) = 0 ∧ HT.sIx (x :: xs).length (x :: xs).length none = (x :: xs).length) := by
  rw [show (some (1 : Int)) = some ((1 : Nat) : Int) from rfl, sIx_some, List.length_cons]
  omega
/-! ### further rules: data compared and looked for at greater depths, dict.update, get of a written dict, zip of a tuple and a list -/
section
open PySem.Spec PyProof.Rows
variable {X : Cx}
/-- a datum that may be compared: n deep at most -/
def Shp (n : Nat) (d : PyData) : Prop := d.canLay0 = true ∧ d.depth ≤ n
def rEqX (K : PySem.W.Frag) : R2 := fun x y H Q => ∃ d e, Dp K H x d ∧ Dp K H y e ∧ Shp 190 d ∧ Shp 190 e ∧ Q (.bl (PyData.eqv d e)) H
def rNeX (K : PySem.W.Frag) : R2 := fun x y H Q => ∃ d e, Dp K H x d ∧ Dp K H y e ∧ Shp 190 d ∧ Shp 190 e ∧ Q (.bl (!PyData.eqv d e)) H
theorem op_eqX (hu : X.A.units + 200 < cLine) : OpR X (compareOp .Eq) (rEqX X.K) := by
  intro pins s σ H x y v u Q I rx ry ⟨d, e, hd, he, ⟨c1, d1⟩, ⟨c2, d2⟩, q⟩
  obtain ⟨as, r1⟩ := Dp.reads I d x v hd rx
  obtain ⟨bs, r2⟩ := Dp.reads I e y u he ry
  exact SeqAt.compareEq_reads r1 r2 c1 c2 (by have := Nat.min_le_left d.depth e.depth; omega) ⟨.bl _, H, I, rfl, q⟩
theorem op_neX (hu : X.A.units + 200 < cLine) : OpR X (compareOp .NotEq) (rNeX X.K) := by
  intro pins s σ H x y v u Q I rx ry ⟨d, e, hd, he, ⟨c1, d1⟩, ⟨c2, d2⟩, q⟩
  obtain ⟨as, r1⟩ := Dp.reads I d x v hd rx
  obtain ⟨bs, r2⟩ := Dp.reads I e y u he ry
  exact SeqAt.compareNe_reads r1 r2 c1 c2 (by have := Nat.min_le_left d.depth e.depth; omega) ⟨.bl _, H, I, rfl, q⟩
/-- x in (a, b, ..): data of any kind in a tuple -/
def rInTX (K : PySem.W.Frag) : R2 := fun x y H Q => ∃ d ds, Dp K H x d ∧ Dp K H y (.tuple ds) ∧ Shp 190 d ∧ PyData.canLayAll0 ds = true ∧ Q (.bl (ds.any fun z => PyData.eqv z d)) H
theorem op_inTX (hu : X.A.units + 200 < cLine) : OpR X (compareOp .In) (rInTX X.K) := by
  intro pins s σ H x y v u Q I rx ry ⟨d, ds, hd, he, ⟨c1, d1⟩, c2, q⟩
  obtain ⟨as, r1⟩ := Dp.reads I d x v hd rx
  obtain ⟨bs, r2⟩ := Dp.reads I (.tuple ds) y u he ry
  exact SeqAt.in_tuple_reads r2 r1 c2 c1 (by have := Nat.min_le_right (PyData.depthAll ds) d.depth; omega) ⟨.bl _, H, I, rfl, q⟩
/-- x in [a, b, ..]: the same in a list -/
def rInLX (K : PySem.W.Frag) : R2 := fun x y H Q => ∃ d ds, Dp K H x d ∧ Dp K H y (.list ds) ∧ Shp 190 d ∧ PyData.canLayAll0 ds = true ∧ Q (.bl (ds.any fun z => PyData.eqv z d)) H
theorem op_inLX (hu : X.A.units + 200 < cLine) : OpR X (compareOp .In) (rInLX X.K) := by
  intro pins s σ H x y v u Q I rx ry ⟨d, ds, hd, he, ⟨c1, d1⟩, c2, q⟩
  obtain ⟨as, r1⟩ := Dp.reads I d x v hd rx
  obtain ⟨bs, r2⟩ := Dp.reads I (.list ds) y u he ry
  exact SeqAt.in_list_reads r2 r1 c2 c1 (by have := Nat.min_le_right (PyData.depthAll ds) d.depth; omega) ⟨.bl _, H, I, rfl, q⟩
/-- blanks, n times -/
def rRepS : R2 := fun x y H Q => ∃ z n, x = .str z ∧ y = .int n ∧ MulOk z n ∧ Q (.str (Txt.mul z n)) H
theorem op_rep_str : OpR X (binaryOp .Mult) rRepS := by
  intro pins s σ H x y v u Q I rx ry ⟨z, n, e1, e2, ok, q⟩
  subst e1
  subst e2
  obtain ⟨t, rfl⟩ := rx
  obtain ⟨t2, rfl⟩ := ry
  exact SB.mul ok fun t' k => ⟨.str (Txt.mul z n), H, I.tok _, ⟨_, rfl⟩, q⟩
/-- d.update(e), two dicts of the call's own -/
def rUpdate : V → List V → Hp → VK → Prop := fun x vs H Q => ∃ (a b : Addr) (kvs more : List (Key × V)), x = .ref a ∧ vs = [.ref b] ∧ a ≠ b ∧ H a = some (.dK kvs) ∧ H b = some (.dK more) ∧ kvs.length + more.length ≤ sizeLine ∧ Q .non (upd H a (.dK (mergeK kvs more)))
theorem mt_update : MtR X "dict.update" rUpdate := by
  intro pins s σ H x vs v us Q I rx rv ⟨a, b, kvs, more, e1, e2, ne, ha, hb, hz, q⟩
  subst e1 e2
  cases rx
  obtain ⟨u, rfl, ru⟩ := rv.one
  cases ru
  obtain ⟨z1, lo1, ws, k1, D1⟩ := I.hok a _ ha
  obtain ⟨z2, lo2, rs, k2, D2⟩ := I.hok b _ hb
  have l1 := k1.length
  have l2 := k2.length
  refine call_meetsIn PySem.F.slot_dict_update D1.typeIs PySem.F.entry_dict_update (PySem.F.args_dict_update_2 _ _) (meets_dict_update (mixKind X.prog X.w) a b ne lo2)
    ⟨ws, rs, D1, D2, by omega, fun h' m1 m2 sb => ?_⟩
  have hm : Mut (H a) := by rw [ha]; trivial
  have new : ObjOk X.prog X.w (upd H a (.dK (mergeK kvs more))) h' a (.dK (mergeK kvs more)) :=
    ⟨Nat.le_trans (length_mergeK more kvs) hz, lo1, _, k2.merge k1, m1⟩
  obtain ⟨ob, _, _, q1, _⟩ := id m1
  refine ⟨.non, _, I.write (t' := s.toks) hm (.inl rfl) (fun c o n e => (sb.2 c n).trans e) ⟨ob, q1⟩ new, rfl, q⟩
/-- a dict that stands in the written part, its keys texts -/
structure KdAt (K : PySem.W.Frag) (w : World) (a : Addr) : Prop where
  at_ : ∃ es n, K.lookup a = some ⟨.type "dict", none, .dict es n, #[]⟩ ∧ PySem.W.KeysLit w.params es.toList
  low : (a == sysModules) = false
/-- D.get(k, d) of a written dict: r is what stands at k -/
theorem pe_kget2 {o e f : Expr} {td ty tx : TE} {apos cpos : Pos} (ho : PE X o td) (he : PE X e ty) (hf : PE X f tx) (m : M2 X o "get" apos e f cpos) :
    PE X (.Call (.Attribute o "get" apos) [e, f] [] cpos) (fun σ H Q => td σ H fun x H1 => ∃ a, x = .ref a ∧ KdAt X.K X.w a ∧ ty σ H1 fun y H2 => tx σ H2 fun z H3 =>
      ∃ (k : Str) (r : Option Value), y = .str k ∧ PySem.W.nsIn X.K a k = some r ∧ ∃ v, RelO (some v) (some (r.getD (.none))) ∧ Q (if r.isSome then v else z) H3) := by
  refine ⟨fun pins s σ H Q I h => ?_⟩
  refine wpAny_Call_method m.base m.few m.line PySem.F.plainAttrs_dict PySem.F.slot_dict_get PySem.F.type_dict_get (thn (ho.run pins s σ H _ I h) fun u s1 ⟨x, H1, I1, rx, a, ex, ⟨⟨es, n, hl, hk⟩, lo⟩, q1⟩ => ?_)
  subst ex
  obtain rfl : u = Value.ref a := rx
  have hm := PySem.W.mapOf_K (prog := X.prog) (w := X.w) I1.kIn hl hk
  refine ⟨hm.typeIs, fun b eb => ?_, ?_⟩
  · cases eb
    exact ⟨_, I1.kIn _ _ hl, rfl⟩
  rw [m.trees]
  refine Calls.callWith_builtin rfl (Calls.evalArgs_plain (Calls.spliced_cons (thn (he.run pins s1 σ H1 _ I1 q1) fun iv s2 ⟨y, H2, I2, ry, q2⟩ =>
    Calls.spliced_cons (thn (hf.run pins s2 σ H2 _ I2 q2) fun fv s3 ⟨z, H3, I3, rz, k, r, ey, hn, v, rv, q3⟩ => Calls.spliced_nil ?_))))
  subst ey
  obtain ⟨t, rfl⟩ := ry
  have hm3 := PySem.W.mapOf_K (prog := X.prog) (w := X.w) I3.kIn hl hk
  refine call_meetsIn PySem.F.slot_dict_get hm3.typeIs PySem.F.entry_dict_get (PySem.F.args_dict_get_3 _ _ _) (meets_dict_get_default (strKind X.prog X.w) a (strKind_is X.prog X.w k t) lo fv) ⟨_, hm3, ?_⟩
  rw [PySem.W.find_K hl hn]
  cases r with
  | none => exact ⟨_, H3, I3.tok _, rz, q3⟩
  | some u => exact ⟨_, H3, I3.tok _, rv, q3⟩
end

section
open PySem.Spec PyProof.Rows
/-- zip of the tuple at a and the list at b: their items in new pairs -/
def ItzM (K : PySem.W.Frag) (a b : Addr) : It where
  go := fun i H => ∃ (xs ys : List V) (x y : V), SqT K H a xs ∧ SqL K H b ys ∧ xs[i]? = some x ∧ ys[i]? = some y
  yld := fun i H v H' => ∃ T x y, v = .ref T ∧ H T = none ∧ H' = upd H T (.tup [x, y]) ∧ (∀ xs, SqT K H a xs → xs[i]? = some x) ∧ ∀ ys, SqL K H b ys → ys[i]? = some y
  stop := fun i H => ∃ xs ys : List V, SqT K H a xs ∧ SqL K H b ys ∧ i ≤ xs.length ∧ i ≤ ys.length ∧ (i = xs.length ∨ i = ys.length)
theorem turn_zipM {P : Program} {w : World} {K : PySem.W.Frag} {elts : List Expr} {kk : Nat} {tpos : Pos} {a b z TI TO i1 i2 : Addr} (D : ZipApart z TI TO i1 i2 a b) :
    Turn P w K (.Tuple elts kk tpos) (ItzM K a b) [z, TI, TO, i1, i2] z (fun i h => IsZip h z TI TO .none ∧ IsTupOf2 h TI (.ref i1) (.ref i2) ∧ (∃ x y, IsTupOf2 h TO x y) ∧ h.IsTupleIter i1 a i ∧ h.IsListIter i2 b i) := by
  have S : ZipSep2 z TI TO i1 i2 [i1, a] [i2, b] := by
    obtain ⟨d1, d2, d3, d4, d5, d6, d7, d8, d9, d10, d11, d12, d13, d14, d15, d16, d17, d18⟩ := D
    exact ⟨d1, d2, d5, d6, by simp, by simp [d3.symm, d11.symm], by simp [d8, d12.symm], d7, by simp, by simp [d4.symm, d15.symm], by simp [d9, d16.symm], by simp [d10, d17.symm], by simp [d10.symm, d14.symm]⟩
  have five : ∀ {c : Addr} {p : Addr → Prop}, c ∈ [z, TI, TO, i1, i2] → p z → p TI → p TO → p i1 → p i2 → p c := fun {c p} hc p1 p2 p3 p4 p5 => by
    rcases (by simpa using hc : c = z ∨ c = TI ∨ c = TO ∨ c = i1 ∨ c = i2) with r | r | r | r | r <;> rw [r] <;> assumption
  constructor
  case mem => simp
  case obj =>
    intro i h ⟨hz, hTI, ⟨x, y, hTO⟩, ⟨o1, e1, _, f1⟩, ⟨o2, e2, _, f2⟩⟩ c hc
    refine five (p := fun c => ∃ o, h.get? c = some o ∧ ∀ v, o.data ≠ .cell v) hc ⟨_, hz, fun v q => nomatch q⟩ ⟨_, hTI, fun v q => nomatch q⟩ ⟨_, hTO, fun v q => nomatch q⟩ ⟨o1, e1, fun v q => ?_⟩ ⟨o2, e2, fun v q => ?_⟩
    · rw [f1] at q; cases q
    · rw [f2] at q; cases q
  case keep =>
    intro i h h' ⟨hz, hTI, ⟨x, y, hTO⟩, h1, h2⟩ k
    exact ⟨k _ (by simp) _ hz, k _ (by simp) _ hTI, ⟨_, _, k _ (by simp) _ hTO⟩, h1.at fun o q => k _ (by simp) o q, h2.at fun o q => k _ (by simp) o q⟩
  case item =>
    intro X hP hw hK hc i pins s σ H E I hf ⟨hz, hTI, ⟨x0, y0, hTO⟩, h1, h2⟩ ⟨xs, ys, x, y, hqx, hqy, hx, hy⟩
    subst hP hw hK
    have hh := I.ok.hd hc
    obtain ⟨its, rv, p, _⟩ := I.tuple hqx
    obtain ⟨its2, rv2, p2, _⟩ := I.list hqy
    obtain ⟨u, hu, ru⟩ := rv.get hx
    obtain ⟨u2, hu2, ru2⟩ := rv2.get hy
    have hzl : z < s.heap.objs.size := Heap.lt_size hz
    have g1 : i < its.toArray.size := by simpa using (List.getElem?_eq_some_iff.mp hu).1
    have g2 : i < its2.toArray.size := by simpa using (List.getElem?_eq_some_iff.mp hu2).1
    refine wpAny_pyNext_zipD2_item S (Draws.tuple (A := X.A.in1) hh i1 a D.l1i1 its.toArray) (Draws.list (A := X.A.in1) hh i2 b D.l2i2 its2.toArray) hz hTI hTO ⟨h1, p⟩ ⟨h2, p2.isList⟩ g1 g2 fun v1 v2 h' tk w1 w2 z' TO' s1 s2 hT hsz hk => ?_
    have ev1 : v1 = u := by
      have q : its[i]? = some v1 := by simpa using w1
      rw [hu] at q; exact (Option.some.inj q).symm
    have ev2 : v2 = u2 := by
      have q : its2[i]? = some v2 := by simpa using w2
      rw [hu2] at q; exact (Option.some.inj q).symm
    subst ev1 ev2
    refine ⟨_, rfl, wpAny_letOwnedTupleGo_zip (s := { s with heap := h', toks := tk }) z' fun h'' z'' sb => ?_⟩
    have hT2 : h''.get? s.heap.objs.size = some { cls := .type "tuple", data := .seq #[v1, v2] } := (sb.2 _ (Nat.ne_of_gt hzl)).trans hT
    have new : ObjOk X.prog X.w (upd H s.heap.objs.size (.tup [x, y])) h'' s.heap.objs.size (.tup [x, y]) :=
      ⟨by show 2 ≤ sizeLine; decide, [v1, v2], .cons ru (.cons ru2 .nil), ⟨_, hT2, rfl, _, rfl⟩⟩
    have out : ∀ {c : Addr}, c ∉ [z, TI, TO, i1, i2] → c ≠ z ∧ c ≠ TO ∧ c ≠ i1 ∧ c ≠ i2 := fun {c} hc => by
      simp only [List.mem_cons, not_or] at hc
      exact ⟨hc.1, hc.2.2.1, hc.2.2.2.1, hc.2.2.2.2.1⟩
    have I1 : Inv X pins σ (upd H s.heap.objs.size (.tup [x, y])) { s with heap := h'', toks := tk } :=
      I.turnedNew (t' := tk) (ch := [z, TI, TO, i1, i2]) (fun c o hb q => let ⟨n1, n2, n3, n4⟩ := out hb; (sb.2 c n1).trans (hk c o n1 n2 n3 n4 q)) hf (Nat.le_refl _) new
    refine ⟨.ref s.heap.objs.size, _, I1, rfl, ⟨_, x, y, rfl, I.hok.fresh (Nat.le_refl _), rfl, fun l hl => ?_, fun l hl => ?_⟩, ⟨z'', ?_, ⟨v1, v2, ?_⟩, ?_, ?_⟩, fun c hcm => ?_⟩
    · rw [I.tuple_inj hl hqx]; exact hx
    · rw [I.list_inj hl hqy]; exact hy
    · exact (sb.2 _ D.TIz).trans (hk _ _ D.TIz D.TITO D.TIi1 D.TIi2 hTI)
    · exact (sb.2 _ D.TOz).trans TO'
    · exact s1.1.at fun o q => (sb.2 _ D.i1z).trans q
    · exact s2.1.at fun o q => (sb.2 _ D.i2z).trans q
    · have lt1 : i1 < s.heap.objs.size := by obtain ⟨_, e1, _⟩ := h1; exact Heap.lt_size e1
      have lt2 : i2 < s.heap.objs.size := by obtain ⟨_, e1, _⟩ := h2; exact Heap.lt_size e1
      have hlt : c < s.heap.objs.size := five (p := fun c => c < s.heap.objs.size) hcm hzl (Heap.lt_size hTI) (Heap.lt_size hTO) lt1 lt2
      rw [upd_ne (Nat.ne_of_lt hlt)]
      exact (hf c hcm).1
  case done =>
    intro X hP hw hK hc i pins s σ H E I hf ⟨hz, hTI, ⟨x0, y0, hTO⟩, h1, h2⟩ ⟨xs, ys, hqx, hqy, b1, b2, hend⟩
    subst hP hw hK
    have hh := I.ok.hd hc
    obtain ⟨its, rv, p, _⟩ := I.tuple hqx
    obtain ⟨its2, rv2, p2, _⟩ := I.list hqy
    have l1 : xs.length = its.toArray.size := by simpa using rv.length
    have l2 : ys.length = its2.toArray.size := by simpa using rv2.length
    refine wpAny_pyNext_zipD2_end S (Draws.tuple (A := X.A.in1) hh i1 a D.l1i1 its.toArray) (Draws.list (A := X.A.in1) hh i2 b D.l2i2 its2.toArray) hz hTI hTO ⟨h1, p⟩ ⟨h2, p2.isList⟩ (by omega) (by omega) (by omega) fun h' tk hk => ⟨rfl, ?_⟩
    refine I.turnedL (t' := tk) (ch := [z, TI, TO, i1, i2]) (fun c o hb q => ?_) hf
    simp only [List.mem_cons, not_or] at hb
    exact hk c o hb.1 hb.2.2.1 hb.2.2.2.1 hb.2.2.2.2.1 q
  case self => exact fun A i s Q E st h => wpAny_pyIter_zip st.1 h
def iZipM (K : PySem.W.Frag) (ta : TA) : TI := fun σ H R => ta σ H fun vs H1 => ∃ a b xs ys, vs = [.ref a, .ref b] ∧ SqT K H1 a xs ∧ SqL K H1 b ys ∧ R (ItzM K a b) H1
theorem pi_zipM {X : Cx} {e e2 : Expr} {ta : TA} {p pos tpos : Pos} {elts : List Expr} {kk : Nat} (hg : Gl X "zip") (hm : X.mg "zip" = none) (ha : PA X [e, e2] ta)
    (hs : starEach [e, e2] X.env = (false, eval e X.env) :: starEach [e2] X.env := by rfl) (hpl : (backTo pos (starEach [e2] X.env)).any (·.1) = false := by rfl) :
    PI X (.Tuple elts kk tpos) (.Call (.Name "zip" p) [e, e2] [] pos) (iZipM X.K ta) := by
  refine ⟨fun pins s σ H R I h => ?_⟩
  refine Call_ (ld_blt I hg hm PyProof.Rows.boot_zip (PyProof.Rows.callWith_type1 (thn (ha.run pos pins s σ H _ I h) fun us s1 ⟨vs, H1, I1, r1, a, b, xs, ys, ex, hqx, hqy, q⟩ => ?_) hs hpl))
  subst ex
  obtain ⟨u, u', rfl, r, r'⟩ := r1.two
  cases r
  cases r'
  obtain ⟨its, rv, p1, _⟩ := I1.tuple hqx
  obtain ⟨its2, rv2, p2, _⟩ := I1.list hqy
  have la : a < s1.heap.objs.size := by obtain ⟨o1, ho1, _⟩ := id p1; exact Heap.lt_size ho1
  refine zip_begins2 (begins_tuple a its.toArray) (begins_list b its2.toArray) p1 p2.isList fun h' hz hTI hTO h1 h2 hsz hk => wpAny_pyIter_zip hz ?_
  have I2 : Inv X pins σ H1 { s1 with heap := h' } := I1.kept (t' := s1.toks) hk
  refine ⟨s1.heap.objs.size + 4, [s1.heap.objs.size + 4, s1.heap.objs.size + 2, s1.heap.objs.size + 3, s1.heap.objs.size, s1.heap.objs.size + 1], _, _, H1, rfl, I2, turn_zipM (PySem.W.ktu_apart s1.heap.objs.size a b la p2.lt), ⟨hz, hTI, ⟨_, _, hTO⟩, ⟨_, h1, rfl, rfl⟩, ⟨_, h2, rfl, rfl⟩⟩, fun c hcm => ?_, q⟩
  have hle : s1.heap.objs.size ≤ c := by
    rcases (by simpa using hcm : c = s1.heap.objs.size + 4 ∨ c = s1.heap.objs.size + 2 ∨ c = s1.heap.objs.size + 3 ∨ c = s1.heap.objs.size ∨ c = s1.heap.objs.size + 1) with r | r | r | r | r <;> rw [r]
    · exact Nat.le_add_right _ _
    · exact Nat.le_add_right _ _
    · exact Nat.le_add_right _ _
    · exact Nat.le_refl _
    · exact Nat.le_add_right _ _
  exact I1.fpOk hle (I1.hok.fresh hle)
/-- a loop over such a zip, as many items on both sides -/
theorem for_zipM {K : PySem.W.Frag} {a b : Addr} {xs ys : List V} {g : TG} {tb : TS} {D : Ends} {σ : L2.St} {H : Hp} (hl : xs.length = ys.length) (Pv : Nat → L2.St → Hp → Prop) (h0 : Pv 0 σ H) (hq : ∀ i σ H, Pv i σ H → SqT K H a xs ∧ SqL K H b ys)
    (hs : ∀ (i : Nat) (x y : V) (T : Addr) (σ : L2.St) (H : Hp), xs[i]? = some x → ys[i]? = some y → Pv i σ H → H T = none → g (.ref T) σ (upd H T (.tup [x, y])) fun σ2 H2 => tb { D with nx := Pv (i + 1), ct := Pv (i + 1), bk := D.nx } σ2 H2) (hd : ∀ σ H, Pv xs.length σ H → D.nx σ H) :
    ∃ W : Nat → Nat → L2.St → Hp → Prop, (∃ m, W 0 m σ H) ∧ ∀ i m σ H, W i m σ H →
      ((ItzM K a b).stop i H ∧ D.nx σ H) ∨ ((ItzM K a b).go i H ∧ ∃ N : L2.St → Hp → Prop, (∀ σ' H', N σ' H' → ∃ m', m' < m ∧ W (i + 1) m' σ' H') ∧ ∀ v H', (ItzM K a b).yld i H v H' → g v σ H' fun σ2 H2 => tb { D with nx := N, ct := N, bk := D.nx } σ2 H2) := by
  refine ⟨fun i m σ H => m = xs.length - i ∧ i ≤ xs.length ∧ Pv i σ H, ⟨xs.length, rfl, Nat.zero_le _, h0⟩, fun i m σ H ⟨em, hi, p⟩ => ?_⟩
  subst em
  obtain ⟨qx, qy⟩ := hq i σ H p
  rcases Nat.lt_or_ge i xs.length with hlt | hge
  · refine .inr ⟨⟨xs, ys, _, _, qx, qy, List.getElem?_eq_getElem hlt, List.getElem?_eq_getElem (by omega : i < ys.length)⟩, Pv (i + 1), fun σ' H' p' => ⟨xs.length - (i + 1), by omega, rfl, hlt, p'⟩, fun v H' ⟨T, x', y', e1, hT, e2, f1, f2⟩ => ?_⟩
    subst e1 e2
    exact hs i x' y' T σ H (f1 xs qx) (f2 ys qy) p hT
  · have e : i = xs.length := by omega
    subst e
    exact .inl ⟨⟨xs, ys, qx, qy, Nat.le_refl _, by omega, .inl rfl⟩, hd σ H p⟩
end
/-! ### rules for a comprehension's block: the written part by its name -/
section
variable {X : Cx} (K : PySem.W.Frag)
theorem kx_ix_tup (h : X.K = K := by rfl) : IxR X (rIxT K) := h ▸ ix_tup
theorem kx_ix_list (h : X.K = K := by rfl) : IxR X (rIxL K) := h ▸ ix_list
theorem kx_ix_kdict (w : World) (h : X.K = K := by rfl) (hw : X.w = w := by rfl) : IxR X (rIxD K w) := by subst h hw; exact ix_kdict
theorem kx_op_eqX (hu : X.A.units + 200 < cLine) (h : X.K = K := by rfl) : OpR X (compareOp .Eq) (rEqX K) := h ▸ op_eqX hu
theorem kx_op_neX (hu : X.A.units + 200 < cLine) (h : X.K = K := by rfl) : OpR X (compareOp .NotEq) (rNeX K) := h ▸ op_neX hu
theorem kx_op_in_seq (h : X.K = K := by rfl) : OpR X (compareOp .In) (rIn K false) := h ▸ op_in_seq
theorem kx_op_notIn_seq (h : X.K = K := by rfl) : OpR X (compareOp .NotIn) (rIn K true) := h ▸ op_notIn_seq
theorem kx_call_isi (h : X.K = K := by rfl) : CallR X (.builtin "isinstance") (rIsi K) := h ▸ call_isi
def rLenQ (K : PySem.W.Frag) : List V → Hp → VK → Prop := fun xs H Q => ∃ p ys, xs = [.ref p] ∧ (SqL K H p ys ∨ SqT K H p ys) ∧ Q (.int ys.length) H
theorem kx_call_len_seq (h : X.K = K := by rfl) : CallR X (.builtin "len") (rLenQ K) := h ▸ call_len_seq
theorem kx_bm {e : Expr} {ty : String} {r : V → List V → Hp → VK → Prop} {to : TE} {t : TA} (p : PE X e (tBM X.K ty r to t)) (h : X.K = K := by rfl) : PE X e (tBM K ty r to t) := h ▸ p
theorem kx_bm0 {e : Expr} {ty : String} {r : V → List V → Hp → VK → Prop} {to : TE} (p : PE X e (tBM0 X.K ty r to)) (h : X.K = K := by rfl) : PE X e (tBM0 K ty r to) := h ▸ p
theorem kx_cr_sum (hc : X.calm = true := by rfl) (h : X.K = K := by rfl) : CallR X (.builtin "sum") (rSum K) := h ▸ cr_sum hc
end

section
variable {X : Cx}
/-- a new thing is locked as soon as it is there (a dict that is walked and dropped) -/
def tFrz (t : TE) : TE := fun σ H Q => t σ H fun x H1 => ∃ d u, x = .ref d ∧ H1 d = some u ∧ Mut (some u) ∧ ∀ od, Q x (upd H1 d (.frz od u))
theorem pe_frz {e : Expr} {t : TE} (he : PE X e t) : PE X e (tFrz t) := by
  refine ⟨fun pins s σ H Q I hw => ?_⟩
  refine thn (he.run pins s σ H _ I hw) fun v s1 ⟨x, H1, I1, r, d, u, ex, hd, mu, q⟩ => ?_
  obtain ⟨od, I2⟩ := I1.lock hd mu
  exact ⟨x, _, I2, r, q od⟩
end
/-! ### the plain law: sets of places as numbers, lattices -/
/-- the number whose binary digits are the places below n with p -/
def mask (n : Nat) (p : Nat → Bool) : Nat := match n with
  | 0 => 0
  | n + 1 => mask n p + if p n then 2 ^ n else 0
theorem mask_lt (p : Nat → Bool) : ∀ n, mask n p < 2 ^ n
  | 0 => by show 0 < 1; omega
  | n + 1 => by
    have h := mask_lt p n
    show mask n p + (if p n then 2 ^ n else 0) < 2 ^ (n + 1)
    rw [Nat.pow_succ]
    split <;> omega
theorem mask_bit (p : Nat → Bool) : ∀ n i, (mask n p).testBit i = (decide (i < n) && p i)
  | 0, i => by
    show Nat.testBit 0 i = _
    simp
  | n + 1, i => by
    have h := mask_lt p n
    have ih := mask_bit p n i
    show (mask n p + if p n then 2 ^ n else 0).testBit i = _
    by_cases c : p n = true
    · rw [if_pos c, Nat.add_comm]
      by_cases e : i = n
      · subst e
        rw [Nat.testBit_two_pow_add_eq, ih, c]
        simp
      · rcases Nat.lt_or_ge i n with l | l
        · rw [Nat.testBit_two_pow_add_gt (by omega), ih]
          have : i < n + 1 := by omega
          simp [l, this]
        · have l2 : ¬ i < n + 1 := by omega
          have z : 2 ^ n + mask n p < 2 ^ i := Nat.lt_of_lt_of_le (by rw [Nat.pow_succ]; omega : 2 ^ n + mask n p < 2 ^ (n + 1)) (Nat.pow_le_pow_right (by decide) (by omega))
          rw [Nat.testBit_lt_two_pow z]
          simp [l2]
    · rw [if_neg c, Nat.add_zero, ih]
      by_cases e : i = n
      · subst e
        simp [Bool.not_eq_true _ ▸ c]
      · have : (i < n) ↔ (i < n + 1) := by omega
        simp [this]
theorem mask_ext {n : Nat} {p q : Nat → Bool} (h : ∀ i, i < n → p i = q i) : mask n p = mask n q := by
  refine Nat.eq_of_testBit_eq fun i => ?_
  rw [mask_bit, mask_bit]
  by_cases c : i < n
  · rw [h i c]
  · simp [c]
theorem mask_eq {n : Nat} {p q : Nat → Bool} : mask n p = mask n q ↔ ∀ i, i < n → p i = q i := by
  refine ⟨fun h i hi => ?_, mask_ext⟩
  have := congrArg (Nat.testBit · i) h
  simpa [mask_bit, hi] using this
theorem mask_and (n : Nat) (p q : Nat → Bool) : mask n p &&& mask n q = mask n fun i => p i && q i := by
  refine Nat.eq_of_testBit_eq fun i => ?_
  rw [Nat.testBit_and, mask_bit, mask_bit, mask_bit]
  cases decide (i < n) <;> simp
theorem mask_or (n : Nat) (p q : Nat → Bool) : mask n p ||| mask n q = mask n fun i => p i || q i := by
  refine Nat.eq_of_testBit_eq fun i => ?_
  rw [Nat.testBit_or, mask_bit, mask_bit, mask_bit]
  cases decide (i < n) <;> simp
theorem mask_all (n : Nat) : mask n (fun _ => true) = 2 ^ n - 1 := by
  refine Nat.eq_of_testBit_eq fun i => ?_
  rw [mask_bit, Nat.testBit_two_pow_sub_one]
  simp
theorem mask_one {n a : Nat} (h : a < n) : mask n (fun i => i == a) = 2 ^ a := by
  refine Nat.eq_of_testBit_eq fun i => ?_
  rw [mask_bit, Nat.testBit_two_pow]
  by_cases e : i = a
  · subst e; simp [h]
  · simp [e, Ne.symm e]
theorem mask_of {n m : Nat} (h : m < 2 ^ n) : m = mask n m.testBit := by
  refine Nat.eq_of_testBit_eq fun i => ?_
  rw [mask_bit]
  by_cases c : i < n
  · simp [c]
  · rw [Nat.testBit_lt_two_pow (Nat.lt_of_lt_of_le h (Nat.pow_le_pow_right (by decide) (by omega)))]
    simp [c]
/-! #### the same as whole numbers of the program -/
theorem bit_int (m a : Nat) : Builtin.bitAnd ((m : Int) / 2 ^ a) 1 = if m.testBit a then 1 else 0 := by
  have e : Builtin.bitAnd ((m : Int) / 2 ^ a) 1 = ((m : Int) / 2 ^ a) % 2 := by
    have := Bits.bitAnd_mask (x := (m : Int) / 2 ^ a) 1 (Int.ediv_nonneg (Int.natCast_nonneg _) (by exact Int.le_of_lt (Int.pow_pos (by decide))))
    simpa using this
  rw [e, Nat.testBit_eq_decide_div_mod_eq]
  have e2 : ((m : Int) / 2 ^ a) % 2 = ((m / 2 ^ a % 2 : Nat) : Int) := by
    rw [Int.natCast_emod, Int.natCast_ediv, Int.natCast_pow]
    rfl
  rw [e2]
  rcases Nat.mod_two_eq_zero_or_one (m / 2 ^ a) with h | h <;> rw [h] <;> rfl
theorem bit_is (m a : Nat) : decide (Builtin.bitAnd ((m : Int) / 2 ^ a) 1 = 1) = m.testBit a := by
  rw [bit_int]
  cases m.testBit a <;> rfl
theorem and_int_nat (a b : Nat) : Builtin.bitAnd (a : Int) (b : Int) = ((a &&& b : Nat) : Int) := by
  rw [PyProof.Rows.bitAnd_pp (Int.natCast_nonneg _) (Int.natCast_nonneg _)]
  rfl
theorem or_int_nat (a b : Nat) : Builtin.bitOr (a : Int) (b : Int) = ((a ||| b : Nat) : Int) := by
  rw [Bits.bitOr_pp (Int.natCast_nonneg _) (Int.natCast_nonneg _)]
  rfl
/-- a & ~b -/
theorem andnot_int (n : Nat) (p q : Nat → Bool) : Builtin.bitAnd (mask n p : Int) (Builtin.bitNot (mask n q : Int)) = (mask n (fun i => p i && !q i) : Int) := by
  have hneg : ¬ (0 ≤ Builtin.bitNot (mask n q : Int)) := by show ¬ (0 ≤ -(mask n q : Int) - 1); omega
  have hpos : (0 : Int) ≤ (mask n p : Int) := Int.natCast_nonneg _
  have nn : Builtin.bitNot (Builtin.bitNot (mask n q : Int)) = (mask n q : Int) := by show -(-(mask n q : Int) - 1) - 1 = _; omega
  have e : Builtin.bitAnd (mask n p : Int) (Builtin.bitNot (mask n q : Int)) = (mask n p : Int) - ((mask n p &&& mask n q : Nat) : Int) := by
    unfold Builtin.bitAnd
    rw [show decide ((0 : Int) ≤ (mask n p : Int)) = true from decide_eq_true hpos, show decide ((0 : Int) ≤ Builtin.bitNot (mask n q : Int)) = false from decide_eq_false hneg]
    show (mask n p : Int) - (((mask n p : Int).toNat &&& (Builtin.bitNot (Builtin.bitNot (mask n q : Int))).toNat : Nat) : Int) = _
    rw [nn]
    rfl
  rw [e, mask_and]
  have s : ∀ m, mask m (fun i => p i && q i) + mask m (fun i => p i && !q i) = mask m p := fun m => by
    induction m with
    | zero => rfl
    | succ m ih =>
      show (mask m _ + if (p m && q m) = true then 2 ^ m else 0) + (mask m _ + if (p m && !q m) = true then 2 ^ m else 0) = mask m p + if p m = true then 2 ^ m else 0
      rw [← ih]
      cases p m <;> cases q m <;> simp <;> omega
  have := s n
  omega
/-- the sum of 2 ** i over the places with p -/
theorem sum_mask (p : Nat → Bool) : ∀ n, ((((List.range n).filter p).map fun i => ((2 ^ i : Nat) : Int))).sum = (mask n p : Int)
  | 0 => rfl
  | n + 1 => by
    rw [List.range_succ, List.filter_append, List.map_append, List.sum_append, sum_mask p n]
    show _ = ((mask n p + if p n then 2 ^ n else 0 : Nat) : Int)
    by_cases c : p n = true
    · simp [List.filter, c]
    · simp [List.filter, c]
/-- the first place below n with p -/
def first : Nat → (Nat → Bool) → Option Nat := fun n p => (List.range n).find? p
theorem first_some {n k : Nat} {p : Nat → Bool} (h : first n p = some k) : k < n ∧ p k = true ∧ ∀ j, j < k → p j = false := by
  unfold first at h
  obtain ⟨h1, as, bs, h2, h3⟩ := List.find?_eq_some_iff_append.mp h
  have hk : k < n := List.mem_range.mp (List.mem_of_find?_eq_some h)
  refine ⟨hk, h1, fun j hj => ?_⟩
  have hl : as.length = k := by
    have e1 : (List.range n)[as.length]? = some k := by rw [h2, List.getElem?_append_right (Nat.le_refl _), Nat.sub_self]; rfl
    have e2 := (List.getElem?_eq_some_iff.mp e1).1
    rw [List.getElem?_range (by simpa using e2)] at e1
    exact Option.some.inj e1
  have e1 : (List.range n)[j]? = some j := List.getElem?_range (by omega)
  rw [h2, List.getElem?_append_left (by omega)] at e1
  have := h3 j (List.mem_of_getElem? e1)
  simpa using this
theorem first_none {n : Nat} {p : Nat → Bool} (h : first n p = none) : ∀ j, j < n → p j = false := fun j hj => by
  have := List.find?_eq_none.mp h j (List.mem_range.mpr hj)
  simpa using this
theorem first_is {n k : Nat} {p : Nat → Bool} (hk : k < n) (h1 : p k = true) (h2 : ∀ j, j < k → p j = false) : first n p = some k := by
  cases e : first n p with
  | none => have := first_none e k hk; rw [h1] at this; cases this
  | some m =>
    obtain ⟨a, b, c⟩ := first_some e
    rcases Nat.lt_trichotomy m k with l | l | l
    · have := h2 m l; rw [b] at this; cases this
    · rw [l]
    · have := c k l; rw [h1] at this; cases this
theorem first_not {n : Nat} {p : Nat → Bool} (h : ∀ j, j < n → p j = false) : first n p = none := by
  cases e : first n p with
  | none => rfl
  | some m =>
    obtain ⟨a, b, _⟩ := first_some e
    rw [h m a] at b; cases b
theorem first_ext {n : Nat} {p q : Nat → Bool} (h : ∀ i, i < n → p i = q i) : first n p = first n q := by
  cases e : first n p with
  | none => exact (first_not fun j hj => by rw [← h j hj]; exact first_none e j hj).symm
  | some m =>
    obtain ⟨a, b, c⟩ := first_some e
    exact (first_is a (by rw [← h m a]; exact b) fun j hj => by rw [← h j (by omega)]; exact c j hj).symm
/-- a lattice: its label, names, order and depth -/
structure Lt where
  label : Str
  names : List Str
  le : Nat → Nat → Bool
  depth : Nat
namespace Lt
def n (L : Lt) : Nat := L.names.length
def down (L : Lt) (b : Nat) : Nat := mask L.n fun a => L.le a b
def up (L : Lt) (a : Nat) : Nat := mask L.n fun b => L.le a b
def join (L : Lt) (a b : Nat) : Option Nat := first L.n fun k => L.up k == (L.up a &&& L.up b)
def meet (L : Lt) (a b : Nat) : Option Nat := first L.n fun k => L.down k == (L.down a &&& L.down b)
def bot (L : Lt) : Option Nat := first L.n fun k => L.up k == 2 ^ L.n - 1
def top (L : Lt) : Option Nat := first L.n fun k => L.down k == 2 ^ L.n - 1
def irr (L : Lt) (a : Nat) : Bool := (List.range L.n).any fun k => L.down k == mask L.n (fun i => L.le i a && !(i == a))
def irrs (L : Lt) : List Nat := (List.range L.n).filter L.irr
end Lt
def optV : Option Nat → V
  | none => .non
  | some k => .int k
def natV (l : List Nat) : List V := l.map fun k => V.int (k : Nat)
/-! ### defs that say super(): the frame with the class's cell -/
section
open PySem.W PyProof.Rows PySem.Calls
theorem lookup_class {cc c : Addr} {x : Str} (h : ([("__class__", cc)] : List (Str × Addr)).lookup x = some c) : x = "__class__" ∧ c = cc := by
  by_cases e : x = "__class__"
  · subst e
    simp at h
    exact ⟨rfl, h.symm⟩
  · have : (x == ("__class__" : Str)) = false := beq_eq_false_iff_ne.mpr e
    simp [List.lookup, this] at h
theorem start_get {N : List Str} {vs : List V} {i : Nat} {v : V} (h : (L2.start N vs)[i]? = some (some v)) : vs[i]? = some v := by
  rcases Nat.lt_or_ge i vs.length with hi | hi
  · simpa [L2.start, List.getElem?_append_left, hi] using h
  · simp only [L2.start, List.getElem?_append, List.length_map, Nat.not_lt.mpr hi, if_false, List.getElem?_replicate] at h
    split at h <;> cases h
end
section
open PySem.W PyProof.Rows PySem.Calls ClX
variable {X : Cx} {c : Code} {st : Stmt} {ss rest : List Stmt} {t u : TS}
/-- a suite run where the frame's own code stands below -/
structure PSa (X : Cx) (c : Code) (ss : List Stmt) (t : TS) : Prop where
  run : ∀ (pins : List (Addr × Obj)) (s : Shared) (σ : L2.St) (H : Hp) (D : Ends), Inv X pins σ H s → t D σ H → _root_.PySem.wpAt (model X.prog X.w) X.A c (execs ss X.env) (SP X pins D) X.xe s
theorem psa_any (h : PSs X ss t) : PSa X c ss t := ⟨fun pins s σ H D I q => _root_.PySem.wpAt_of_wpAny (h.run pins s σ H D I q)⟩
theorem psa_cons (h1 : PS X st t) (h2 : PSa X c rest u) : PSa X c (st :: rest) (tSeq t u) := by
  refine ⟨fun pins s σ H D I h => ?_⟩
  refine ks_wpAt_execs_cons (_root_.PySem.wpAt_of_wpAny (thn (h1.run pins s σ H { D with nx := u D } I h) fun f s1 q => ?_))
  match f, q with
  | .next, ⟨σ', H', I', q⟩ => exact h2.run pins s1 σ' H' D I' q
  | .ret v, q => exact q
  | .brk, q => exact q
  | .cont, q => exact q
/-- a local name, or one with a cell of the frame's own -/
def locK (sc : Scope) (x : Str) : Bool := match sc.names.lookup x with
  | some .local => true
  | some .cell => true
  | _ => false
theorem locK_vis {sc : Scope} {x : Str} (h : locK sc x = true) : Vis sc x := by
  unfold locK at h
  split at h
  · exact .inl ‹_›
  · exact .inr (.inl ‹_›)
  · cases h
theorem load_self {M : Model} {A : Around} {E : Value → Shared → Prop} {env : Env} {s : Shared} {me : Str} {u : Value} {m0 : Str → Option Value} {Q : Value → Shared → Prop} (hk : env.scope.kind = .function) (ka : locK env.scope me = true) (hn : s.heap.Ns env.locals m0) (lk : Look env s.heap m0 me u) (h : Q u s) : wpAny M A (loadName env me) Q E s := by
  rcases lk with ⟨a, q⟩ | ⟨a, c, e1, e2⟩
  · exact wpAny_loadName_local hk a hn q h
  · unfold locK at ka
    rcases a with a | a
    · exact wpAny_loadName_cell hk a e1 e2 h
    · have a' : env.scope.names.lookup me = some .free := a
      rw [a'] at ka
      cases ka
/-- what a frame with the class's cell knows of itself -/
structure SupX (X : Cx) (f cd cc D : Addr) (me : Str) : Prop where
  ks : X.env.scope.names.lookup ("super" : Str) = some .globalImplicit
  kc : X.env.scope.names.lookup ("__class__" : Str) = some .free
  ka : locK X.env.scope me = true
  fn : X.env.func = some f
  fd : ∃ o : Obj, X.K.lookup f = some o ∧ ∃ d : FuncData, o.data = .func d ∧ ∃ ar : Arg, (d.params.posonlyargs ++ d.params.args).head? = some ar ∧ ar.arg = me
  co : X.env.code = .ref cd
  cv : ∃ o : Obj, X.K.lookup cd = some o ∧ ∃ vs, o.data = .fields vs ∧ ∃ (file : Str) (tf : Tok), vs[2]? = some (.str file tf) ∧ ((X.prog.main.file : Str) == file) = true
  top : (X.prog.main.scope.names.lookup ("super" : Str)).isSome = false
  cl : X.env.cells.lookup ("__class__" : Str) = some cc
  cc : ∃ (a : Value) (b : Option Addr) (e : Array (Option Value)), X.K.lookup cc = some ⟨a, b, .cell (some (.ref D)), e⟩
  cls : ∃ cdD, clsIn X.K D = some cdD
  mg : X.mg "super" = none
  st : nsIn X.K cStatics "thirdparty.any" = some none
/-- super().m(..) where self stands in slot 0 -/
def tSup (K : PySem.W.Frag) (D : Addr) (m : Str) (f2 : Addr) (sp : Sp) (dvs : List V) (E : XK) (ta : TA) : TS := fun Dn σ H => ∃ (a C : Addr) (dx : Addr) (fs : List (Str × V)), σ[0]? = some (some (.ref a)) ∧ H a = some (.ins C dx fs) ∧ mroIn K C (.ref D) = some true ∧
  ks_superIn K C D m = some (some (.ref f2)) ∧ ta σ H fun vs H1 => sp (.ref a :: (vs ++ dvs)) H1 (fun _ H2 => Dn.nx σ H2) E
theorem cls_obj {K : PySem.W.Frag} {h : Heap} {D : Addr} {cd : ClassData} (k : K.In h) (e : clsIn K D = some cd) : ∃ oD, h.get? D = some oD ∧ oD.data = .cls cd := by
  unfold clsIn at e
  split at e
  · rename_i ho
    cases e
    exact ⟨_, k _ _ ho, rfl⟩
  · cases e
theorem run_fnC {pins : List (Addr × Obj)} {σ : L2.St} {H : Hp} {s : Shared} {CX : CXT} {k : Nat} {f : Addr} {fd : FuncData} {ps : List Str} {sp : Sp} {E : XK} {Q : VK} {us ds : List Value} {vs dvs : List V} (F : FnOk X.prog X.w X.K X.mg X.base CX k f fd ps sp) (hr : Room k X.A) (hb : Binds X.K fd ps ds) (hd : Vals dvs ds)
    (hx : Passes CX X E) (I : Inv X pins σ H s) (r : Vals vs us) (h : sp (vs ++ dvs) H Q E) :
    codeAny (model X.prog X.w) X.A (.call (.ref f) ⟨us, []⟩) (fun r s' => match r with | .ok (.ret v) => EP X pins σ Q v s' | .ok _ => False | .error e => X.xe e s') s := by
  have r2 : Vals (vs ++ dvs) (us ++ ds) := r.append hd
  have hl : (us ++ ds).length = ps.length := r2.length.symm.trans (F.len _ _ _ _ h)
  refine codeAny_mono (F.run X.A X.stack s H ⟨us, []⟩ (us ++ ds) (vs ++ dvs) Q E hr I.env0 (hb s us I.kIn hl) r2 h) fun r s' hq => ?_
  match r, hq with
  | .error e, hq => exact hx pins σ H s e s' I hq
  | .ok (.ret u), hq => exact I.after hq
  | .ok .next, hq => exact hq.elim
  | .ok .brk, hq => exact hq.elim
  | .ok .cont, hq => exact hq.elim
theorem psa_super {f cd cc D f2 : Addr} {me m : Str} {body : List Stmt} {p0 p1 apos pos pos' : Pos} {e : Expr} {es : List Expr} {ta : TA} {CX : CXT} {k : Nat} {fd2 : FuncData} {ps : List Str} {sp : Sp} {ds : List Value} {dvs : List V} {E : XK} {pl : Sem Bool}
    (S : SupX X f cd cc D me) (hN : X.N[0]? = some me) (ha : PA X (e :: es) ta) (F : FnOk X.prog X.w X.K X.mg X.base CX k f2 fd2 ps sp) (hr : Room k X.A) (hb : Binds X.K fd2 ps ds) (hd : Vals dvs ds) (hx : Passes CX X E)
    (ht : typeIn X.K (.ref f2) = some (.type "function")) (hf2 : fnIn X.K f2 = true) (hm : (m == ("__class__" : Str)) = false)
    (hst : starEach (e :: es) X.env = (false, eval e X.env) :: starEach es X.env) (hpl : (backTo pos (starEach es X.env)).any (·.1) = false)
    (hev : eval (.Call (.Attribute (.Call (.Name "super" p0) [] [] p1) m apos) (e :: es) [] pos) X.env = (do
      let ov ← attributeBase (.Call (.Name "super" p0) [] [] p1) m X.env (eval (.Call (.Name "super" p0) [] [] p1) X.env)
      standAt apos.atName
      let (g, first) ← holding [ov] (getMethod ov m pl)
      callWith pos g first (backTo pos (starEach (e :: es) X.env)) []) )
    (hi : interactive X.env = false) (hs : swapsWith (.Call (.Attribute (.Call (.Name "super" p0) [] [] p1) m apos) (e :: es) [] pos) none pos'.line X.env = pure false) (h2 : PSa X (.func body X.env) rest u) :
    PSa X (.func body X.env) (.Expr (.Call (.Attribute (.Call (.Name "super" p0) [] [] p1) m apos) (e :: es) [] pos) pos' :: rest) (tSeq (tSup X.K D m f2 sp dvs E ta) u) := by
  refine ⟨fun pins s σ H Dn I h => ?_⟩
  obtain ⟨a, C, dx, fs, h0, hins, hmro, hsup, h⟩ := h
  obtain ⟨hh, gg, dd, tt, os⟩ := s
  have KX : X.K.In hh := I.kIn
  obtain ⟨o1, l1, d1, e1, ar, hp1, har⟩ := S.fd
  obtain ⟨o2, l2, vs2, e2, file, tf, hv2, hfile⟩ := S.cv
  obtain ⟨ca, cb, ce, lc⟩ := S.cc
  obtain ⟨cdD, hcd⟩ := S.cls
  obtain ⟨oD, hD1, hD2⟩ := cls_obj KX hcd
  obtain ⟨m0, hn0, hlook⟩ := I.loc
  obtain ⟨uv, ru, lk⟩ := hlook 0 me (.ref a) hN h0 (locK_vis S.ka)
  obtain rfl : uv = Value.ref a := ru
  obtain ⟨mb, hb1, hb2⟩ := I.mod.blt
  refine ks_wpAt_execs_cons (ks_wpAt_Expr_any (ks_wpAt_MethodCall ?_ hev) hi hs)
  refine ks_wpAt_super_base S.ks S.kc hm S.fn (KX _ _ l1) e1 hp1 S.co (KX _ _ l2) e2 hv2 hfile S.top ?_
  refine ks_loadName_global I.ok.kind S.ks (loadGlobal_builtin (by rw [I.ok.glob]; exact I.mod.glob.keeps I.bk) S.mg (by rw [I.ok.blt]; exact hb1.keeps I.bk) ((hb2 _ (by decide)).trans (by first | rfl | decide +kernel)) ⟨rfl, ?_⟩)
  refine wpAny_loadName_free I.ok.kind S.kc S.cl ⟨_, KX _ _ lc, rfl⟩ ?_
  rw [har]
  refine load_self I.ok.kind S.ka hn0 lk ?_
  refine ks_wpAny_isType_cls hD1 hD2 ⟨rfl, ?_⟩
  obtain ⟨mA, O, _, _, _, _⟩ := ins_get I.hok hins
  have xC : a ≠ C := fun e => by
    have h1 := O.obj
    obtain ⟨oC, c1, c2⟩ : ∃ oC, hh.get? C = some oC ∧ ∃ cd2, oC.data = .cls cd2 := by
      cases hc : clsIn X.K C with
      | none => unfold ks_superIn at hsup; rw [hc] at hsup; cases hsup
      | some cd2 => obtain ⟨oC, c1, c2⟩ := cls_obj KX hc; exact ⟨oC, c1, cd2, c2⟩
    obtain ⟨cd2, c2⟩ := c2
    rw [e, c1] at h1
    rw [Option.some.inj h1] at c2
    cases c2
  refine ks_wpAny_call_super hD1 hD2 O.obj rfl (fun c z => nomatch z) (looks_mroIn KX hmro) (fun h' hso hk' => ?_)
  have I1 : Inv X ((hh.objs.size, ks_superObj D a C) :: pins) σ H ⟨h', gg, dd, tt, os⟩ := pin_new (t' := tt) I hk' (Nat.le_refl _) hso (fun v z => nomatch z)
  have K1 : X.K.In h' := I1.kIn
  cases hc : clsIn X.K C with
  | none => unfold ks_superIn at hsup; rw [hc] at hsup; cases hsup
  | some cdC =>
    unfold ks_superIn at hsup
    rw [hc] at hsup
    obtain ⟨of, hof, hofc⟩ : ∃ of, h'.get? f2 = some of ∧ of.cls = .type "function" := by
      have ht' : (X.K.lookup f2).map (·.cls) = some (.type "function") := ht
      cases z : X.K.lookup f2 with
      | none => rw [z] at ht'; cases ht'
      | some of => rw [z] at ht'; exact ⟨of, K1 _ _ z, Option.some.inj ht'⟩
    refine ks_wpAny_getMethod_super hso (looks_opaque K1 S.st) (l₀ := cdC.mro) (fun A Q E s k q => wpAny_bind ((looks_clsIn K1 hc) A _ E s k (wpAny_pure q))) rfl K1 hsup hof hofc xC hm ?_
    have I2 : Inv X ((h'.objs.size, methodObj (.ref f2) (.ref a)) :: (hh.objs.size, ks_superObj D a C) :: pins) σ H { (⟨h', gg, dd, tt, os⟩ : Shared) with heap := h'.push (methodObj (.ref f2) (.ref a)), toks := tt + 1 } := met_new I1
    refine callwith_cm I2 (base_none I1 (Nat.le_refl _)) hf2 (thn (ha.run pos _ _ σ H _ I2 h) fun us s3 ⟨vs, H1, I3, r3, q3⟩ => ⟨⟨pin_at I3, I3.kIn⟩, ?_⟩) hst hpl
    refine wpAny_call (method_call (pin_at I3) (codeAny_mono (run_fnC (us := .ref a :: us) (vs := .ref a :: vs) F hr hb hd hx I3 (.cons rfl r3) q3) fun r s4 hq => ?_))
    match r, hq with
    | .ok (.ret _), ⟨_, H', I', _, q⟩ => exact h2.run pins s4 σ H' Dn (unpin (unpin I')) q
    | .ok .next, hq => exact hq
    | .ok .brk, hq => exact hq
    | .ok .cont, hq => exact hq
    | .error e, hq => exact hq
end
/-! ### super().__init__(..) of an exception over ValueError -/
section
open PySem.W PyProof.Rows PySem.Calls ClX
theorem mro_VE {K : PySem.W.Frag} {C : Addr} (T : OexC K C) {y : String} (hy : PySem.HandSPX.veTail.contains (.type y) = true) : mroIn K C (.type y) = some true := by
  obtain ⟨nm, q, N, bs, bm, sn, sub, ab, col, dd, k0, k1, k2, k3, k5, hC, hbm⟩ := T.cls
  have hcl : clsIn K C = some { name := nm, bases := bs, mro := .ref C :: bm, ns := N, qualname := q, hasDict := true, slotNames := sn, subclasses := sub, abstract := ab, collection := col, hasDel := false } := by
    unfold clsIn
    rw [hC] <;> rfl
  have e := PySem.HandSPX.refsVE_contains y bm hbm
  unfold mroIn
  rw [hcl, Option.bind_some]
  show (if (List.isEmpty (Value.ref C :: bm)) = true then _ else some ((Value.ref C :: bm).contains (.type y))) = some true
  rw [if_neg (by simp)]
  rw [List.contains_cons, e, hy, Bool.or_true]
section
variable {prog : Program} {w : World} {A : Around} {E : Value → Shared → Prop} {h : Heap} {g : Array GenState} {d : Drawn} {t : Nat} {os : OsState}
variable {nm q : Str} {C N : Addr} {bs bm : List Value} {hdct : Bool} {sn : List Str} {sub : List Value} {ab : Bool} {col : Option Bool} {dd : Option Addr} {k0 k1 k2 k3 k5 : Option Value}
theorem mw_run {u e t0 : Addr} {rest : List Value} {Q : Value → Shared → Prop} (hC : h.get? C = some (excClassObj nm q C N bs bm hdct sn sub ab col dd k0 k1 k2 k3 k5 "ValueError.__new__")) (he : h.get? e = some (PySem.HandSPX.excO C t0))
    (hu : h.get? u = some (kxs_mw "ValueError.__init__" e)) (hz : rest.length ≤ sizeLine) (hq : ∀ h' t1, (∀ b o, b ≠ e → h.get? b = some o → h'.get? b = some o) → h'.get? e = some (PySem.HandSPX.excO C t1) → Q .none ⟨h', g, d, t, os⟩) :
    wpAny (model prog w) A (call (.ref u) rest) Q E ⟨h, g, d, t, os⟩ := by
  refine wpAny_call (codeAny_of_tree ?_)
  show wpAny _ A.in1 (callAny (.ref u) ⟨rest, []⟩) _ _ _
  simp only [callAny]
  refine wpAny_bind (wpAny_load hu ?_)
  simp only [kxs_mw]
  refine KFB.if_so (by decide) ?_
  refine wpAny_bind (PySem.ESX.check_bound F.excBase_ValueError hC he rfl ?_)
  refine wpAny_bind (wpAny_pure (wpAny_pure ?_))
  refine ⟨Code.quiet_builtin _ (by decide +kernel), codeAny_builtin F.excBase_ValueError.initEntry ?_⟩
  rw [Around.under_plainId F.excBase_ValueError.init.plain _]
  wp_walk
  refine hq _ h.objs.size (fun b o hb ho => ?_) ?_
  · rw [Heap.get?_update_other _ _ (Ne.symm hb)]; exact Heap.get?_push_of_some _ ho
  · rw [Heap.get?_update_self _ (Heap.get?_push_of_some _ he) rfl]; rfl
end
/-- super().m(..) where self is an exception that is being made -/
def tSupX (K : PySem.W.Frag) (D : Addr) (m : Str) (ta : TA) : TS := fun Dn σ H => ∃ (a C : Addr), σ[0]? = some (some (.ref a)) ∧ H a = some (exo a C none) ∧ OexC K C ∧ mroIn K C (.ref D) = some true ∧
  ks_superIn K C D m = some (some (.builtin "ValueError.__init__")) ∧ ta σ H fun vs H1 => vs.length ≤ 1000 ∧ H1 a = some (exo a C none) ∧ Dn.nx σ H1
variable {X : Cx} {c : Code} {st : Stmt} {ss rest : List Stmt} {t u : TS}
theorem psa_superX {f cd cc D : Addr} {me m : Str} {body : List Stmt} {p0 p1 apos pos pos' : Pos} {e : Expr} {es : List Expr} {ta : TA} {pl : Sem Bool}
    (S : SupX X f cd cc D me) (hN : X.N[0]? = some me) (ha : PA X (e :: es) ta) (hm : (m == ("__class__" : Str)) = false)
    (hst : starEach (e :: es) X.env = (false, eval e X.env) :: starEach es X.env) (hpl : (backTo pos (starEach es X.env)).any (·.1) = false)
    (hev : eval (.Call (.Attribute (.Call (.Name "super" p0) [] [] p1) m apos) (e :: es) [] pos) X.env = (do
      let ov ← attributeBase (.Call (.Name "super" p0) [] [] p1) m X.env (eval (.Call (.Name "super" p0) [] [] p1) X.env)
      standAt apos.atName
      let (g, first) ← holding [ov] (getMethod ov m pl)
      callWith pos g first (backTo pos (starEach (e :: es) X.env)) []) )
    (hi : interactive X.env = false) (hs : swapsWith (.Call (.Attribute (.Call (.Name "super" p0) [] [] p1) m apos) (e :: es) [] pos) none pos'.line X.env = pure false) (h2 : PSa X (.func body X.env) rest u) :
    PSa X (.func body X.env) (.Expr (.Call (.Attribute (.Call (.Name "super" p0) [] [] p1) m apos) (e :: es) [] pos) pos' :: rest) (tSeq (tSupX X.K D m ta) u) := by
  refine ⟨fun pins s σ H Dn I h => ?_⟩
  obtain ⟨a, C, h0, hins, TC, hmro, hsup, h⟩ := h
  obtain ⟨hh, gg, dd, tt, os⟩ := s
  have KX : X.K.In hh := I.kIn
  obtain ⟨o1, l1, d1, e1, ar, hp1, har⟩ := S.fd
  obtain ⟨o2, l2, vs2, e2, file, tf, hv2, hfile⟩ := S.cv
  obtain ⟨ca, cb, ce, lc⟩ := S.cc
  obtain ⟨cdD, hcd⟩ := S.cls
  obtain ⟨oD, hD1, hD2⟩ := cls_obj KX hcd
  obtain ⟨m0, hn0, hlook⟩ := I.loc
  obtain ⟨uv, ru, lk⟩ := hlook 0 me (.ref a) hN h0 (locK_vis S.ka)
  obtain rfl : uv = Value.ref a := ru
  obtain ⟨mb, hb1, hb2⟩ := I.mod.blt
  refine ks_wpAt_execs_cons (ks_wpAt_Expr_any (ks_wpAt_MethodCall ?_ hev) hi hs)
  refine ks_wpAt_super_base S.ks S.kc hm S.fn (KX _ _ l1) e1 hp1 S.co (KX _ _ l2) e2 hv2 hfile S.top ?_
  refine ks_loadName_global I.ok.kind S.ks (loadGlobal_builtin (by rw [I.ok.glob]; exact I.mod.glob.keeps I.bk) S.mg (by rw [I.ok.blt]; exact hb1.keeps I.bk) ((hb2 _ (by decide)).trans (by first | rfl | decide +kernel)) ⟨rfl, ?_⟩)
  refine wpAny_loadName_free I.ok.kind S.kc S.cl ⟨_, KX _ _ lc, rfl⟩ ?_
  rw [har]
  refine load_self I.ok.kind S.ka hn0 lk ?_
  refine ks_wpAny_isType_cls hD1 hD2 ⟨rfl, ?_⟩
  obtain ⟨nm, q, N, bs, bm, sn, sub, ab, col, dd0, k0, k1, k2, k3, k5, hC, hbm⟩ := id TC.cls
  obtain ⟨t1, ho⟩ := exo_at I.hok hins
  have hcl : clsIn X.K C = some { name := nm, bases := bs, mro := .ref C :: bm, ns := N, qualname := q, hasDict := true, slotNames := sn, subclasses := sub, abstract := ab, collection := col, hasDel := false } := by
    unfold clsIn
    rw [hC] <;> rfl
  have xC : a ≠ C := fun e => by
    have c1 := KX _ _ hC
    rw [← e, ho] at c1
    have c2 := congrArg Obj.data (Option.some.inj c1)
    cases c2
  refine ks_wpAny_call_super hD1 hD2 ho rfl (fun c z => nomatch z) (looks_mroIn KX hmro) (fun h' hso hk' => ?_)
  have I1 : Inv X ((hh.objs.size, ks_superObj D a C) :: pins) σ H ⟨h', gg, dd, tt, os⟩ := pin_new (t' := tt) I hk' (Nat.le_refl _) hso (fun v z => nomatch z)
  have K1 : X.K.In h' := I1.kIn
  obtain ⟨t2, ho2⟩ := exo_at I1.hok hins
  have J1 : InstAt h' a { cls := .ref C, dict := none, data := .fields #[.ref t2, .none, .none, .none, .bool false, .none] } C none := ⟨ho2, rfl, rfl, trivial⟩
  have isVE : Looks (model X.prog X.w) h' (isInstance (.ref a) (.type "ValueError")) true := J1.type.andThen (looks_mroIn K1 (mro_VE TC (by decide +kernel)))
  unfold ks_superIn at hsup
  rw [hcl] at hsup
  refine kxs_getMethod kxs_ValueError hso (looks_opaque K1 S.st) (l₀ := .ref C :: bm) (fun A Q E s k q => wpAny_bind ((looks_clsIn K1 hcl) A _ E s k (wpAny_pure q))) rfl K1 hsup isVE xC hm ?_
  have I2 : Inv X ((h'.objs.size, kxs_mw "ValueError.__init__" a) :: (hh.objs.size, ks_superObj D a C) :: pins) σ H { (⟨h', gg, dd, tt, os⟩ : Shared) with heap := h'.push (kxs_mw "ValueError.__init__" a), toks := tt + 1 } :=
    pin_new I1 (fun _ _ z => Heap.get?_push_of_some _ z) (Nat.le_refl _) (Heap.get?_push_size h' rfl) (fun v z => nomatch z)
  have hL : h'.objs.size ≠ X.env.locals := (I2.pin (h'.objs.size, kxs_mw "ValueError.__init__" a) (List.mem_append_right _ List.mem_cons_self)).2.2.1
  refine kxs_callWith1 (news_at hL (base_none I1 (Nat.le_refl _)) (pin_at I2)) List.mem_cons_self (thn (ha.run pos _ _ σ H _ I2 h) fun us s3 ⟨vs, H1, I3, r3, hl3, e3, q3⟩ => ⟨pin_at I3, ?_⟩) hst hpl
  obtain ⟨t3, ho3⟩ := exo_at I3.hok e3
  have hmw := pin_at I3
  obtain ⟨h3, g3, d3, k3', os3⟩ := s3
  have hlen : us.length ≤ sizeLine := by rw [← r3.length, sizeLine_eq]; omega
  refine mw_run (I3.kIn _ _ hC) ho3 hmw hlen (fun h4 t4 kk hx4 => ?_)
  have J := I3.write (t' := k3') (x := a) (e := a) (o := exo a C none) (by rw [e3]; exact True.intro) (.inl rfl) kk ⟨_, hx4⟩ (exo_ok hx4)
  have eu : upd H1 a (exo a C none) = H1 := by
    funext b
    by_cases hb : b = a
    · rw [hb, upd_same, e3]
    · rw [upd_ne hb]
  rw [eu] at J
  exact h2.run pins _ σ H1 Dn (unpin (unpin J)) q3
end
/-! ### the entry of a def with cells of its own and the class's cell -/
section
open PySem.W PyProof.Rows PySem.Calls
variable {M : Model} {A : Around} {E : Value → Shared → Prop} {s0 s : Shared} {m cm : Str → Option Value} {env : Env} {cs : List (Str × Addr)}
theorem stS_loc {n : Str} {v : Value} {Q : Unit → Shared → Prop} (x : InCallC s0 env.locals m cs cm s) (hk : env.scope.kind = .function) (hl : env.kindOf n = some .local)
    (h : ∀ s', InCallC s0 env.locals (fun y => if y = n then some v else m y) cs cm s' → Q () s') : wpAny M A (storeName env n v) Q E s := by
  refine wpAny_storeName_local hl x.toInCall.ns (fun h' hn' hs' => h _ ?_) (by rw [hk]; rfl)
  have le : ∀ b o, s0.heap.get? b = some o → b ≠ env.locals := fun b o e => Nat.ne_of_lt (Nat.lt_of_lt_of_le (Heap.lt_size e) x.toInCall.fresh)
  obtain ⟨h₁, tk, es⟩ := x.toInCall.same
  exact ⟨⟨⟨h', _, by rw [es]⟩, hn', fun b o e => hs'.extBut b o (le b o e) (x.toInCall.keep b o e), x.toInCall.fresh⟩,
    fun k c hc => (x.cell k c hc).sameBut hs' (Nat.ne_of_gt (x.above k c (PySem.mem_of_lookup hc))), x.apart, x.above⟩
theorem stS_cell {n : Str} {c : Addr} {v : Value} {Q : Unit → Shared → Prop} (x : InCallC s0 env.locals m cs cm s) (hk : env.scope.kind = .function) (hl : env.kindOf n = some .cell) (he : env.cells.lookup n = some c) (hc : cs.lookup n = some c)
    (h : ∀ s', InCallC s0 env.locals m cs (fun y => if y = n then some v else cm y) s' → Q () s') : wpAny M A (storeName env n v) Q E s := by
  have up := x.above n c (PySem.mem_of_lookup hc)
  refine wpAny_storeName_cell hk hl he (x.cell n c hc) fun h' hc' hs' => h _ ?_
  have le : ∀ b o, s0.heap.get? b = some o → b ≠ c := fun b o e => Nat.ne_of_lt (Nat.lt_trans (Nat.lt_of_lt_of_le (Heap.lt_size e) x.toInCall.fresh) up)
  obtain ⟨h₁, tk, es⟩ := x.toInCall.same
  refine ⟨⟨⟨h', _, by rw [es]⟩, x.toInCall.ns.sameBut hs' (Nat.ne_of_lt up), fun b o e => hs'.extBut b o (le b o e) (x.toInCall.keep b o e), x.toInCall.fresh⟩, fun k c' hk' => ?_, x.apart, x.above⟩
  by_cases hkn : k = n
  · subst hkn
    rw [hc] at hk'
    cases hk'
    simpa using hc'
  · rw [if_neg hkn]
    exact (x.cell k c' hk').sameBut hs' fun e => hkn (name_of_addr x.apart (PySem.mem_of_lookup hk') (e ▸ PySem.mem_of_lookup hc))
theorem bindS (f : Str × Value → PUnit → Sem (ForInStep PUnit)) (hf : ∀ n v u, f (n, v) u = (do storeName env n v; pure (.yield ⟨⟩))) (hk : env.scope.kind = .function) :
    ∀ (binds : List (Str × Value)) (m cm : Str → Option Value) (s : Shared) (Q : PUnit → Shared → Prop), InCallC s0 env.locals m cs cm s →
      (∀ y ∈ binds, env.kindOf y.1 = some .local ∨ (env.kindOf y.1 = some .cell ∧ ∃ c, cs.lookup y.1 = some c ∧ env.cells.lookup y.1 = some c)) →
      (∀ s', InCallC s0 env.locals (bindL env.kindOf binds m) cs (bindC env.kindOf binds cm) s' → Q ⟨⟩ s') → wpAny M A (forIn binds ⟨⟩ f) Q E s
  | [], m, cm, s, Q, x, _, h => by rw [List.forIn_nil]; exact wpAny_pure (h s x)
  | (n, v) :: r, m, cm, s, Q, x, hy, h => by
    have hr := fun y (q : y ∈ r) => hy y (.tail _ q)
    rw [List.forIn_cons, hf]
    rcases hy (n, v) (.head _) with hl | ⟨hl, c, hc, he⟩
    · refine wpAny_bind (wpAny_bind (stS_loc x hk hl fun s' x' => wpAny_pure (bindS f hf hk r _ _ s' Q x' hr fun s2 x2 => h s2 ?_)))
      show InCallC s0 env.locals (bindL env.kindOf r (if env.kindOf n = some .local then _ else m)) cs (bindC env.kindOf r (if env.kindOf n = some .local then cm else _)) s2
      rw [if_pos hl, if_pos hl]; exact x2
    · have hnl : ¬ env.kindOf n = some .local := by rw [hl]; decide
      refine wpAny_bind (wpAny_bind (stS_cell x hk hl he hc fun s' x' => wpAny_pure (bindS f hf hk r _ _ s' Q x' hr fun s2 x2 => h s2 ?_)))
      show InCallC s0 env.locals (bindL env.kindOf r (if env.kindOf n = some .local then _ else m)) cs (bindC env.kindOf r (if env.kindOf n = some .local then cm else _)) s2
      rw [if_neg hnl, if_neg hnl]; exact x2
theorem cells_app : ∀ (names : List (Str × NameKind)) (n : Nat) (acc cl : List (Str × Addr)), cellsFrom n names (acc ++ cl) = cellsFrom n names acc ++ cl
  | [], _, _, _ => rfl
  | (x, k) :: r, n, acc, cl => by
    unfold cellsFrom
    split
    · exact cells_app r (n + 1) ((x, n) :: acc) cl
    · exact cells_app r n acc cl
theorem newEnvS {scope : Scope} {globals : Addr} {cl : List (Str × Addr)} {binds : List (Str × Value)} {qual : Str} {func : Option Addr} {code : Value} {builtins : Addr} {Q : Env → Shared → Prop} (hk : scope.kind = .function)
    (hkind : ∀ y ∈ binds, scope.names.lookup y.1 = some .local ∨ (scope.names.lookup y.1 = some .cell ∧ ∃ c, (cellsFrom (s.heap.objs.size + 1) scope.names []).lookup y.1 = some c ∧ (cellsFrom (s.heap.objs.size + 1) scope.names [] ++ cl).lookup y.1 = some c))
    (hQ : ∀ env, env = newEnv scope s.heap.objs.size globals (cellsFrom (s.heap.objs.size + 1) scope.names [] ++ cl) qual func code none builtins →
      ∀ s', InCallC s env.locals (bindL env.kindOf binds fun _ => none) (cellsFrom (s.heap.objs.size + 1) scope.names []) (bindC env.kindOf binds fun _ => none) s' → Q env s') :
    wpAny M A (newFunctionEnv scope globals cl binds qual func code none builtins) Q E s := by
  simp only [newFunctionEnv, Option.isSome_none, Bool.false_eq_true, if_false]
  refine wpAny_bind (wpAny_alloc ?_)
  refine wpAny_bind (wpAny_layCells _ (fun x kind cells => by cases hkc : kind == NameKind.cell <;> simp [hkc]) scope.names cl _ _ ?_)
  have sz : (s.heap.push { cls := .type "frame", data := .dict #[] }).objs.size = s.heap.objs.size + 1 := Heap.size_push ..
  have ok := cellsFrom_ok scope.names (s.heap.push { cls := .type "frame", data := .dict #[] }) (s.heap.objs.size + 1) [] ⟨fun _ _ hm => (nomatch hm), List.Pairwise.nil⟩ (by rw [sz]; exact Nat.le_refl _)
  rw [sz] at ok
  have ec := cells_app scope.names (s.heap.objs.size + 1) [] cl
  rw [List.nil_append] at ec
  show wpAny M A _ Q E _
  rw [show ({ s with heap := s.heap.push { cls := .type "frame", data := .dict #[] } } : Shared).heap.objs.size = s.heap.objs.size + 1 from sz, ec]
  refine wpAny_bind (bindS (s0 := s) (cs := cellsFrom (s.heap.objs.size + 1) scope.names []) (env := newEnv scope s.heap.objs.size globals (cellsFrom (s.heap.objs.size + 1) scope.names [] ++ cl) qual func code none builtins)
    _ (fun _ _ _ => rfl) hk binds (fun _ => none) (fun _ => none) _ _ ?_ hkind fun s' x => wpAny_pure (hQ _ rfl s' x))
  exact ⟨⟨⟨_, _, rfl⟩, (Heap.Ns.new s.heap (.type "frame")).keeps (pushCells_keeps _ _), fun b o e => pushCells_keeps _ _ b o (Heap.get?_push_of_some _ e), Nat.le_refl _⟩,
    fun n c hc => (ok.empty n c (PySem.mem_of_lookup hc)).1, ok.apart, fun n c hm => (ok.empty n c hm).2⟩
end
section
open PySem.W PyProof.Rows PySem.Calls
/-- the frame: its own cells, and the class's -/
abbrev envK (qual : Str) (scope : Scope) (L f : Addr) (cd : Value) (cc : Addr) : Env := envX qual scope L f cd (cellsFrom (L + 1) scope.names [] ++ [((("__class__" : Str)), cc)])
def cxK (CX : CXT) (P : Program) (w : World) (K : PySem.W.Frag) (mg : Str → Option Value) (base : Heap) (N : List Str) (qual : Str) (scope : Scope) (f : Addr) (cd : Value) (cc : Addr) (A : Around) (outer : List Env) (s : Shared) (H : Hp) (E : XK) : Cx where
  prog := P
  w := w
  K := K
  mg := mg
  base := base
  A := A.deeper (envK qual scope s.heap.objs.size f cd cc)
  N := N
  s_0 := s
  H_0 := H
  env := envK qual scope s.heap.objs.size f cd cc
  outer := outer
  stack := envK qual scope s.heap.objs.size f cd cc :: outer
  ex := []
  calm := true
  fn := fun x => x != "__class__"
  pn := []
  xe := fun e s' => wpAny (model P w) (A.deeper (envK qual scope s.heap.objs.size f cd cc)) (leaving (envK qual scope s.heap.objs.size f cd cc) e) (fun _ s'' => CX outer H s E e s'') (fun e' s'' => CX outer H s E e' s'') s'
structure FnScopeK (N ps : List Str) (sc : Scope) : Prop where
  kind : sc.kind = .function
  co : sc.isCoroutine = false
  gen : sc.isGenerator = false
  nd : N.Nodup
  pre : N.take ps.length = ps
  par : ∀ x ∈ ps, (sc.names.lookup x = some .local ∨ sc.names.lookup x = some .cell)
  noC : ∀ y ∈ sc.names, y.2 = .cell → y.1 ≠ "__class__"
  free : ∀ y ∈ sc.names, y.2 = .free → y.1 = "__class__"
theorem cells_mem {x : Str} {c : Addr} : ∀ {names : List (Str × NameKind)} {n : Nat} {acc : List (Str × Addr)}, (x, c) ∈ cellsFrom n names acc → (x, c) ∈ acc ∨ (x, NameKind.cell) ∈ names
  | [], _, _, h => .inl h
  | (y, k) :: r, n, acc, h => by
    unfold cellsFrom at h
    split at h
    · rename_i hk
      rcases cells_mem h with h | h
      · rcases List.mem_cons.mp h with h | h
        · have ek : k = NameKind.cell := eq_of_beq hk
          cases h
          exact .inr (by rw [ek]; exact .head _)
        · exact .inl h
      · exact .inr (.tail _ h)
    · rcases cells_mem h with h | h
      · exact .inl h
      · exact .inr (.tail _ h)
theorem look_app {cs : List (Str × Addr)} {x : Str} {c cc : Addr} (h : (cs ++ [((("__class__" : Str)), cc)]).lookup x = some c) : cs.lookup x = some c ∨ (x = "__class__" ∧ c = cc) := by
  rw [List.lookup_append] at h
  cases e : cs.lookup x with
  | some d => rw [e] at h; exact .inl h
  | none =>
    rw [e] at h
    exact .inr (lookup_class (by simpa using h))
theorem look_own {cs : List (Str × Addr)} {x : Str} {c cc : Addr} (h : cs.lookup x = some c) : (cs ++ [((("__class__" : Str)), cc)]).lookup x = some c := by
  rw [List.lookup_append, h]; rfl
theorem look_class {cs : List (Str × Addr)} {cc : Addr} (h : cs.lookup (("__class__" : Str)) = none) : (cs ++ [((("__class__" : Str)), cc)]).lookup (("__class__" : Str)) = some cc := by
  rw [List.lookup_append, h]
  show ([("__class__", cc)] : List (Str × Addr)).lookup (("__class__" : Str)) = some cc
  simp [List.lookup]
theorem no_class {N ps : List Str} {sc : Scope} (S : FnScopeK N ps sc) (n : Nat) : (cellsFrom n sc.names []).lookup (("__class__" : Str)) = none := by
  cases e : (cellsFrom n sc.names []).lookup (("__class__" : Str)) with
  | none => rfl
  | some c =>
    rcases cells_mem (PySem.mem_of_lookup e) with h | h
    · cases h
    · exact absurd rfl (S.noC _ h rfl)
theorem inv_startK {CX : CXT} {P : Program} {w : World} {K : PySem.W.Frag} {mg : Str → Option Value} {base : Heap} {N ps : List Str} {qual : Str} {scope : Scope} {f cc : Addr} {cd : Value} {A : Around} {outer : List Env} {s s1 : Shared} {H : Hp} {E : XK} {us : List Value} {vs : List V}
    {ccl : Value} {cld : Option Addr} {cv : Value} {csl : Array (Option Value)}
    (S : FnScopeK N ps scope) (hd : A.handled = none) (e0 : Env0 P w K mg base A outer s H) (hl : vs.length = ps.length) (r : Vals vs us) (hcc : K.lookup cc = some ⟨ccl, cld, .cell (some cv), csl⟩)
    (x : InCallC s s.heap.objs.size (bindL (envK qual scope s.heap.objs.size f cd cc).kindOf (ps.zip us) fun _ => none) (cellsFrom (s.heap.objs.size + 1) scope.names []) (bindC (envK qual scope s.heap.objs.size f cd cc).kindOf (ps.zip us) fun _ => none) s1) :
    Inv (cxK CX P w K mg base N qual scope f cd cc A outer s H E) [] (L2.start N vs) H s1 := by
  have hpl : ps.length ≤ N.length := by have := congrArg List.length S.pre; rw [List.length_take] at this; omega
  have cb : base.get? cc = some ⟨ccl, cld, .cell (some cv), csl⟩ := e0.mod.kin _ _ hcc
  have sb := e0.bs _ _ cb
  have cl : cc < s.heap.objs.size := Heap.lt_size sb.1
  obtain ⟨h1, tk, es, hk⟩ := x.done
  subst es
  have noA : ∀ b : Addr, b ∉ (cxK CX P w K mg base N qual scope f cd cc A outer s H E).ex := fun b z => absurd (show b ∈ ([] : List Addr) from z) (by simp)
  have lk : ∀ {y : Str} {c : Addr}, (cxK CX P w K mg base N qual scope f cd cc A outer s H E).env.cells.lookup y = some c → (cellsFrom (s.heap.objs.size + 1) scope.names []).lookup y = some c ∨ (y = "__class__" ∧ c = cc) := fun h => look_app h
  have ab : ∀ {y : Str} {c : Addr}, (cellsFrom (s.heap.objs.size + 1) scope.names []).lookup y = some c → s.heap.objs.size < c := fun h => x.above _ _ (PySem.mem_of_lookup h)
  refine ⟨⟨e0.mod, S.kind, rfl, rfl, Nat.le_refl _, fun y z c h1 h2 => ?_, fun y hy => ?_, fun y c hf h => ?_, fun _ => hd, Around.frames_deeper e0.frames, .inr ⟨rfl, rfl⟩, fun b z => absurd z (noA b), e0.bs, e0.bsz, fun b _ _ => noA b, fun b z => absurd z (noA b), e0.funs, e0.frf⟩,
    rfl, e0.bare, Un.kept hk, ⟨_, x.toInCall.ns, fun i y v h1 h2 h3 => ?_⟩, fun y c h => ?_, e0.hok.fresh (Nat.le_refl _), fun y c h => ?_, fun p hp => absurd (show p ∈ ([] : List (Addr × Obj)) from hp) (by simp), e0.hok.kept hk, ?_⟩
  · rcases lk h1 with a | ⟨a, b⟩ <;> rcases lk h2 with a' | ⟨a', b'⟩
    · exact name_of_addr x.apart (PySem.mem_of_lookup a) (PySem.mem_of_lookup a')
    · have q := ab a; rw [b'] at q; exact absurd cl (Nat.lt_asymm q)
    · have q := ab a'; rw [b] at q; exact absurd cl (Nat.lt_asymm q)
    · exact a.trans a'.symm
  · have hy : scope.names.lookup y = some .cell ∨ scope.names.lookup y = some .free := hy
    rcases hy with hy | hy
    · obtain ⟨c, e⟩ := cell_has (n := s.heap.objs.size + 1) hy
      exact ⟨c, look_own e⟩
    · have ey : y = "__class__" := S.free _ (PySem.mem_of_lookup hy) rfl
      subst ey
      exact ⟨cc, look_class (no_class S _)⟩
  · rcases lk h with a | ⟨a, _⟩
    · exact Nat.le_of_lt (ab a)
    · subst a
      have : (("__class__" : Str) != "__class__") = true := hf
      simp at this
  · have ha := start_get h2
    obtain ⟨u, hu, rv⟩ := r.get ha
    have il : i < ps.length := hl ▸ (List.getElem?_eq_some_iff.mp ha).1
    have hp : ps[i]? = some y := (congrArg (·[i]?) S.pre).symm.trans ((List.getElem?_take_of_lt il).trans h1)
    have ndP : ps.Nodup := S.pre ▸ S.nd.sublist (List.take_sublist _ _)
    refine ⟨u, rv, ?_⟩
    rcases S.par y (List.mem_of_getElem? hp) with k | k
    · exact .inl ⟨k, bindL_get ndP hp hu k⟩
    · obtain ⟨c, e⟩ := cell_has (n := s.heap.objs.size + 1) k
      have q := x.cell y c e
      rw [bindC_get ndP hp hu (by show scope.names.lookup y ≠ _; rw [k]; decide)] at q
      exact .inr ⟨.inl k, c, look_own e, q⟩
  · rcases lk h with a | ⟨_, rfl⟩
    · exact ⟨_, x.cell y c a⟩
    · exact ⟨_, _, hk _ _ sb.1, rfl⟩
  · rcases lk h with a | ⟨_, rfl⟩
    · exact e0.hok.fresh (Nat.le_of_lt (ab a))
    · exact sb.2
  · show (L2.start N vs).length = N.length
    simp only [L2.start, List.length_append, List.length_map, List.length_replicate]
    omega
/-- a def that says super(), by its body -/
theorem fnK_of {CX : CXT} {P : Program} {w : World} {K : PySem.W.Frag} {mg : Str → Option Value} {base : Heap} {k : Nat} {f cc : Addr} {name qual : Str} {params : Arguments} {body : List Stmt} {scope : Scope} {dV kV doc pm cdv ct oc : Value} {an od : Option Addr}
    {osl : Array (Option Value)} {N ps : List Str} {sp : Sp} {ccl : Value} {cld : Option Addr} {cv : Value} {csl : Array (Option Value)} (lk : K.lookup f = some ⟨oc, od, .func (ksFn name qual params body scope dV kV doc pm an cdv ct cc), osl⟩)
    (hcc : K.lookup cc = some ⟨ccl, cld, .cell (some cv), csl⟩) (hcd : PySem.W.codeIn K cdv qual = true) (S : FnScopeK N ps scope) (len : ∀ vs H Q E, sp vs H Q E → vs.length = ps.length)
    (hbody : ∀ (A : Around) (outer : List Env) (s : Shared) (H : Hp) (vs : List V) (Q : VK) (E : XK), Room k (A.deeper (envK qual scope s.heap.objs.size f cdv cc)) → sp vs H Q E →
      ∃ t, PSa (cxK CX P w K mg base N qual scope f cdv cc A outer s H E) (.func body (envK qual scope s.heap.objs.size f cdv cc)) body t ∧ t { nx := fun _ H' => Q .non H', rt := Q } (L2.start N vs) H) :
    FnOk P w K mg base CX (k + 1) f (ksFn name qual params body scope dV kV doc pm an cdv ct cc) ps sp := by
  refine ⟨len, fun A outer s H args us vs Q E hr e0 hb r hsp => ?_⟩
  have hl := len _ _ _ _ hsp
  have KX : K.In s.heap := e0.mod.kin.keeps fun b o e => (e0.bs b o e).1
  have lim : s.heap.NoLimit := e0.mod.nolimit.keeps fun b o e => (e0.bs b o e).1
  obtain ⟨t, ht, hq⟩ := hbody A outer s H vs Q E (hr.deeper _) hsp
  have hkind : ∀ y ∈ ps.zip us, scope.names.lookup y.1 = some .local ∨ (scope.names.lookup y.1 = some .cell ∧ ∃ c, (cellsFrom (s.heap.objs.size + 1) scope.names []).lookup y.1 = some c ∧ (cellsFrom (s.heap.objs.size + 1) scope.names [] ++ [((("__class__" : Str)), cc)]).lookup y.1 = some c) := fun y hy => by
    rcases S.par y.1 (List.of_mem_zip (a := y.1) (b := y.2) hy).1 with q | q
    · exact .inl q
    · obtain ⟨c, e⟩ := cell_has (n := s.heap.objs.size + 1) q
      exact .inr ⟨q, c, e, look_own e⟩
  refine codeAny_call_function hr.depth (KX _ _ lk) rfl S.co S.gen rfl (codeRec_of KX hcd) (hb _ _ _ _ ?_)
  refine newEnvS S.kind hkind fun env he s1 x => ?_
  subst he
  refine ⟨lim.keeps x.toInCall.keep, ks_codeAny_funcAt ?_⟩
  have I : Inv (cxK CX P w K mg base N qual scope f cdv cc A outer s H E) [] (L2.start N vs) H s1 := inv_startK S hr.hd e0 hl r hcc x
  refine ks_wpAt_mono (ht.run [] _ (L2.start N vs) H _ I hq) (fun fl s' hs => ?_) fun e s' hs => hs
  have fin : ∀ {σ' : L2.St} {H' : Hp} {v : V} {u : Value}, Inv (cxK CX P w K mg base N qual scope f cdv cc A outer s H E) [] σ' H' s' → RelV v u → Q v H' → CE outer P w H s Q u s' :=
    fun {σ' H' v u} J rv q => ⟨v, H', J.os, J.bare, J.base, J.hok, rv, q⟩
  match fl, hs with
  | .ret u, ⟨v, σ', H', J, rv, q⟩ => exact fin J rv q
  | .next, ⟨σ', H', J, q⟩ => exact fin (v := V.non) (u := Value.none) J rfl q
  | .brk, ⟨_, _, _, q⟩ => exact q.elim
  | .cont, ⟨_, _, _, q⟩ => exact q.elim
end
section
/-- a def of the text that says super(): its record, its cell, its code's file -/
structure FunK (K : PySem.W.Frag) (PL : Program) (x qual : Str) (st : Stmt) (f : Addr) (fd : FuncData) (D : Addr) : Prop where
  ex : ∃ (oc : Value) (od : Option Addr) (kV doc pm : Value) (an : Option Addr) (cda : Addr) (ct : Value) (osl : Array (Option Value)) (cc : Addr), fd = PySem.W.ksFn x qual (defArgs st) (defBody st) (defScope st) .none kV doc pm an (.ref cda) ct cc ∧
    K.lookup f = some ⟨oc, od, .func fd, osl⟩ ∧ PySem.W.codeIn K (.ref cda) qual = true ∧ (∃ a b e, K.lookup cc = some ⟨a, b, .cell (some (.ref D)), e⟩) ∧
    ∃ o : Obj, K.lookup cda = some o ∧ ∃ vs, o.data = .fields vs ∧ ∃ (file : Str) (tf : Tok), vs[2]? = some (.str file tf) ∧ ((PL.main.file : Str) == file) = true
  kp : PySem.W.keepIn K (.ref f) = true
theorem funK_mk {K : PySem.W.Frag} {PL : Program} {x qual : Str} {st : Stmt} {f D cda cc : Addr} {oc : Value} {od an vb cb : Option Addr} {osl ve ce : Array (Option Value)} {kV doc pm ct va ca : Value} {vs : Array Value} {fl : Str} {tf : Tok}
    (l : K.lookup f = some ⟨oc, od, .func (PySem.W.ksFn x qual (defArgs st) (defBody st) (defScope st) .none kV doc pm an (.ref cda) ct cc), osl⟩) (c : PySem.W.codeIn K (.ref cda) qual = true) (k : PySem.W.keepIn K (.ref f) = true)
    (q : K.lookup cc = some ⟨ca, cb, .cell (some (.ref D)), ce⟩) (v : K.lookup cda = some ⟨va, vb, .fields vs, ve⟩) (vf : vs[2]? = some (.str fl tf)) (vg : ((PL.main.file : Str) == fl) = true) :
    FunK K PL x qual st f (PySem.W.ksFn x qual (defArgs st) (defBody st) (defScope st) .none kV doc pm an (.ref cda) ct cc) D :=
  ⟨⟨oc, od, kV, doc, pm, an, cda, ct, osl, cc, rfl, l, c, ⟨_, _, _, q⟩, _, v, vs, rfl, fl, tf, vf, vg⟩, k⟩
theorem FunK.binds {K : PySem.W.Frag} {PL : Program} {x qual : Str} {st : Stmt} {f D : Addr} {fd : FuncData} {ps : List Str} (F : FunK K PL x qual st f fd D)
    (h : ∀ (kV doc pm : Value) (an : Option Addr) (cdv ct : Value) (cc : Addr) (us : List Value), us.length = ps.length → bindArgs (PySem.W.ksFn x qual (defArgs st) (defBody st) (defScope st) .none kV doc pm an cdv ct cc) ⟨us, []⟩ = pure (ps.zip us)) : Binds K fd ps [] := by
  obtain ⟨oc, od, kV, doc, pm, an, cda, ct, osl, cc, rfl, _⟩ := F.ex
  exact .all (h kV doc pm an (.ref cda) ct cc)
end
section
/-- a def of the text with defaults (their tuple at t) -/
structure FunD (K : PySem.W.Frag) (x qual : Str) (st : Stmt) (f : Addr) (fd : FuncData) (t : Addr) : Prop where
  ex : ∃ (oc : Value) (od : Option Addr) (kV doc pm : Value) (an : Option Addr) (cdv ct : Value) (osl : Array (Option Value)),
    fd = PySem.W.fnOf x qual (defArgs st) (defBody st) (defScope st) (.ref t) kV doc pm an cdv ct ∧ K.lookup f = some ⟨oc, od, .func fd, osl⟩ ∧ PySem.W.codeIn K cdv qual = true
  kp : PySem.W.keepIn K (.ref f) = true
theorem FunD.ok {P : Program} {w : World} {K : PySem.W.Frag} {mg : Str → Option Value} {base : Heap} {x qual : Str} {st : Stmt} {f t0 : Addr} {fd : FuncData} {N ps : List Str} {k : Nat} {sp : Sp} (F : FunD K x qual st f fd t0) (S : FnScope N ps (defScope st))
    (len : ∀ vs H Q E, sp vs H Q E → vs.length = ps.length)
    (hbody : ∀ (cdv : Value) (A : Around) (outer : List Env) (s : Shared) (H : Hp) (vs : List V) (Q : VK) (E : XK), Room k (A.deeper (PyProof.Rows.envOfC qual (defScope st) s.heap.objs.size f cdv)) → sp vs H Q E →
      ∃ t, PSs (cxOf CX0 P w K mg base N qual (defScope st) f cdv A outer s H E).nox (defBody st) t ∧ t { nx := fun _ H' => Q .non H', rt := Q } (L2.start N vs) H) : FnOk P w K mg base CX0 (k + 1) f fd ps sp := by
  obtain ⟨oc, od, kV, doc, pm, an, cdv, ct, osl, rfl, lk, hcd⟩ := F.ex
  refine fn_of lk hcd S len fun A outer s H vs Q E hr hsp => ?_
  obtain ⟨t, h, q⟩ := hbody cdv A outer s H vs Q E hr hsp
  exact ⟨t, h.nox, q⟩
end
section
open PySem.W PyProof.Rows
/-- what the frame of such a def knows of itself -/
theorem supK {CX : CXT} {P PL : Program} {w : World} {K : PySem.W.Frag} {mg : Str → Option Value} {base : Heap} {N ps : List Str} {qual : Str} {st : Stmt} {f cda cc D : Addr} {me : Str} {A : Around} {outer : List Env} {s : Shared} {H : Hp} {E : XK}
    {x : Str} {oc kV doc pm ct : Value} {od an : Option Addr} {osl : Array (Option Value)} (hP : P = PL)
    (l : K.lookup f = some ⟨oc, od, .func (PySem.W.ksFn x qual (defArgs st) (defBody st) (defScope st) .none kV doc pm an (.ref cda) ct cc), osl⟩) (q : ∃ a b e, K.lookup cc = some ⟨a, b, .cell (some (.ref D)), e⟩)
    (v : ∃ o : Obj, K.lookup cda = some o ∧ ∃ vs, o.data = .fields vs ∧ ∃ (file : Str) (tf : Tok), vs[2]? = some (.str file tf) ∧ ((PL.main.file : Str) == file) = true)
    (S : FnScopeK N ps (defScope st)) (ks : (defScope st).names.lookup ("super" : Str) = some .globalImplicit) (kc : (defScope st).names.lookup ("__class__" : Str) = some .free) (ka : locK (defScope st) me = true)
    (ar : ∃ ar : Arg, ((defArgs st).posonlyargs ++ (defArgs st).args).head? = some ar ∧ ar.arg = me) (top : (P.main.scope.names.lookup ("super" : Str)).isSome = false) (cls : ∃ cd, clsIn K D = some cd) (hm : mg "super" = none) (sa : nsIn K cStatics "thirdparty.any" = some none) :
    SupX (cxK CX P w K mg base N qual (defScope st) f (.ref cda) cc A outer s H E) f cda cc D me := by
  subst hP
  exact ⟨ks, kc, ka, rfl, ⟨_, l, _, rfl, ar⟩, rfl, v, top, look_class (no_class S _), q, cls, hm, sa⟩
/-- THE RULE for a def that says super(): the program is PL itself -/
theorem FunK.ok {CX : CXT} {PL : Program} {w : World} {K : PySem.W.Frag} {mg : Str → Option Value} {base : Heap} {x qual : Str} {st : Stmt} {f D : Addr} {fd : FuncData} {N ps : List Str} {k : Nat} {sp : Sp} {me : Str} (F : FunK K PL x qual st f fd D) (S : FnScopeK N ps (defScope st))
    (ks : (defScope st).names.lookup ("super" : Str) = some .globalImplicit) (kc : (defScope st).names.lookup ("__class__" : Str) = some .free) (ka : locK (defScope st) me = true)
    (ar : ∃ ar : Arg, ((defArgs st).posonlyargs ++ (defArgs st).args).head? = some ar ∧ ar.arg = me) (top : (PL.main.scope.names.lookup ("super" : Str)).isSome = false) (cls : ∃ cd, clsIn K D = some cd) (hm : mg "super" = none) (sa : nsIn K cStatics "thirdparty.any" = some none)
    (len : ∀ vs H Q E, sp vs H Q E → vs.length = ps.length)
    (hbody : ∀ (cda cc : Addr) (A : Around) (outer : List Env) (s : Shared) (H : Hp) (vs : List V) (Q : VK) (E : XK), Room k (A.deeper (envK qual (defScope st) s.heap.objs.size f (.ref cda) cc)) → SupX (cxK CX PL w K mg base N qual (defScope st) f (.ref cda) cc A outer s H E) f cda cc D me → sp vs H Q E →
      ∃ t, PSa (cxK CX PL w K mg base N qual (defScope st) f (.ref cda) cc A outer s H E) (.func (defBody st) (envK qual (defScope st) s.heap.objs.size f (.ref cda) cc)) (defBody st) t ∧ t { nx := fun _ H' => Q .non H', rt := Q } (L2.start N vs) H) :
    FnOk PL w K mg base CX (k + 1) f fd ps sp := by
  obtain ⟨oc, od, kV, doc, pm, an, cda, ct, osl, cc, rfl, lk, hcd, ⟨a, b, e, lc⟩, v⟩ := F.ex
  exact fnK_of lk lc hcd S len fun A outer s H vs Q E hr hsp => hbody cda cc A outer s H vs Q E hr (supK rfl lk ⟨a, b, e, lc⟩ v S ks kc ka ar top cls hm sa) hsp
end
/-! ### exceptions over any built-in base: made by a walked __init__, super().__init__ within it -/
section
open PySem.W PyProof.Rows PySem.Calls ClX Builtin Builtin.ObjectAttr
/-- what is known of the built-in base -/
structure XB (B nw ini : String) (bl : List Value) : Prop where
  F : ExcBaseFacts B nw ini bl
  S : StoreFacts B bl "object.__setattr__" "object"
  Z : KxsFacts B ini
  qi : ini.startsWith "lifetime." = false
theorem xb_VE : XB "ValueError" "ValueError.__new__" "ValueError.__init__" [.type "ValueError", .type "Exception", .type "BaseException", .type "object"] := ⟨F.excBase_ValueError, F.store_ValueError, kxs_ValueError, by decide +kernel⟩
theorem xb_LE : XB "LookupError" "LookupError.__new__" "LookupError.__init__" [.type "LookupError", .type "Exception", .type "BaseException", .type "object"] := ⟨F.excBase_LookupError, F.store_LookupError, kxs_LookupError, by decide +kernel⟩
/-- own classes, then the base's row -/
inductive Ov (bl : List Value) : List Value → Prop where
  | nil : Ov bl bl
  | cons {c : Addr} {l : List Value} : Ov bl l → Ov bl (.ref c :: l)
theorem Ov.pass {B nw ini : String} {bl : List Value} (X : XB B nw ini bl) (self : Value) : ∀ {l : List Value}, Ov bl l → refuseLoop self "__setattr__" l = pure ()
  | _, .nil => X.S.passes self
  | _, .cons h => by rw [refuseLoop_ref]; exact h.pass X self
theorem Ov.has {bl : List Value} (x : String) : ∀ {l : List Value}, Ov bl l → l.contains (.type x) = bl.contains (.type x)
  | _, .nil => rfl
  | _, .cons h => by rw [List.contains_cons, h.has x]; rfl
theorem Ov.ne {B nw ini : String} {bl l : List Value} (X : XB B nw ini bl) (h : Ov bl l) : l.isEmpty = false := by
  cases h with
  | nil => exact List.isEmpty_eq_false_iff.mpr (fun z => by have := X.F.hasB; rw [z] at this; cases this)
  | cons _ => rfl
structure OexG (nw : String) (bl : List Value) (K : PySem.W.Frag) (C : Addr) : Prop where
  cls : ∃ nm q N bs bm sn sub ab col dd k0 k1 k2 k3 k5, K.lookup C = some (excClassObj nm q C N bs bm true sn sub ab col dd k0 k1 k2 k3 k5 nw) ∧ Ov bl bm
  sa : findIn K (.ref C) "__setattr__" = some (some (.builtin "object.__setattr__"))
  exC : subIn K (.ref C) (.type "BaseException") = some true
  tyC : typeIn K (.ref C) = some (.type "type")
  kC : keepIn K (.ref C) = true
theorem OexG.mro {B nw ini : String} {bl : List Value} (X : XB B nw ini bl) {K : PySem.W.Frag} {C : Addr} (T : OexG nw bl K C) {y : String} (hy : bl.contains (.type y) = true) : mroIn K C (.type y) = some true := by
  obtain ⟨nm, q, N, bs, bm, sn, sub, ab, col, dd, k0, k1, k2, k3, k5, hC, hb⟩ := T.cls
  have hcl : clsIn K C = some { name := nm, bases := bs, mro := .ref C :: bm, ns := N, qualname := q, hasDict := true, slotNames := sn, subclasses := sub, abstract := ab, collection := col, hasDel := false } := by
    unfold clsIn; rw [hC] <;> rfl
  unfold mroIn
  rw [hcl, Option.bind_some, if_neg (by simp), List.contains_cons, hb.has, hy, Bool.or_true]
section
variable {prog : Program} {w : World} {A : Around} {R : Result → Shared → Prop} {hp : Heap} {g : Array GenState} {d : Drawn} {t : Nat} {os : OsState} {B nw ini : String} {bl : List Value}
/-- self.x = v, the first one -/
theorem exg_osa (XX : XB B nw ini bl) {K : W.Frag} {name : Str} {tk : Tok} {v : Value} {x C : Addr} {fv : Array Value} {cd : ClassData} {row : List Value}
    (X : K.In hp) (hx : hp.get? x = some { cls := .ref C, data := .fields fv }) (hcd : clsIn K C = some cd) (hm : cd.mro = .ref C :: row) (ho : Ov bl row) (hh : cd.hasDict = true) (hno : findIn K (.ref C) name = some none)
    (hq : ∀ h' tk' dx, (∀ b o, b ≠ x → hp.get? b = some o → h'.get? b = some o) → hp.objs.size ≤ dx → dx ≠ x → h'.get? x = some { cls := .ref C, dict := some dx, data := .fields fv } →
      h'.Ns1 dx (fun y => if y = name then some v else none) → R (.ok (.ret .none)) ⟨h', g, d, tk', os⟩) :
    codeAny (model prog w) A (.call (.builtin "object.__setattr__") ⟨[.ref x, .str name tk, v], []⟩) R ⟨hp, g, d, t, os⟩ := by
  have J : InstAt hp x { cls := .ref C, data := .fields fv } C none := ⟨hx, rfl, rfl, trivial⟩
  have G := F.store_object
  have hob : cd.mro.contains (.type "object") = true := by rw [hm, List.contains_cons, ho.has]; exact (by rw [XX.S.hasOwner, Bool.or_true])
  have hne : cd.mro.isEmpty = false := by rw [hm]; rfl
  have hxs : x ≠ hp.objs.size := Nat.ne_of_lt (Heap.lt_size hx)
  have sub : Looks (model prog w) hp (isInstance (.ref x) (.type "object")) true := J.type.andThen (looks_mroIn X (by unfold mroIn; rw [hcd, Option.bind_some, if_neg (by rw [hne]; decide), hob]))
  refine codeAny_call_builtin G.slot.plain G.entry (@check_slot (model prog w) _ _ ⟨hp, g, d, t, os⟩ "object.__setattr__" "object" "__setattr__" (.ref x) [.str name tk, v] [] _ G.kind G.split sub (G.args (.ref x) (.str name tk) v) ?_)
  have l1 : Looks (model prog w) hp (mroOf (.ref C)) cd.mro := (looks_clsIn X hcd).andThen .now
  have l2 : Looks (model prog w) hp (storeTaker? none) none := .now
  have l3 : Looks (model prog w) hp (classData C) cd := looks_clsIn X hcd
  have pass : refuseLoop (.ref x) "__setattr__" cd.mro = pure () := by rw [hm, refuseLoop_ref]; exact ho.pass XX _
  rw [osa_eq, refuse_eq]
  refine wpAny_bind (wpAny_bind (J.type.at (wpAny_bind (l1.at ?_))))
  rw [pass]
  refine wpAny_pure (wpAny_bind (J.type.at (wpAny_bind ((looks_findIn X hno).at (wpAny_bind (l2.at ?_))))))
  show wpAny _ _ (storeInOwnDict (.ref x) (.ref C) (.str name tk) name v false) _ _ _
  obtain ⟨nm, bs, mro, ns, qn, hd, sn, sb, ab, col, del⟩ := cd
  dsimp only at hh
  subst hh
  unfold storeInOwnDict ownDictForStores
  repeat (first | with_reducible refine HandSPX.store_in_new ?_ ?_ | with_reducible refine wpAny_loadPart_at hx ?_ | with_reducible refine l3.at ?_ | wp_step)
  · exact ⟨_, #[], _, (Heap.get?_update_ne _ _ _ _ hxs.symm).trans (Heap.get?_push_at rfl rfl), rfl, fun e he => absurd he (by simp), fun _ => rfl⟩
  · intro h' tk' hn' hs
    have hy : (hp.push { cls := .type "dict", data := .dict #[] }).get? x = some { cls := .ref C, data := .fields fv } := Heap.get?_push_of_some _ hx
    refine hq h' tk' hp.objs.size (fun b o hb ho => ?_) (Nat.le_refl _) hxs.symm ?_ hn'
    · exact (hs.2 b (Nat.ne_of_lt (Heap.lt_size ho))).trans ((Heap.get?_update_ne _ _ _ _ hb).trans (Heap.get?_push_of_some _ ho))
    · exact (hs.2 x hxs).trans (Heap.get?_update_self _ hy rfl)
end
section
variable {X : Cx} {pins : List (Addr × Obj)} {σ : L2.St} {H : Hp} {s : Shared} {a C dx : Addr} {f : Str} {y : V} {u : Value} {B nw ini : String} {bl : List Value}
theorem exg_set (XX : XB B nw ini bl) {Q : Unit → Shared → Prop} {E : Value → Shared → Prop} {A : Around} (T : OexG nw bl X.K C) (I : Inv X pins σ H s) (e : H a = some (exo a C none)) (hno : findIn X.K (.ref C) f = some none) (ry : RelV y u)
    (h : ∀ dx s', H dx = none → dx ≠ a → Inv X pins σ (upd (upd H dx (exd dx [(f, y)])) a (exo a C (some dx))) s' → Q () s') : wpAny (model X.prog X.w) A (setAttr (.ref a) f u) Q E s := by
  obtain ⟨nm, q, N, bs, bm, sn, sub, ab, col, dd, k0, k1, k2, k3, k5, hC, hbm⟩ := T.cls
  have hcl : clsIn X.K C = some { name := nm, bases := bs, mro := .ref C :: bm, ns := N, qualname := q, hasDict := true, slotNames := sn, subclasses := sub, abstract := ab, collection := col, hasDel := false } := by
    unfold clsIn; rw [hC] <;> rfl
  obtain ⟨t1, ho⟩ := exo_at I.hok e
  obtain ⟨hp, gg, dd', tt, os⟩ := s
  refine set_plain I.kIn (ox := { cls := .ref C, dict := none, data := .fields #[.ref t1, .none, .none, .none, .bool false, .none] }) (od := none) ⟨ho, rfl, rfl, trivial⟩ T.sa ?_
  refine exg_osa XX I.kIn ho hcl rfl hbm rfl hno (fun h' tk' dx k dn dne hx hn => ?_)
  have hnd : H dx = none := I.hok.fresh dn
  have nd : ∀ {b : Addr} {o : Obj}, hp.get? b = some o → b ≠ dx := fun {b o} q => Nat.ne_of_lt (Nat.lt_of_lt_of_le (Heap.lt_size q) dn)
  have na : ∀ {b : Addr}, H b = none → b ≠ a := fun {b} n z => by rw [z, e] at n; cases n
  have U : Un X.fs [] H (upd (upd H dx (exd dx [(f, y)])) a (exo a C (some dx))) hp h' := {
    keep := fun b o q n _ _ => k b o (na n) q
    slot := fun b o q n _ _ => ⟨o.slots, k b o (na n) q⟩
    free := fun b o q n _ => by rw [upd_ne (na n), upd_ne (nd q)]; exact n
    there := fun b o q _ => by
      by_cases hb : b = a
      · exact ⟨_, by rw [hb]; exact hx⟩
      · exact ⟨o, k b o hb q⟩
    tups := fun b xs q => by rw [upd_ne (at_ne e q exo_tup), upd_ne (ne_of_none q hnd)]; exact q
    frzs := fun b o v q => by rw [upd_ne (at_ne e q exo_frz), upd_ne (ne_of_none q hnd)]; exact q
    tbls := fun b ps q => ⟨#[], by rw [upd_ne (at_ne e q exo_tbl), upd_ne (ne_of_none q hnd), q]; simp⟩ }
  refine h dx _ hnd dne (I.un (t' := tk') U fun b o q => ?_)
  by_cases hb : b = a
  · subst hb
    rw [upd_same] at q
    cases q
    exact exo_ok hx
  rw [upd_ne hb] at q
  by_cases hd : b = dx
  · subst hd
    rw [upd_same] at q
    cases q
    exact exd_ok hn (relO_put (fs := []) ry fun g => True.intro)
  rw [upd_ne hd] at q
  refine (I.hok b o q).stay (fun c v hc z => k c v ?_ z) (fun c hc => ?_) (fun c xs hc => ?_)
  · rcases hc with hc | hc
    · rw [hc]; exact hb
    · exact at_ne e hc exo_own
  · rw [upd_ne (at_ne e hc exo_own), upd_ne (ne_of_none hc hnd)]; exact hc
  · rw [upd_ne (at_ne e hc exo_tup), upd_ne (ne_of_none hc hnd)]; exact hc
end
/-- self.f = e, self an exception without a dict -/
def tSetG (nw : String) (bl : List Value) (K : PySem.W.Frag) (f : Str) (to te : TE) : TS := fun D σ H => te σ H fun y H1 => to σ H1 fun x H2 => ∃ a C : Addr, x = .ref a ∧ OexG nw bl K C ∧ findIn K (.ref C) f = some none ∧
  H2 a = some (exo a C none) ∧ ∀ dx, H2 dx = none → dx ≠ a → D.nx σ (upd (upd H2 dx (exd dx [(f, y)])) a (exo a C (some dx)))
theorem ps_setG {B nw ini : String} {bl : List Value} (XX : XB B nw ini bl) {X : Cx} {o e : Expr} {to te : TE} {f : Str} {p' pos : Pos} (ho : PE X o to) (he : PE X e te) (hs : swapsWith e (some (.Attribute o f p')) pos.line X.env = pure false := by rfl) :
    PS X (.Assign [.Attribute o f p'] e pos) (tSetG nw bl X.K f to te) := by
  refine ⟨fun pins s σ H D I h => ?_⟩
  refine plainObj_wpAny_Assign_Attribute (thn (he.run pins s σ H _ I h) fun v s1 ⟨y, H1, I1, r1, q1⟩ => thn (ho.run pins s1 σ H1 _ I1 q1) fun u s2 ⟨x, H2, I2, r2, a, C, ex, T, hno, ea, q⟩ => ?_) hs
  subst ex
  obtain rfl : u = Value.ref a := r2
  exact exg_set XX T I2 ea hno r1 fun dx s' n ne J => ⟨σ, _, J, q dx n ne⟩
/-- the body of C(e, ..) -/
theorem run_mkG {B nw ini : String} {bl : List Value} (XX : XB B nw ini bl) {X : Cx} {pins : List (Addr × Obj)} {σ : L2.St} {H1 : Hp} {s1 : Shared} {us : List Value} {vs : List V} {C fI : Addr} {k : Nat} {fd : FuncData} {CX : CXT} {ps : List Str} {sp : Sp} {ds : List Value} {dvs : List V} {Qp : Addr → V → Hp → Prop} {R : Value → Shared → Prop}
    (T : OexG nw bl X.K C) (iC : findIn X.K (.ref C) "__init__" = some (some (.ref fI))) (tI : typeIn X.K (.ref fI) = some (.type "function"))
    (F1 : FnOk X.prog X.w X.K X.mg X.base CX k fI fd ps sp) (hr : Room (k + 1) X.A) (hb : Binds X.K fd ps ds) (hd : Vals dvs ds) (hx : Passes CX X (fun _ _ _ => False)) (I1 : Inv X pins σ H1 s1) (r1 : Vals vs us) (hz : vs.length ≤ 1000)
    (hq : ∀ a, H1 a = none → sp (.ref a :: (vs ++ dvs)) (upd H1 a (exo a C none)) (Qp a) (fun _ _ _ => False))
    (out : ∀ (s' : Shared) (v : V) (u : Value) (a : Addr), H1 a = none → s1.heap.objs.size ≤ a → (∀ (H2 : Hp), s'.os = s1.os → AllBare s'.gens →
        Un (frs X.stack) [] (upd H1 a (exo a C none)) H2 ((s1.heap.push (kdv_tup us)).push (HandSPX.excO C s1.heap.objs.size)) s'.heap → HOk X.prog X.w H2 s'.heap → (∀ b o, s1.heap.get? b = some o → ((s1.heap.push (kdv_tup us)).push (HandSPX.excO C s1.heap.objs.size)).get? b = some o) →
        a = s1.heap.objs.size + 1 → Inv X pins σ (upd H1 a (exo a C none)) { s1 with heap := (s1.heap.push (kdv_tup us)).push (HandSPX.excO C s1.heap.objs.size) } → RelV v u → Qp a v H2 → u = .none ∧ R (.ref a) s')) :
    wpAny (model X.prog X.w) X.A (call (.ref C) us) R X.xe s1 := by
  obtain ⟨nm, q, N, bs, bm, sn, sub, ab, col, dd, k0, k1, k2, k3, k5, hC, hbm⟩ := T.cls
  obtain ⟨hp, g, dr, tk, os⟩ := s1
  have hsz : hp.objs.size ≤ hp.objs.size + 1 := Nat.le_succ _
  have hn : H1 (hp.objs.size + 1) = none := I1.hok.fresh hsz
  have hq := hq (hp.objs.size + 1) hn
  have kk : ∀ b o, hp.get? b = some o → ((hp.push (kdv_tup us)).push (HandSPX.excO C hp.objs.size)).get? b = some o := fun b o e => Heap.get?_push_of_some _ (Heap.get?_push_of_some _ e)
  have hget : ((hp.push (kdv_tup us)).push (HandSPX.excO C hp.objs.size)).get? (hp.objs.size + 1) = some (HandSPX.excO C hp.objs.size) := by heap_get
  have I2 : Inv X pins σ (upd H1 (hp.objs.size + 1) (exo (hp.objs.size + 1) C none)) ⟨(hp.push (kdv_tup us)).push (HandSPX.excO C hp.objs.size), g, dr, tk, os⟩ :=
    I1.laid (t' := tk) (a := hp.objs.size + 1) (o := exo (hp.objs.size + 1) C none) (h' := (hp.push (kdv_tup us)).push (HandSPX.excO C hp.objs.size)) kk hsz (exo_ok hget)
  have r2 : Vals (V.ref (hp.objs.size + 1) :: (vs ++ dvs)) (Value.ref (hp.objs.size + 1) :: (us ++ ds)) := .cons rfl (r1.append hd)
  have hl : (Value.ref (hp.objs.size + 1) :: us ++ ds).length = ps.length := by
    have e := r2.length
    rw [F1.len _ _ _ _ hq] at e
    exact e.symm
  have hus : us.length ≤ sizeLine := by rw [← Paired.length r1, sizeLine_eq]; omega
  refine wpAny_call (HandSPX.call_own XX.F (fun Y => hbm.has Y) (I1.kIn _ _ hC) (looks_findIn I1.kIn iC) (fun self => bind_fn I1.kIn self tI) hus
    (codeAny_mono (F1.run _ X.stack _ _ ⟨Value.ref (hp.objs.size + 1) :: us, []⟩ (Value.ref (hp.objs.size + 1) :: (us ++ ds)) _ _ (fun _ _ _ => False) (hr.make C us []) (I2.env0.make C us []) (hb _ (Value.ref (hp.objs.size + 1) :: us) I2.kIn hl) r2 hq) fun r s' hq' => ?_))
  match r, hq' with
  | .error er, hq' => exact hx pins σ _ _ er s' I2 hq'
  | .ok .next, hq' => exact hq'.elim
  | .ok .brk, hq' => exact hq'.elim
  | .ok .cont, hq' => exact hq'.elim
  | .ok (.ret u), ⟨v, H2, os2, bare2, un2, hok2, rv, q2⟩ =>
    obtain ⟨rfl, z⟩ := out s' v u _ hn hsz H2 os2 bare2 un2 hok2 kk rfl I2 rv q2
    exact ⟨rfl, z⟩
/-- raise C(e, ..), C's own __init__ keeping sp -/
theorem pmk_G {B nw ini : String} {bl : List Value} (XX : XB B nw ini bl) {X : Cx} {e : Expr} {es : List Expr} {ta : TA} {p pos : Pos} {CX : CXT} {x : Str} {C fI : Addr} {k : Nat} {fd : FuncData} {ps : List Str} {sp : Sp} {ds : List Value} {dvs : List V} (T : OexG nw bl X.K C) (iC : findIn X.K (.ref C) "__init__" = some (some (.ref fI))) (tI : typeIn X.K (.ref fI) = some (.type "function"))
    (F1 : FnOk X.prog X.w X.K X.mg X.base CX k fI fd ps sp) (hr : Room (k + 1) X.A) (hb : Binds X.K fd ps ds) (hd : Vals dvs ds) (hx : Passes CX X (fun _ _ _ => False)) (hg : Gl X x) (hm : X.mg x = some (.ref C)) (ha : PA X (e :: es) ta)
    (hdb : (x == ("__debug__" : Str)) = false := by decide) (he : starEach (e :: es) X.env = (false, eval e X.env) :: starEach es X.env := by rfl) (hpl : (backTo pos (starEach es X.env)).any (·.1) = false := by rfl) :
    PMk X (.Call (.Name x p) (e :: es) [] pos) (tMkO C sp dvs ta) := by
  intro pins s σ H Q I h
  refine wpAny_Call_Name_kw (ld_glob I hg hm ?_ hdb)
  refine callWith_K (h₀ := X.base) I.ok.mod.kin T.kC (thn (ha.run pos pins s σ H _ I h) fun us s1 ⟨vs, H1, I1, r1, hz, q1⟩ => ⟨I1.kIn, ?_⟩) he hpl
  refine run_mkG (Qp := fun a v H2 => v = .non ∧ ∃ (d : Addr) (fs : List (Str × V)), H2 a = some (exo a C (some d)) ∧ H2 d = some (exd d fs) ∧ H1 d = none ∧ Q (.ref C) (some d) (upd (del H2 a) d (.xd fs))) XX T iC tI F1 hr hb hd hx I1 r1 hz q1 fun s' v u a hn hsz H2 os2 bare2 un2 hok2 kk ea0 I2 rv q2 => ?_
  obtain ⟨ev, d, fs, ea, ed, hd1, q2⟩ := q2
  subst ev
  obtain ⟨h2, g2, d2, t2, os'⟩ := s'
  obtain ⟨hp, g, dr, tk, os⟩ := s1
  exact ⟨rv, mk_end (raises_own T.exC T.tyC) I1 hsz kk un2 hok2 os2 bare2 ea ed hd1 q2⟩
/-- C(e, ..) as a value: the exception stands at a -/
def tMkV (C : Addr) (sp : Sp) (dvs : List V) (ta : TA) : TE := fun σ H Q => ta σ H fun vs H1 => vs.length ≤ 1000 ∧ ∀ a, H1 a = none → sp (.ref a :: (vs ++ dvs)) (upd H1 a (exo a C none))
  (fun v H2 => v = .non ∧ Q (.ref a) H2) (fun _ _ _ => False)
theorem pe_mkV {B nw ini : String} {bl : List Value} (XX : XB B nw ini bl) {X : Cx} {e : Expr} {es : List Expr} {ta : TA} {p pos : Pos} {CX : CXT} {x : Str} {C fI : Addr} {k : Nat} {fd : FuncData} {ps : List Str} {sp : Sp} {ds : List Value} {dvs : List V} (T : OexG nw bl X.K C) (iC : findIn X.K (.ref C) "__init__" = some (some (.ref fI))) (tI : typeIn X.K (.ref fI) = some (.type "function"))
    (F1 : FnOk X.prog X.w X.K X.mg X.base CX k fI fd ps sp) (hr : Room (k + 1) X.A) (hb : Binds X.K fd ps ds) (hd : Vals dvs ds) (hx : Passes CX X (fun _ _ _ => False)) (hg : Gl X x) (hm : X.mg x = some (.ref C)) (ha : PA X (e :: es) ta)
    (hdb : (x == ("__debug__" : Str)) = false := by decide) (he : starEach (e :: es) X.env = (false, eval e X.env) :: starEach es X.env := by rfl) (hpl : (backTo pos (starEach es X.env)).any (·.1) = false := by rfl) :
    PE X (.Call (.Name x p) (e :: es) [] pos) (tMkV C sp dvs ta) := by
  refine ⟨fun pins s σ H Q I h => ?_⟩
  refine wpAny_Call_Name_kw (ld_glob I hg hm ?_ hdb)
  refine callWith_K (h₀ := X.base) I.ok.mod.kin T.kC (thn (ha.run pos pins s σ H _ I h) fun us s1 ⟨vs, H1, I1, r1, hz, q1⟩ => ⟨I1.kIn, ?_⟩) he hpl
  refine run_mkG (Qp := fun a v H2 => v = .non ∧ Q (.ref a) H2) XX T iC tI F1 hr hb hd hx I1 r1 hz q1 fun s' v u a hn hsz H2 os2 bare2 un2 hok2 kk ea I2 rv q2 => ?_
  obtain ⟨ev, q2⟩ := q2
  subst ev
  obtain ⟨h2, g2, d2, t2, os'⟩ := s'
  refine ⟨rv, .ref a, H2, I2.call' (ch := []) os2 ?_ hok2 bare2 (fun b z => absurd z (by simp)), rfl, q2⟩
  exact un2
end
section
open PySem.W PyProof.Rows PySem.Calls ClX
section
variable {prog : Program} {w : World} {A : Around} {E : Value → Shared → Prop} {h : Heap} {g : Array GenState} {d : Drawn} {t : Nat} {os : OsState} {B nw ini : String} {bl : List Value}
variable {nm q : Str} {C N : Addr} {bs bm : List Value} {hdct : Bool} {sn : List Str} {sub : List Value} {ab : Bool} {col : Option Bool} {dd : Option Addr} {k0 k1 k2 k3 k5 : Option Value}
theorem run_mwG (XX : XB B nw ini bl) {u e t0 : Addr} {rest : List Value} {Q : Value → Shared → Prop} (hC : h.get? C = some (excClassObj nm q C N bs bm hdct sn sub ab col dd k0 k1 k2 k3 k5 nw)) (he : h.get? e = some (HandSPX.excO C t0))
    (hu : h.get? u = some (kxs_mw ini e)) (hz : rest.length ≤ sizeLine) (hq : ∀ h' t1, (∀ b o, b ≠ e → h.get? b = some o → h'.get? b = some o) → h'.get? e = some (HandSPX.excO C t1) → Q .none ⟨h', g, d, t, os⟩) :
    wpAny (model prog w) A (call (.ref u) rest) Q E ⟨h, g, d, t, os⟩ := by
  refine wpAny_call (codeAny_of_tree ?_)
  show wpAny _ A.in1 (callAny (.ref u) ⟨rest, []⟩) _ _ _
  simp only [callAny]
  refine wpAny_bind (wpAny_load hu ?_)
  simp only [kxs_mw]
  refine KFB.if_so (by decide) ?_
  refine wpAny_bind (ESX.check_bound XX.F hC he rfl ?_)
  refine wpAny_bind (wpAny_pure (wpAny_pure ?_))
  refine ⟨Code.quiet_builtin _ XX.qi, codeAny_builtin XX.F.initEntry ?_⟩
  rw [Around.under_plainId XX.F.init.plain _]
  wp_walk
  refine hq _ h.objs.size (fun b o hb ho => ?_) ?_
  · rw [Heap.get?_update_other _ _ (Ne.symm hb)]; exact Heap.get?_push_of_some _ ho
  · rw [Heap.get?_update_self _ (Heap.get?_push_of_some _ he) rfl]; rfl
end
/-- super().m(..) where self is an exception that is being made -/
def tSupG (nw ini : String) (bl : List Value) (K : PySem.W.Frag) (D : Addr) (m : Str) (ta : TA) : TS := fun Dn σ H => ∃ (a C : Addr), σ[0]? = some (some (.ref a)) ∧ H a = some (exo a C none) ∧ OexG nw bl K C ∧ mroIn K C (.ref D) = some true ∧
  ks_superIn K C D m = some (some (.builtin ini)) ∧ ta σ H fun vs H1 => vs.length ≤ 1000 ∧ H1 a = some (exo a C none) ∧ Dn.nx σ H1
variable {X : Cx} {c : Code} {st : Stmt} {ss rest : List Stmt} {t u : TS} {B nw ini : String} {bl : List Value}
theorem psa_superG (XX : XB B nw ini bl) {f cd cc D : Addr} {me m : Str} {body : List Stmt} {p0 p1 apos pos pos' : Pos} {e : Expr} {es : List Expr} {ta : TA} {pl : Sem Bool}
    (S : SupX X f cd cc D me) (hN : X.N[0]? = some me) (ha : PA X (e :: es) ta) (hm : (m == ("__class__" : Str)) = false)
    (hst : starEach (e :: es) X.env = (false, eval e X.env) :: starEach es X.env) (hpl : (backTo pos (starEach es X.env)).any (·.1) = false)
    (hev : eval (.Call (.Attribute (.Call (.Name "super" p0) [] [] p1) m apos) (e :: es) [] pos) X.env = (do
      let ov ← attributeBase (.Call (.Name "super" p0) [] [] p1) m X.env (eval (.Call (.Name "super" p0) [] [] p1) X.env)
      standAt apos.atName
      let (g, first) ← holding [ov] (getMethod ov m pl)
      callWith pos g first (backTo pos (starEach (e :: es) X.env)) []) )
    (hi : interactive X.env = false) (hs : swapsWith (.Call (.Attribute (.Call (.Name "super" p0) [] [] p1) m apos) (e :: es) [] pos) none pos'.line X.env = pure false) (h2 : PSa X (.func body X.env) rest u) :
    PSa X (.func body X.env) (.Expr (.Call (.Attribute (.Call (.Name "super" p0) [] [] p1) m apos) (e :: es) [] pos) pos' :: rest) (tSeq (tSupG nw ini bl X.K D m ta) u) := by
  refine ⟨fun pins s σ H Dn I h => ?_⟩
  obtain ⟨a, C, h0, hins, TC, hmro, hsup, h⟩ := h
  obtain ⟨hh, gg, dd, tt, os⟩ := s
  have KX : X.K.In hh := I.kIn
  obtain ⟨o1, l1, d1, e1, ar, hp1, har⟩ := S.fd
  obtain ⟨o2, l2, vs2, e2, file, tf, hv2, hfile⟩ := S.cv
  obtain ⟨ca, cb, ce, lc⟩ := S.cc
  obtain ⟨cdD, hcd⟩ := S.cls
  obtain ⟨oD, hD1, hD2⟩ := cls_obj KX hcd
  obtain ⟨m0, hn0, hlook⟩ := I.loc
  obtain ⟨uv, ru, lk⟩ := hlook 0 me (.ref a) hN h0 (locK_vis S.ka)
  obtain rfl : uv = Value.ref a := ru
  obtain ⟨mb, hb1, hb2⟩ := I.mod.blt
  refine ks_wpAt_execs_cons (ks_wpAt_Expr_any (ks_wpAt_MethodCall ?_ hev) hi hs)
  refine ks_wpAt_super_base S.ks S.kc hm S.fn (KX _ _ l1) e1 hp1 S.co (KX _ _ l2) e2 hv2 hfile S.top ?_
  refine ks_loadName_global I.ok.kind S.ks (loadGlobal_builtin (by rw [I.ok.glob]; exact I.mod.glob.keeps I.bk) S.mg (by rw [I.ok.blt]; exact hb1.keeps I.bk) ((hb2 _ (by decide)).trans (by first | rfl | decide +kernel)) ⟨rfl, ?_⟩)
  refine wpAny_loadName_free I.ok.kind S.kc S.cl ⟨_, KX _ _ lc, rfl⟩ ?_
  rw [har]
  refine load_self I.ok.kind S.ka hn0 lk ?_
  refine ks_wpAny_isType_cls hD1 hD2 ⟨rfl, ?_⟩
  obtain ⟨nm, q, N, bs, bm, sn, sub, ab, col, dd0, k0, k1, k2, k3, k5, hC, hbm⟩ := id TC.cls
  obtain ⟨t1, ho⟩ := exo_at I.hok hins
  have hcl : clsIn X.K C = some { name := nm, bases := bs, mro := .ref C :: bm, ns := N, qualname := q, hasDict := true, slotNames := sn, subclasses := sub, abstract := ab, collection := col, hasDel := false } := by
    unfold clsIn
    rw [hC] <;> rfl
  have xC : a ≠ C := fun e => by
    have c1 := KX _ _ hC
    rw [← e, ho] at c1
    have c2 := congrArg Obj.data (Option.some.inj c1)
    cases c2
  refine ks_wpAny_call_super hD1 hD2 ho rfl (fun c z => nomatch z) (looks_mroIn KX hmro) (fun h' hso hk' => ?_)
  have I1 : Inv X ((hh.objs.size, ks_superObj D a C) :: pins) σ H ⟨h', gg, dd, tt, os⟩ := pin_new (t' := tt) I hk' (Nat.le_refl _) hso (fun v z => nomatch z)
  have K1 : X.K.In h' := I1.kIn
  obtain ⟨t2, ho2⟩ := exo_at I1.hok hins
  have J1 : InstAt h' a { cls := .ref C, dict := none, data := .fields #[.ref t2, .none, .none, .none, .bool false, .none] } C none := ⟨ho2, rfl, rfl, trivial⟩
  have isB : Looks (model X.prog X.w) h' (isInstance (.ref a) (.type B)) true := J1.type.andThen (looks_mroIn K1 (TC.mro XX XX.F.hasB))
  unfold ks_superIn at hsup
  rw [hcl] at hsup
  refine kxs_getMethod XX.Z hso (looks_opaque K1 S.st) (l₀ := .ref C :: bm) (fun A Q E s k q => wpAny_bind ((looks_clsIn K1 hcl) A _ E s k (wpAny_pure q))) rfl K1 hsup isB xC hm ?_
  have I2 : Inv X ((h'.objs.size, kxs_mw ini a) :: (hh.objs.size, ks_superObj D a C) :: pins) σ H { (⟨h', gg, dd, tt, os⟩ : Shared) with heap := h'.push (kxs_mw ini a), toks := tt + 1 } :=
    pin_new I1 (fun _ _ z => Heap.get?_push_of_some _ z) (Nat.le_refl _) (Heap.get?_push_size h' rfl) (fun v z => nomatch z)
  have hL : h'.objs.size ≠ X.env.locals := (I2.pin (h'.objs.size, kxs_mw ini a) (List.mem_append_right _ List.mem_cons_self)).2.2.1
  refine kxs_callWith1 (news_at hL (base_none I1 (Nat.le_refl _)) (pin_at I2)) List.mem_cons_self (thn (ha.run pos _ _ σ H _ I2 h) fun us s3 ⟨vs, H1, I3, r3, hl3, e3, q3⟩ => ⟨pin_at I3, ?_⟩) hst hpl
  obtain ⟨t3, ho3⟩ := exo_at I3.hok e3
  have hmw := pin_at I3
  obtain ⟨h3, g3, d3, k3', os3⟩ := s3
  have hlen : us.length ≤ sizeLine := by rw [← r3.length, sizeLine_eq]; omega
  refine run_mwG XX (I3.kIn _ _ hC) ho3 hmw hlen (fun h4 t4 kk hx4 => ?_)
  have J := I3.write (t' := k3') (x := a) (e := a) (o := exo a C none) (by rw [e3]; exact True.intro) (.inl rfl) kk ⟨_, hx4⟩ (exo_ok hx4)
  have eu : upd H1 a (exo a C none) = H1 := by
    funext b
    by_cases hb : b = a
    · rw [hb, upd_same, e3]
    · rw [upd_ne hb]
  rw [eu] at J
  exact h2.run pins _ σ H1 Dn (unpin (unpin J)) q3
end
/-! ### rules for lattices: methods of an object of one of several classes, tuple.index of flat items, defaults -/
section
open PySem.Spec PyProof.Rows
variable {X : Cx}
/-- o.m(e, ..): the class is found when it is asked; the method is one def -/
def tMethG (K : PySem.W.Frag) (m : Str) (f : Addr) (sp : Sp) (dvs : List V) (E : XK) (ta : TE) (t : TA) : TE := fun σ H Q => ta σ H fun x H1 => ∃ a C dx fs, x = .ref a ∧ H1 a = some (.ins C dx fs) ∧ Cls K C ∧ Meth K C m f ∧ fs.lookup m = none ∧
  t σ H1 fun vs H2 => sp (x :: (vs ++ dvs)) H2 Q E
section
variable {o e : Expr} {es : List Expr} {ta : TE} {t : TA} {m : Str} {apos pos : Pos} {CX : CXT} {k : Nat} {f : Addr} {fd : FuncData} {ps : List Str} {sp : Sp} {ds : List Value} {dvs : List V} {E : XK}
theorem pe_methG {pl : Sem Bool} (he : PE X o ta) (F : FnOk X.prog X.w X.K X.mg X.base CX k f fd ps sp) (hr : Room k X.A) (hb : Binds X.K fd ps ds) (hd : Vals dvs ds) (hx : Passes CX X E) (ha : PA X (e :: es) t)
    (hst : starEach (e :: es) X.env = (false, eval e X.env) :: starEach es X.env := by rfl) (hpl : (backTo pos (starEach es X.env)).any (·.1) = false := by rfl)
    (ht : eval (.Call (.Attribute o m apos) (e :: es) [] pos) X.env = (do
      let ov ← eval o X.env
      standAt apos.atName
      let (g, first) ← holding [ov] (getMethod ov m pl)
      callWith pos g first (backTo pos (starEach (e :: es) X.env)) (backToKw pos (keywordEach [] X.env))) := by rfl) :
    PE X (.Call (.Attribute o m apos) (e :: es) [] pos) (tMethG X.K m f sp dvs E ta t) := by
  refine ⟨fun pins s σ H Q I h => ?_⟩
  refine PySem.W.methodCall_KW (pl := pl) (thn (he.run pins s σ H _ I h) fun u s1 ⟨x, H1, I1, rx, a, C, dx, fs, ex, ea, c, hm, l, q⟩ => ?_) ht
  subst ex
  obtain rfl : u = Value.ref a := rx
  refine getmeth_ok I1 ea c hm l (PySem.W.callWith_K (first := [.ref a]) (h₀ := X.base) I.ok.mod.kin hm.kp (thn (ha.run pos pins s1 σ H1 _ I1 q) fun us s2 ⟨vs, H2, I2, r, q2⟩ => ⟨I2.kIn, ?_⟩) hst hpl)
  exact run_fn (us := .ref a :: us) (vs := .ref a :: vs) F hr hb hd hx I2 (.cons rfl r) q2
theorem pe_methG0 {pl : Sem Bool} (he : PE X o ta) (F : FnOk X.prog X.w X.K X.mg X.base CX k f fd ps sp) (hr : Room k X.A) (hb : Binds X.K fd ps ds) (hd : Vals dvs ds) (hx : Passes CX X E)
    (ht : eval (.Call (.Attribute o m apos) [] [] pos) X.env = (do
      let ov ← eval o X.env
      standAt apos.atName
      let (g, first) ← holding [ov] (getMethod ov m pl)
      callWith pos g first (backTo pos (starEach [] X.env)) (backToKw pos (keywordEach [] X.env))) := by rfl) :
    PE X (.Call (.Attribute o m apos) [] [] pos) (tMethG X.K m f sp dvs E ta tNil) := by
  refine ⟨fun pins s σ H Q I h => ?_⟩
  refine PySem.W.methodCall_KW (pl := pl) (thn (he.run pins s σ H _ I h) fun u s1 ⟨x, H1, I1, rx, a, C, dx, fs, ex, ea, c, hm, l, q⟩ => ?_) ht
  subst ex
  obtain rfl : u = Value.ref a := rx
  refine getmeth_ok I1 ea c hm l (PySem.W.callWith_K0 (first := [.ref a]) I1.kIn hm.kp ?_)
  exact run_fn (us := [.ref a]) (vs := [.ref a]) F hr hb hd hx I1 (.cons rfl .nil) q
end
/-- t.index(x), flat items -/
def rTupIx (K : PySem.W.Frag) : V → List V → Hp → VK → Prop := fun x xs H Q => ∃ (a : Addr) (ys : List V) (y : V) (j : Nat) (z : V), x = V.ref a ∧ xs = [y] ∧ SqT K H a ys ∧ flatV y = true ∧ ys.all flatV = true ∧ ys[j]? = some z ∧ eqV z y = true ∧
  (∀ (m : Nat) (z' : V), m < j → ys[m]? = some z' → eqV z' y = false) ∧ Q (.int (j : Nat)) H
theorem mt_tindexF : MtR X "tuple.index" (rTupIx X.K) := by
  intro pins s σ H x xs v us Q I rx rxs h
  obtain ⟨a, ys, y, j, z, rfl, rfl, hs, fy, fys, hz, hzj, hno, q⟩ := h
  cases rx
  obtain ⟨uy, rfl, ry⟩ := rxs.one
  obtain ⟨its, rv, ⟨⟨cls, dd, dt, sl⟩, ho, hc, n, hd⟩, hlen⟩ := I.tuple hs
  simp only at hc hd
  subst hc hd
  have hsz : its.toArray.size = ys.length := by rw [List.size_toArray, ← rv.length]
  have each : ∀ (m : Nat) (hm : m < its.toArray.size) (y' : V), ys[m]? = some y' → eqU y its.toArray[m] = eqV y' y := fun m hm y' hy' => by
    obtain ⟨u2, hu2, ru2⟩ := rv.get hy'
    have e1 : its.toArray[m] = u2 := by simpa using (List.getElem?_eq_some_iff.mp hu2).2
    rw [e1, eqU_of ru2 (flat_at fys hy')]
  have hjl := (List.getElem?_eq_some_iff.mp hz).1
  refine call_meets PySem.F.slot_tuple_index ⟨_, ho, rfl⟩ PySem.F.entry_tuple_index (PySem.F.args_tuple_index_2 _ _) (TI.tuple_indexAt a its.toArray n dd sl uy (eqU y) j (by omega) ?_ ?_)
    ⟨ho, fun w hw => mem_eqAt ry fy rv fys w (by simpa using hw), ⟨.int (j : Nat), H, I.tok _, ⟨_, rfl⟩, q⟩⟩
  · rw [each j _ _ hz, hzj]
  · intro m hm hmj
    have hy' : ys[m]? = some ys[m] := List.getElem?_eq_getElem (by omega)
    rw [each m hm _ hy', hno m _ hmj hy']
/-- the tuple at p has no dict of its own (so its methods may be asked) -/
def NdT (K : PySem.W.Frag) (H : Hp) (p : Addr) : Prop := (∃ (o : Obj) (xs : List V), H p = some (.frz o (.tup xs)) ∧ o.dict = none) ∨ ∃ o : Obj, K.lookup p = some o ∧ o.dict = none
theorem NdT.get {pins : List (Addr × Obj)} {σ : L2.St} {H : Hp} {s : Shared} {p : Addr} (h : NdT X.K H p) (I : Inv X pins σ H s) : ∃ o, s.heap.get? p = some o ∧ o.dict = none := by
  rcases h with ⟨o, xs, h, d⟩ | ⟨o, h, d⟩
  · have x : ObjOk X.prog X.w H s.heap p (.frz o (.tup xs)) := I.hok p _ h
    exact ⟨o, x.1, d⟩
  · exact ⟨o, I.kIn _ _ h, d⟩
/-- t.m(e, ..), t a tuple without a dict -/
def tTM (K : PySem.W.Frag) (r : V → List V → Hp → VK → Prop) (to : TE) (t : TA) : TE := fun σ H Q => to σ H fun x H1 => ∃ (p : Addr) (ys : List V), x = .ref p ∧ NdT K H1 p ∧ SqT K H1 p ys ∧ t σ H1 fun xs H2 => r x xs H2 Q
theorem pe_tbm {o e : Expr} {es : List Expr} {to : TE} {t : TA} {name : Str} {apos cpos : Pos} {id : String} {r : V → List V → Hp → VK → Prop} (pa : PlainAttrs "tuple") (slot : Slot "tuple" name id) (hty : typeOf (.builtin id) = pure (.type "method_descriptor")) (hm : MtR X id r) (ho : PE X o to) (ha : PA X (e :: es) t)
    (hbase : attributeBase o name X.env (eval o X.env) = eval o X.env := by rfl)
    (hfew : ((backTo cpos (starEach (e :: es) X.env)).all (fun x => !x.1) && (backToKw cpos (keywordEach [] X.env)).all (fun x => x.1.isSome)
      && decide ((e :: es).length + ([] : List Keyword).length + (if ([] : List Keyword).isEmpty then 0 else 1) < 30)) = true := by rfl)
    (hline : (apos.endLine == cpos.line) = true := by rfl) (hs : starEach (e :: es) X.env = (false, eval e X.env) :: starEach es X.env := by rfl) (hpl : (backTo cpos (starEach es X.env)).any (·.1) = false := by rfl) :
    PE X (.Call (.Attribute o name apos) (e :: es) [] cpos) (tTM X.K r to t) := by
  refine ⟨fun pins s σ H Q I h => ?_⟩
  refine wpAny_Call_method_late hbase hfew hline rfl (thn (ho.run pins s σ H _ I h) fun v s1 ⟨x, H1, I1, r1, p, ys, ex, nd, hq, q1⟩ => ?_)
  subst ex
  obtain rfl : v = Value.ref p := r1
  obtain ⟨its, _, ⟨o1, ho1, hc1, _⟩, _⟩ := I1.tuple hq
  refine ⟨"tuple", id, pa, slot, hty, ⟨o1, ho1, hc1⟩, fun a ea => by cases ea; exact nd.get I1, ?_⟩
  have hA := ha.run cpos pins s1 σ H1 _ I1 q1
  rw [hs] at hA ⊢
  refine Calls.callWith_builtin (by show (false || (backTo cpos (starEach es X.env)).any (·.1)) = false; rw [hpl] <;> rfl) (Calls.evalArgs_plain ?_)
  exact thn hA fun us s2 ⟨vs, H2, I2, r2, q2⟩ => hm pins s2 σ H2 (V.ref p) vs (Value.ref p) us Q I2 rfl r2 q2
/-- tuple(xs): a list's items in a new tuple without a dict, or the tuple itself -/
theorem call_tupleN : CallR X (.type "tuple") (fun xs H Q => ∃ p ys, xs = [.ref p] ∧ ((SqL X.K H p ys ∧ ∀ (l : Addr) (o : Obj), H l = none → o.dict = none → Q (.ref l) (upd H l (.frz o (.tup ys)))) ∨ (SqT X.K H p ys ∧ Q (.ref p) H))) := by
  intro pins s σ H xs us Q I r h
  obtain ⟨p, ys, rfl, h⟩ := h
  obtain ⟨u, rfl, rx⟩ := r.one
  cases rx
  rcases h with ⟨hq, q⟩ | ⟨hq, q⟩
  · obtain ⟨its, r', pl, hz⟩ := I.list hq
    have hlen := r'.length
    refine call_tuple_list pl.isList (fun h' kp => ?_) (by simp only [List.size_toArray] <;> omega)
    have J : Inv X pins σ H { s with heap := h' } := I.kept (t' := s.toks) kp
    have hg : (h'.push { cls := .type "tuple", data := .seq its.toArray }).get? h'.objs.size = some ({ cls := .type "tuple", data := .seq its.toArray } : Obj) := Heap.get?_push_size _ rfl
    have J2 : Inv X pins σ (upd H h'.objs.size (.frz { cls := .type "tuple", data := .seq its.toArray } (.tup ys))) { s with heap := h'.push { cls := .type "tuple", data := .seq its.toArray } } :=
      J.laid (t' := s.toks) (fun b o e => Heap.get?_push_of_some _ e) (Nat.le_refl _) (show ObjOk X.prog X.w _ _ _ (.frz _ (.tup ys)) from ⟨hg, hz, its, r', IsTup.new _ _⟩)
    exact ⟨.ref h'.objs.size, _, J2, rfl, q _ _ (J.hok.fresh (Nat.le_refl _)) rfl⟩
  · obtain ⟨its, r', pl, hz⟩ := I.tuple hq
    exact call_tuple_same pl ⟨.ref p, H, I, rfl, q⟩
theorem kx_pi_list {X : Cx} (K : PySem.W.Frag) {tg l : Expr} {tl : TE} (p : PI X tg l (iList X.K tl)) (h : X.K = K := by rfl) : PI X tg l (iList K tl) := h ▸ p
theorem kx_pi_enum {X : Cx} (K : PySem.W.Frag) {tg l : Expr} {ta : TA} (p : PI X tg l (iEnum X.K ta)) (h : X.K = K := by rfl) : PI X tg l (iEnum K ta) := h ▸ p
theorem kx_pe_fld {X : Cx} (K : PySem.W.Frag) {e : Expr} {ta : TE} {f : Str} (p : PE X e (tFld X.K ta f)) (h : X.K = K := by rfl) : PE X e (tFld K ta f) := h ▸ p
theorem kx_tbm {X : Cx} (K : PySem.W.Frag) {e : Expr} {r : V → List V → Hp → VK → Prop} {to : TE} {t : TA} (p : PE X e (tTM X.K r to t)) (h : X.K = K := by rfl) : PE X e (tTM K r to t) := h ▸ p
theorem kx_ix_seq {X : Cx} (K : PySem.W.Frag) (h : X.K = K := by rfl) : IxR X (rIx K) := h ▸ ix_seq
theorem kx_methG {X : Cx} (K : PySem.W.Frag) {e : Expr} {ta : TE} {t : TA} {m : Str} {f : Addr} {sp : Sp} {dvs : List V} {E : XK} (p : PE X e (tMethG X.K m f sp dvs E ta t)) (h : X.K = K := by rfl) : PE X e (tMethG K m f sp dvs E ta t) := h ▸ p
/-- how a def with defaults binds: n values are written, the defaults behind the first j fill up -/
theorem FunD.bindsD {K : PySem.W.Frag} {x qual : Str} {st : Stmt} {f t0 : Addr} {fd : FuncData} {ps : List Str} (F : FunD K x qual st f fd t0) {its : List Value} {m : Nat} (lt : K.lookup t0 = some (⟨.type "tuple", none, .seq its.toArray m, #[]⟩ : Obj)) (n j : Nat)
    (hn : n + (its.length - j) = ps.length)
    (h : ∀ (kV doc pm : Value) (an : Option Addr) (cdv ct : Value) (us : List Value), us.length = n →
      ∃ k, bindArgs (PySem.W.fnOf x qual (defArgs st) (defBody st) (defScope st) (.ref t0) kV doc pm an cdv ct) ⟨us, []⟩ = seqItems? (.ref t0) >>= k ∧ k (some its.toArray) = pure (ps.zip (us ++ its.drop j))) : Binds K fd ps (its.drop j) := by
  obtain ⟨oc, od, kV, doc, pm, an, cdv, ct, osl, rfl, lk, hcd⟩ := F.ex
  refine fun s us X hlen => ?_
  have l2 : us.length = n := by rw [List.length_append, List.length_drop] at hlen; omega
  obtain ⟨k, e1, e2⟩ := h kV doc pm an cdv ct us l2
  refine BindsTo.of_looks fun M => ?_
  rw [e1]
  exact looks_items X lt rfl (.of_pure e2)
end
/-- sep.join(xs) within a block -/
def rJoinK (K : PySem.W.Frag) : V → List V → Hp → VK → Prop := fun x xs H Q => ∃ a p, ∃ ys : List Str, x = .str a ∧ xs = [.ref p] ∧ (SqL K H p (ys.map V.str) ∨ SqT K H p (ys.map V.str)) ∧
    (ys.map (·.length)).sum + ys.length * a.length ≤ 16777216 ∧ Q (.str (PySem.Txt.join a ys)) H
theorem kx_pe_join {X : Cx} (K : PySem.W.Frag) {e : Expr} {to tx : TE} (p : PE X e (tM1 (rJoinK X.K) to tx)) (h : X.K = K := by rfl) : PE X e (tM1 (rJoinK K) to tx) := h ▸ p
/-- f'..' of several parts -/
def tJoin (ts : List TE) : TE := fun σ H Q => tJs ts Str.empty σ H fun out H1 => Q (.str out) H1
theorem pe_joinedT {X : Cx} {v1 v2 : Expr} {rest : List Expr} {ts : List TE} {pos : Pos} (h : PJ X (v1 :: v2 :: rest) ts) : PE X (.JoinedStr (v1 :: v2 :: rest) pos) (tJoin ts) := pe_joined h
/-! ### what stays in the heap; folds of comprehensions; readings cut off -/
/-- tuples (and what is locked) stay -/
structure Keeps (H H' : Hp) : Prop where
  tup : ∀ a xs, H a = some (.tup xs) → H' a = some (.tup xs)
  frz : ∀ a o xs, H a = some (.frz o (.tup xs)) → H' a = some (.frz o (.tup xs))
theorem Keeps.refl (H : Hp) : Keeps H H := ⟨fun _ _ h => h, fun _ _ _ h => h⟩
theorem Keeps.trans {H H1 H2 : Hp} (a : Keeps H H1) (b : Keeps H1 H2) : Keeps H H2 := ⟨fun c xs h => b.tup c xs (a.tup c xs h), fun c o u h => b.frz c o u (a.frz c o u h)⟩
theorem _root_.L2.Same.keeps {H H' : Hp} (s : Same H H') : Keeps H H' := ⟨fun a xs h => s a _ h, fun a o u h => s a _ h⟩
theorem Keeps.mut {H H' : Hp} {D : Addr} {o o' : HO} (k : Keeps H H') (h : H' D = some o) (m : Mut (some o)) : Keeps H (upd H' D o') := by
  refine ⟨fun a xs q => ?_, fun a ob u q => ?_⟩
  · have q' := k.tup a xs q
    rw [upd_ne (ne_of q' h (by intro e; subst e; exact m))]; exact q'
  · have q' := k.frz a ob u q
    rw [upd_ne (ne_of q' h (by intro e; subst e; exact m))]; exact q'
theorem But.keeps {H H' : Hp} {D : Addr} {o : HO} (b : But D H H') (h : H D = some o) (m : Mut (some o)) : Keeps H H' :=
  ⟨fun a xs q => b a _ (ne_of q h (by intro e; subst e; exact m)) q, fun a ob u q => b a _ (ne_of q h (by intro e; subst e; exact m)) q⟩
theorem Keeps.sqT {K : PySem.W.Frag} {H H' : Hp} {a : Addr} {xs : List V} (k : Keeps H H') (h : SqT K H a xs) : SqT K H' a xs := by
  rcases h with (h | ⟨o, h⟩) | h
  · exact .inl (.inl (k.tup _ _ h))
  · exact .inl (.inr ⟨o, k.frz _ _ _ h⟩)
  · exact .inr h
theorem lc_fold {J : It} {n : Nat} {G : Hp → Prop} {Yw : Nat → Hp → V → Hp → Prop} (w : Walk J n G Yw) {g : TG} {tt : TT} {te : TE} {vs : List Nat} {σ : L2.St} {H1 : Hp} {D : Addr} {Qd : Hp → Prop} (hD : H1 D = none)
    (R : Nat → Hp → List V → Prop) (r0 : ∀ H, R 0 H []) (mono : ∀ i H H' xs, Keeps H H' → R i H xs → R i H' xs) (len : ∀ i H ys, R i H ys → ys.length ≤ 1000000) (hG : ∀ H, Same H1 H → G H)
    (hs : ∀ i x H H' ys (Nx : V → Hp → Prop) (Ex : Hp → Prop), i < n → Same H1 H → R i H ys → Yw i H x H' →
      (∀ y H2, Same H H2 → R (i + 1) H2 (ys ++ [y]) → Nx y H2) → (∀ H2, Same H H2 → R (i + 1) H2 ys → Ex H2) →
      g x (wipe σ vs) H' fun σ2 H2 => wipe σ2 vs = wipe σ vs ∧ tt σ2 H2 fun b H3 => if b = true then te σ2 H3 Nx else Ex H3)
    (hd : ∀ H ys, Same H1 H → H D = some (.lst ys) → R n H ys → Qd H) :
    ∃ W : Nat → Nat → Hp → Prop, (∃ m, W 0 m (upd H1 D (.lst []))) ∧ ∀ i m H, W i m H →
      (J.stop i H ∧ Qd H) ∨ (J.go i H ∧ ∃ Nx : Hp → Prop, (∀ H', Nx H' → ∃ m', m' < m ∧ W (i + 1) m' H') ∧ ∀ x H', J.yld i H x H' → g x (wipe σ vs) H' fun σ2 H2 => wipe σ2 vs = wipe σ vs ∧ tt σ2 H2 fun b H3 =>
        if b = true then te σ2 H3 fun y H4 => ∃ acc, H4 D = some (.lst acc) ∧ acc.length < sizeLine ∧ Nx (upd H4 D (.lst (acc ++ [y]))) else Nx H3) :=
  lc_foldF w (Same H1) R (Same.new hD _) (fun H ys zs s _ => s.mut hD _) (r0 _) (fun i H ys zs xs r h => mono _ _ _ _ ((Keeps.refl H).mut h trivial) r) len hG
    (fun i x H H' ys Nx Ex hi s hy r y k1 k2 => hs i x H H' ys Nx Ex hi s r y (fun z H2 s2 r2 => k1 z H2 (s.trans s2) (s2 _ _ hy) r2) (fun H2 s2 r2 => k2 H2 (s.trans s2) (s2 _ _ hy) r2)) hd
/-- a dict comprehension over any walk, as lc_it -/
theorem dc_it {J : It} {n : Nat} {G : Hp → Prop} {Y : Nat → Hp → V → Hp → Prop} (w : Walk J n G Y) {g : TG} {tt : TT} {tk tv : TE} {vs : List Nat} {σ : L2.St} {H1 : Hp} {D : Addr} {Qd : Hp → Prop} (Pv : Nat → Hp → Prop) (h0 : Pv 0 (upd H1 D (.dK []))) (hG : ∀ i H, i ≤ n → Pv i H → G H)
    (hs : ∀ i x H H', i < n → Pv i H → Y i H x H' → g x (wipe σ vs) H' fun σ2 H2 => wipe σ2 vs = wipe σ vs ∧ tt σ2 H2 fun b H3 =>
      if b = true then tk σ2 H3 fun y H4 => tv σ2 H4 fun z H5 => ∃ kvs k, y = kV k ∧ H5 D = some (.dK kvs) ∧ kvs.length < sizeLine ∧ Pv (i + 1) (upd H5 D (.dK (putK kvs k z))) else Pv (i + 1) H3) (hd : ∀ H, Pv n H → Qd H) :
    ∃ W : Nat → Nat → Hp → Prop, (∃ m, W 0 m (upd H1 D (.dK []))) ∧ ∀ i m H, W i m H →
      (J.stop i H ∧ Qd H) ∨ (J.go i H ∧ ∃ Nx : Hp → Prop, (∀ H', Nx H' → ∃ m', m' < m ∧ W (i + 1) m' H') ∧ ∀ x H', J.yld i H x H' → g x (wipe σ vs) H' fun σ2 H2 => wipe σ2 vs = wipe σ vs ∧ tt σ2 H2 fun b H3 =>
        if b = true then tk σ2 H3 fun y H4 => tv σ2 H4 fun z H5 => ∃ kvs k, y = kV k ∧ H5 D = some (.dK kvs) ∧ kvs.length < sizeLine ∧ Nx (upd H5 D (.dK (putK kvs k z))) else Nx H3) := by
  refine ⟨fun i m H => m = n - i ∧ i ≤ n ∧ Pv i H, ⟨n, rfl, Nat.zero_le _, h0⟩, fun i m H ⟨em, hi, p⟩ => ?_⟩
  subst em
  have q := hG i H hi p
  rcases Nat.lt_or_ge i n with hlt | hge
  · exact .inr ⟨w.goes i H hlt q, Pv (i + 1), fun H' p' => ⟨n - (i + 1), by omega, rfl, hlt, p'⟩, fun x H' y => hs i x H H' hlt p (w.yields i H x H' hlt q y)⟩
  · have e : i = n := by omega
    subst e
    exact .inl ⟨w.stops H q, hd H p⟩
/-- R i H kvs: what is known of the dict made so far -/
theorem dc_fold {J : It} {n : Nat} {G : Hp → Prop} {Yw : Nat → Hp → V → Hp → Prop} (w : Walk J n G Yw) {g : TG} {tt : TT} {tk tv : TE} {vs : List Nat} {σ : L2.St} {H1 : Hp} {D : Addr} {Qd : Hp → Prop} (hD : H1 D = none)
    (R : Nat → Hp → List (Key × V) → Prop) (r0 : ∀ H, R 0 H []) (mono : ∀ i H H' xs, Keeps H H' → R i H xs → R i H' xs) (len : ∀ i H ys, R i H ys → ys.length ≤ 1000000) (hG : ∀ H, Same H1 H → G H)
    (hs : ∀ i x H H' ys (Nx : V → V → Hp → Prop) (Ex : Hp → Prop), i < n → Same H1 H → R i H ys → Yw i H x H' →
      (∀ k z H2, Same H H2 → R (i + 1) H2 (putK ys k z) → Nx (kV k) z H2) → (∀ H2, Same H H2 → R (i + 1) H2 ys → Ex H2) →
      g x (wipe σ vs) H' fun σ2 H2 => wipe σ2 vs = wipe σ vs ∧ tt σ2 H2 fun b H3 => if b = true then tk σ2 H3 fun y H4 => tv σ2 H4 fun z H5 => Nx y z H5 else Ex H3)
    (hd : ∀ H ys, Same H1 H → H D = some (.dK ys) → R n H ys → Qd H) :
    ∃ W : Nat → Nat → Hp → Prop, (∃ m, W 0 m (upd H1 D (.dK []))) ∧ ∀ i m H, W i m H →
      (J.stop i H ∧ Qd H) ∨ (J.go i H ∧ ∃ Nx : Hp → Prop, (∀ H', Nx H' → ∃ m', m' < m ∧ W (i + 1) m' H') ∧ ∀ x H', J.yld i H x H' → g x (wipe σ vs) H' fun σ2 H2 => wipe σ2 vs = wipe σ vs ∧ tt σ2 H2 fun b H3 =>
        if b = true then tk σ2 H3 fun y H4 => tv σ2 H4 fun z H5 => ∃ kvs k, y = kV k ∧ H5 D = some (.dK kvs) ∧ kvs.length < sizeLine ∧ Nx (upd H5 D (.dK (putK kvs k z))) else Nx H3) := by
  refine dc_it w (fun i H => Same H1 H ∧ ∃ ys, H D = some (.dK ys) ∧ R i H ys) ⟨Same.new hD _, [], upd_same, r0 _⟩ (fun i H _ h => hG H h.1) ?_ ?_
  · rintro i x H H' hi ⟨s, ys, hy, r⟩ y
    refine hs i x H H' ys (fun y z H5 => ∃ kvs k, y = kV k ∧ H5 D = some (.dK kvs) ∧ kvs.length < sizeLine ∧ (Same H1 (upd H5 D (.dK (putK kvs k z))) ∧ ∃ ys, (upd H5 D (.dK (putK kvs k z))) D = some (.dK ys) ∧ R (i + 1) (upd H5 D (.dK (putK kvs k z))) ys)) _ hi s r y (fun k z H2 s2 r2 => ?_) (fun H2 s2 r2 => ⟨s.trans s2, ys, s2 _ _ hy, r2⟩)
    have h2 := s2 _ _ hy
    exact ⟨ys, k, rfl, h2, smallM (len i H ys r), (s.trans s2).mut hD _, _, upd_same, mono _ _ _ _ ((Keeps.refl H2).mut h2 trivial) r2⟩
  · rintro H ⟨s, ys, hy, r⟩
    exact hd H ys s hy r
section
variable {K : PySem.W.Frag}
theorem Src.keeps {H H' : Hp} {p ce : Addr} (s : Src K ce H p) (b : But p H H') : Keeps H H' := by
  obtain ⟨cs, i, l, m, S⟩ := s
  exact b.keeps S.at_ trivial
theorem Src.same {H H' : Hp} {p ce : Addr} (s : Src K ce H p) (e : Same H H') : Src K ce H' p := by
  obtain ⟨cs, i, l, m, S⟩ := s
  exact ⟨cs, i, l, m, ⟨e.at S.at_, (e.but p).seq S.ne S.cel, S.ne, S.hi, S.hl, S.hc, S.m0, S.m1⟩⟩
theorem Src.here {H : Hp} {p ce : Addr} (s : Src K ce H p) : ∃ o, H p = some o := by
  obtain ⟨cs, i, l, m, S⟩ := s
  exact ⟨_, S.at_⟩
theorem Src.ne {H : Hp} {p l ce : Addr} (s : Src K ce H p) (h : H l = none) : l ≠ p := fun e => by
  obtain ⟨o, q⟩ := s.here
  rw [e, q] at h; cases h
theorem Src.upd {H : Hp} {p ce D : Addr} (s : Src K ce H p) (h1 : D ≠ p) (h2 : D ≠ ce) (o : HO) : Src K ce (upd H D o) p := by
  obtain ⟨cs, i, l, m, S⟩ := s
  exact ⟨cs, i, l, m, ⟨by rw [upd_ne h1.symm]; exact S.at_, ((But.refl D H).upd o).seq h2.symm S.cel, S.ne, S.hi, S.hl, S.hc, S.m0, S.m1⟩⟩
end
theorem nx_run {D : Ends} {σ : L2.St} {H : Hp} (h : D.nx σ H) : tNext D σ H := h
theorem set_run {te : TE} {g : TG} {u : TS} {D : Ends} {σ : L2.St} {H : Hp} (Pv : V → Hp → Prop) (h : ∀ Q' : V → Hp → Prop, (∀ v H', Pv v H' → Q' v H') → te σ H Q') (q : ∀ v H', Pv v H' → g v σ H' (u D)) : tSeq (tAsg te g) u D σ H :=
  h _ fun v H' p => q v H' p
theorem if_run {c : TT} {t u v : TS} {D : Ends} {σ : L2.St} {H : Hp} (Pv : Bool → Hp → Prop) (h : ∀ Q' : Bool → Hp → Prop, (∀ b H', Pv b H' → Q' b H') → c σ H Q')
    (q : ∀ b H', Pv b H' → if b = true then t { D with nx := v D } σ H' else u { D with nx := v D } σ H') : tSeq (tIfS c t u) v D σ H := h _ fun b H' p => q b H' p
theorem val_run {t : TE} {σ : L2.St} {H : Hp} {Q : V → Hp → Prop} (Pv : V → Prop) (h : ∀ Q' : V → Hp → Prop, (∀ v, Pv v → Q' v H) → t σ H Q') (q : ∀ v, Pv v → Q v H) : t σ H Q := h Q q
theorem inV_strs (x : Str) : ∀ xs : List Str, inV (.str x) (xs.map V.str) = decide (x ∈ xs)
  | [] => rfl
  | y :: ys => by
    show ((y == x) || inV (.str x) (ys.map V.str)) = _
    rw [inV_strs x ys]
    by_cases h : y = x
    · subst h; simp
    · have : ¬ x = y := fun e => h e.symm
      simp [h, this]
theorem flat_strs : ∀ xs : List Str, (xs.map V.str).all flatV = true
  | [] => rfl
  | _ :: ys => flat_strs ys
theorem inV_trues : ∀ n : Nat, inV (.bl false) (List.replicate n (V.bl true)) = false
  | 0 => rfl
  | n + 1 => inV_trues n
theorem flat_trues : ∀ n : Nat, (List.replicate n (V.bl true)).all flatV = true
  | 0 => rfl
  | n + 1 => flat_trues n
/-- what is never reached -/
theorem ps_dead {X : Cx} {st : Stmt} : PS X st (fun _ _ _ => False) := ⟨fun _ _ _ _ _ _ h => h.elim⟩
/-- o.f = e: what is known of e's value behind it -/
theorem fld_run {K : PySem.W.Frag} {ta tv : TE} {f : Str} {u : TS} {D : Ends} {σ : L2.St} {H : Hp} (Pv : V → Hp → Prop) (h : ∀ Q' : V → Hp → Prop, (∀ v H', Pv v H' → Q' v H') → tv σ H Q')
    (q : ∀ v H', Pv v H' → ta σ H' fun x H2 => ∃ a C dx fs, x = .ref a ∧ H2 a = some (.ins C dx fs) ∧ Cls K C ∧ NoAttr K C f ∧ fs.length < 1000 ∧ u D σ (upd H2 a (.ins C dx (putF f v fs)))) : tSeq (sFld K ta tv f) u D σ H :=
  h _ fun v H' p => q v H' p
/-! ### what more a law wants of a lattice's class: nothing -/
def LatX (_ : PySem.W.Frag) (_ : Addr) : Prop := True
/-! ### lattices in the heap -/
def downsV (L : Lt) : List V := (List.range L.n).map fun b => V.int (L.down b : Nat)
def upsV (L : Lt) : List V := (List.range L.n).map fun a => V.int (L.up a : Nat)
def latAttrs : List Str := ["label", "size", "depth", "value_names", "downs", "ups", "bottom_at", "top_at"]
/-- a class of lattices, its methods mm -/
structure LatC (K : PySem.W.Frag) (mm : List (Str × Addr)) (C : Addr) : Prop where
  cl : Cls K C
  na : ∀ f ∈ latAttrs, NoAttr K C f
  me : ∀ q ∈ mm, Meth K C q.1 q.2
  lx : LatX K C
structure LatAt (K : PySem.W.Frag) (mm : List (Str × Addr)) (H : Hp) (p : Addr) (L : Lt) (C dx : Addr) (fs : List (Str × V)) (tn td tu : Addr) : Prop where
  at_ : H p = some (.ins C dx fs)
  c : LatC K mm C
  no : ∀ q ∈ mm, fs.lookup q.1 = none
  label : fs.lookup ("label" : Str) = some (.str L.label)
  size : fs.lookup ("size" : Str) = some (.int (L.n : Nat))
  depth : fs.lookup ("depth" : Str) = some (.int (L.depth : Nat))
  names : fs.lookup ("value_names" : Str) = some (.ref tn)
  downs : fs.lookup ("downs" : Str) = some (.ref td)
  ups : fs.lookup ("ups" : Str) = some (.ref tu)
  bot : fs.lookup ("bottom_at" : Str) = some (optV L.bot)
  top : fs.lookup ("top_at" : Str) = some (optV L.top)
  tn : NdT K H tn ∧ SqT K H tn (L.names.map V.str)
  td : NdT K H td ∧ SqT K H td (downsV L)
  tu : NdT K H tu ∧ SqT K H tu (upsV L)
def IsLat (K : PySem.W.Frag) (mm : List (Str × Addr)) (H : Hp) (p : Addr) (L : Lt) : Prop := ∃ C dx fs tn td tu, LatAt K mm H p L C dx fs tn td tu
theorem NdT.keep {K : PySem.W.Frag} {H H' : Hp} {p : Addr} (h : NdT K H p) (k : Keeps H H') : NdT K H' p := by
  rcases h with ⟨o, xs, h, d⟩ | h
  · exact .inl ⟨o, xs, k.frz _ _ _ h, d⟩
  · exact .inr h
theorem LatAt.to {K : PySem.W.Frag} {mm : List (Str × Addr)} {H H' : Hp} {p : Addr} {L : Lt} {C dx : Addr} {fs : List (Str × V)} {tn td tu : Addr} (A : LatAt K mm H p L C dx fs tn td tu) (k : Keeps H H') (e : H' p = some (.ins C dx fs)) : LatAt K mm H' p L C dx fs tn td tu :=
  ⟨e, A.c, A.no, A.label, A.size, A.depth, A.names, A.downs, A.ups, A.bot, A.top, ⟨A.tn.1.keep k, k.sqT A.tn.2⟩, ⟨A.td.1.keep k, k.sqT A.td.2⟩, ⟨A.tu.1.keep k, k.sqT A.tu.2⟩⟩
theorem LatAt.same {K : PySem.W.Frag} {mm : List (Str × Addr)} {H H' : Hp} {p : Addr} {L : Lt} {C dx : Addr} {fs : List (Str × V)} {tn td tu : Addr} (A : LatAt K mm H p L C dx fs tn td tu) (s : Same H H') : LatAt K mm H' p L C dx fs tn td tu := A.to s.keeps (s _ _ A.at_)
theorem IsLat.same {K : PySem.W.Frag} {mm : List (Str × Addr)} {H H' : Hp} {p : Addr} {L : Lt} (h : IsLat K mm H p L) (s : Same H H') : IsLat K mm H' p L := by
  obtain ⟨C, dx, fs, tn, td, tu, A⟩ := h
  exact ⟨C, dx, fs, tn, td, tu, A.same s⟩
/-- all but what stands at q, a list | an instance, is as it was -/
theorem IsLat.but {K : PySem.W.Frag} {mm : List (Str × Addr)} {H H' : Hp} {p q : Addr} {L : Lt} {o : HO} (h : IsLat K mm H p L) (b : But q H H') (hq : H q = some o) (m : Mut (some o)) (ne : p ≠ q) : IsLat K mm H' p L := by
  obtain ⟨C, dx, fs, tn, td, tu, A⟩ := h
  exact ⟨C, dx, fs, tn, td, tu, A.to (b.keeps hq m) (b _ _ ne A.at_)⟩
/-- a draw leaves it -/
theorem IsLat.drawn {K : PySem.W.Frag} {mm : List (Str × Addr)} {H H' : Hp} {p q ce : Addr} {L : Lt} (h : IsLat K mm H p L) (s : Src K ce H q) (b : But q H H') : IsLat K mm H' p L := by
  obtain ⟨cs, i, l, m, S⟩ := s
  refine h.but b S.at_ trivial fun e => ?_
  obtain ⟨C, dx, fs, tn, td, tu, A⟩ := h
  have := A.at_
  rw [e, S.at_] at this
  cases this
theorem flat_ints (l : List Nat) (f : Nat → Nat) : (l.map fun i => V.int (f i : Nat)).all flatV = true := by
  rw [List.all_map]
  exact List.all_eq_true.mpr fun _ _ => rfl
theorem at_map {n i : Nat} {f : Nat → V} (h : i < n) : ((List.range n).map f)[i]? = some (f i) := by
  rw [List.getElem?_map, List.getElem?_range h]; rfl
theorem at_map' {n i : Nat} {f : Nat → V} {x : V} (h : ((List.range n).map f)[i]? = some x) : i < n ∧ x = f i := by
  have hl := (List.getElem?_eq_some_iff.mp h).1
  rw [List.length_map, List.length_range] at hl
  rw [at_map hl] at h
  exact ⟨hl, (Option.some.inj h).symm⟩
theorem eqV_nat (a b : Nat) : eqV (.int (a : Nat)) (.int (b : Nat)) = (a == b) := by
  show ((a : Int) == (b : Int)) = (a == b)
  by_cases h : a = b
  · subst h; simp
  · have : ¬ (a : Int) = (b : Int) := by omega
    rw [beq_eq_false_iff_ne.mpr h, beq_eq_false_iff_ne.mpr this]
theorem inV_map (m n : Nat) (f : Nat → Nat) : inV (.int (m : Nat)) ((List.range n).map fun i => V.int (f i : Nat)) = (first n fun k => f k == m).isSome := by
  cases e : first n fun k => f k == m with
  | none =>
    show List.any _ _ = false
    rw [List.any_map, List.any_eq_false]
    intro i hi
    have := first_none e i (List.mem_range.mp hi)
    simp only [Function.comp, eqV_nat]
    rw [this]; decide
  | some k =>
    obtain ⟨h1, h2, _⟩ := first_some e
    show List.any _ _ = true
    rw [List.any_map, List.any_eq_true]
    exact ⟨k, List.mem_range.mpr h1, by simp only [Function.comp, eqV_nat]; exact h2⟩
theorem dec_bl {p : Prop} [Decidable p] : V.bl (decide p) = V.bl (decide p) := rfl
theorem int_ext {a b : Nat} : decide (V.int (a : Nat) = V.int (b : Nat)) = (a == b) := by
  by_cases h : a = b
  · subst h; simp
  · have : ¬ V.int (a : Nat) = V.int (b : Nat) := fun z => h (by have := V.int.inj z; omega)
    rw [decide_eq_false this, beq_eq_false_iff_ne.mpr h]
theorem dec_int {a b : Int} : decide (V.int a = V.int b) = decide (a = b) := by
  by_cases h : a = b
  · subst h; simp
  · have : ¬ V.int a = V.int b := fun z => h (V.int.inj z)
    rw [decide_eq_false this, decide_eq_false h]
theorem any_first (n : Nat) (p : Nat → Bool) : (List.range n).any p = (first n p).isSome := by
  cases e : first n p with
  | none =>
    rw [List.any_eq_false.mpr fun i hi => by rw [first_none e i (List.mem_range.mp hi)]; decide]
    rfl
  | some k =>
    obtain ⟨h1, h2, _⟩ := first_some e
    rw [List.any_eq_true.mpr ⟨k, List.mem_range.mpr h1, h2⟩]
    rfl
theorem one_shl (i : Nat) : (1 : Int) * 2 ^ ((i : Int)).toNat = ((2 ^ i : Nat) : Int) := by
  rw [Int.one_mul, Int.toNat_natCast, Int.natCast_pow]
  rfl
theorem rg_nat (n : Nat) : rgV 0 (n : Int) = natV (List.range n) := by
  unfold rgV natV
  rw [Int.sub_zero, Int.toNat_natCast]
  refine List.map_congr_left fun i _ => ?_
  rw [Int.zero_add]
theorem natV_append (a b : List Nat) : natV (a ++ b) = natV a ++ natV b := List.map_append
theorem natV_length (a : List Nat) : (natV a).length = a.length := List.length_map _
theorem filter_snoc (p : Nat → Bool) (i : Nat) : (List.range (i + 1)).filter p = (List.range i).filter p ++ if p i then [i] else [] := by
  rw [List.range_succ, List.filter_append]
  cases h : p i <;> simp [List.filter, h]
theorem filter_le (p : Nat → Bool) (i : Nat) : ((List.range i).filter p).length ≤ i := Nat.le_trans (List.length_filter_le _ _) (by rw [List.length_range]; exact Nat.le_refl _)
theorem yfn0 {x : V} {i : Nat} (h : x = (fun i : Nat => V.int (0 + (i : Int))) i) : x = .int (i : Nat) := by
  rw [h]
  show V.int (0 + (i : Int)) = _
  rw [Int.zero_add]
theorem andnot_nat (a b : Nat) : Builtin.bitAnd (a : Int) (Builtin.bitNot (b : Int)) = ((a - (a &&& b) : Nat) : Int) := by
  have hneg : ¬ (0 ≤ Builtin.bitNot (b : Int)) := by show ¬ (0 ≤ -(b : Int) - 1); omega
  have hpos : (0 : Int) ≤ (a : Int) := Int.natCast_nonneg _
  have nn : Builtin.bitNot (Builtin.bitNot (b : Int)) = (b : Int) := by show -(-(b : Int) - 1) - 1 = _; omega
  have le : a &&& b ≤ a := Nat.and_le_left
  have e : Builtin.bitAnd (a : Int) (Builtin.bitNot (b : Int)) = (a : Int) - ((a &&& b : Nat) : Int) := by
    unfold Builtin.bitAnd
    rw [show decide ((0 : Int) ≤ (a : Int)) = true from decide_eq_true hpos, show decide ((0 : Int) ≤ Builtin.bitNot (b : Int)) = false from decide_eq_false hneg]
    show (a : Int) - (((a : Int).toNat &&& (Builtin.bitNot (Builtin.bitNot (b : Int))).toNat : Nat) : Int) = _
    rw [nn]
    rfl
  rw [e]
  omega
/-- a's digits are all in b -/
def part (a b : Nat) : Bool := (a &&& b) == a
theorem part_is (a b : Nat) : decide (V.int (Builtin.bitAnd (a : Int) (Builtin.bitNot (b : Int))) = V.int 0) = part a b := by
  rw [dec_int, andnot_nat]
  unfold part
  have le : a &&& b ≤ a := Nat.and_le_left
  by_cases h : a &&& b = a
  · rw [beq_iff_eq.mpr h, h, Nat.sub_self]; rfl
  · rw [beq_eq_false_iff_ne.mpr h]
    exact decide_eq_false (by omega)
theorem eqV_str' (a b : Str) : eqV (.str a) (.str b) = (a == b) := rfl
theorem nodup_at' {α : Type} {l : List α} (nd : l.Nodup) {i j : Nat} {x : α} (h1 : l[i]? = some x) (h2 : l[j]? = some x) : i = j := by
  obtain ⟨l1, e1⟩ := List.getElem?_eq_some_iff.mp h1
  obtain ⟨l2, e2⟩ := List.getElem?_eq_some_iff.mp h2
  rcases Nat.lt_trichotomy i j with c | c | c
  · exact absurd (e1.trans e2.symm) (List.pairwise_iff_getElem.mp nd i j l1 l2 c)
  · exact c
  · exact absurd (e2.trans e1.symm) (List.pairwise_iff_getElem.mp nd j i l2 l1 c)
/-! ### the plain law: chains and sets; small facts -/
section
theorem empty_app (x : Str) : Str.empty ++ x = x := by
  obtain ⟨a⟩ := x
  show (⟨#[] ++ a⟩ : Str) = ⟨a⟩
  rw [Array.empty_append]
theorem log_small {i : Nat} (h : i < 2 ^ 64) : ((i : Nat) : Int).natAbs.log2 < 1920 := by
  rw [Int.natAbs_natCast]
  rcases Nat.eq_zero_or_pos i with e | e
  · subst e; decide
  · exact Nat.lt_trans ((Nat.log2_lt (by omega)).mpr h) (by decide)
def natS (i : Nat) : Str := Str.ofString (toString ((i : Nat) : Int))
theorem mask_upto {n i : Nat} (h : i < n) : mask n (fun a => decide (a ≤ i)) = 2 ^ (i + 1) - 1 := by
  refine Nat.eq_of_testBit_eq fun j => ?_
  rw [mask_bit, Nat.testBit_two_pow_sub_one]
  by_cases c : j ≤ i
  · have : j < n := by omega
    have c2 : j < i + 1 := by omega
    simp [c, this, c2]
  · have c2 : ¬ j < i + 1 := by omega
    simp [c, c2]
theorem natS_len {i : Nat} (h : i ≤ 100) : (natS i).length ≤ 3 := by
  have q : ∀ j : Fin 101, (natS j.val).length ≤ 3 := by decide +kernel
  exact q ⟨i, by omega⟩
theorem small_line {n : Nat} (h : n ≤ 1000000) : n ≤ sizeLine := Nat.le_trans h (by decide)
def chainL (n : Nat) : Lt := { label := ("(chain " : Str) ++ natS n ++ (")" : Str), names := (List.range n).map natS, le := fun a b => decide (a ≤ b), depth := 1 }
theorem chainL_n (n : Nat) : (chainL n).n = n := by simp [chainL, Lt.n]
/-- one digit of a number, as a text -/
def digS (m k : Nat) : Str := if m.testBit k then ("1" : Str) else ("0" : Str)
theorem digS_is (m k : Nat) : (Str.ofString (toString (Builtin.bitAnd ((m : Int) / 2 ^ k) 1)) : Str) = digS m k := by
  rw [bit_int]
  unfold digS
  cases m.testBit k <;> rfl
theorem digS_log (m k : Nat) : (Builtin.bitAnd ((m : Int) / 2 ^ k) 1).natAbs.log2 < 1920 := by
  rw [bit_int]
  cases m.testBit k <;> decide
theorem digS_len (m k : Nat) : (digS m k).length = 1 := by
  unfold digS
  cases m.testBit k <;> rfl
def setDigs (c m : Nat) : List Str := (List.range c).map fun j => digS m (c - 1 - j)
def setName (c m : Nat) : Str := PySem.Txt.join (("" : Str)) (setDigs c m)
def setsL (c : Nat) : Lt := { label := ("(sets " : Str) ++ natS c ++ (")" : Str), names := (List.range (2 ^ c)).map (setName c), le := fun a b => part a b, depth := 1 }
theorem setsL_n (c : Nat) : (setsL c).n = 2 ^ c := by simp [setsL, Lt.n]
theorem setDigs_sum (c m : Nat) : ((setDigs c m).map (·.length)).sum = c := by
  unfold setDigs
  rw [List.map_map]
  have : ((fun x : Str => x.length) ∘ fun j => digS m (c - 1 - j)) = fun _ => 1 := by funext j; exact digS_len _ _
  rw [this, List.map_const']
  simp
end
/-! ### the plain law: joins and meets, chains and sets -/
namespace Lt
structure Ord (L : Lt) : Prop where
  refl : ∀ a, a < L.n → L.le a a = true
  anti : ∀ a b, a < L.n → b < L.n → L.le a b = true → L.le b a = true → a = b
theorem up_eq (L : Lt) (k : Nat) (p : Nat → Bool) : (L.up k == mask L.n p) = true ↔ ∀ i, i < L.n → L.le k i = p i := by
  rw [beq_iff_eq]; exact mask_eq
theorem down_eq (L : Lt) (k : Nat) (p : Nat → Bool) : (L.down k == mask L.n p) = true ↔ ∀ i, i < L.n → L.le i k = p i := by
  rw [beq_iff_eq]; exact mask_eq
theorem join_eq (L : Lt) (a b : Nat) : L.join a b = first L.n fun k => L.up k == mask L.n fun i => L.le a i && L.le b i := by
  unfold join
  rw [show L.up a &&& L.up b = mask L.n fun i => L.le a i && L.le b i from mask_and _ _ _]
theorem meet_eq (L : Lt) (a b : Nat) : L.meet a b = first L.n fun k => L.down k == mask L.n fun i => L.le i a && L.le i b := by
  unfold meet
  rw [show L.down a &&& L.down b = mask L.n fun i => L.le i a && L.le i b from mask_and _ _ _]
theorem Ord.ups {L : Lt} (o : L.Ord) {p : Nat → Bool} {k : Nat} (hk : k < L.n) (h : ∀ i, i < L.n → L.le k i = p i) : (first L.n fun k => L.up k == mask L.n p) = some k := by
  refine first_is hk ((up_eq L k p).mpr h) fun j hj => Bool.eq_false_iff.mpr fun z => ?_
  have z := (up_eq L j p).mp z
  have hj' : j < L.n := by omega
  have e := o.anti j k hj' hk (by rw [z k hk, ← h k hk]; exact o.refl k hk) (by rw [h j hj', ← z j hj']; exact o.refl j hj')
  omega
theorem Ord.downs {L : Lt} (o : L.Ord) {p : Nat → Bool} {k : Nat} (hk : k < L.n) (h : ∀ i, i < L.n → L.le i k = p i) : (first L.n fun k => L.down k == mask L.n p) = some k := by
  refine first_is hk ((down_eq L k p).mpr h) fun j hj => Bool.eq_false_iff.mpr fun z => ?_
  have z := (down_eq L j p).mp z
  have hj' : j < L.n := by omega
  have e := o.anti j k hj' hk (by rw [h j hj', ← z j hj']; exact o.refl j hj') (by rw [z k hk, ← h k hk]; exact o.refl k hk)
  omega
theorem Ord.join {L : Lt} (o : L.Ord) {a b k : Nat} (hk : k < L.n) (h : ∀ i, i < L.n → L.le k i = (L.le a i && L.le b i)) : L.join a b = some k := by rw [join_eq]; exact o.ups hk h
theorem Ord.meet {L : Lt} (o : L.Ord) {a b k : Nat} (hk : k < L.n) (h : ∀ i, i < L.n → L.le i k = (L.le i a && L.le i b)) : L.meet a b = some k := by rw [meet_eq]; exact o.downs hk h
theorem Ord.bot {L : Lt} (o : L.Ord) {k : Nat} (hk : k < L.n) (h : ∀ i, i < L.n → L.le k i = true) : L.bot = some k := by
  unfold Lt.bot
  rw [← mask_all]
  exact o.ups hk h
theorem Ord.top {L : Lt} (o : L.Ord) {k : Nat} (hk : k < L.n) (h : ∀ i, i < L.n → L.le i k = true) : L.top = some k := by
  unfold Lt.top
  rw [← mask_all]
  exact o.downs hk h
theorem irr_iff (L : Lt) (a : Nat) : L.irr a = true ↔ ∃ k, k < L.n ∧ ∀ i, i < L.n → L.le i k = (L.le i a && !(i == a)) := by
  unfold irr
  rw [List.any_eq_true]
  constructor
  · rintro ⟨k, hk, h⟩
    exact ⟨k, List.mem_range.mp hk, (down_eq L k _).mp h⟩
  · rintro ⟨k, hk, h⟩
    exact ⟨k, List.mem_range.mpr hk, (down_eq L k _).mpr h⟩
end Lt
theorem chain_ord (n : Nat) : (chainL n).Ord := ⟨fun a _ => by simp [chainL], fun a b _ _ h1 h2 => by simp [chainL] at h1 h2; omega⟩
theorem chain_join {n a b : Nat} (ha : a < n) (hb : b < n) : (chainL n).join a b = some (max a b) :=
  (chain_ord n).join (by rw [chainL_n]; omega) fun i _ => by
    show decide (max a b ≤ i) = (decide (a ≤ i) && decide (b ≤ i))
    rw [← Bool.decide_and]
    exact decide_eq_decide.mpr (by omega)
theorem chain_meet {n a b : Nat} (ha : a < n) (hb : b < n) : (chainL n).meet a b = some (min a b) :=
  (chain_ord n).meet (by rw [chainL_n]; omega) fun i _ => by
    show decide (i ≤ min a b) = (decide (i ≤ a) && decide (i ≤ b))
    rw [← Bool.decide_and]
    exact decide_eq_decide.mpr (by omega)
theorem chain_bot {n : Nat} (h : 1 ≤ n) : (chainL n).bot = some 0 := (chain_ord n).bot (by rw [chainL_n]; omega) fun i _ => by simp [chainL]
theorem chain_top {n : Nat} (h : 1 ≤ n) : (chainL n).top = some (n - 1) := (chain_ord n).top (by rw [chainL_n]; omega) fun i hi => by rw [chainL_n] at hi; simp [chainL]; omega
theorem chain_irr {n a : Nat} (ha : a < n) : (chainL n).irr a = decide (1 ≤ a) := by
  rw [Bool.eq_iff_iff, Lt.irr_iff, decide_eq_true_iff]
  rw [chainL_n]
  constructor
  · rintro ⟨k, hk, h⟩
    have := h k hk
    simp [chainL] at this
    omega
  · intro h
    refine ⟨a - 1, by omega, fun i hi => ?_⟩
    show decide (i ≤ a - 1) = (decide (i ≤ a) && !(i == a))
    rw [Bool.eq_iff_iff]
    simp
    omega
theorem range_pos : ∀ n : Nat, (List.range n).filter (fun a => decide (1 ≤ a)) = (List.range (n - 1)).map (· + 1)
  | 0 => rfl
  | 1 => rfl
  | n + 2 => by
    rw [List.range_succ, List.filter_append, range_pos (n + 1)]
    show _ = (List.range (n + 1)).map (· + 1)
    rw [List.range_succ (n := n), List.map_append]
    simp [List.filter]
theorem chain_irrs (n : Nat) : (chainL n).irrs = (List.range (n - 1)).map (· + 1) := by
  unfold Lt.irrs
  rw [chainL_n, ← range_pos]
  refine List.filter_congr fun a ha => ?_
  exact chain_irr (List.mem_range.mp ha)
theorem part_bits {a b : Nat} : part a b = true ↔ ∀ j, a.testBit j = true → b.testBit j = true := by
  unfold part
  rw [beq_iff_eq]
  constructor
  · intro h j hj
    have := congrArg (Nat.testBit · j) h
    simp only [Nat.testBit_and, hj, Bool.true_and] at this
    exact this
  · intro h
    refine Nat.eq_of_testBit_eq fun j => ?_
    rw [Nat.testBit_and]
    cases e : a.testBit j with
    | false => rfl
    | true => rw [h j e]; rfl
theorem part_refl (a : Nat) : part a a = true := part_bits.mpr fun _ h => h
theorem part_anti {a b : Nat} (h1 : part a b = true) (h2 : part b a = true) : a = b := by
  refine Nat.eq_of_testBit_eq fun j => ?_
  rw [Bool.eq_iff_iff]
  exact ⟨part_bits.mp h1 j, part_bits.mp h2 j⟩
theorem part_or (a b i : Nat) : part (a ||| b) i = (part a i && part b i) := by
  rw [Bool.eq_iff_iff, Bool.and_eq_true, part_bits, part_bits, part_bits]
  constructor
  · intro h
    exact ⟨fun j hj => h j (by rw [Nat.testBit_or, hj, Bool.true_or]), fun j hj => h j (by rw [Nat.testBit_or, hj, Bool.or_true])⟩
  · rintro ⟨h1, h2⟩ j hj
    rw [Nat.testBit_or, Bool.or_eq_true] at hj
    exact hj.elim (h1 j) (h2 j)
theorem part_and (a b i : Nat) : part i (a &&& b) = (part i a && part i b) := by
  rw [Bool.eq_iff_iff, Bool.and_eq_true, part_bits, part_bits, part_bits]
  constructor
  · intro h
    exact ⟨fun j hj => by have := h j hj; rw [Nat.testBit_and, Bool.and_eq_true] at this; exact this.1, fun j hj => by have := h j hj; rw [Nat.testBit_and, Bool.and_eq_true] at this; exact this.2⟩
  · rintro ⟨h1, h2⟩ j hj
    rw [Nat.testBit_and, h1 j hj, h2 j hj]; rfl
theorem sets_ord (c : Nat) : (setsL c).Ord := ⟨fun a _ => part_refl a, fun a b _ _ h1 h2 => part_anti h1 h2⟩
theorem sets_join {c a b : Nat} (ha : a < 2 ^ c) (hb : b < 2 ^ c) : (setsL c).join a b = some (a ||| b) :=
  (sets_ord c).join (by rw [setsL_n]; exact Nat.or_lt_two_pow ha hb) fun i _ => part_or a b i
theorem sets_meet {c a b : Nat} (ha : a < 2 ^ c) : (setsL c).meet a b = some (a &&& b) :=
  (sets_ord c).meet (by rw [setsL_n]; exact Nat.lt_of_le_of_lt Nat.and_le_left ha) fun i _ => part_and a b i
theorem sets_bot (c : Nat) : (setsL c).bot = some 0 := (sets_ord c).bot (by rw [setsL_n]; exact Nat.pow_pos (by decide)) fun i _ => part_bits.mpr fun j h => by simp at h
theorem sets_top (c : Nat) : (setsL c).top = some (2 ^ c - 1) := (sets_ord c).top (by rw [setsL_n]; have := Nat.pow_pos (n := c) (show 0 < 2 by decide); omega) fun i hi => by
  rw [setsL_n] at hi
  refine part_bits.mpr fun j h => ?_
  rw [Nat.testBit_two_pow_sub_one]
  refine decide_eq_true (Nat.lt_of_not_le fun z => ?_)
  rw [Nat.testBit_lt_two_pow (Nat.lt_of_lt_of_le hi (Nat.pow_le_pow_right (by decide) z))] at h
  cases h
theorem sets_irrs : ∀ c, c ≤ 6 → (setsL c).irrs = (List.range c).map (2 ^ ·) := by
  have q : ∀ c : Fin 7, (setsL c.val).irrs = (List.range c.val).map (2 ^ ·) := by decide +kernel
  exact fun c h => q ⟨c, by omega⟩
theorem sets_nodup : ∀ c, c ≤ 6 → (setsL c).names.Nodup := by
  have q : ∀ c : Fin 7, (setsL c.val).names.Nodup := by decide +kernel
  exact fun c h => q ⟨c, by omega⟩
theorem chain_nodup {n : Nat} (h : n ≤ 64) : (chainL n).names.Nodup := by
  have q : (chainL 64).names.Nodup := by decide +kernel
  have e : (chainL n).names = (chainL 64).names.take n := by
    show (List.range n).map natS = ((List.range 64).map natS).take n
    rw [← List.map_take, List.take_range, Nat.min_eq_left h]
  rw [e]
  exact q.sublist (List.take_sublist _ _)
section
/-- a statement: what is known behind it -/
theorem st_run {t u : TS} {D : Ends} {σ : L2.St} {H : Hp} (Pv : L2.St → Hp → Prop) (h : ∀ D' : Ends, D'.rt = D.rt → (∀ σ' H', Pv σ' H' → D'.nx σ' H') → t D' σ H) (q : ∀ σ' H', Pv σ' H' → u D σ' H') : tSeq t u D σ H := h _ rfl q
theorem rg_run {te : TE} {g : TG} {tb u : TS} {D : Ends} {σ : L2.St} {H : Hp} (Pv : Int → Hp → Prop) (h : ∀ Q' : V → Hp → Prop, (∀ n H', Pv n H' → Q' (.int n) H') → te σ H Q')
    (q : ∀ n H', Pv n H' → tSeq (tFor (iRng1 (tCons (tC (.int n)) tNil)) g tb) u D σ H') : tSeq (tFor (iRng1 (tCons te tNil)) g tb) u D σ H := h _ fun n H' p => q n H' p
/-- behind a new instance's __init__ -/
theorem made_same {H H' : Hp} {x dx : Addr} {o o2 : HO} (hx : H x = none) (hd : H dx = none) (b : But x (upd (upd H dx o) x o2) H') : Same H H' := fun c u hc => by
  have n1 := ne_of_none hc hx
  have n2 := ne_of_none hc hd
  exact b c u n1 (by rw [upd_ne n1, upd_ne n2]; exact hc)
theorem natV_int (l : List Nat) : natV l = (l.map fun i : Nat => (i : Int)).map V.int := by unfold natV; rw [List.map_map]; rfl
end
theorem str_at' {xs : List Str} {d : Int} (h0 : 0 ≤ d) (h1 : d < xs.length) : ∃ x, x ∈ xs ∧ atI (xs.map V.str) d = some (.str x) := by
  have hl : d.toNat < xs.length := by omega
  refine ⟨xs[d.toNat], List.getElem_mem hl, ?_⟩
  have e : d = (d.toNat : Int) := by omega
  have r : atI (xs.map V.str) (d.toNat : Int) = some (.str xs[d.toNat]) := atI_nat (by rw [List.getElem?_map, List.getElem?_eq_getElem hl]; rfl)
  rw [← e] at r
  exact r
/-! ### list.count of flat items -/
section
open PySem.Spec PyProof.Rows
variable {X : Cx}
theorem countP_eqU {x : V} : ∀ {xs : List V} {us : List Value}, Vals xs us → xs.all flatV = true → us.countP (eqU x) = xs.countP fun y => eqV y x
  | _, _, .nil, _ => rfl
  | y :: xs, u :: us, .cons r t, f => by
    rw [List.all_cons, Bool.and_eq_true] at f
    rw [List.countP_cons, List.countP_cons, countP_eqU t f.2, eqU_of r f.1]
def rCntF (K : PySem.W.Frag) : V → List V → Hp → VK → Prop := fun x xs H Q => ∃ (p : Addr) (ys : List V) (y : V), x = .ref p ∧ xs = [y] ∧ SqL K H p ys ∧ flatV y = true ∧ ys.all flatV = true ∧ Q (.int (ys.countP (fun z => eqV z y) : Nat)) H
theorem mt_countF : MtR X "list.count" (rCntF X.K) := by
  intro pins s σ H x xs v us Q I rx rxs h
  obtain ⟨p, ys, y, rfl, rfl, hs, fy, fys, q⟩ := h
  cases rx
  obtain ⟨uy, rfl, ry⟩ := rxs.one
  obtain ⟨its, rv, ⟨⟨cls, dd, dt, sl⟩, n, ho, hc, hdn, hd⟩, hlen⟩ := I.list hs
  simp only at hc hd
  subst hc hd
  refine call_meets PySem.F.slot_list_count ⟨_, ho, rfl⟩ PySem.F.entry_list_count (PySem.F.args_list_count_2 _ _)
    (SeqAt.list_countAt p its.toArray n dd sl uy (eqU y)) ⟨ho, fun w hw => mem_eqAt ry fy rv fys w (by simpa using hw), ?_⟩
  have ec : its.toArray.toList.countP (eqU y) = ys.countP fun z => eqV z y := countP_eqU rv fys
  refine ⟨.int (ys.countP (fun z => eqV z y) : Nat), H, I.tok _, ⟨s.toks, ?_⟩, q⟩
  show Value.int ((its.toArray.toList.countP (eqU y) : Nat) : Int) s.toks = _
  rw [ec]
theorem kx_mt_countF {X : Cx} (K : PySem.W.Frag) (h : X.K = K := by rfl) : MtR X "list.count" (rCntF K) := h ▸ mt_countF
theorem kx_mt_index {X : Cx} (K : PySem.W.Frag) (h : X.K = K := by rfl) : MtR X "list.index" (rIndex K) := h ▸ mt_index
theorem kx_mt_tindexF {X : Cx} (K : PySem.W.Frag) (h : X.K = K := by rfl) : MtR X "tuple.index" (rTupIx K) := h ▸ mt_tindexF
end
/-! ### the plain law: rows of pairs -/
/-- from a, along at most k pairs, to b -/
def reachK (ps : List (Nat × Nat)) : Nat → Nat → Nat → Bool
  | 0, a, b => a == b
  | k + 1, a, b => reachK ps k a b || ps.any fun q => q.2 == b && reachK ps k a q.1
inductive Reach (ps : List (Nat × Nat)) (a : Nat) : Nat → Prop where
  | here : Reach ps a a
  | step {b c : Nat} : Reach ps a b → (b, c) ∈ ps → Reach ps a c
theorem reachK_sound {ps : List (Nat × Nat)} {a : Nat} : ∀ {k b : Nat}, reachK ps k a b = true → Reach ps a b
  | 0, b, h => by
    have : a = b := by simpa [reachK] using h
    subst this; exact .here
  | k + 1, b, h => by
    rw [reachK, Bool.or_eq_true] at h
    rcases h with h | h
    · exact reachK_sound h
    · obtain ⟨⟨l, u⟩, hq, h2⟩ := List.any_eq_true.mp h
      rw [Bool.and_eq_true] at h2
      have e : u = b := by simpa using h2.1
      subst e
      exact .step (reachK_sound h2.2) hq
/-- what is closed under the pairs holds all that is reached -/
theorem Reach.of_closed {ps : List (Nat × Nat)} {a : Nat} (r : Nat → Prop) (h0 : r a) (hs : ∀ b c, (b, c) ∈ ps → r b → r c) : ∀ {b : Nat}, Reach ps a b → r b
  | _, .here => h0
  | _, .step h m => hs _ _ m (Reach.of_closed r h0 hs h)
theorem Reach.trans {ps : List (Nat × Nat)} {a b : Nat} (h1 : Reach ps a b) : ∀ {c : Nat}, Reach ps b c → Reach ps a c
  | _, .here => h1
  | _, .step h m => .step (Reach.trans h1 h) m
/-- the order of the pairs: closed at k steps -/
theorem reach_iff {ps : List (Nat × Nat)} {n k : Nat} (hp : ∀ q ∈ ps, q.1 < n ∧ q.2 < n) (hc : ∀ a b, a < n → b < n → reachK ps (k + 1) a b = true → reachK ps k a b = true) {a b : Nat} (ha : a < n) : Reach ps a b ↔ reachK ps k a b = true := by
  constructor
  · intro h
    have refl : ∀ j, reachK ps j a a = true := fun j => by
      induction j with
      | zero => simp [reachK]
      | succ j ih => rw [reachK, ih, Bool.true_or]
    refine Reach.of_closed (fun b => reachK ps k a b = true) (refl k) (fun b c m hb => hc a c ha (hp _ m).2 ?_) h
    rw [reachK, Bool.or_eq_true]
    exact .inr (List.any_eq_true.mpr ⟨(b, c), m, by simp [hb]⟩)
  · exact reachK_sound
open Classical in
noncomputable def reachB (ps : List (Nat × Nat)) (a b : Nat) : Bool := decide (Reach ps a b)
open Classical in
theorem reachB_iff {ps : List (Nat × Nat)} {a b : Nat} : reachB ps a b = true ↔ Reach ps a b := by unfold reachB; exact decide_eq_true_iff
/-- the number of marks in rows -/
def marks (n : Nat) (p : Nat → Nat → Bool) : Nat := ((List.range n).map fun b => ((List.range n).filter (p b)).length).sum
theorem sum_le {f g : Nat → Nat} : ∀ {l : List Nat}, (∀ x ∈ l, f x ≤ g x) → (l.map f).sum ≤ (l.map g).sum
  | [], _ => Nat.le_refl _
  | x :: l, h => by
    simp only [List.map_cons, List.sum_cons]
    exact Nat.add_le_add (h x (.head _)) (sum_le fun y hy => h y (.tail _ hy))
theorem sum_lt {f g : Nat → Nat} : ∀ {l : List Nat}, (∀ x ∈ l, f x ≤ g x) → (∃ x ∈ l, f x < g x) → (l.map f).sum < (l.map g).sum
  | [], _, ⟨x, hx, _⟩ => by cases hx
  | x :: l, h, ⟨y, hy, hl⟩ => by
    simp only [List.map_cons, List.sum_cons]
    rcases List.mem_cons.mp hy with e | e
    · subst e
      exact Nat.add_lt_add_of_lt_of_le hl (sum_le fun z hz => h z (.tail _ hz))
    · exact Nat.add_lt_add_of_le_of_lt (h x (.head _)) (sum_lt (fun z hz => h z (.tail _ hz)) ⟨y, e, hl⟩)
theorem filter_len_le {p q : Nat → Bool} : ∀ {l : List Nat}, (∀ x ∈ l, p x = true → q x = true) → (l.filter p).length ≤ (l.filter q).length
  | [], _ => Nat.le_refl _
  | x :: l, h => by
    have ih := filter_len_le (l := l) fun y hy => h y (.tail _ hy)
    have hx := h x (.head _)
    cases e : p x with
    | false =>
      cases e2 : q x <;> simp [List.filter, e, e2] <;> omega
    | true =>
      have e2 := hx e
      simp [List.filter, e, e2]; omega
theorem filter_len_lt {p q : Nat → Bool} : ∀ {l : List Nat}, (∀ x ∈ l, p x = true → q x = true) → (∃ x ∈ l, p x = false ∧ q x = true) → (l.filter p).length < (l.filter q).length
  | [], _, ⟨x, hx, _⟩ => by cases hx
  | x :: l, h, ⟨y, hy, h1, h2⟩ => by
    have hx := h x (.head _)
    have ih := filter_len_le (l := l) fun y hy => h y (.tail _ hy)
    rcases List.mem_cons.mp hy with e | e
    · subst e
      simp [List.filter, h1, h2]; omega
    · have ih2 := filter_len_lt (l := l) (fun z hz => h z (.tail _ hz)) ⟨y, e, h1, h2⟩
      cases e3 : p x with
      | false => cases e4 : q x <;> simp [List.filter, e3, e4] <;> omega
      | true => have e4 := hx e3; simp [List.filter, e3, e4]; omega
theorem marks_lt {n : Nat} {p q : Nat → Nat → Bool} (h : ∀ b a, b < n → a < n → p b a = true → q b a = true) {b a : Nat} (hb : b < n) (ha : a < n) (h1 : p b a = false) (h2 : q b a = true) : marks n p < marks n q := by
  unfold marks
  refine sum_lt (fun x hx => filter_len_le fun y hy => h x y (List.mem_range.mp hx) (List.mem_range.mp hy)) ⟨b, List.mem_range.mpr hb, filter_len_lt (fun y hy => h b y hb (List.mem_range.mp hy)) ⟨a, List.mem_range.mpr ha, h1, h2⟩⟩
theorem sum_rep (m : Nat) : ∀ k, (List.replicate k m).sum = k * m
  | 0 => by simp
  | k + 1 => by rw [List.replicate_succ, List.sum_cons, sum_rep m k, Nat.succ_mul]; omega
theorem marks_le (n : Nat) (p : Nat → Nat → Bool) : marks n p ≤ n * n := by
  unfold marks
  have : ((List.range n).map fun b => ((List.range n).filter (p b)).length).sum ≤ ((List.range n).map fun _ => n).sum := sum_le fun x _ => filter_le _ _
  rw [List.map_const', List.length_range, sum_rep] at this
  exact this
/-! ### the plain law: orders as rows -/
/-- the join by rows: the first upper bound within all upper bounds -/
def rowJ (n : Nat) (R : Nat → Nat → Bool) (a b : Nat) : Option Nat := first n fun c => (R a c && R b c) && (List.range n).all fun d => !(R a d && R b d) || R c d
def rowF (R : Nat → Nat → Bool) : Nat → Nat → Bool := fun a b => R b a
def rowLow (n : Nat) (R : Nat → Nat → Bool) : Option Nat := first n fun a => (List.range n).all fun d => R a d
structure Pre (n : Nat) (R : Nat → Nat → Bool) : Prop where
  refl : ∀ a, a < n → R a a = true
  trans : ∀ a b c, a < n → b < n → c < n → R a b = true → R b c = true → R a c = true
theorem Pre.flip {n : Nat} {R : Nat → Nat → Bool} (h : Pre n R) : Pre n (rowF R) := ⟨h.refl, fun a b c ha hb hc h1 h2 => h.trans c b a hc hb ha h2 h1⟩
theorem Pre.row {n : Nat} {R : Nat → Nat → Bool} (h : Pre n R) {a b k : Nat} (ha : a < n) (hb : b < n) (hk : k < n) : (∀ i, i < n → R k i = (R a i && R b i)) ↔ ((R a k && R b k) && (List.range n).all fun d => !(R a d && R b d) || R k d) = true := by
  rw [Bool.and_eq_true, List.all_eq_true]
  constructor
  · intro q
    refine ⟨by rw [← q k hk]; exact h.refl k hk, fun d hd => ?_⟩
    rw [q d (List.mem_range.mp hd)]
    cases (R a d && R b d) <;> rfl
  · rintro ⟨q1, q2⟩ i hi
    rw [Bool.and_eq_true] at q1
    have := q2 i (List.mem_range.mpr hi)
    rw [Bool.eq_iff_iff]
    constructor
    · intro z
      rw [Bool.and_eq_true]
      exact ⟨h.trans a k i ha hk hi q1.1 z, h.trans b k i hb hk hi q1.2 z⟩
    · intro z
      rw [z] at this
      simpa using this
theorem join_row {L : Lt} (h : Pre L.n L.le) {a b : Nat} (ha : a < L.n) (hb : b < L.n) : L.join a b = rowJ L.n L.le a b := by
  rw [Lt.join_eq]
  refine first_ext fun k hk => ?_
  rw [Bool.eq_iff_iff, Lt.up_eq]
  exact h.row ha hb hk
theorem meet_row {L : Lt} (h : Pre L.n L.le) {a b : Nat} (ha : a < L.n) (hb : b < L.n) : L.meet a b = rowJ L.n (rowF L.le) a b := by
  rw [Lt.meet_eq]
  refine first_ext fun k hk => ?_
  rw [Bool.eq_iff_iff, Lt.down_eq]
  exact h.flip.row ha hb hk
theorem bot_row (L : Lt) : L.bot = rowLow L.n L.le := by
  refine first_ext fun k hk => ?_
  rw [Bool.eq_iff_iff, ← mask_all, Lt.up_eq, List.all_eq_true]
  exact ⟨fun q x hx => q x (List.mem_range.mp hx), fun q x hx => q x (List.mem_range.mpr hx)⟩
theorem top_row (L : Lt) : L.top = rowLow L.n (rowF L.le) := by
  refine first_ext fun k hk => ?_
  rw [Bool.eq_iff_iff, ← mask_all, Lt.down_eq, List.all_eq_true]
  exact ⟨fun q x hx => q x (List.mem_range.mp hx), fun q x hx => q x (List.mem_range.mpr hx)⟩
theorem rowJ_ext {n : Nat} {R S : Nat → Nat → Bool} (h : ∀ a b, a < n → b < n → R a b = S a b) {a b : Nat} (ha : a < n) (hb : b < n) : rowJ n R a b = rowJ n S a b := by
  refine first_ext fun k hk => ?_
  rw [h a k ha hk, h b k hb hk]
  congr 1
  rw [Bool.eq_iff_iff, List.all_eq_true, List.all_eq_true]
  exact ⟨fun q x hx => by have hx' := List.mem_range.mp hx; rw [← h a x ha hx', ← h b x hb hx', ← h k x hk hx']; exact q x hx, fun q x hx => by have hx' := List.mem_range.mp hx; rw [h a x ha hx', h b x hb hx', h k x hk hx']; exact q x hx⟩
theorem rowJ_spec {n : Nat} {R : Nat → Nat → Bool} {a b k : Nat} (h : rowJ n R a b = some k) : k < n ∧ R a k = true ∧ R b k = true ∧ ∀ d, d < n → R a d = true → R b d = true → R k d = true := by
  obtain ⟨h1, h2, _⟩ := first_some h
  rw [Bool.and_eq_true, Bool.and_eq_true, List.all_eq_true] at h2
  refine ⟨h1, h2.1.1, h2.1.2, fun d hd q1 q2 => ?_⟩
  have := h2.2 d (List.mem_range.mpr hd)
  rw [q1, q2] at this
  simpa using this
/-! irreducible values where all joins and the bottom are there -/
/-- a value that is no bottom and no join of two others -/
def rowIrr (n : Nat) (R : Nat → Nat → Bool) (a : Nat) : Bool := !((List.range n).any fun b => !(b == a) && (List.range n).any fun c => !(c == a) && rowJ n R b c == some a) && !(some a == rowLow n R)
theorem irr_row {L : Lt} (o : L.Ord) (h : Pre L.n L.le) {l : Nat} (hl : rowLow L.n L.le = some l) (hj : ∀ a b, a < L.n → b < L.n → ∃ k, rowJ L.n L.le a b = some k) {a : Nat} (ha : a < L.n) : L.irr a = rowIrr L.n L.le a := by
  obtain ⟨l1, l2, _⟩ := first_some hl
  have l2 : ∀ d, d < L.n → L.le l d = true := fun d hd => (List.all_eq_true.mp l2) d (List.mem_range.mpr hd)
  rw [Bool.eq_iff_iff]
  unfold Lt.irr rowIrr
  rw [List.any_eq_true, Bool.and_eq_true, hl]
  constructor
  · rintro ⟨g, hg, q⟩
    have hg := List.mem_range.mp hg
    have q := (Lt.down_eq L g _).mp q
    have ga : L.le g a = true ∧ g ≠ a := by
      have := q g hg
      rw [h.refl g hg] at this
      have := this.symm
      simpa using this
    refine ⟨?_, ?_⟩
    · rw [Bool.not_eq_true', Bool.eq_false_iff]
      intro z
      obtain ⟨b, hb, z⟩ := List.any_eq_true.mp z
      rw [Bool.and_eq_true] at z
      obtain ⟨c, hc, z2⟩ := List.any_eq_true.mp z.2
      rw [Bool.and_eq_true] at z2
      have hb := List.mem_range.mp hb
      have hc := List.mem_range.mp hc
      have e : rowJ L.n L.le b c = some a := by simpa using z2.2
      obtain ⟨_, j1, j2, j3⟩ := rowJ_spec e
      have b1 : L.le b g = true := by rw [q b hb, j1]; simpa using z.1
      have c1 : L.le c g = true := by rw [q c hc, j2]; simpa using z2.1
      exact ga.2 (o.anti g a hg ha ga.1 (j3 g hg b1 c1))
    · rw [Bool.not_eq_true', beq_eq_false_iff_ne]
      intro z
      have z := Option.some.inj z
      rw [← z] at l2
      exact ga.2 (o.anti g a hg ha ga.1 (l2 g hg))
  · rintro ⟨q1, q2⟩
    have ne : a ≠ l := by simpa using q2
    have nm : ∀ b c, b < L.n → c < L.n → b ≠ a → c ≠ a → rowJ L.n L.le b c ≠ some a := fun b c hb hc nb nc e => by
      rw [Bool.not_eq_true', Bool.eq_false_iff] at q1
      refine q1 (List.any_eq_true.mpr ⟨b, List.mem_range.mpr hb, ?_⟩)
      rw [Bool.and_eq_true]
      refine ⟨by simpa using nb, List.any_eq_true.mpr ⟨c, List.mem_range.mpr hc, ?_⟩⟩
      rw [Bool.and_eq_true]
      exact ⟨by simpa using nc, by rw [e]; exact beq_self_eq_true _⟩
    -- the join of all lesser values below m
    have fold : ∀ m, m ≤ L.n → ∃ g, g < L.n ∧ L.le g a = true ∧ g ≠ a ∧ ∀ i, i < m → L.le i a = true → i ≠ a → L.le i g = true := fun m => by
      induction m with
      | zero => exact fun _ => ⟨l, l1, l2 a ha, fun e => ne e.symm, fun i hi => absurd hi (Nat.not_lt_zero _)⟩
      | succ m ih =>
        intro hm
        obtain ⟨g, g1, g2, g3, g4⟩ := ih (by omega)
        by_cases c : L.le m a = true ∧ m ≠ a
        · obtain ⟨k, hk⟩ := hj g m g1 (by omega)
          obtain ⟨k1, k2, k3, k4⟩ := rowJ_spec hk
          refine ⟨k, k1, k4 a ha g2 c.1, fun e => nm g m g1 (by omega) g3 c.2 (by rw [hk, e]), fun i hi hia ne' => ?_⟩
          rcases Nat.lt_or_ge i m with x | x
          · exact h.trans i g k (by omega) g1 k1 (g4 i x hia ne') k2
          · obtain rfl : i = m := by omega
            exact k3
        · refine ⟨g, g1, g2, g3, fun i hi hia ne' => ?_⟩
          rcases Nat.lt_or_ge i m with x | x
          · exact g4 i x hia ne'
          · obtain rfl : i = m := by omega
            exact absurd ⟨hia, ne'⟩ c
    obtain ⟨g, g1, g2, g3, g4⟩ := fold L.n (Nat.le_refl _)
    refine ⟨g, List.mem_range.mpr g1, (Lt.down_eq L g _).mpr fun i hi => ?_⟩
    rw [Bool.eq_iff_iff]
    constructor
    · intro z
      have ia := h.trans i g a hi g1 ha z g2
      rw [ia]
      have : i ≠ a := fun e => by subst e; exact g3 (o.anti g i g1 hi g2 z)
      simpa using this
    · intro z
      rw [Bool.and_eq_true] at z
      exact g4 i hi z.1 (by simpa using z.2)
theorem irrs_row {L : Lt} (o : L.Ord) (h : Pre L.n L.le) {l : Nat} (hl : rowLow L.n L.le = some l) (hj : ∀ a b, a < L.n → b < L.n → ∃ k, rowJ L.n L.le a b = some k) : L.irrs = (List.range L.n).filter (rowIrr L.n L.le) :=
  List.filter_congr fun a ha => irr_row o h hl hj (List.mem_range.mp ha)
/-! the closure of pairs, as _law_closed makes it -/
/-- the rows after c of the outer rounds -/
def closeK (R : Nat → Nat → Bool) : Nat → Nat → Nat → Bool
  | 0 => R
  | c + 1 => fun a b => closeK R c a b || (closeK R c a c && closeK R c c b)
theorem closeK_mono {R : Nat → Nat → Bool} {c a b : Nat} (h : closeK R c a b = true) : closeK R (c + 1) a b = true := by
  show (closeK R c a b || _) = true
  rw [h, Bool.true_or]
theorem closeK_le {R : Nat → Nat → Bool} {a b : Nat} : ∀ {c}, R a b = true → closeK R c a b = true
  | 0, h => h
  | c + 1, h => closeK_mono (closeK_le h)
theorem closeK_trans {R : Nat → Nat → Bool} : ∀ {c k a b : Nat}, k < c → closeK R c a k = true → closeK R c k b = true → closeK R c a b = true
  | 0, k, a, b, hk, _, _ => absurd hk (Nat.not_lt_zero _)
  | c + 1, k, a, b, hk, h1, h2 => by
    have ih := @closeK_trans R c
    have h1 : (closeK R c a k || (closeK R c a c && closeK R c c k)) = true := h1
    have h2 : (closeK R c k b || (closeK R c k c && closeK R c c b)) = true := h2
    show (closeK R c a b || (closeK R c a c && closeK R c c b)) = true
    rw [Bool.or_eq_true, Bool.and_eq_true] at h1 h2 ⊢
    rcases Nat.lt_or_ge k c with x | x
    · rcases h1 with h1 | ⟨h1, h1'⟩ <;> rcases h2 with h2 | ⟨h2, h2'⟩
      · exact .inl (ih x h1 h2)
      · exact .inr ⟨ih x h1 h2, h2'⟩
      · exact .inr ⟨h1, ih x h1' h2⟩
      · exact .inr ⟨h1, h2'⟩
    · obtain rfl : k = c := by omega
      rcases h1 with h1 | ⟨h1, h1'⟩ <;> rcases h2 with h2 | ⟨h2, h2'⟩
      · exact .inr ⟨h1, h2⟩
      · exact .inr ⟨h1, h2'⟩
      · exact .inr ⟨h1, h2⟩
      · exact .inr ⟨h1, h2'⟩
/-- the rows of pairs -/
def rowsOf (ps : List (Nat × Nat)) : Nat → Nat → Bool := fun a b => a == b || ps.contains (a, b)
def closedR (n : Nat) (ps : List (Nat × Nat)) : Nat → Nat → Bool := closeK (rowsOf ps) n
theorem closed_reach {n : Nat} {ps : List (Nat × Nat)} (hp : ∀ q ∈ ps, q.1 < n ∧ q.2 < n) {a b : Nat} : closedR n ps a b = true ↔ Reach ps a b := by
  constructor
  · have : ∀ c a b, closeK (rowsOf ps) c a b = true → Reach ps a b := fun c => by
      induction c with
      | zero =>
        intro a b h
        have h : (a == b || ps.contains (a, b)) = true := h
        rw [Bool.or_eq_true] at h
        rcases h with h | h
        · obtain rfl : a = b := by simpa using h
          exact .here
        · exact .step .here (by simpa using h)
      | succ c ih =>
        intro a b h
        have h : (closeK (rowsOf ps) c a b || (closeK (rowsOf ps) c a c && closeK (rowsOf ps) c c b)) = true := h
        rw [Bool.or_eq_true, Bool.and_eq_true] at h
        rcases h with h | ⟨h1, h2⟩
        · exact ih a b h
        · exact (ih a c h1).trans (ih c b h2)
    exact this n a b
  · intro h
    refine Reach.of_closed (fun b => closedR n ps a b = true) (closeK_le (show (a == a || _) = true by rw [beq_self_eq_true, Bool.true_or])) (fun b c m hb => ?_) h
    refine closeK_trans (k := b) (hp _ m).1 hb (closeK_le ?_)
    show (b == c || ps.contains (b, c)) = true
    rw [Bool.or_eq_true]
    exact .inr (by simpa using m)
theorem closed_pre {n : Nat} {ps : List (Nat × Nat)} (hp : ∀ q ∈ ps, q.1 < n ∧ q.2 < n) : Pre n (closedR n ps) :=
  ⟨fun a _ => (closed_reach hp).mpr .here, fun a b c _ _ _ h1 h2 => (closed_reach hp).mpr (((closed_reach hp).mp h1).trans ((closed_reach hp).mp h2))⟩
/-- one outer round, in place: what has been gone over is as the next round's rows -/
theorem closeK_col {R : Nat → Nat → Bool} {c a : Nat} : closeK R (c + 1) a c = closeK R c a c := by
  show (closeK R c a c || (closeK R c a c && closeK R c c c)) = _
  cases closeK R c a c <;> simp
theorem closeK_row {R : Nat → Nat → Bool} {c b : Nat} : closeK R (c + 1) c b = closeK R c c b := by
  show (closeK R c c b || (closeK R c c c && closeK R c c b)) = _
  cases closeK R c c b <;> cases closeK R c c c <;> rfl
/-! ### comprehensions of two fors -/
section
theorem lc2_it {J : It} {n : Nat} {G : Hp → Prop} {Y : Nat → Hp → V → Hp → Prop} (w : Walk J n G Y) {g : TG} {tt : TT} {vs : List Nat} {σ : L2.St} {H1 : Hp} {D : Addr} {Qd : Hp → Prop} {In : L2.St → Hp → (Hp → Prop) → Prop} (Pv : Nat → Hp → Prop) (h0 : Pv 0 (upd H1 D (.lst [])))
    (hG : ∀ i H, i ≤ n → Pv i H → G H)
    (hs : ∀ i x H H', i < n → Pv i H → Y i H x H' → g x (wipe σ vs) H' fun σ2 H2 => wipe σ2 vs = wipe σ vs ∧ tt σ2 H2 fun b H3 => if b = true then In σ2 H3 (Pv (i + 1)) else Pv (i + 1) H3) (hd : ∀ H, Pv n H → Qd H) :
    ∃ W : Nat → Nat → Hp → Prop, (∃ m, W 0 m (upd H1 D (.lst []))) ∧ ∀ i m H, W i m H →
      (J.stop i H ∧ Qd H) ∨ (J.go i H ∧ ∃ Nx : Hp → Prop, (∀ H', Nx H' → ∃ m', m' < m ∧ W (i + 1) m' H') ∧ ∀ x H', J.yld i H x H' → g x (wipe σ vs) H' fun σ2 H2 => wipe σ2 vs = wipe σ vs ∧ tt σ2 H2 fun b H3 => if b = true then In σ2 H3 Nx else Nx H3) := by
  refine ⟨fun i m H => m = n - i ∧ i ≤ n ∧ Pv i H, ⟨n, rfl, Nat.zero_le _, h0⟩, fun i m H ⟨em, hi, p⟩ => ?_⟩
  subst em
  have q := hG i H hi p
  rcases Nat.lt_or_ge i n with hlt | hge
  · exact .inr ⟨w.goes i H hlt q, Pv (i + 1), fun H' p' => ⟨n - (i + 1), by omega, rfl, hlt, p'⟩, fun x H' y => hs i x H H' hlt p (w.yields i H x H' hlt q y)⟩
  · have e : i = n := by omega
    subst e
    exact .inl ⟨w.stops H q, hd H p⟩
theorem in_fold {J : It} {n : Nat} {G : Hp → Prop} {Y : Nat → Hp → V → Hp → Prop} (w : Walk J n G Y) {g : TG} {tt : TT} {te : TE} {vs : List Nat} {σ : L2.St} {H1 : Hp} {D : Addr} {Qd : Hp → Prop} (Pv : Nat → Hp → Prop) (h0 : Pv 0 H1) (hG : ∀ i H, i ≤ n → Pv i H → G H)
    (hs : ∀ i x H H', i < n → Pv i H → Y i H x H' → g x (wipe σ vs) H' fun σ2 H2 => wipe σ2 vs = wipe σ vs ∧ tt σ2 H2 fun b H3 => if b = true then te σ2 H3 fun y H4 => ∃ acc, H4 D = some (.lst acc) ∧ acc.length < sizeLine ∧ Pv (i + 1) (upd H4 D (.lst (acc ++ [y]))) else Pv (i + 1) H3)
    (hd : ∀ H, Pv n H → Qd H) :
    ∃ W : Nat → Nat → Hp → Prop, (∃ m, W 0 m H1) ∧ ∀ i m H, W i m H →
      (J.stop i H ∧ Qd H) ∨ (J.go i H ∧ ∃ Nx : Hp → Prop, (∀ H', Nx H' → ∃ m', m' < m ∧ W (i + 1) m' H') ∧ ∀ x H', J.yld i H x H' → g x (wipe σ vs) H' fun σ2 H2 => wipe σ2 vs = wipe σ vs ∧ tt σ2 H2 fun b H3 =>
        if b = true then te σ2 H3 fun y H4 => ∃ acc, H4 D = some (.lst acc) ∧ acc.length < sizeLine ∧ Nx (upd H4 D (.lst (acc ++ [y]))) else Nx H3) := by
  refine ⟨fun i m H => m = n - i ∧ i ≤ n ∧ Pv i H, ⟨n, rfl, Nat.zero_le _, h0⟩, fun i m H ⟨em, hi, p⟩ => ?_⟩
  subst em
  have q := hG i H hi p
  rcases Nat.lt_or_ge i n with hlt | hge
  · exact .inr ⟨w.goes i H hlt q, Pv (i + 1), fun H' p' => ⟨n - (i + 1), by omega, rfl, hlt, p'⟩, fun x H' y => hs i x H H' hlt p (w.yields i H x H' hlt q y)⟩
  · have e : i = n := by omega
    subst e
    exact .inl ⟨w.stops H q, hd H p⟩
end
/-! ### isinstance of a caught error that has a dict -/
section
open PySem.Spec PyProof.Rows
def rIsED (K : PySem.W.Frag) (D a dd : Addr) : List V → Hp → VK → Prop := fun xs H Q => ∃ (c : V) (cv : Value) (b : Bool) (fs : List (Str × V)), xs = [.ref a, c] ∧ (∀ u, RelV c u → u = cv) ∧ PySem.W.kitOne K (.ref D) cv = some b ∧ H dd = some (.xd fs) ∧ Q (.bl b) H
theorem call_isED' {X : Cx} {a D dd : Addr} {oe : Obj} {pn : List (Addr × Obj)} (C : ExcC X.K D) (hz : Zc (.ref D) (some dd) oe) (hf : ∃ vs, oe.data = .fields vs) : CallR (X.suite a ((a, oe) :: pn)) (.builtin "isinstance") (rIsED X.K D a dd) := by
  intro pins s σ H xs us Q I r h
  obtain ⟨c, cv, b, fs, rfl, hcv, e, hxd, q⟩ := h
  cases r with
  | cons rx rr =>
    cases rr with
    | cons rt rr =>
      cases rr
      cases rx
      have ec := hcv _ rt
      subst ec
      obtain ⟨hget, _⟩ := I.pin (a, oe) (List.mem_append.mpr (.inl List.mem_cons_self))
      obtain ⟨vs, hv⟩ := hf
      obtain ⟨mA, hn, _⟩ := I.hok dd _ hxd
      obtain ⟨ox, es, ep, ho, _⟩ := hn
      have J : PySem.W.InstAt s.heap a oe D (some ox) := by
        obtain ⟨oc, od, oda, osl⟩ := oe
        obtain ⟨h1, h2⟩ := hz
        dsimp only at h1 h2 hv
        subst h1 h2 hv
        exact ⟨hget, rfl, rfl, ho⟩
      have hcl : (PySem.W.clsIn X.K D).isSome = true := by
        obtain ⟨cd, hc, _⟩ := PySem.W.any_some C.hd
        rw [hc]; rfl
      exact PySem.W.kia_one (PySem.W.kitx_exc hcl C.hg C.hk C.hs C.ha C.hn C.ht C.hm) I.kIn J e (fun z => nomatch z) fun tk => ⟨.bl b, H, I.kept (t' := tk) fun _ _ z => z, rfl, q⟩
/-- the same, the class and the dict of the caught error left to the reading -/
def rIsX (K : PySem.W.Frag) (cls : Value) (d : Option Addr) (a : Addr) : List V → Hp → VK → Prop := fun xs H Q => ∃ D dd, cls = .ref D ∧ d = some dd ∧ ExcC K D ∧ rIsED K D a dd xs H Q
theorem call_isX {X : Cx} {a : Addr} {cls : Value} {d : Option Addr} {oe : Obj} {pn : List (Addr × Obj)} (hz : Zc cls d oe) (hf : ∃ vs, oe.data = .fields vs) : CallR (X.suite a ((a, oe) :: pn)) (.builtin "isinstance") (rIsX X.K cls d a) := by
  intro pins s σ H xs us Q I r h
  obtain ⟨D, dd, rfl, rfl, C, h⟩ := h
  exact call_isED' C hz hf pins s σ H xs us Q I r h
end
/-! ### errors without an own __init__; a def that may raise, where it does not -/
section
open PySem PySem.Spec PyProof.Rows
/-- a def's promise, and another one where it may raise -/
theorem _root_.L2.FnOk.or0 {P : Program} {w : World} {K : PySem.W.Frag} {mg : Str → Option Value} {base : Heap} {j k : Nat} {f : Addr} {fd : FuncData} {ps : List Str} {sp sp' : Sp} (F : FnOk P w K mg base CX0 j f fd ps sp) (G : FnOk P w K mg base (L2.CX P w) k f fd ps sp') (hjk : j ≤ k) : FnOk P w K mg base (L2.CX P w) k f fd ps (fun vs H Q E => sp vs H Q E ∨ sp' vs H Q E) := by
  refine ⟨fun vs H Q E q => q.elim (F.len vs H Q E) (G.len vs H Q E), fun A outer s H args us vs Q E hr e0 hb r q => ?_⟩
  rcases q with q | q
  · refine codeAny_mono (F.run A outer s H args us vs Q E (hr.mono hjk) e0 hb r q) fun x s' z => ?_
    cases x with
    | error e => exact z.elim
    | ok fl => cases fl <;> exact z
  · exact G.run A outer s H args us vs Q E hr e0 hb r q
theorem _root_.L2.FnOk.still {P : Program} {w : World} {K : PySem.W.Frag} {mg : Str → Option Value} {base : Heap} {k : Nat} {f : Addr} {fd : FuncData} {ps : List Str} {sp sp' : Sp} (F : FnOk P w K mg base (L2.CX P w) k f fd ps sp) (h : ∀ vs H Q E, sp' vs H Q E → sp vs H Q fun _ _ _ => False) : FnOk P w K mg base CX0 k f fd ps sp' := by
  refine ⟨fun vs H Q E q => F.len vs H Q _ (h vs H Q E q), fun A outer s H args us vs Q E hr e0 hb r q => ?_⟩
  refine codeAny_mono (F.run A outer s H args us vs Q (fun _ _ _ => False) hr e0 hb r (h vs H Q E q)) fun x s' z => ?_
  cases x with
  | error e =>
    obtain ⟨_, _, _, _, _, _, _, _, _, _, _, _, z⟩ := z
    exact z.elim
  | ok fl => cases fl <;> exact z
variable {X : Cx} {C : Addr} {bmB : List Value} {B newId initId : String}
theorem pmk_own0 {x : Str} {p pos : Pos} (F : ExcBaseFacts B newId initId bmB) (q : PySem.W.excIn X.K C bmB newId = true) (gC : X.mg x = some (.ref C)) (kC : PySem.W.keepIn X.K (.ref C) = true) (r : Raises X (.ref C)) (hg : Gl X x)
    (hdb : (x == ("__debug__" : Str)) = false := by decide) : PMk X (.Call (.Name x p) [] [] pos) (fun _ H Q => Q (.ref C) none H) := by
  intro pins s σ H Q I h
  refine wpAny_Call_Name_kw (ld_glob I hg gC ?_ hdb)
  refine PySem.W.callWith_K0 I.kIn kC ?_
  obtain ⟨bm, N, nm, qn, bs, hdct, sn, sub, ab, col, dd, k0, k1, k2, k3, k5, mN, hC, hN, hni, T⟩ := exc_obj I.kIn q
  refine wpAny_call_exc_subT F T hC hN hni (fun h' e hm => ?_) (Nat.zero_le _)
  exact mk_of I hm r h (I.hok.gone hm.new)
end
section
open PySem PySem.Spec PyProof.Rows
variable {X : Cx} {CX : CXT} {k : Nat} {f C : Addr} {fd : FuncData} {ps : List Str} {sp : Sp} {E : L2.St → XK} {x : Str} {p pos : Pos} {e : Expr} {es : List Expr} {t : TA}
theorem run_makeS {pins : List (Addr × Obj)} {σ : L2.St} {H : Hp} {s : Shared} {Q : VK} {us : List Value} {vs : List V} (M : Mk X.K C f) (F : FnOk X.prog X.w X.K X.mg X.base CX k f fd ps sp) (hr : Room (k + 1) X.A) (hb : Binds X.K fd ps []) (hx : PassesAt CX X σ (E σ)) (I : Inv X pins σ H s) (r : Vals vs us)
    (h : ∀ x dx, H x = none → H dx = none → dx ≠ x → sp (.ref x :: vs) (upd (upd H dx (.own x)) x (.ins C dx [])) (fun v H2 => v = .non ∧ Q (.ref x) H2) (E σ)) : wpAny (model X.prog X.w) X.A (call (.ref C) us) (EP X pins σ Q) X.xe s := by
  have hq := h (s.heap.objs.size + 1) s.heap.objs.size (I.hok.fresh (Nat.le_succ _)) (I.hok.fresh (Nat.le_refl _)) (Nat.ne_of_lt (Nat.lt_succ_self _))
  have J := Inv.made (C := C) I
  have r2 : Vals (V.ref (s.heap.objs.size + 1) :: vs) (Value.ref (s.heap.objs.size + 1) :: us) := .cons rfl r
  have hl : (Value.ref (s.heap.objs.size + 1) :: us).length = ps.length := by
    have z := r2.length
    rw [F.len _ _ _ _ hq] at z
    exact z.symm
  have bd := hb _ (Value.ref (s.heap.objs.size + 1) :: us) J.kIn (by rw [List.append_nil]; exact hl)
  rw [List.append_nil] at bd
  refine wpAny_call (make_map (f := f) I.kIn M.makes M.init (beq_iff_eq.mp M.fn) (codeAny_mono (F.run _ X.stack _ _ ⟨Value.ref (s.heap.objs.size + 1) :: us, []⟩ _ _ _ (E σ) (hr.make C us []) (J.env0.make C us []) bd r2 hq) fun r s' hq' => ?_))
  cases r with
  | error z => exact hx pins _ _ z s' J hq'
  | ok fl =>
    cases fl with
    | ret u =>
      obtain ⟨v, H', I3, rv, ev, q3⟩ := J.after hq'
      subst ev
      exact ⟨rv, ⟨V.ref (s.heap.objs.size + 1), H', I3, rfl, q3⟩⟩
    | next => exact False.elim hq'
    | brk => exact False.elim hq'
    | cont => exact False.elim hq'
def tMakeS (C : Addr) (sp : Sp) (E : L2.St → XK) (t : TA) : TE := fun σ H Q => t σ H fun vs H1 => ∀ x dx, H1 x = none → H1 dx = none → dx ≠ x → sp (.ref x :: vs) (upd (upd H1 dx (.own x)) x (.ins C dx [])) (fun v H2 => v = .non ∧ Q (.ref x) H2) (E σ)
/-- C(e, ..) of a class whose __init__ may raise -/
theorem pe_makeS (M : Mk X.K C f) (F : FnOk X.prog X.w X.K X.mg X.base CX k f fd ps sp) (hr : Room (k + 1) X.A) (hg : Gl X x) (hm : X.mg x = some (.ref C)) (hb : Binds X.K fd ps []) (hx : ∀ σ, PassesAt CX X σ (E σ))
    (ha : PA X (e :: es) t) (hdb : (x == ("__debug__" : Str)) = false := by decide) (he : starEach (e :: es) X.env = (false, eval e X.env) :: starEach es X.env := by rfl) (hpl : (backTo pos (starEach es X.env)).any (·.1) = false := by rfl) :
    PE X (.Call (.Name x p) (e :: es) [] pos) (tMakeS C sp E t) := by
  refine ⟨fun pins s σ H Q I h => ?_⟩
  refine wpAny_Call_Name_kw (ld_glob I hg hm ?_ hdb)
  refine PySem.W.callWith_K (h₀ := X.base) I.ok.mod.kin M.kp (thn (ha.run pos pins s σ H _ I h) fun us s1 ⟨vs, H1, I1, r, q⟩ => ⟨I1.kIn, ?_⟩) he hpl
  exact run_makeS M F hr hb (hx σ) I1 r q
end
section
open PySem.Spec PyProof.Rows
/-- isinstance of a caught error without a dict -/
def rIsN (K : PySem.W.Frag) (cls : Value) (d : Option Addr) (a : Addr) : List V → Hp → VK → Prop := fun xs H Q => ∃ D, cls = .ref D ∧ d = none ∧ ExcC K D ∧ rIsE K D a xs H Q
theorem call_isN {X : Cx} {a : Addr} {cls : Value} {d : Option Addr} {oe : Obj} {pn : List (Addr × Obj)} (hz : Zc cls d oe) (hf : ∃ vs, oe.data = .fields vs) : CallR (X.suite a ((a, oe) :: pn)) (.builtin "isinstance") (rIsN X.K cls d a) := by
  intro pins s σ H xs us Q I r h
  obtain ⟨D, rfl, rfl, C, h⟩ := h
  exact call_isE C hz hf pins s σ H xs us Q I r h
end
def topS (i : Nat) : Stmt := PySem.Challenge.pw_latticewish_k02_bad_orders.main.body.getD i (.Pass ⟨0, 0, 0, 0⟩)
abbrev St_first_place : Stmt := topS 8
abbrev N_first_place : List Str := ["sets", "wanted"]
theorem sc_first_place : FnScope N_first_place ["sets", "wanted"] (defScope St_first_place) := ⟨rfl, rfl, rfl, by decide +kernel, rfl, by decide +kernel, by decide +kernel⟩
abbrev St_closed_downs : Stmt := topS 9
abbrev N_closed_downs : List Str := ["names", "pairs", "lower", "upper", "downs", "place", "changed", "grown"]
theorem sc_closed_downs : FnScope N_closed_downs ["names", "pairs"] (defScope St_closed_downs) := ⟨rfl, rfl, rfl, by decide +kernel, rfl, by decide +kernel, by decide +kernel⟩
abbrev St_check_names : Stmt := topS 10
abbrev N_check_names : List Str := ["names", "most", "name", "letter"]
theorem sc_check_names : FnScope N_check_names ["names", "most"] (defScope St_check_names) := ⟨rfl, rfl, rfl, by decide +kernel, rfl, by decide +kernel, by decide +kernel⟩
abbrev St_pair_words : Stmt := topS 11
abbrev N_pair_words : List Str := ["pairs", "lower", "upper"]
theorem sc_pair_words : FnScope N_pair_words ["pairs"] (defScope St_pair_words) := ⟨rfl, rfl, rfl, by decide +kernel, rfl, by decide +kernel, by decide +kernel⟩
abbrev St_parts_among : Stmt := topS 15
abbrev N_parts_among : List Str := ["numbers", "number", "place", "other"]
theorem sc_parts_among : FnScope N_parts_among ["numbers", "number"] (defScope St_parts_among) := ⟨rfl, rfl, rfl, by decide +kernel, rfl, by decide +kernel, by decide +kernel⟩
abbrev St__law_cells : Stmt := topS 17
abbrev N__law_cells : List Str := ["script", "mixed", "cell"]
theorem sc__law_cells : FnScope N__law_cells ["script"] (defScope St__law_cells) := ⟨rfl, rfl, rfl, by decide +kernel, rfl, by decide +kernel, by decide +kernel⟩
abbrev St__law_pick : Stmt := topS 18
abbrev N__law_pick : List Str := ["source", "many", "digit", "number"]
theorem sc__law_pick : FnScope N__law_pick ["source", "many"] (defScope St__law_pick) := ⟨rfl, rfl, rfl, by decide +kernel, rfl, by decide +kernel, by decide +kernel⟩
abbrev St__law_words : Stmt := topS 19
abbrev N__law_words : List Str := ["source", "many", "signs", "begin", "word", "k", "cut"]
theorem sc__law_words : FnScope N__law_words ["source", "many"] (defScope St__law_words) := ⟨rfl, rfl, rfl, by decide +kernel, rfl, by decide +kernel, by decide +kernel⟩
abbrev St__law_closed : Stmt := topS 20
abbrev N__law_closed : List Str := ["many", "pairs", "rows", "b", "a", "pair", "c"]
theorem sc__law_closed : FnScope N__law_closed ["many", "pairs"] (defScope St__law_closed) := ⟨rfl, rfl, rfl, by decide +kernel, rfl, by decide +kernel, by decide +kernel⟩
abbrev St__law_odd : Stmt := topS 21
abbrev N__law_odd : List Str := ["state", "words", "pick", "signs", "sign"]
theorem sc__law_odd : FnScope N__law_odd ["state"] (defScope St__law_odd) := ⟨rfl, rfl, rfl, by decide +kernel, rfl, by decide +kernel, by decide +kernel⟩
abbrev St__law_right_name : Stmt := topS 22
abbrev N__law_right_name : List Str := ["name"]
theorem sc__law_right_name : FnScope N__law_right_name ["name"] (defScope St__law_right_name) := ⟨rfl, rfl, rfl, by decide +kernel, rfl, by decide +kernel, by decide +kernel⟩
abbrev St__law_size : Stmt := topS 23
abbrev N__law_size : List Str := ["names", "pairs", "downs", "most", "k", "pair", "rows", "count", "number", "members", "a", "outside", "fine", "b"]
theorem sc__law_size : FnScope N__law_size ["names", "pairs", "downs"] (defScope St__law_size) := ⟨rfl, rfl, rfl, by decide +kernel, rfl, by decide +kernel, by decide +kernel⟩
abbrev St_law : Stmt := topS 24
abbrev N_law : List Str := ["script", "state", "downs", "many", "names", "pairs", "k", "spots", "way", "spot", "size", "caught", "e", "due"]
theorem sc_law : FnScope N_law ["script"] (defScope St_law) := ⟨rfl, rfl, rfl, by decide +kernel, rfl, by decide +kernel, by decide +kernel⟩
abbrev St_Lattice_init : Stmt := inClass (topS 7) 0
abbrev N_Lattice_init : List Str := ["self", "label", "names", "downs", "depth", "places", "b", "a", "whole"]
theorem sc_Lattice_init : FnScope N_Lattice_init ["self", "label", "names", "downs", "depth"] (defScope St_Lattice_init) := ⟨rfl, rfl, rfl, by decide +kernel, rfl, by decide +kernel, by decide +kernel⟩
abbrev St_OrderLattice_init : Stmt := inClass (topS 12) 0
abbrev N_OrderLattice_init : List Str := ["self", "names", "pairs", "downs"]
theorem sc_OrderLattice_init : FnScopeK N_OrderLattice_init ["self", "names", "pairs"] (defScope St_OrderLattice_init) := ⟨rfl, rfl, rfl, by decide +kernel, rfl, by decide +kernel, by decide +kernel, by decide +kernel⟩
abbrev St_DownLattice_init : Stmt := inClass (topS 14) 0
abbrev N_DownLattice_init : List Str := ["self", "names", "pairs", "order", "places", "row", "heaps", "number", "place", "words", "heap", "label", "word"]
theorem sc_DownLattice_init : FnScopeK N_DownLattice_init ["self", "names", "pairs"] (defScope St_DownLattice_init) := ⟨rfl, rfl, rfl, by decide +kernel, rfl, by decide +kernel, by decide +kernel, by decide +kernel⟩
abbrev PL : Program := PySem.Challenge.pw_latticewish_k02_bad_orders
structure Tx (K : PySem.W.Frag) (mg : Str → Option Value) (W_ : World) where
  n_ValueError : mg "ValueError" = none
  n_abs : mg "abs" = none
  n_all : mg "all" = none
  n_any : mg "any" = none
  n_enumerate : mg "enumerate" = none
  n_int : mg "int" = none
  n_isinstance : mg "isinstance" = none
  n_len : mg "len" = none
  n_list : mg "list" = none
  n_max : mg "max" = none
  n_min : mg "min" = none
  n_range : mg "range" = none
  n_sum : mg "sum" = none
  n_super : mg "super" = none
  n_tuple : mg "tuple" = none
  a_first_place : Addr
  d_first_place : FuncData
  F_first_place : Fun K "first_place" "first_place" St_first_place a_first_place d_first_place
  b_first_place : Binds K d_first_place ["sets", "wanted"] []
  g_first_place : mg "first_place" = some (.ref a_first_place)
  a_closed_downs : Addr
  d_closed_downs : FuncData
  F_closed_downs : Fun K "closed_downs" "closed_downs" St_closed_downs a_closed_downs d_closed_downs
  b_closed_downs : Binds K d_closed_downs ["names", "pairs"] []
  g_closed_downs : mg "closed_downs" = some (.ref a_closed_downs)
  a_check_names : Addr
  d_check_names : FuncData
  F_check_names : Fun K "check_names" "check_names" St_check_names a_check_names d_check_names
  b_check_names : Binds K d_check_names ["names", "most"] []
  g_check_names : mg "check_names" = some (.ref a_check_names)
  a_pair_words : Addr
  d_pair_words : FuncData
  F_pair_words : Fun K "pair_words" "pair_words" St_pair_words a_pair_words d_pair_words
  b_pair_words : Binds K d_pair_words ["pairs"] []
  g_pair_words : mg "pair_words" = some (.ref a_pair_words)
  a_parts_among : Addr
  d_parts_among : FuncData
  F_parts_among : Fun K "parts_among" "parts_among" St_parts_among a_parts_among d_parts_among
  b_parts_among : Binds K d_parts_among ["numbers", "number"] []
  g_parts_among : mg "parts_among" = some (.ref a_parts_among)
  a__law_cells : Addr
  d__law_cells : FuncData
  F__law_cells : Fun K "_law_cells" "_law_cells" St__law_cells a__law_cells d__law_cells
  b__law_cells : Binds K d__law_cells ["script"] []
  g__law_cells : mg "_law_cells" = some (.ref a__law_cells)
  a__law_pick : Addr
  d__law_pick : FuncData
  F__law_pick : Fun K "_law_pick" "_law_pick" St__law_pick a__law_pick d__law_pick
  b__law_pick : Binds K d__law_pick ["source", "many"] []
  g__law_pick : mg "_law_pick" = some (.ref a__law_pick)
  a__law_words : Addr
  d__law_words : FuncData
  F__law_words : Fun K "_law_words" "_law_words" St__law_words a__law_words d__law_words
  b__law_words : Binds K d__law_words ["source", "many"] []
  g__law_words : mg "_law_words" = some (.ref a__law_words)
  a__law_closed : Addr
  d__law_closed : FuncData
  F__law_closed : Fun K "_law_closed" "_law_closed" St__law_closed a__law_closed d__law_closed
  b__law_closed : Binds K d__law_closed ["many", "pairs"] []
  g__law_closed : mg "_law_closed" = some (.ref a__law_closed)
  a__law_odd : Addr
  d__law_odd : FuncData
  F__law_odd : Fun K "_law_odd" "_law_odd" St__law_odd a__law_odd d__law_odd
  b__law_odd : Binds K d__law_odd ["state"] []
  g__law_odd : mg "_law_odd" = some (.ref a__law_odd)
  a__law_right_name : Addr
  d__law_right_name : FuncData
  F__law_right_name : Fun K "_law_right_name" "_law_right_name" St__law_right_name a__law_right_name d__law_right_name
  b__law_right_name : Binds K d__law_right_name ["name"] []
  g__law_right_name : mg "_law_right_name" = some (.ref a__law_right_name)
  a__law_size : Addr
  d__law_size : FuncData
  F__law_size : Fun K "_law_size" "_law_size" St__law_size a__law_size d__law_size
  b__law_size : Binds K d__law_size ["names", "pairs", "downs"] []
  g__law_size : mg "_law_size" = some (.ref a__law_size)
  a_law : Addr
  d_law : FuncData
  F_law : Fun K "law" "law" St_law a_law d_law
  b_law : Binds K d_law ["script"] []
  g_law : mg "law" = some (.ref a_law)
  g_LETTERS : ∃ u, mg "LETTERS" = some (.str "abcdefghijklmnopqrstuvwxyz0123456789" u)
  a_Lattice : Addr
  g_Lattice : mg "Lattice" = some (.ref a_Lattice)
  c_Lattice : Cls K a_Lattice
  n_Lattice_label : NoAttr K a_Lattice "label"
  n_Lattice_size : NoAttr K a_Lattice "size"
  n_Lattice_depth : NoAttr K a_Lattice "depth"
  n_Lattice_value_names : NoAttr K a_Lattice "value_names"
  n_Lattice_downs : NoAttr K a_Lattice "downs"
  n_Lattice_ups : NoAttr K a_Lattice "ups"
  n_Lattice_bottom_at : NoAttr K a_Lattice "bottom_at"
  n_Lattice_top_at : NoAttr K a_Lattice "top_at"
  a_Lattice_init : Addr
  d_Lattice_init : FuncData
  t_Lattice_init : Addr
  F_Lattice_init : FunD K "__init__" "Lattice.__init__" St_Lattice_init a_Lattice_init d_Lattice_init t_Lattice_init
  dd_Lattice_init : ∃ n u0, K.lookup t_Lattice_init = some (⟨.type "tuple", none, .seq #[.int 1 u0] n, #[]⟩ : Obj)
  b4_Lattice_init : ∃ u0, Binds K d_Lattice_init ["self", "label", "names", "downs", "depth"] [.int 1 u0]
  b5_Lattice_init : Binds K d_Lattice_init ["self", "label", "names", "downs", "depth"] []
  M_Lattice : Mk K a_Lattice a_Lattice_init
  a_OrderLattice : Addr
  g_OrderLattice : mg "OrderLattice" = some (.ref a_OrderLattice)
  c_OrderLattice : Cls K a_OrderLattice
  n_OrderLattice_label : NoAttr K a_OrderLattice "label"
  n_OrderLattice_size : NoAttr K a_OrderLattice "size"
  n_OrderLattice_depth : NoAttr K a_OrderLattice "depth"
  n_OrderLattice_value_names : NoAttr K a_OrderLattice "value_names"
  n_OrderLattice_downs : NoAttr K a_OrderLattice "downs"
  n_OrderLattice_ups : NoAttr K a_OrderLattice "ups"
  n_OrderLattice_bottom_at : NoAttr K a_OrderLattice "bottom_at"
  n_OrderLattice_top_at : NoAttr K a_OrderLattice "top_at"
  a_OrderLattice_init : Addr
  d_OrderLattice_init : FuncData
  F_OrderLattice_init : FunK K PL "__init__" "OrderLattice.__init__" St_OrderLattice_init a_OrderLattice_init d_OrderLattice_init a_OrderLattice
  b_OrderLattice_init : Binds K d_OrderLattice_init ["self", "names", "pairs"] []
  M_OrderLattice : Mk K a_OrderLattice a_OrderLattice_init
  a_DownLattice : Addr
  g_DownLattice : mg "DownLattice" = some (.ref a_DownLattice)
  c_DownLattice : Cls K a_DownLattice
  n_DownLattice_label : NoAttr K a_DownLattice "label"
  n_DownLattice_size : NoAttr K a_DownLattice "size"
  n_DownLattice_depth : NoAttr K a_DownLattice "depth"
  n_DownLattice_value_names : NoAttr K a_DownLattice "value_names"
  n_DownLattice_downs : NoAttr K a_DownLattice "downs"
  n_DownLattice_ups : NoAttr K a_DownLattice "ups"
  n_DownLattice_bottom_at : NoAttr K a_DownLattice "bottom_at"
  n_DownLattice_top_at : NoAttr K a_DownLattice "top_at"
  a_DownLattice_init : Addr
  d_DownLattice_init : FuncData
  F_DownLattice_init : FunK K PL "__init__" "DownLattice.__init__" St_DownLattice_init a_DownLattice_init d_DownLattice_init a_DownLattice
  b_DownLattice_init : Binds K d_DownLattice_init ["self", "names", "pairs"] []
  M_DownLattice : Mk K a_DownLattice a_DownLattice_init
  a_LatticeError : Addr
  g_LatticeError : mg "LatticeError" = some (.ref a_LatticeError)
  a_BadLattice : Addr
  g_BadLattice : mg "BadLattice" = some (.ref a_BadLattice)
  a_MixedLattices : Addr
  g_MixedLattices : mg "MixedLattices" = some (.ref a_MixedLattices)
  x_LatticeError : OexG "ValueError.__new__" [.type "ValueError", .type "Exception", .type "BaseException", .type "object"] K a_LatticeError
  f_LatticeError : XfC K a_LatticeError
  q_LatticeError : PySem.W.excIn K a_LatticeError [.type "ValueError", .type "Exception", .type "BaseException", .type "object"] "ValueError.__new__" = true
  r_LatticeError : PySem.W.subIn K (.ref a_LatticeError) (.type "BaseException") = some true ∧ PySem.W.typeIn K (.ref a_LatticeError) = some (.type "type") ∧ PySem.W.keepIn K (.ref a_LatticeError) = true
  x_BadLattice : OexG "ValueError.__new__" [.type "ValueError", .type "Exception", .type "BaseException", .type "object"] K a_BadLattice
  f_BadLattice : XfC K a_BadLattice
  q_BadLattice : PySem.W.excIn K a_BadLattice [.type "ValueError", .type "Exception", .type "BaseException", .type "object"] "ValueError.__new__" = true
  r_BadLattice : PySem.W.subIn K (.ref a_BadLattice) (.type "BaseException") = some true ∧ PySem.W.typeIn K (.ref a_BadLattice) = some (.type "type") ∧ PySem.W.keepIn K (.ref a_BadLattice) = true
  te_BadLattice_BadLattice : PySem.W.exmOne K (.ref a_BadLattice) (.ref a_BadLattice) = some true
  xc_BadLattice : ExcC K a_BadLattice
  kx_BadLattice_LatticeError : PySem.W.kitOne K (.ref a_BadLattice) (.ref a_LatticeError) = some true
  kx_BadLattice_ValueError : PySem.W.kitOne K (.ref a_BadLattice) (.type "ValueError") = some true
  kx_BadLattice_MixedLattices : PySem.W.kitOne K (.ref a_BadLattice) (.ref a_MixedLattices) = some false
  x_MixedLattices : OexG "ValueError.__new__" [.type "ValueError", .type "Exception", .type "BaseException", .type "object"] K a_MixedLattices
  f_MixedLattices : XfC K a_MixedLattices
  q_MixedLattices : PySem.W.excIn K a_MixedLattices [.type "ValueError", .type "Exception", .type "BaseException", .type "object"] "ValueError.__new__" = true
  r_MixedLattices : PySem.W.subIn K (.ref a_MixedLattices) (.type "BaseException") = some true ∧ PySem.W.typeIn K (.ref a_MixedLattices) = some (.type "type") ∧ PySem.W.keepIn K (.ref a_MixedLattices) = true
  mr_OrderLattice : PySem.W.mroIn K a_OrderLattice (.ref a_OrderLattice) = some true
  su_OrderLattice : PySem.W.ks_superIn K a_OrderLattice a_OrderLattice "__init__" = some (some (.ref a_Lattice_init))
  ci_OrderLattice : ∃ cd, PySem.W.clsIn K a_OrderLattice = some cd
  mr_DownLattice : PySem.W.mroIn K a_DownLattice (.ref a_DownLattice) = some true
  su_DownLattice : PySem.W.ks_superIn K a_DownLattice a_DownLattice "__init__" = some (some (.ref a_Lattice_init))
  ci_DownLattice : ∃ cd, PySem.W.clsIn K a_DownLattice = some cd
  ty_Lattice : PySem.W.typeIn K (.ref a_Lattice_init) = some (.type "function")
  fi_Lattice : PySem.W.fnIn K a_Lattice_init = true
  st_any : PySem.W.nsIn K PySem.cStatics "thirdparty.any" = some none
def Tx.mm {K : PySem.W.Frag} {mg : Str → Option Value} {W_ : World} (T : Tx K mg W_) : List (Str × Addr) := []
theorem Tx.mm_out {K : PySem.W.Frag} {mg : Str → Option Value} {W_ : World} (T : Tx K mg W_) : ∀ q ∈ T.mm, q.1 ∉ latAttrs := by
  intro q hq
  simp only [Tx.mm, List.mem_cons, List.not_mem_nil, or_false] at hq
theorem Tx.mm_out' {K : PySem.W.Frag} {mg : Str → Option Value} {W_ : World} (T : Tx K mg W_) : ∀ q ∈ T.mm, q.1 ≠ "left" ∧ q.1 ≠ "right" ∧ q.1 ≠ "inner" := by
  intro q hq
  simp only [Tx.mm, List.mem_cons, List.not_mem_nil, or_false] at hq
theorem Tx.lc_OrderLattice {K : PySem.W.Frag} {mg : Str → Option Value} {W_ : World} (T : Tx K mg W_) : LatC K T.mm T.a_OrderLattice := ⟨T.c_OrderLattice, fun f hf => by
  simp only [latAttrs, List.mem_cons, List.not_mem_nil, or_false] at hf
  rcases hf with rfl | rfl | rfl | rfl | rfl | rfl | rfl | rfl <;> first | exact T.n_OrderLattice_label | exact T.n_OrderLattice_size | exact T.n_OrderLattice_depth | exact T.n_OrderLattice_value_names | exact T.n_OrderLattice_downs | exact T.n_OrderLattice_ups | exact T.n_OrderLattice_bottom_at | exact T.n_OrderLattice_top_at, fun q hq => by
  simp only [Tx.mm, List.mem_cons, List.not_mem_nil, or_false] at hq, trivial⟩
theorem Tx.lc_DownLattice {K : PySem.W.Frag} {mg : Str → Option Value} {W_ : World} (T : Tx K mg W_) : LatC K T.mm T.a_DownLattice := ⟨T.c_DownLattice, fun f hf => by
  simp only [latAttrs, List.mem_cons, List.not_mem_nil, or_false] at hf
  rcases hf with rfl | rfl | rfl | rfl | rfl | rfl | rfl | rfl <;> first | exact T.n_DownLattice_label | exact T.n_DownLattice_size | exact T.n_DownLattice_depth | exact T.n_DownLattice_value_names | exact T.n_DownLattice_downs | exact T.n_DownLattice_ups | exact T.n_DownLattice_bottom_at | exact T.n_DownLattice_top_at, fun q hq => by
  simp only [Tx.mm, List.mem_cons, List.not_mem_nil, or_false] at hq, trivial⟩
def spLaw (K : PySem.W.Frag) : Sp := fun vs H Q _ => ∃ (a : Addr) (ns : List Int), vs = [.ref a] ∧ SqL K H a (ns.map V.int) ∧ ns.length ≤ 63 ∧ ∀ H', Q (.bl true) H'
theorem all_mk {l : PySem.W.OpenLaw} {W_ : World} {K : PySem.W.Frag} {h : Heap} {mg : Str → Option Value} {fa : Addr} (X : K.In h) (G : h.Ns mainGlobals mg) (hfa : mg "law" = some (.ref fa)) (F : ∀ (T : Tx K mg W_) (base : Heap), FnOk PL W_ K mg base L2.CX0 120 T.a_law T.d_law ["script"] (spLaw K))
    {f_first_place f_closed_downs f_check_names f_pair_words f_parts_among f__law_cells f__law_pick f__law_words f__law_closed f__law_odd f__law_right_name f__law_size f_law f_Lattice f_Lattice_init td_Lattice_init f_OrderLattice f_OrderLattice_init cda_OrderLattice_init cc_OrderLattice_init f_DownLattice f_DownLattice_init cda_DownLattice_init cc_DownLattice_init f_LatticeError f_BadLattice f_MixedLattices : Addr}
    {od_first_place an_first_place : Option Addr} {sl_first_place : Array (Option Value)} {oc_first_place kV_first_place dc_first_place pm_first_place cd_first_place ct_first_place : Value} {od_closed_downs an_closed_downs : Option Addr} {sl_closed_downs : Array (Option Value)} {oc_closed_downs kV_closed_downs dc_closed_downs pm_closed_downs cd_closed_downs ct_closed_downs : Value} {od_check_names an_check_names : Option Addr} {sl_check_names : Array (Option Value)} {oc_check_names kV_check_names dc_check_names pm_check_names cd_check_names ct_check_names : Value} {od_pair_words an_pair_words : Option Addr} {sl_pair_words : Array (Option Value)} {oc_pair_words kV_pair_words dc_pair_words pm_pair_words cd_pair_words ct_pair_words : Value} {od_parts_among an_parts_among : Option Addr} {sl_parts_among : Array (Option Value)} {oc_parts_among kV_parts_among dc_parts_among pm_parts_among cd_parts_among ct_parts_among : Value} {od__law_cells an__law_cells : Option Addr} {sl__law_cells : Array (Option Value)} {oc__law_cells kV__law_cells dc__law_cells pm__law_cells cd__law_cells ct__law_cells : Value} {od__law_pick an__law_pick : Option Addr} {sl__law_pick : Array (Option Value)} {oc__law_pick kV__law_pick dc__law_pick pm__law_pick cd__law_pick ct__law_pick : Value} {od__law_words an__law_words : Option Addr} {sl__law_words : Array (Option Value)} {oc__law_words kV__law_words dc__law_words pm__law_words cd__law_words ct__law_words : Value} {od__law_closed an__law_closed : Option Addr} {sl__law_closed : Array (Option Value)} {oc__law_closed kV__law_closed dc__law_closed pm__law_closed cd__law_closed ct__law_closed : Value} {od__law_odd an__law_odd : Option Addr} {sl__law_odd : Array (Option Value)} {oc__law_odd kV__law_odd dc__law_odd pm__law_odd cd__law_odd ct__law_odd : Value} {od__law_right_name an__law_right_name : Option Addr} {sl__law_right_name : Array (Option Value)} {oc__law_right_name kV__law_right_name dc__law_right_name pm__law_right_name cd__law_right_name ct__law_right_name : Value} {od__law_size an__law_size : Option Addr} {sl__law_size : Array (Option Value)} {oc__law_size kV__law_size dc__law_size pm__law_size cd__law_size ct__law_size : Value} {od_law an_law : Option Addr} {sl_law : Array (Option Value)} {oc_law kV_law dc_law pm_law cd_law ct_law : Value} {u_LETTERS : Tok} {od_Lattice_init an_Lattice_init : Option Addr} {sl_Lattice_init : Array (Option Value)} {oc_Lattice_init kV_Lattice_init dc_Lattice_init pm_Lattice_init cd_Lattice_init ct_Lattice_init : Value} {du0_Lattice_init : Tok} {dn_Lattice_init : Nat} {od_OrderLattice_init an_OrderLattice_init vb_OrderLattice_init cb_OrderLattice_init : Option Addr} {sl_OrderLattice_init ve_OrderLattice_init ce_OrderLattice_init : Array (Option Value)} {vs_OrderLattice_init : Array Value} {fl_OrderLattice_init : Str} {tf_OrderLattice_init : Tok} {oc_OrderLattice_init kV_OrderLattice_init dc_OrderLattice_init pm_OrderLattice_init ct_OrderLattice_init va_OrderLattice_init ca_OrderLattice_init : Value} {od_DownLattice_init an_DownLattice_init vb_DownLattice_init cb_DownLattice_init : Option Addr} {sl_DownLattice_init ve_DownLattice_init ce_DownLattice_init : Array (Option Value)} {vs_DownLattice_init : Array Value} {fl_DownLattice_init : Str} {tf_DownLattice_init : Tok} {oc_DownLattice_init kV_DownLattice_init dc_DownLattice_init pm_DownLattice_init ct_DownLattice_init va_DownLattice_init ca_DownLattice_init : Value} {nm_LatticeError qn_LatticeError : Str} {ns_LatticeError : Addr} {bs_LatticeError sub_LatticeError : List Value} {sn_LatticeError : List Str} {ab_LatticeError : Bool} {col_LatticeError : Option Bool} {ddc_LatticeError : Option Addr} {k0_LatticeError k1_LatticeError k2_LatticeError k3_LatticeError k5_LatticeError : Option Value} {nm_BadLattice qn_BadLattice : Str} {ns_BadLattice : Addr} {bs_BadLattice sub_BadLattice : List Value} {sn_BadLattice : List Str} {ab_BadLattice : Bool} {col_BadLattice : Option Bool} {ddc_BadLattice : Option Addr} {k0_BadLattice k1_BadLattice k2_BadLattice k3_BadLattice k5_BadLattice : Option Value} {nm_MixedLattices qn_MixedLattices : Str} {ns_MixedLattices : Addr} {bs_MixedLattices sub_MixedLattices : List Value} {sn_MixedLattices : List Str} {ab_MixedLattices : Bool} {col_MixedLattices : Option Bool} {ddc_MixedLattices : Option Addr} {k0_MixedLattices k1_MixedLattices k2_MixedLattices k3_MixedLattices k5_MixedLattices : Option Value} {cd_OrderLattice : ClassData} {cd_DownLattice : ClassData}
    (z_ValueError : PySem.W.nsIn K mainGlobals "ValueError" = some none)
    (z_abs : PySem.W.nsIn K mainGlobals "abs" = some none)
    (z_all : PySem.W.nsIn K mainGlobals "all" = some none)
    (z_any : PySem.W.nsIn K mainGlobals "any" = some none)
    (z_enumerate : PySem.W.nsIn K mainGlobals "enumerate" = some none)
    (z_int : PySem.W.nsIn K mainGlobals "int" = some none)
    (z_isinstance : PySem.W.nsIn K mainGlobals "isinstance" = some none)
    (z_len : PySem.W.nsIn K mainGlobals "len" = some none)
    (z_list : PySem.W.nsIn K mainGlobals "list" = some none)
    (z_max : PySem.W.nsIn K mainGlobals "max" = some none)
    (z_min : PySem.W.nsIn K mainGlobals "min" = some none)
    (z_range : PySem.W.nsIn K mainGlobals "range" = some none)
    (z_sum : PySem.W.nsIn K mainGlobals "sum" = some none)
    (z_super : PySem.W.nsIn K mainGlobals "super" = some none)
    (z_tuple : PySem.W.nsIn K mainGlobals "tuple" = some none)
    (g_first_place : PySem.W.nsIn K mainGlobals "first_place" = some (some (.ref f_first_place)))
    (l_first_place : K.lookup f_first_place = some ⟨oc_first_place, od_first_place, .func (PySem.W.fnOf "first_place" "first_place" (defArgs St_first_place) (defBody St_first_place) (defScope St_first_place) .none kV_first_place dc_first_place pm_first_place an_first_place cd_first_place ct_first_place), sl_first_place⟩)
    (c_first_place : PySem.W.codeIn K cd_first_place "first_place" = true)
    (k_first_place : PySem.W.keepIn K (.ref f_first_place) = true)
    (g_closed_downs : PySem.W.nsIn K mainGlobals "closed_downs" = some (some (.ref f_closed_downs)))
    (l_closed_downs : K.lookup f_closed_downs = some ⟨oc_closed_downs, od_closed_downs, .func (PySem.W.fnOf "closed_downs" "closed_downs" (defArgs St_closed_downs) (defBody St_closed_downs) (defScope St_closed_downs) .none kV_closed_downs dc_closed_downs pm_closed_downs an_closed_downs cd_closed_downs ct_closed_downs), sl_closed_downs⟩)
    (c_closed_downs : PySem.W.codeIn K cd_closed_downs "closed_downs" = true)
    (k_closed_downs : PySem.W.keepIn K (.ref f_closed_downs) = true)
    (g_check_names : PySem.W.nsIn K mainGlobals "check_names" = some (some (.ref f_check_names)))
    (l_check_names : K.lookup f_check_names = some ⟨oc_check_names, od_check_names, .func (PySem.W.fnOf "check_names" "check_names" (defArgs St_check_names) (defBody St_check_names) (defScope St_check_names) .none kV_check_names dc_check_names pm_check_names an_check_names cd_check_names ct_check_names), sl_check_names⟩)
    (c_check_names : PySem.W.codeIn K cd_check_names "check_names" = true)
    (k_check_names : PySem.W.keepIn K (.ref f_check_names) = true)
    (g_pair_words : PySem.W.nsIn K mainGlobals "pair_words" = some (some (.ref f_pair_words)))
    (l_pair_words : K.lookup f_pair_words = some ⟨oc_pair_words, od_pair_words, .func (PySem.W.fnOf "pair_words" "pair_words" (defArgs St_pair_words) (defBody St_pair_words) (defScope St_pair_words) .none kV_pair_words dc_pair_words pm_pair_words an_pair_words cd_pair_words ct_pair_words), sl_pair_words⟩)
    (c_pair_words : PySem.W.codeIn K cd_pair_words "pair_words" = true)
    (k_pair_words : PySem.W.keepIn K (.ref f_pair_words) = true)
    (g_parts_among : PySem.W.nsIn K mainGlobals "parts_among" = some (some (.ref f_parts_among)))
    (l_parts_among : K.lookup f_parts_among = some ⟨oc_parts_among, od_parts_among, .func (PySem.W.fnOf "parts_among" "parts_among" (defArgs St_parts_among) (defBody St_parts_among) (defScope St_parts_among) .none kV_parts_among dc_parts_among pm_parts_among an_parts_among cd_parts_among ct_parts_among), sl_parts_among⟩)
    (c_parts_among : PySem.W.codeIn K cd_parts_among "parts_among" = true)
    (k_parts_among : PySem.W.keepIn K (.ref f_parts_among) = true)
    (g__law_cells : PySem.W.nsIn K mainGlobals "_law_cells" = some (some (.ref f__law_cells)))
    (l__law_cells : K.lookup f__law_cells = some ⟨oc__law_cells, od__law_cells, .func (PySem.W.fnOf "_law_cells" "_law_cells" (defArgs St__law_cells) (defBody St__law_cells) (defScope St__law_cells) .none kV__law_cells dc__law_cells pm__law_cells an__law_cells cd__law_cells ct__law_cells), sl__law_cells⟩)
    (c__law_cells : PySem.W.codeIn K cd__law_cells "_law_cells" = true)
    (k__law_cells : PySem.W.keepIn K (.ref f__law_cells) = true)
    (g__law_pick : PySem.W.nsIn K mainGlobals "_law_pick" = some (some (.ref f__law_pick)))
    (l__law_pick : K.lookup f__law_pick = some ⟨oc__law_pick, od__law_pick, .func (PySem.W.fnOf "_law_pick" "_law_pick" (defArgs St__law_pick) (defBody St__law_pick) (defScope St__law_pick) .none kV__law_pick dc__law_pick pm__law_pick an__law_pick cd__law_pick ct__law_pick), sl__law_pick⟩)
    (c__law_pick : PySem.W.codeIn K cd__law_pick "_law_pick" = true)
    (k__law_pick : PySem.W.keepIn K (.ref f__law_pick) = true)
    (g__law_words : PySem.W.nsIn K mainGlobals "_law_words" = some (some (.ref f__law_words)))
    (l__law_words : K.lookup f__law_words = some ⟨oc__law_words, od__law_words, .func (PySem.W.fnOf "_law_words" "_law_words" (defArgs St__law_words) (defBody St__law_words) (defScope St__law_words) .none kV__law_words dc__law_words pm__law_words an__law_words cd__law_words ct__law_words), sl__law_words⟩)
    (c__law_words : PySem.W.codeIn K cd__law_words "_law_words" = true)
    (k__law_words : PySem.W.keepIn K (.ref f__law_words) = true)
    (g__law_closed : PySem.W.nsIn K mainGlobals "_law_closed" = some (some (.ref f__law_closed)))
    (l__law_closed : K.lookup f__law_closed = some ⟨oc__law_closed, od__law_closed, .func (PySem.W.fnOf "_law_closed" "_law_closed" (defArgs St__law_closed) (defBody St__law_closed) (defScope St__law_closed) .none kV__law_closed dc__law_closed pm__law_closed an__law_closed cd__law_closed ct__law_closed), sl__law_closed⟩)
    (c__law_closed : PySem.W.codeIn K cd__law_closed "_law_closed" = true)
    (k__law_closed : PySem.W.keepIn K (.ref f__law_closed) = true)
    (g__law_odd : PySem.W.nsIn K mainGlobals "_law_odd" = some (some (.ref f__law_odd)))
    (l__law_odd : K.lookup f__law_odd = some ⟨oc__law_odd, od__law_odd, .func (PySem.W.fnOf "_law_odd" "_law_odd" (defArgs St__law_odd) (defBody St__law_odd) (defScope St__law_odd) .none kV__law_odd dc__law_odd pm__law_odd an__law_odd cd__law_odd ct__law_odd), sl__law_odd⟩)
    (c__law_odd : PySem.W.codeIn K cd__law_odd "_law_odd" = true)
    (k__law_odd : PySem.W.keepIn K (.ref f__law_odd) = true)
    (g__law_right_name : PySem.W.nsIn K mainGlobals "_law_right_name" = some (some (.ref f__law_right_name)))
    (l__law_right_name : K.lookup f__law_right_name = some ⟨oc__law_right_name, od__law_right_name, .func (PySem.W.fnOf "_law_right_name" "_law_right_name" (defArgs St__law_right_name) (defBody St__law_right_name) (defScope St__law_right_name) .none kV__law_right_name dc__law_right_name pm__law_right_name an__law_right_name cd__law_right_name ct__law_right_name), sl__law_right_name⟩)
    (c__law_right_name : PySem.W.codeIn K cd__law_right_name "_law_right_name" = true)
    (k__law_right_name : PySem.W.keepIn K (.ref f__law_right_name) = true)
    (g__law_size : PySem.W.nsIn K mainGlobals "_law_size" = some (some (.ref f__law_size)))
    (l__law_size : K.lookup f__law_size = some ⟨oc__law_size, od__law_size, .func (PySem.W.fnOf "_law_size" "_law_size" (defArgs St__law_size) (defBody St__law_size) (defScope St__law_size) .none kV__law_size dc__law_size pm__law_size an__law_size cd__law_size ct__law_size), sl__law_size⟩)
    (c__law_size : PySem.W.codeIn K cd__law_size "_law_size" = true)
    (k__law_size : PySem.W.keepIn K (.ref f__law_size) = true)
    (g_law : PySem.W.nsIn K mainGlobals "law" = some (some (.ref f_law)))
    (l_law : K.lookup f_law = some ⟨oc_law, od_law, .func (PySem.W.fnOf "law" "law" (defArgs St_law) (defBody St_law) (defScope St_law) .none kV_law dc_law pm_law an_law cd_law ct_law), sl_law⟩)
    (c_law : PySem.W.codeIn K cd_law "law" = true)
    (k_law : PySem.W.keepIn K (.ref f_law) = true)
    (g_LETTERS : PySem.W.nsIn K mainGlobals "LETTERS" = some (some (.str "abcdefghijklmnopqrstuvwxyz0123456789" u_LETTERS)))
    (g_Lattice : PySem.W.nsIn K mainGlobals "Lattice" = some (some (.ref f_Lattice)))
    (pg_Lattice : PySem.W.plainGet K f_Lattice Str.empty = true)
    (hd_Lattice : PySem.W.hasDictIn K f_Lattice = true)
    (po_Lattice : PySem.W.plainOver K f_Lattice = true)
    (sa_Lattice : PySem.W.findIn K (.ref f_Lattice) "__setattr__" = some (some (.builtin "object.__setattr__")))
    (mk_Lattice : PySem.W.makesIn K f_Lattice = true)
    (kc_Lattice : PySem.W.keepIn K (.ref f_Lattice) = true)
    (na_Lattice_label : PySem.W.findIn K (.ref f_Lattice) "label" = some none)
    (na_Lattice_size : PySem.W.findIn K (.ref f_Lattice) "size" = some none)
    (na_Lattice_depth : PySem.W.findIn K (.ref f_Lattice) "depth" = some none)
    (na_Lattice_value_names : PySem.W.findIn K (.ref f_Lattice) "value_names" = some none)
    (na_Lattice_downs : PySem.W.findIn K (.ref f_Lattice) "downs" = some none)
    (na_Lattice_ups : PySem.W.findIn K (.ref f_Lattice) "ups" = some none)
    (na_Lattice_bottom_at : PySem.W.findIn K (.ref f_Lattice) "bottom_at" = some none)
    (na_Lattice_top_at : PySem.W.findIn K (.ref f_Lattice) "top_at" = some none)
    (h_Lattice_init : PySem.W.findIn K (.ref f_Lattice) "__init__" = some (some (.ref f_Lattice_init)))
    (i_Lattice_init : PySem.W.isFn K (.ref f_Lattice_init) = true)
    (l_Lattice_init : K.lookup f_Lattice_init = some ⟨oc_Lattice_init, od_Lattice_init, .func (PySem.W.fnOf "__init__" "Lattice.__init__" (defArgs St_Lattice_init) (defBody St_Lattice_init) (defScope St_Lattice_init) (.ref td_Lattice_init) kV_Lattice_init dc_Lattice_init pm_Lattice_init an_Lattice_init cd_Lattice_init ct_Lattice_init), sl_Lattice_init⟩)
    (c_Lattice_init : PySem.W.codeIn K cd_Lattice_init "Lattice.__init__" = true)
    (k_Lattice_init : PySem.W.keepIn K (.ref f_Lattice_init) = true)
    (dd_Lattice_init : K.lookup td_Lattice_init = some (⟨.type "tuple", none, .seq #[.int 1 du0_Lattice_init] dn_Lattice_init, #[]⟩ : Obj))
    (g_OrderLattice : PySem.W.nsIn K mainGlobals "OrderLattice" = some (some (.ref f_OrderLattice)))
    (pg_OrderLattice : PySem.W.plainGet K f_OrderLattice Str.empty = true)
    (hd_OrderLattice : PySem.W.hasDictIn K f_OrderLattice = true)
    (po_OrderLattice : PySem.W.plainOver K f_OrderLattice = true)
    (sa_OrderLattice : PySem.W.findIn K (.ref f_OrderLattice) "__setattr__" = some (some (.builtin "object.__setattr__")))
    (mk_OrderLattice : PySem.W.makesIn K f_OrderLattice = true)
    (kc_OrderLattice : PySem.W.keepIn K (.ref f_OrderLattice) = true)
    (na_OrderLattice_label : PySem.W.findIn K (.ref f_OrderLattice) "label" = some none)
    (na_OrderLattice_size : PySem.W.findIn K (.ref f_OrderLattice) "size" = some none)
    (na_OrderLattice_depth : PySem.W.findIn K (.ref f_OrderLattice) "depth" = some none)
    (na_OrderLattice_value_names : PySem.W.findIn K (.ref f_OrderLattice) "value_names" = some none)
    (na_OrderLattice_downs : PySem.W.findIn K (.ref f_OrderLattice) "downs" = some none)
    (na_OrderLattice_ups : PySem.W.findIn K (.ref f_OrderLattice) "ups" = some none)
    (na_OrderLattice_bottom_at : PySem.W.findIn K (.ref f_OrderLattice) "bottom_at" = some none)
    (na_OrderLattice_top_at : PySem.W.findIn K (.ref f_OrderLattice) "top_at" = some none)
    (h_OrderLattice_init : PySem.W.findIn K (.ref f_OrderLattice) "__init__" = some (some (.ref f_OrderLattice_init)))
    (i_OrderLattice_init : PySem.W.isFn K (.ref f_OrderLattice_init) = true)
    (l_OrderLattice_init : K.lookup f_OrderLattice_init = some ⟨oc_OrderLattice_init, od_OrderLattice_init, .func (PySem.W.ksFn "__init__" "OrderLattice.__init__" (defArgs St_OrderLattice_init) (defBody St_OrderLattice_init) (defScope St_OrderLattice_init) .none kV_OrderLattice_init dc_OrderLattice_init pm_OrderLattice_init an_OrderLattice_init (.ref cda_OrderLattice_init) ct_OrderLattice_init cc_OrderLattice_init), sl_OrderLattice_init⟩)
    (c_OrderLattice_init : PySem.W.codeIn K (.ref cda_OrderLattice_init) "OrderLattice.__init__" = true)
    (k_OrderLattice_init : PySem.W.keepIn K (.ref f_OrderLattice_init) = true)
    (q_OrderLattice_init : K.lookup cc_OrderLattice_init = some ⟨ca_OrderLattice_init, cb_OrderLattice_init, .cell (some (.ref f_OrderLattice)), ce_OrderLattice_init⟩)
    (v_OrderLattice_init : K.lookup cda_OrderLattice_init = some ⟨va_OrderLattice_init, vb_OrderLattice_init, .fields vs_OrderLattice_init, ve_OrderLattice_init⟩)
    (vf_OrderLattice_init : vs_OrderLattice_init[2]? = some (.str fl_OrderLattice_init tf_OrderLattice_init))
    (vg_OrderLattice_init : ((PL.main.file : Str) == fl_OrderLattice_init) = true)
    (g_DownLattice : PySem.W.nsIn K mainGlobals "DownLattice" = some (some (.ref f_DownLattice)))
    (pg_DownLattice : PySem.W.plainGet K f_DownLattice Str.empty = true)
    (hd_DownLattice : PySem.W.hasDictIn K f_DownLattice = true)
    (po_DownLattice : PySem.W.plainOver K f_DownLattice = true)
    (sa_DownLattice : PySem.W.findIn K (.ref f_DownLattice) "__setattr__" = some (some (.builtin "object.__setattr__")))
    (mk_DownLattice : PySem.W.makesIn K f_DownLattice = true)
    (kc_DownLattice : PySem.W.keepIn K (.ref f_DownLattice) = true)
    (na_DownLattice_label : PySem.W.findIn K (.ref f_DownLattice) "label" = some none)
    (na_DownLattice_size : PySem.W.findIn K (.ref f_DownLattice) "size" = some none)
    (na_DownLattice_depth : PySem.W.findIn K (.ref f_DownLattice) "depth" = some none)
    (na_DownLattice_value_names : PySem.W.findIn K (.ref f_DownLattice) "value_names" = some none)
    (na_DownLattice_downs : PySem.W.findIn K (.ref f_DownLattice) "downs" = some none)
    (na_DownLattice_ups : PySem.W.findIn K (.ref f_DownLattice) "ups" = some none)
    (na_DownLattice_bottom_at : PySem.W.findIn K (.ref f_DownLattice) "bottom_at" = some none)
    (na_DownLattice_top_at : PySem.W.findIn K (.ref f_DownLattice) "top_at" = some none)
    (h_DownLattice_init : PySem.W.findIn K (.ref f_DownLattice) "__init__" = some (some (.ref f_DownLattice_init)))
    (i_DownLattice_init : PySem.W.isFn K (.ref f_DownLattice_init) = true)
    (l_DownLattice_init : K.lookup f_DownLattice_init = some ⟨oc_DownLattice_init, od_DownLattice_init, .func (PySem.W.ksFn "__init__" "DownLattice.__init__" (defArgs St_DownLattice_init) (defBody St_DownLattice_init) (defScope St_DownLattice_init) .none kV_DownLattice_init dc_DownLattice_init pm_DownLattice_init an_DownLattice_init (.ref cda_DownLattice_init) ct_DownLattice_init cc_DownLattice_init), sl_DownLattice_init⟩)
    (c_DownLattice_init : PySem.W.codeIn K (.ref cda_DownLattice_init) "DownLattice.__init__" = true)
    (k_DownLattice_init : PySem.W.keepIn K (.ref f_DownLattice_init) = true)
    (q_DownLattice_init : K.lookup cc_DownLattice_init = some ⟨ca_DownLattice_init, cb_DownLattice_init, .cell (some (.ref f_DownLattice)), ce_DownLattice_init⟩)
    (v_DownLattice_init : K.lookup cda_DownLattice_init = some ⟨va_DownLattice_init, vb_DownLattice_init, .fields vs_DownLattice_init, ve_DownLattice_init⟩)
    (vf_DownLattice_init : vs_DownLattice_init[2]? = some (.str fl_DownLattice_init tf_DownLattice_init))
    (vg_DownLattice_init : ((PL.main.file : Str) == fl_DownLattice_init) = true)
    (g_LatticeError : PySem.W.nsIn K mainGlobals "LatticeError" = some (some (.ref f_LatticeError)))
    (g_BadLattice : PySem.W.nsIn K mainGlobals "BadLattice" = some (some (.ref f_BadLattice)))
    (g_MixedLattices : PySem.W.nsIn K mainGlobals "MixedLattices" = some (some (.ref f_MixedLattices)))
    (xl_LatticeError : K.lookup f_LatticeError = some (excClassObj nm_LatticeError qn_LatticeError f_LatticeError ns_LatticeError bs_LatticeError [.type "ValueError", .type "Exception", .type "BaseException", .type "object"] true sn_LatticeError sub_LatticeError ab_LatticeError col_LatticeError ddc_LatticeError k0_LatticeError k1_LatticeError k2_LatticeError k3_LatticeError k5_LatticeError "ValueError.__new__"))
    (xsa_LatticeError : PySem.W.findIn K (.ref f_LatticeError) "__setattr__" = some (some (.builtin "object.__setattr__")))
    (xex_LatticeError : PySem.W.subIn K (.ref f_LatticeError) (.type "BaseException") = some true)
    (xty_LatticeError : PySem.W.typeIn K (.ref f_LatticeError) = some (.type "type"))
    (xkc_LatticeError : PySem.W.keepIn K (.ref f_LatticeError) = true)
    (xga_LatticeError : PySem.W.findIn K (.ref f_LatticeError) "__getattribute__" = some (some (.builtin "BaseException.__getattribute__")))
    (xgg_LatticeError : PySem.W.findIn K (.ref f_LatticeError) "__getattr__" = some none)
    (xhd_LatticeError : PySem.W.hasDictIn K f_LatticeError = true)
    (xq_LatticeError : PySem.W.excIn K f_LatticeError [.type "ValueError", .type "Exception", .type "BaseException", .type "object"] "ValueError.__new__" = true)
    (xl_BadLattice : K.lookup f_BadLattice = some (excClassObj nm_BadLattice qn_BadLattice f_BadLattice ns_BadLattice bs_BadLattice [.ref f_LatticeError, .type "ValueError", .type "Exception", .type "BaseException", .type "object"] true sn_BadLattice sub_BadLattice ab_BadLattice col_BadLattice ddc_BadLattice k0_BadLattice k1_BadLattice k2_BadLattice k3_BadLattice k5_BadLattice "ValueError.__new__"))
    (xsa_BadLattice : PySem.W.findIn K (.ref f_BadLattice) "__setattr__" = some (some (.builtin "object.__setattr__")))
    (xex_BadLattice : PySem.W.subIn K (.ref f_BadLattice) (.type "BaseException") = some true)
    (xty_BadLattice : PySem.W.typeIn K (.ref f_BadLattice) = some (.type "type"))
    (xkc_BadLattice : PySem.W.keepIn K (.ref f_BadLattice) = true)
    (xga_BadLattice : PySem.W.findIn K (.ref f_BadLattice) "__getattribute__" = some (some (.builtin "BaseException.__getattribute__")))
    (xgg_BadLattice : PySem.W.findIn K (.ref f_BadLattice) "__getattr__" = some none)
    (xhd_BadLattice : PySem.W.hasDictIn K f_BadLattice = true)
    (xq_BadLattice : PySem.W.excIn K f_BadLattice [.type "ValueError", .type "Exception", .type "BaseException", .type "object"] "ValueError.__new__" = true)
    (sb_BadLattice_BadLattice : PySem.W.subIn K (.ref f_BadLattice) (.ref f_BadLattice) = some true)
    (xcl_BadLattice : PySem.W.findIn K (.ref f_BadLattice) "__class__" = some (some (.builtin "object.__class__")))
    (xcg_BadLattice : PySem.W.specialIn K (.builtin "object.__class__") "__get__" = some (some (.builtin "getset_descriptor.__get__")))
    (xct_BadLattice : PySem.W.takesIn K (.builtin "object.__class__") = some true)
    (xcm_BadLattice : PySem.W.mroIn K f_BadLattice (.type "object") = some true)
    (kt_BadLattice_LatticeError : PySem.W.kitOne K (.ref f_BadLattice) (.ref f_LatticeError) = some true)
    (kt_BadLattice_ValueError : PySem.W.kitOne K (.ref f_BadLattice) (.type "ValueError") = some true)
    (kt_BadLattice_MixedLattices : PySem.W.kitOne K (.ref f_BadLattice) (.ref f_MixedLattices) = some false)
    (xl_MixedLattices : K.lookup f_MixedLattices = some (excClassObj nm_MixedLattices qn_MixedLattices f_MixedLattices ns_MixedLattices bs_MixedLattices [.ref f_LatticeError, .type "ValueError", .type "Exception", .type "BaseException", .type "object"] true sn_MixedLattices sub_MixedLattices ab_MixedLattices col_MixedLattices ddc_MixedLattices k0_MixedLattices k1_MixedLattices k2_MixedLattices k3_MixedLattices k5_MixedLattices "ValueError.__new__"))
    (xsa_MixedLattices : PySem.W.findIn K (.ref f_MixedLattices) "__setattr__" = some (some (.builtin "object.__setattr__")))
    (xex_MixedLattices : PySem.W.subIn K (.ref f_MixedLattices) (.type "BaseException") = some true)
    (xty_MixedLattices : PySem.W.typeIn K (.ref f_MixedLattices) = some (.type "type"))
    (xkc_MixedLattices : PySem.W.keepIn K (.ref f_MixedLattices) = true)
    (xga_MixedLattices : PySem.W.findIn K (.ref f_MixedLattices) "__getattribute__" = some (some (.builtin "BaseException.__getattribute__")))
    (xgg_MixedLattices : PySem.W.findIn K (.ref f_MixedLattices) "__getattr__" = some none)
    (xhd_MixedLattices : PySem.W.hasDictIn K f_MixedLattices = true)
    (xq_MixedLattices : PySem.W.excIn K f_MixedLattices [.type "ValueError", .type "Exception", .type "BaseException", .type "object"] "ValueError.__new__" = true)
    (mr_OrderLattice : PySem.W.mroIn K f_OrderLattice (.ref f_OrderLattice) = some true)
    (su_OrderLattice : PySem.W.ks_superIn K f_OrderLattice f_OrderLattice "__init__" = some (some (.ref f_Lattice_init)))
    (ci_OrderLattice : PySem.W.clsIn K f_OrderLattice = some cd_OrderLattice)
    (mr_DownLattice : PySem.W.mroIn K f_DownLattice (.ref f_DownLattice) = some true)
    (su_DownLattice : PySem.W.ks_superIn K f_DownLattice f_DownLattice "__init__" = some (some (.ref f_Lattice_init)))
    (ci_DownLattice : PySem.W.clsIn K f_DownLattice = some cd_DownLattice)
    (ty_Lattice : PySem.W.typeIn K (.ref f_Lattice_init) = some (.type "function"))
    (fi_Lattice : PySem.W.fnIn K f_Lattice_init = true)
    (st_any : PySem.W.nsIn K PySem.cStatics "thirdparty.any" = some none)
    : ∃ fd : FuncData, (∀ (s : Shared) (v : Value), BindsTo s fd ⟨[v], []⟩ [("script", v)]) ∧ ∀ base : Heap, K.In base → base.Ns mainGlobals mg → FnOk PL W_ K mg base L2.CX0 120 fa fd ["script"] (spLaw K) := by
  have e := hfa.symm.trans (PySem.W.mg_of X G g_law)
  cases e
  have F_first_place := fun_mk (st := St_first_place) l_first_place c_first_place k_first_place
  have b_first_place := F_first_place.binds (ps := ["sets", "wanted"]) fun _ _ _ _ _ _ us hl => match us, hl with | [_, _], _ => rfl
  have F_closed_downs := fun_mk (st := St_closed_downs) l_closed_downs c_closed_downs k_closed_downs
  have b_closed_downs := F_closed_downs.binds (ps := ["names", "pairs"]) fun _ _ _ _ _ _ us hl => match us, hl with | [_, _], _ => rfl
  have F_check_names := fun_mk (st := St_check_names) l_check_names c_check_names k_check_names
  have b_check_names := F_check_names.binds (ps := ["names", "most"]) fun _ _ _ _ _ _ us hl => match us, hl with | [_, _], _ => rfl
  have F_pair_words := fun_mk (st := St_pair_words) l_pair_words c_pair_words k_pair_words
  have b_pair_words := F_pair_words.binds (ps := ["pairs"]) fun _ _ _ _ _ _ us hl => match us, hl with | [_], _ => rfl
  have F_parts_among := fun_mk (st := St_parts_among) l_parts_among c_parts_among k_parts_among
  have b_parts_among := F_parts_among.binds (ps := ["numbers", "number"]) fun _ _ _ _ _ _ us hl => match us, hl with | [_, _], _ => rfl
  have F__law_cells := fun_mk (st := St__law_cells) l__law_cells c__law_cells k__law_cells
  have b__law_cells := F__law_cells.binds (ps := ["script"]) fun _ _ _ _ _ _ us hl => match us, hl with | [_], _ => rfl
  have F__law_pick := fun_mk (st := St__law_pick) l__law_pick c__law_pick k__law_pick
  have b__law_pick := F__law_pick.binds (ps := ["source", "many"]) fun _ _ _ _ _ _ us hl => match us, hl with | [_, _], _ => rfl
  have F__law_words := fun_mk (st := St__law_words) l__law_words c__law_words k__law_words
  have b__law_words := F__law_words.binds (ps := ["source", "many"]) fun _ _ _ _ _ _ us hl => match us, hl with | [_, _], _ => rfl
  have F__law_closed := fun_mk (st := St__law_closed) l__law_closed c__law_closed k__law_closed
  have b__law_closed := F__law_closed.binds (ps := ["many", "pairs"]) fun _ _ _ _ _ _ us hl => match us, hl with | [_, _], _ => rfl
  have F__law_odd := fun_mk (st := St__law_odd) l__law_odd c__law_odd k__law_odd
  have b__law_odd := F__law_odd.binds (ps := ["state"]) fun _ _ _ _ _ _ us hl => match us, hl with | [_], _ => rfl
  have F__law_right_name := fun_mk (st := St__law_right_name) l__law_right_name c__law_right_name k__law_right_name
  have b__law_right_name := F__law_right_name.binds (ps := ["name"]) fun _ _ _ _ _ _ us hl => match us, hl with | [_], _ => rfl
  have F__law_size := fun_mk (st := St__law_size) l__law_size c__law_size k__law_size
  have b__law_size := F__law_size.binds (ps := ["names", "pairs", "downs"]) fun _ _ _ _ _ _ us hl => match us, hl with | [_, _, _], _ => rfl
  have F_law := fun_mk (st := St_law) l_law c_law k_law
  have b_law := F_law.binds (ps := ["script"]) fun _ _ _ _ _ _ us hl => match us, hl with | [_], _ => rfl
  have F_Lattice_init : FunD K "__init__" "Lattice.__init__" St_Lattice_init f_Lattice_init _ td_Lattice_init := ⟨⟨_, _, _, _, _, _, _, _, _, rfl, l_Lattice_init, c_Lattice_init⟩, k_Lattice_init⟩
  have b4_Lattice_init := F_Lattice_init.bindsD (ps := ["self", "label", "names", "downs", "depth"]) (its := [.int 1 du0_Lattice_init]) dd_Lattice_init 4 0 rfl fun _ _ _ _ _ _ us hl => match us, hl with | [_, _, _, _], _ => ⟨_, rfl, rfl⟩
  have b5_Lattice_init := F_Lattice_init.bindsD (ps := ["self", "label", "names", "downs", "depth"]) (its := [.int 1 du0_Lattice_init]) dd_Lattice_init 5 1 rfl fun _ _ _ _ _ _ us hl => match us, hl with | [_, _, _, _, _], _ => ⟨_, rfl, rfl⟩
  have F_OrderLattice_init := funK_mk (st := St_OrderLattice_init) (PL := PL) l_OrderLattice_init c_OrderLattice_init k_OrderLattice_init q_OrderLattice_init v_OrderLattice_init vf_OrderLattice_init vg_OrderLattice_init
  have b_OrderLattice_init := F_OrderLattice_init.binds (ps := ["self", "names", "pairs"]) fun _ _ _ _ _ _ _ us hl => match us, hl with | [_, _, _], _ => rfl
  have F_DownLattice_init := funK_mk (st := St_DownLattice_init) (PL := PL) l_DownLattice_init c_DownLattice_init k_DownLattice_init q_DownLattice_init v_DownLattice_init vf_DownLattice_init vg_DownLattice_init
  have b_DownLattice_init := F_DownLattice_init.binds (ps := ["self", "names", "pairs"]) fun _ _ _ _ _ _ _ us hl => match us, hl with | [_, _, _], _ => rfl
  let T : Tx K mg W_ := { n_ValueError := PySem.W.mg_none_of X G z_ValueError, n_abs := PySem.W.mg_none_of X G z_abs, n_all := PySem.W.mg_none_of X G z_all, n_any := PySem.W.mg_none_of X G z_any, n_enumerate := PySem.W.mg_none_of X G z_enumerate, n_int := PySem.W.mg_none_of X G z_int, n_isinstance := PySem.W.mg_none_of X G z_isinstance, n_len := PySem.W.mg_none_of X G z_len, n_list := PySem.W.mg_none_of X G z_list, n_max := PySem.W.mg_none_of X G z_max, n_min := PySem.W.mg_none_of X G z_min, n_range := PySem.W.mg_none_of X G z_range, n_sum := PySem.W.mg_none_of X G z_sum, n_super := PySem.W.mg_none_of X G z_super, n_tuple := PySem.W.mg_none_of X G z_tuple, a_first_place := f_first_place, d_first_place := _, F_first_place := F_first_place, b_first_place := b_first_place, g_first_place := PySem.W.mg_of X G g_first_place, a_closed_downs := f_closed_downs, d_closed_downs := _, F_closed_downs := F_closed_downs, b_closed_downs := b_closed_downs, g_closed_downs := PySem.W.mg_of X G g_closed_downs, a_check_names := f_check_names, d_check_names := _, F_check_names := F_check_names, b_check_names := b_check_names, g_check_names := PySem.W.mg_of X G g_check_names, a_pair_words := f_pair_words, d_pair_words := _, F_pair_words := F_pair_words, b_pair_words := b_pair_words, g_pair_words := PySem.W.mg_of X G g_pair_words, a_parts_among := f_parts_among, d_parts_among := _, F_parts_among := F_parts_among, b_parts_among := b_parts_among, g_parts_among := PySem.W.mg_of X G g_parts_among, a__law_cells := f__law_cells, d__law_cells := _, F__law_cells := F__law_cells, b__law_cells := b__law_cells, g__law_cells := PySem.W.mg_of X G g__law_cells, a__law_pick := f__law_pick, d__law_pick := _, F__law_pick := F__law_pick, b__law_pick := b__law_pick, g__law_pick := PySem.W.mg_of X G g__law_pick, a__law_words := f__law_words, d__law_words := _, F__law_words := F__law_words, b__law_words := b__law_words, g__law_words := PySem.W.mg_of X G g__law_words, a__law_closed := f__law_closed, d__law_closed := _, F__law_closed := F__law_closed, b__law_closed := b__law_closed, g__law_closed := PySem.W.mg_of X G g__law_closed, a__law_odd := f__law_odd, d__law_odd := _, F__law_odd := F__law_odd, b__law_odd := b__law_odd, g__law_odd := PySem.W.mg_of X G g__law_odd, a__law_right_name := f__law_right_name, d__law_right_name := _, F__law_right_name := F__law_right_name, b__law_right_name := b__law_right_name, g__law_right_name := PySem.W.mg_of X G g__law_right_name, a__law_size := f__law_size, d__law_size := _, F__law_size := F__law_size, b__law_size := b__law_size, g__law_size := PySem.W.mg_of X G g__law_size, a_law := fa, d_law := _, F_law := F_law, b_law := b_law, g_law := PySem.W.mg_of X G g_law, g_LETTERS := ⟨_, PySem.W.mg_of X G g_LETTERS⟩, a_Lattice := f_Lattice, g_Lattice := PySem.W.mg_of X G g_Lattice, c_Lattice := ⟨pg_Lattice, hd_Lattice, po_Lattice, sa_Lattice⟩, n_Lattice_label := na_Lattice_label, n_Lattice_size := na_Lattice_size, n_Lattice_depth := na_Lattice_depth, n_Lattice_value_names := na_Lattice_value_names, n_Lattice_downs := na_Lattice_downs, n_Lattice_ups := na_Lattice_ups, n_Lattice_bottom_at := na_Lattice_bottom_at, n_Lattice_top_at := na_Lattice_top_at, b4_Lattice_init := ⟨_, b4_Lattice_init⟩, b5_Lattice_init := b5_Lattice_init, a_Lattice_init := f_Lattice_init, d_Lattice_init := _, t_Lattice_init := td_Lattice_init, F_Lattice_init := F_Lattice_init, dd_Lattice_init := ⟨_, _, dd_Lattice_init⟩, M_Lattice := ⟨mk_Lattice, h_Lattice_init, i_Lattice_init, kc_Lattice⟩, a_OrderLattice := f_OrderLattice, g_OrderLattice := PySem.W.mg_of X G g_OrderLattice, c_OrderLattice := ⟨pg_OrderLattice, hd_OrderLattice, po_OrderLattice, sa_OrderLattice⟩, n_OrderLattice_label := na_OrderLattice_label, n_OrderLattice_size := na_OrderLattice_size, n_OrderLattice_depth := na_OrderLattice_depth, n_OrderLattice_value_names := na_OrderLattice_value_names, n_OrderLattice_downs := na_OrderLattice_downs, n_OrderLattice_ups := na_OrderLattice_ups, n_OrderLattice_bottom_at := na_OrderLattice_bottom_at, n_OrderLattice_top_at := na_OrderLattice_top_at, a_OrderLattice_init := f_OrderLattice_init, d_OrderLattice_init := _, F_OrderLattice_init := F_OrderLattice_init, b_OrderLattice_init := b_OrderLattice_init, M_OrderLattice := ⟨mk_OrderLattice, h_OrderLattice_init, i_OrderLattice_init, kc_OrderLattice⟩, a_DownLattice := f_DownLattice, g_DownLattice := PySem.W.mg_of X G g_DownLattice, c_DownLattice := ⟨pg_DownLattice, hd_DownLattice, po_DownLattice, sa_DownLattice⟩, n_DownLattice_label := na_DownLattice_label, n_DownLattice_size := na_DownLattice_size, n_DownLattice_depth := na_DownLattice_depth, n_DownLattice_value_names := na_DownLattice_value_names, n_DownLattice_downs := na_DownLattice_downs, n_DownLattice_ups := na_DownLattice_ups, n_DownLattice_bottom_at := na_DownLattice_bottom_at, n_DownLattice_top_at := na_DownLattice_top_at, a_DownLattice_init := f_DownLattice_init, d_DownLattice_init := _, F_DownLattice_init := F_DownLattice_init, b_DownLattice_init := b_DownLattice_init, M_DownLattice := ⟨mk_DownLattice, h_DownLattice_init, i_DownLattice_init, kc_DownLattice⟩, a_LatticeError := f_LatticeError, g_LatticeError := PySem.W.mg_of X G g_LatticeError, a_BadLattice := f_BadLattice, g_BadLattice := PySem.W.mg_of X G g_BadLattice, a_MixedLattices := f_MixedLattices, g_MixedLattices := PySem.W.mg_of X G g_MixedLattices, x_LatticeError := ⟨⟨_, _, _, _, _, _, _, _, _, _, _, _, _, _, _, xl_LatticeError, .nil⟩, xsa_LatticeError, xex_LatticeError, xty_LatticeError, xkc_LatticeError⟩, f_LatticeError := ⟨xga_LatticeError, xgg_LatticeError, xex_LatticeError, xhd_LatticeError⟩, q_LatticeError := xq_LatticeError, r_LatticeError := ⟨xex_LatticeError, xty_LatticeError, xkc_LatticeError⟩, x_BadLattice := ⟨⟨_, _, _, _, _, _, _, _, _, _, _, _, _, _, _, xl_BadLattice, (.cons .nil)⟩, xsa_BadLattice, xex_BadLattice, xty_BadLattice, xkc_BadLattice⟩, f_BadLattice := ⟨xga_BadLattice, xgg_BadLattice, xex_BadLattice, xhd_BadLattice⟩, q_BadLattice := xq_BadLattice, r_BadLattice := ⟨xex_BadLattice, xty_BadLattice, xkc_BadLattice⟩, te_BadLattice_BadLattice := PySem.W.exm_ref xex_BadLattice xhd_BadLattice xty_BadLattice sb_BadLattice_BadLattice, xc_BadLattice := ⟨xga_BadLattice, xgg_BadLattice, xex_BadLattice, xhd_BadLattice, xcl_BadLattice, xcg_BadLattice, xct_BadLattice, xcm_BadLattice⟩, kx_BadLattice_LatticeError := kt_BadLattice_LatticeError, kx_BadLattice_ValueError := kt_BadLattice_ValueError, kx_BadLattice_MixedLattices := kt_BadLattice_MixedLattices, x_MixedLattices := ⟨⟨_, _, _, _, _, _, _, _, _, _, _, _, _, _, _, xl_MixedLattices, (.cons .nil)⟩, xsa_MixedLattices, xex_MixedLattices, xty_MixedLattices, xkc_MixedLattices⟩, f_MixedLattices := ⟨xga_MixedLattices, xgg_MixedLattices, xex_MixedLattices, xhd_MixedLattices⟩, q_MixedLattices := xq_MixedLattices, r_MixedLattices := ⟨xex_MixedLattices, xty_MixedLattices, xkc_MixedLattices⟩, mr_OrderLattice := mr_OrderLattice, su_OrderLattice := su_OrderLattice, ci_OrderLattice := ⟨_, ci_OrderLattice⟩, mr_DownLattice := mr_DownLattice, su_DownLattice := su_DownLattice, ci_DownLattice := ⟨_, ci_DownLattice⟩, ty_Lattice := ty_Lattice, fi_Lattice := fi_Lattice, st_any := st_any }
  exact ⟨T.d_law, fun s v => .of_eq rfl, fun base _ _ => F T base⟩
def lo0 : List PySem.Str := ["_wall", "LatticeError", "BadLattice", "MixedLattices", "LETTERS", "Lattice", "first_place", "closed_downs", "check_names", "pair_words", "OrderLattice", "DownLattice", "parts_among", "_law_cells", "_law_pick", "_law_words", "_law_closed", "_law_odd", "_law_right_name", "_law_size"]
def lo : List PySem.Str := lo0
abbrev qv : Program := PySem.W.view PySem.Challenge.pw_latticewish_k02_bad_orders [24]
end Lw
section
open PySem PySem.W PyProof.Rows
set_option hygiene false in
local macro_rules | `(tactic| o_headL $H:term) => `(tactic| exact h.elim)
set_option maxRecDepth 100000 in
set_option maxHeartbeats 0 in
theorem Lw.t0 (h : False) : PySem.Challenge.rw_latticewish_k02_bad_orders.Holds := by
  w_on; o_law; k_headL
def Lw.asL : List Addr := [2, 3, 15, 17, 18, 20, 21, 22, 29, 30, 31, 32, 35, 42, 43, 44, 47, 54, 55, 56, 66, 67, 70, 71, 72, 74, 75, 77, 78, 79, 81, 82, 84, 85, 86, 88, 89, 91, 92, 93, 95, 96, 98, 99, 100, 102, 103, 105, 106, 107, 109, 110, 112, 113, 114, 115, 116, 117, 118, 121, 123, 124, 126, 127, 128, 131, 132, 133, 136, 137, 138, 141, 142, 143, 146, 151, 152, 154, 155, 157, 158, 159, 160, 161, 164, 167, 172, 173, 176, 177, 178, 179, 180, 183, 186, 187, 188, 191, 192, 193, 195, 196, 198, 199, 200, 203, 204, 205, 208, 209, 210, 212, 213, 215, 216, 217, 219, 220, 222, 223, 224, 227, 228, 229, 231, 232, 234, 235]
def Lw.RunE (w : World) : Prop := ∀ os : OsState, (HeadRun.endF (HeadRun.stepQ (HeadRun.denQ HeadRun.tabQ) (PySem.W.OpenLaw.row PySem.Challenge.rw_latticewish_k02_bad_orders).prog w) 20000 (PySem.W.OpenLaw.row PySem.Challenge.rw_latticewish_k02_bad_orders).prog w os).map (fun s => (HeadRun.looksF (PySem.W.OpenLaw.row PySem.Challenge.rw_latticewish_k02_bad_orders).prog (boot_heap w.params) s.abs, HeadRun.seenQ Lw.qv Lw.lo (importedModules (PySem.W.OpenLaw.row PySem.Challenge.rw_latticewish_k02_bad_orders).prog.main.body) (fun s => PySem.W.xlAt Lw.qv [] s && PySem.W.recOk (PySem.W.RowW.records (PySem.W.OpenRow.toRowW (PySem.W.OpenLaw.row PySem.Challenge.rw_latticewish_k02_bad_orders))) s) s.abs, Lw.asL.map (HeadRun.getT s))) = some (true, openGood Lw.qv Lw.lo, (Lw.t0.heap_39 w.params).map fun x => some x.2)
set_option maxRecDepth 100000 in
theorem Lw.runF (w : World) : Lw.RunE (w.withFollow "special-get-raises" false) := by
  intro os
  kernel_rfl
set_option maxRecDepth 100000 in
theorem Lw.runT (w : World) : Lw.RunE (w.withFollow "special-get-raises" true) := by
  intro os
  kernel_rfl
theorem Lw.run (w : World) : Lw.RunE w := PySem.W.byRow2 "special-get-raises" Lw.runF Lw.runT w
set_option maxRecDepth 100000 in
set_option maxHeartbeats 0 in
theorem Lw.pre (F : ∀ (K : PySem.W.Frag) (mg : Str → Option Value) (w : World) (T : Lw.Tx K mg w) (base : Heap), L2.FnOk Lw.PL w K mg base L2.CX0 120 T.a_law T.d_law ["script"] (Lw.spLaw K)) : PySem.Challenge.rw_latticewish_k02_bad_orders.Holds := by
  w_on; o_law
  refine PySem.W.holds_open (r := PySem.W.OpenLaw.row PySem.Challenge.rw_latticewish_k02_bad_orders) (q := Lw.qv) (loose := Lw.lo) (Xt := (fun s => PySem.W.xlAt Lw.qv [] s && PySem.W.recOk (PySem.W.RowW.records (PySem.W.OpenRow.toRowW (PySem.W.OpenLaw.row PySem.Challenge.rw_latticewish_k02_bad_orders))) s)) (XP := PySem.W.XL Lw.qv []) (Yf := PySem.W.Hook.obs (kHook Lw.t0.heap_39 Lw.asL (fun _ => by kernel_rfl))) (Ya := PySem.W.Hook.val (kHook Lw.t0.heap_39 Lw.asL (fun _ => by kernel_rfl))) (YP := PySem.W.Hook.says (kHook Lw.t0.heap_39 Lw.asL (fun _ => by kernel_rfl))) (N := 21000) ?hl (PySem.W.Hook.of (kHook Lw.t0.heap_39 Lw.asL (fun _ => by kernel_rfl))) (PySem.W.Hook.keeps (kHook Lw.t0.heap_39 Lw.asL (fun _ => by kernel_rfl))) (fun s e => PySem.W.xl_of s (Bool.and_eq_true_iff.mp e).1) PySem.W.XL.keeps (by rfl) (by rfl) (by rfl) (fun s e => PySem.W.recFacts_of (Bool.and_eq_true_iff.mp e).2) (by rfl) (by first | assumption | decide +kernel) (by decide +kernel) ⟨rfl, rfl, rfl, rfl, rfl, by decide +kernel⟩ ?hw ?hc
  case hl => exact HeadRun.left_oneK (M := 20000) (by kernel_rfl) (by rfl) (fun s => by kernel_rfl) (by rfl) (fun w os => Lw.run w os)
  case hw => ((try (rename_i sd; clear sd)); w_witness2)
  try (rename_i sd; clear sd)
  k_fill
  refine L2.walk_of (n := 63) (k := 120) (x := "script") (CX := fun w => L2.CX0) (sp := fun w => Lw.spLaw _) rfl (by decide) rfl ⟨rfl, by decide, by decide⟩ (fun w h Y => PySem.W.kIn_of Y) ?F (fun _ _ a ns hl _ hS => ⟨a, ns, rfl, hS, hl, fun _ => rfl⟩) fun _ _ _ _ _ z => z
  case F =>
    intro w mg fa h KX G hmg
    refine' Lw.all_mk (l := PySem.Challenge.rw_latticewish_k02_bad_orders) KX G hmg (fun T base => F _ _ _ T base) ?z_ValueError ?z_abs ?z_all ?z_any ?z_enumerate ?z_int ?z_isinstance ?z_len ?z_list ?z_max ?z_min ?z_range ?z_sum ?z_super ?z_tuple ?g_first_place ?l_first_place ?c_first_place ?k_first_place ?g_closed_downs ?l_closed_downs ?c_closed_downs ?k_closed_downs ?g_check_names ?l_check_names ?c_check_names ?k_check_names ?g_pair_words ?l_pair_words ?c_pair_words ?k_pair_words ?g_parts_among ?l_parts_among ?c_parts_among ?k_parts_among ?g__law_cells ?l__law_cells ?c__law_cells ?k__law_cells ?g__law_pick ?l__law_pick ?c__law_pick ?k__law_pick ?g__law_words ?l__law_words ?c__law_words ?k__law_words ?g__law_closed ?l__law_closed ?c__law_closed ?k__law_closed ?g__law_odd ?l__law_odd ?c__law_odd ?k__law_odd ?g__law_right_name ?l__law_right_name ?c__law_right_name ?k__law_right_name ?g__law_size ?l__law_size ?c__law_size ?k__law_size ?g_law ?l_law ?c_law ?k_law ?g_LETTERS ?g_Lattice ?pg_Lattice ?hd_Lattice ?po_Lattice ?sa_Lattice ?mk_Lattice ?kc_Lattice ?na_Lattice_label ?na_Lattice_size ?na_Lattice_depth ?na_Lattice_value_names ?na_Lattice_downs ?na_Lattice_ups ?na_Lattice_bottom_at ?na_Lattice_top_at ?h_Lattice_init ?i_Lattice_init ?l_Lattice_init ?c_Lattice_init ?k_Lattice_init ?dd_Lattice_init ?g_OrderLattice ?pg_OrderLattice ?hd_OrderLattice ?po_OrderLattice ?sa_OrderLattice ?mk_OrderLattice ?kc_OrderLattice ?na_OrderLattice_label ?na_OrderLattice_size ?na_OrderLattice_depth ?na_OrderLattice_value_names ?na_OrderLattice_downs ?na_OrderLattice_ups ?na_OrderLattice_bottom_at ?na_OrderLattice_top_at ?h_OrderLattice_init ?i_OrderLattice_init ?l_OrderLattice_init ?c_OrderLattice_init ?k_OrderLattice_init ?q_OrderLattice_init ?v_OrderLattice_init ?vf_OrderLattice_init ?vg_OrderLattice_init ?g_DownLattice ?pg_DownLattice ?hd_DownLattice ?po_DownLattice ?sa_DownLattice ?mk_DownLattice ?kc_DownLattice ?na_DownLattice_label ?na_DownLattice_size ?na_DownLattice_depth ?na_DownLattice_value_names ?na_DownLattice_downs ?na_DownLattice_ups ?na_DownLattice_bottom_at ?na_DownLattice_top_at ?h_DownLattice_init ?i_DownLattice_init ?l_DownLattice_init ?c_DownLattice_init ?k_DownLattice_init ?q_DownLattice_init ?v_DownLattice_init ?vf_DownLattice_init ?vg_DownLattice_init ?g_LatticeError ?g_BadLattice ?g_MixedLattices ?xl_LatticeError ?xsa_LatticeError ?xex_LatticeError ?xty_LatticeError ?xkc_LatticeError ?xga_LatticeError ?xgg_LatticeError ?xhd_LatticeError ?xq_LatticeError ?xl_BadLattice ?xsa_BadLattice ?xex_BadLattice ?xty_BadLattice ?xkc_BadLattice ?xga_BadLattice ?xgg_BadLattice ?xhd_BadLattice ?xq_BadLattice ?sb_BadLattice_BadLattice ?xcl_BadLattice ?xcg_BadLattice ?xct_BadLattice ?xcm_BadLattice ?kt_BadLattice_LatticeError ?kt_BadLattice_ValueError ?kt_BadLattice_MixedLattices ?xl_MixedLattices ?xsa_MixedLattices ?xex_MixedLattices ?xty_MixedLattices ?xkc_MixedLattices ?xga_MixedLattices ?xgg_MixedLattices ?xhd_MixedLattices ?xq_MixedLattices ?mr_OrderLattice ?su_OrderLattice ?ci_OrderLattice ?mr_DownLattice ?su_DownLattice ?ci_DownLattice ?ty_Lattice ?fi_Lattice ?st_any
    (case z_ValueError => k_is)
    (case z_abs => k_is)
    (case z_all => k_is)
    (case z_any => k_is)
    (case z_enumerate => k_is)
    (case z_int => k_is)
    (case z_isinstance => k_is)
    (case z_len => k_is)
    (case z_list => k_is)
    (case z_max => k_is)
    (case z_min => k_is)
    (case z_range => k_is)
    (case z_sum => k_is)
    (case z_super => k_is)
    (case z_tuple => k_is)
    (case g_first_place => k_is)
    (case l_first_place => k_is)
    (case c_first_place => k_is)
    (case k_first_place => k_is)
    (case g_closed_downs => k_is)
    (case l_closed_downs => k_is)
    (case c_closed_downs => k_is)
    (case k_closed_downs => k_is)
    (case g_check_names => k_is)
    (case l_check_names => k_is)
    (case c_check_names => k_is)
    (case k_check_names => k_is)
    (case g_pair_words => k_is)
    (case l_pair_words => k_is)
    (case c_pair_words => k_is)
    (case k_pair_words => k_is)
    (case g_parts_among => k_is)
    (case l_parts_among => k_is)
    (case c_parts_among => k_is)
    (case k_parts_among => k_is)
    (case g__law_cells => k_is)
    (case l__law_cells => k_is)
    (case c__law_cells => k_is)
    (case k__law_cells => k_is)
    (case g__law_pick => k_is)
    (case l__law_pick => k_is)
    (case c__law_pick => k_is)
    (case k__law_pick => k_is)
    (case g__law_words => k_is)
    (case l__law_words => k_is)
    (case c__law_words => k_is)
    (case k__law_words => k_is)
    (case g__law_closed => k_is)
    (case l__law_closed => k_is)
    (case c__law_closed => k_is)
    (case k__law_closed => k_is)
    (case g__law_odd => k_is)
    (case l__law_odd => k_is)
    (case c__law_odd => k_is)
    (case k__law_odd => k_is)
    (case g__law_right_name => k_is)
    (case l__law_right_name => k_is)
    (case c__law_right_name => k_is)
    (case k__law_right_name => k_is)
    (case g__law_size => k_is)
    (case l__law_size => k_is)
    (case c__law_size => k_is)
    (case k__law_size => k_is)
    (case g_law => k_is)
    (case l_law => k_is)
    (case c_law => k_is)
    (case k_law => k_is)
    (case g_LETTERS => k_is)
    (case g_Lattice => k_is)
    (case pg_Lattice => k_is)
    (case hd_Lattice => k_is)
    (case po_Lattice => k_is)
    (case sa_Lattice => k_is)
    (case mk_Lattice => k_is)
    (case kc_Lattice => k_is)
    (case na_Lattice_label => k_is)
    (case na_Lattice_size => k_is)
    (case na_Lattice_depth => k_is)
    (case na_Lattice_value_names => k_is)
    (case na_Lattice_downs => k_is)
    (case na_Lattice_ups => k_is)
    (case na_Lattice_bottom_at => k_is)
    (case na_Lattice_top_at => k_is)
    (case h_Lattice_init => k_is)
    (case i_Lattice_init => k_is)
    (case l_Lattice_init => k_is)
    (case c_Lattice_init => k_is)
    (case k_Lattice_init => k_is)
    (case dd_Lattice_init => k_is)
    (case g_OrderLattice => k_is)
    (case pg_OrderLattice => k_is)
    (case hd_OrderLattice => k_is)
    (case po_OrderLattice => k_is)
    (case sa_OrderLattice => k_is)
    (case mk_OrderLattice => k_is)
    (case kc_OrderLattice => k_is)
    (case na_OrderLattice_label => k_is)
    (case na_OrderLattice_size => k_is)
    (case na_OrderLattice_depth => k_is)
    (case na_OrderLattice_value_names => k_is)
    (case na_OrderLattice_downs => k_is)
    (case na_OrderLattice_ups => k_is)
    (case na_OrderLattice_bottom_at => k_is)
    (case na_OrderLattice_top_at => k_is)
    (case h_OrderLattice_init => k_is)
    (case i_OrderLattice_init => k_is)
    (case l_OrderLattice_init => k_is)
    (case c_OrderLattice_init => k_is)
    (case k_OrderLattice_init => k_is)
    (case q_OrderLattice_init => k_is)
    (case v_OrderLattice_init => k_is)
    (case vf_OrderLattice_init => rfl)
    (case vg_OrderLattice_init => decide +kernel)
    (case g_DownLattice => k_is)
    (case pg_DownLattice => k_is)
    (case hd_DownLattice => k_is)
    (case po_DownLattice => k_is)
    (case sa_DownLattice => k_is)
    (case mk_DownLattice => k_is)
    (case kc_DownLattice => k_is)
    (case na_DownLattice_label => k_is)
    (case na_DownLattice_size => k_is)
    (case na_DownLattice_depth => k_is)
    (case na_DownLattice_value_names => k_is)
    (case na_DownLattice_downs => k_is)
    (case na_DownLattice_ups => k_is)
    (case na_DownLattice_bottom_at => k_is)
    (case na_DownLattice_top_at => k_is)
    (case h_DownLattice_init => k_is)
    (case i_DownLattice_init => k_is)
    (case l_DownLattice_init => k_is)
    (case c_DownLattice_init => k_is)
    (case k_DownLattice_init => k_is)
    (case q_DownLattice_init => k_is)
    (case v_DownLattice_init => k_is)
    (case vf_DownLattice_init => rfl)
    (case vg_DownLattice_init => decide +kernel)
    (case g_LatticeError => k_is)
    (case g_BadLattice => k_is)
    (case g_MixedLattices => k_is)
    (case xl_LatticeError => k_is)
    (case xsa_LatticeError => k_is)
    (case xex_LatticeError => k_is)
    (case xty_LatticeError => k_is)
    (case xkc_LatticeError => k_is)
    (case xga_LatticeError => k_is)
    (case xgg_LatticeError => k_is)
    (case xhd_LatticeError => k_is)
    (case xq_LatticeError => k_exc)
    (case xl_BadLattice => k_is)
    (case xsa_BadLattice => k_is)
    (case xex_BadLattice => k_is)
    (case xty_BadLattice => k_is)
    (case xkc_BadLattice => k_is)
    (case xga_BadLattice => k_is)
    (case xgg_BadLattice => k_is)
    (case xhd_BadLattice => k_is)
    (case xq_BadLattice => k_exc)
    (case sb_BadLattice_BadLattice => first | rfl | k_is)
    (case xcl_BadLattice => k_is)
    (case xcg_BadLattice => k_is)
    (case xct_BadLattice => k_is)
    (case xcm_BadLattice => k_is)
    (case kt_BadLattice_LatticeError => kit_is)
    (case kt_BadLattice_ValueError => kit_is)
    (case kt_BadLattice_MixedLattices => kit_is)
    (case xl_MixedLattices => k_is)
    (case xsa_MixedLattices => k_is)
    (case xex_MixedLattices => k_is)
    (case xty_MixedLattices => k_is)
    (case xkc_MixedLattices => k_is)
    (case xga_MixedLattices => k_is)
    (case xgg_MixedLattices => k_is)
    (case xhd_MixedLattices => k_is)
    (case xq_MixedLattices => k_exc)
    (case mr_OrderLattice => k_is)
    (case su_OrderLattice => ks_is)
    (case ci_OrderLattice => k_is)
    (case mr_DownLattice => k_is)
    (case su_DownLattice => ks_is)
    (case ci_DownLattice => k_is)
    (case ty_Lattice => k_is)
    (case fi_Lattice => k_is)
    (case st_any => k_is)
end
namespace Lw
open PySem L2
local macro_rules | `(tactic| walk_at "up") => `(tactic| first | assumption | (refine Same.at (by assumption) ?_; walk_at "up") | (refine Same.seq (by assumption) ?_; walk_at "up"))
local macro_rules | `(tactic| walk_at "rd") => `(tactic| repeat (first | (refine ⟨_, rfl, ?_⟩) | (refine ⟨_, _, rfl, rfl, ?_⟩) | (refine ⟨(by decide), ?_⟩)))
section
variable {P : Program} {w W_ : World} {K : PySem.W.Frag} {mg : Str → Option Value} {base : Heap}
/-! the law's draws -/
def sp_cells (K : PySem.W.Frag) : Sp := fun vs H Q _ => ∃ (a : Addr) (ns : List Int), vs = [.ref a] ∧ SqL K H a (ns.map V.int) ∧ ns.length ≤ 63 ∧
  ∀ (p c : Addr) (m : Int) (cs : List Int) (H' : Hp), Same H H' → c ≠ p → H' c = some (.lst (cs.map V.int)) → (∀ z ∈ cs, 0 ≤ z) → H' p = some (.lst [.ref c, .int 0, .int 1, .int m]) → 0 ≤ m → m < 2147483563 → Q (.ref p) H'
theorem ok__law_cells (T : Tx K mg W_) : FnOk P w K mg base CX0 1 T.a__law_cells T.d__law_cells ["script"] (sp_cells K) := by
  refine T.F__law_cells.ok sc__law_cells (fun vs H Q E h => ?_) (fun cdv A outer s H vs Q E hr h => ?_)
  · obtain ⟨a, ns, rfl, _⟩ := h
    rfl
  obtain ⟨a, ns, rfl, hS, h63, q⟩ := h
  refine ⟨_, pss_cons (ps_set (i := 1) sc__law_cells.nd rfl (Or.inl rfl) pe_int)
    (pss_cons (ps_for PassesOwn.never rfl (pi_list (pv 0)) (pg_name (i := 2) sc__law_cells.nd rfl (Or.inl rfl))
      (pss_one (ps_set (i := 1) sc__law_cells.nd rfl (Or.inl rfl) (pe_op op_mod (pe_callTy call_int1 (by rfl) T.n_int (by decide +kernel) (pa_cons (pe_op op_add (pe_op op_add (pe_op op_mul (pv 1) pe_int) (pe_op op_mul (pv 2) pe_int)) pe_int) pa_nil)) pe_int))))
    (pss_one (ps_ret (pe_lst (pa_cons (pe_lc (own := [("cell", 2)]) (g := gName 2) (tt := tYes) rfl sc__law_cells.nd (pi_list (pv 0)) (blkOk_by (N := ["script", "mixed", "cell"]) (sc := defScope St__law_cells) (by decide +kernel)) (fun _ _ _ _ _ => pg_name (i := 2) sc__law_cells.nd rfl (Or.inl rfl)) (fun _ _ _ _ _ => pts_nil)
        (fun _ _ _ _ _ => pe_callB call_abs (by rfl) T.n_abs (by decide +kernel) (pa_cons (pv 2) pa_nil)))
      (pa_cons pe_int (pa_cons pe_int (pa_cons (pv 1) pa_nil)))))))), ?_⟩
  refine ⟨_, rfl, a, rfl, ⟨_, hS⟩, for_list (K := K) (a := a) (xs := ns.map V.int) (fun i σ H2 => ∃ (m : Int) (v : Option V), σ = [some (.ref a), some (.int m), v] ∧ H2 = H ∧ 0 ≤ m ∧ m < 2147483563)
    ⟨3, none, rfl, rfl, by decide, by decide⟩ (fun i σ H2 _ ⟨_, _, _, e, _⟩ => by rw [e]; exact hS) ?_ ?_⟩
  · rintro i x σ H2 hi ⟨m, v, rfl, rfl, m0, m1⟩
    obtain ⟨z, _, rfl⟩ := map_at hi
    refine ⟨_, rfl, _, _, rfl, rfl, .inr (by decide), _, rfl, _, _, rfl, rfl, .inr (by decide), _, _, rfl, rfl, _, _, rfl, rfl, .inl ⟨_, rfl, _, _, rfl, rfl, (by show (0 : Int) < 2147483563; decide), ?_⟩⟩
    exact ⟨_, _, rfl, rfl, Int.emod_nonneg _ (by decide), Int.emod_lt_of_pos _ (by decide)⟩
  · rintro σ H2 ⟨m, v, rfl, rfl, m0, m1⟩
    refine ⟨_, rfl, a, rfl, ⟨_, hS⟩, fun D hD => lc_list (K := K) (a := a) (xs := ns.map V.int) (fun i H3 => Same H2 H3 ∧ H3 D = some (.lst (((ns.take i).map fun i : Int => if i < 0 then -i else i).map V.int)))
      ⟨Same.new hD _, upd_same⟩ (fun i H3 _ h => h.1.seq hS) ?_ ?_⟩
    · rintro i x H3 hi ⟨s3, h3⟩
      obtain ⟨z, hz, rfl⟩ := map_at hi
      have hl : i < ns.length := (List.getElem?_eq_some_iff.mp hz).1
      refine ⟨rfl, ?_⟩
      refine lcY ?_
      refine ⟨_, rfl, _, rfl, _, h3, ?_, s3.mut hD _, ?_⟩
      · rw [List.length_map, List.length_map, List.length_take]; exact small1000 (by omega)
      · rw [upd_same, take_snoc hz, List.map_append, List.map_append]; rfl
    · rintro H3 ⟨s3, h3⟩
      refine ⟨_, rfl, (by show 4 ≤ sizeLine; decide), newO fun p H4 hp s4 h4 => ?_⟩
      rw [List.length_map, List.take_length] at h3
      exact q p D m _ H4 (s3.trans s4) (ne_of_none h3 hp) (s4.at h3) (abs_map ns) h4 m0 m1
def sp_pick (K : PySem.W.Frag) : Sp := fun vs H Q _ => ∃ (p ce : Addr) (n : Int), vs = [.ref p, .int n] ∧ Src K ce H p ∧ n ≤ 10000000 ∧
  ∀ (d : Int) (H' : Hp), But p H H' → Src K ce H' p → 0 ≤ d → (d < n ∨ d = 0) → Q (.int d) H'
theorem ok__law_pick (T : Tx K mg W_) : FnOk P w K mg base CX0 1 T.a__law_pick T.d__law_pick ["source", "many"] (sp_pick K) := by
  refine T.F__law_pick.ok sc__law_pick (fun vs H Q E h => ?_) (fun cdv A outer s H vs Q E hr h => ?_)
  · obtain ⟨a, ce, n, rfl, _⟩ := h
    rfl
  obtain ⟨p, c, n, rfl, ⟨cs, i, l, m, S⟩, hn, q⟩ := h
  refine ⟨_, pss_cons (ps_if (pt_cmpR op_lt (pv 1) pe_int (nomark _)) (pss_one (ps_ret pe_int)) pss_nil)
    (pss_cons (ps_while PassesOwn.never (PW.pt (pw_and (pt_cmpR op_lt (pe_ix ix_list (pv 0) pe_int (fun _ _ => rfl)) pe_int (nomark _)) (pw_and1 (pt_cmpR op_lt (pe_ix ix_list (pv 0) pe_int (fun _ _ => rfl)) (pe_callB call_len_seq (by rfl) T.n_len PySem.boot_len (pa_cons (pe_ix ix_list (pv 0) pe_int (fun _ _ => rfl)) pa_nil)) (nomark _)))))
      (pss_cons (ps_asg (pe_ix ix_list (pe_ix ix_list (pv 0) pe_int (fun _ _ => rfl)) (pe_ix ix_list (pv 0) pe_int (fun _ _ => rfl)) (fun _ _ => rfl)) (pg_sub (pv 0) pe_int set_list))
      (pss_one (ps_asg (pe_op op_add (pe_ix ix_list (pv 0) pe_int (fun _ _ => rfl)) pe_int) (pg_sub (pv 0) pe_int set_list)))))
    (pss_cons (ps_if (pt_cmpR op_gt (pe_ix ix_list (pv 0) pe_int (fun _ _ => rfl)) pe_int (nomark _))
      (pss_cons (ps_set (i := 2) sc__law_pick.nd rfl (Or.inl rfl) (pe_op op_mod (pe_callTy call_int1 (by rfl) T.n_int (by decide +kernel) (pa_cons (pe_ix ix_list (pv 0) pe_int (fun _ _ => rfl)) pa_nil)) (pv 1)))
      (pss_cons (ps_asg (pe_op op_fdiv (pe_ix ix_list (pv 0) pe_int (fun _ _ => rfl)) (pv 1)) (pg_sub (pv 0) pe_int set_list))
      (pss_one (ps_ret (pv 2))))) pss_nil)
    (pss_cons (ps_asg (pe_op op_mod (pe_callTy call_int1 (by rfl) T.n_int (by decide +kernel) (pa_cons (pe_op op_add (pe_op op_mul (pe_ix ix_list (pv 0) pe_int (fun _ _ => rfl)) pe_int) pe_int) pa_nil)) pe_int) (pg_sub (pv 0) pe_int set_list))
    (pss_cons (ps_set (i := 3) sc__law_pick.nd rfl (Or.inl rfl) (pe_op op_fdiv (pe_ix ix_list (pv 0) pe_int (fun _ _ => rfl)) pe_int))
    (pss_cons (ps_if (pt_cmpR op_gt (pv 1) (pe_op op_pow pe_int pe_int) (nomark _)) (pss_one (ps_set (i := 3) sc__law_pick.nd rfl (Or.inl rfl) (pe_op op_pow (pv 3) pe_int))) pss_nil)
    (pss_one (ps_ret (pe_op op_mod (pe_callTy call_int1 (by rfl) T.n_int (by decide +kernel) (pa_cons (pv 3) pa_nil)) (pv 1))))))))), ?_⟩
  refine ⟨_, rfl, _, _, rfl, rfl, _, rfl, ?_⟩
  refine ite2 (fun c1 => ?_) (fun c1 => ?_)
  · exact q 0 H (But.refl p H) ⟨cs, i, l, m, S⟩ (by decide) (.inr rfl)
  have hn2 : 2 ≤ n := by have := of_decide_eq_false (Bool.eq_false_iff.mpr c1); omega
  refine ⟨fun k σ H2 => ∃ (i : Nat) (l : Int), k = cs.length - i ∧ σ = [some (.ref p), some (.int n), none, none] ∧ But p H H2 ∧ SrcIs K H2 p c cs i l m, ⟨_, i, l, rfl, rfl, But.refl p H, S⟩, ?_⟩
  rintro k σ H2 ⟨i, l, rfl, rfl, b, S⟩
  have sq := SqL.of (K := K) S.at_
  refine ans_run (b := decide (l < 2) && decide ((i : Int) < cs.length)) (fun Q' q' => ?_) ?_
  · refine ⟨_, rfl, _, _, _, _, rfl, rfl, sq, atI_nat (j := 2) rfl, _, _, rfl, rfl, _, rfl, ?_⟩
    refine ite2 (fun c2 => ?_) (fun c2 => ?_)
    · refine ⟨_, rfl, _, _, _, _, rfl, rfl, sq, atI_nat (j := 1) rfl, _, rfl, _, _, _, _, rfl, rfl, sq, atI_nat (j := 0) rfl, c, _, rfl, .inl S.cel, _, _, rfl, rfl, _, rfl, ?_⟩
      have e : (decide (l < 2) && decide ((i : Int) < cs.length)) = decide ((i : Int) < (cs.map V.int).length) := by rw [c2, Bool.true_and, List.length_map]
      rw [e] at q'
      exact q'
    · rw [Bool.eq_false_iff.mpr c2, Bool.false_and] at q'
      exact q'
  refine ite2 (fun c2 => ?_) (fun c2 => ?_)
  · obtain ⟨e1, e2⟩ := Bool.and_eq_true_iff.mp c2
    have e1 := of_decide_eq_true e1
    have e2 := of_decide_eq_true e2
    have hic : i < cs.length := by omega
    refine ⟨fun σ' H' => ∃ m' < cs.length - i, _, fun _ _ h => h, ?_⟩
    refine ⟨_, rfl, _, _, _, _, rfl, rfl, sq, atI_nat (j := 0) rfl, _, rfl, _, _, _, _, rfl, rfl, sq, atI_nat (j := 1) rfl, c, _, (i : Int), .int cs[i], rfl, rfl, S.cel, atI_nat (by rw [List.getElem?_map, List.getElem?_eq_getElem hic]; rfl), ?_⟩
    refine ⟨_, rfl, p, _, _, 2, rfl, rfl, S.at_, rfl, ?_⟩
    have S1 := S.put (i' := i) (l' := cs[i]) (m' := m) S.hi (S.hc _ (List.getElem_mem hic)) S.m0 S.m1
    refine ⟨_, rfl, _, _, _, _, rfl, rfl, SqL.of (K := K) S1.at_, atI_nat (j := 1) rfl, _, _, rfl, rfl, ?_⟩
    refine ⟨_, rfl, p, _, _, 1, rfl, rfl, S1.at_, rfl, ?_⟩
    exact ⟨_, by omega, i + 1, cs[i], rfl, rfl, (b.upd _).upd _, S1.put (i' := i + 1) (l' := cs[i]) (m' := m) hic S1.hl S1.m0 S1.m1⟩
  refine ⟨_, rfl, _, _, _, _, rfl, rfl, sq, atI_nat (j := 2) rfl, _, _, rfl, rfl, _, rfl, ?_⟩
  refine ite2 (fun c3 => ?_) (fun c3 => ?_)
  · have c3 := of_decide_eq_true c3
    refine ⟨_, rfl, _, _, _, _, rfl, rfl, sq, atI_nat (j := 2) rfl, .inl ⟨_, rfl, _, rfl, _, _, rfl, rfl, (by show 0 < n; omega), ?_⟩⟩
    refine ⟨_, rfl, _, _, _, _, rfl, rfl, sq, atI_nat (j := 2) rfl, _, rfl, _, _, rfl, rfl, ⟨by omega, by omega⟩, ?_⟩
    refine ⟨_, rfl, p, _, _, 2, rfl, rfl, S.at_, rfl, _, rfl, ?_⟩
    exact q _ _ (b.upd _) ⟨cs, i, l / n, m, S.put S.hi (Int.ediv_nonneg S.hl (by omega)) S.m0 S.m1⟩ (Int.emod_nonneg _ (by omega)) (.inl (Int.emod_lt_of_pos _ (by omega)))
  refine ⟨_, rfl, _, _, _, _, rfl, rfl, sq, atI_nat (j := 3) rfl, _, _, rfl, rfl, .inr (by decide), _, _, rfl, rfl, .inl ⟨_, rfl, _, _, rfl, rfl, (by show (0 : Int) < 2147483563; decide), ?_⟩⟩
  refine ⟨_, rfl, p, _, _, 3, rfl, rfl, S.at_, rfl, ?_⟩
  have S1 := S.put (i' := i) (l' := l) (m' := (m * 40014 + 12345) % 2147483563) S.hi S.hl (Int.emod_nonneg _ (by decide)) (Int.emod_lt_of_pos _ (by decide))
  refine ⟨_, rfl, _, _, _, _, rfl, rfl, SqL.of (K := K) S1.at_, atI_nat (j := 3) rfl, _, _, rfl, rfl, ⟨by decide, by decide⟩, ?_⟩
  refine ⟨_, rfl, _, _, rfl, rfl, (by show CPow 10 7; exact ⟨by decide, by decide, by decide⟩), _, _, rfl, rfl, _, rfl, ?_⟩
  refine iteN (by show ¬ (10 : Int) ^ (7 : Int).toNat < n; have : (10 : Int) ^ (7 : Int).toNat = 10000000 := by decide
                  omega) ?_
  refine ⟨_, rfl, .inl ⟨_, rfl, _, rfl, _, _, rfl, rfl, (by show 0 < n; omega), ?_⟩⟩
  exact q _ _ (b.upd _) ⟨cs, i, l, _, S1⟩ (Int.emod_nonneg _ (by omega)) (.inl (Int.emod_lt_of_pos _ (by omega)))
end
section
variable {P : Program} {w W_ : World} {K : PySem.W.Frag} {mg : Str → Option Value} {base : Heap}
def sp_first (K : PySem.W.Frag) : Sp := fun vs H Q _ => ∃ (p : Addr) (n m : Nat) (f : Nat → Nat), vs = [.ref p, .int (m : Nat)] ∧ NdT K H p ∧ SqT K H p ((List.range n).map fun i => V.int (f i : Nat)) ∧ n ≤ 1000 ∧ ∀ H', Same H H' → Q (optV (first n fun k => f k == m)) H'
theorem ok_first (T : Tx K mg W_) : FnOk P w K mg base CX0 1 T.a_first_place T.d_first_place ["sets", "wanted"] (sp_first K) := by
  refine T.F_first_place.ok sc_first_place (fun vs H Q E h => ?_) (fun cdv A outer s H vs Q E hr h => ?_)
  · obtain ⟨p, n, m, f, rfl, _⟩ := h
    rfl
  obtain ⟨p, n, m, f, rfl, hn, hs, hz, q⟩ := h
  refine ⟨_, pss_one (ps_ret (pe_ifExp (pt_cmpR op_in_seq (pv 1) (pv 0) (by rfl)) (pe_tbm PySem.F.plainAttrs_tuple PySem.F.slot_tuple_index PySem.F.type_tuple_index mt_tindexF (pv 0) (pa_cons (pv 1) pa_nil)) pe_non)), ?_⟩
  refine ⟨_, rfl, _, rfl, p, _, rfl, .inr hs, rfl, flat_ints _ _, _, rfl, ?_⟩
  have e : (if false = true then !inV (.int (m : Nat)) ((List.range n).map fun i => V.int (f i : Nat)) else inV (.int (m : Nat)) ((List.range n).map fun i => V.int (f i : Nat))) = (first n fun k => f k == m).isSome := inV_map m n f
  rw [e]
  cases e2 : first n fun k => f k == m with
  | none => exact iteF (by have := q H (Same.refl _); rw [e2] at this; exact this)
  | some k =>
    obtain ⟨h1, h2, h3⟩ := first_some e2
    refine iteT ⟨_, rfl, p, _, rfl, hn, hs, _, rfl, p, _, _, k, _, rfl, rfl, hs, rfl, flat_ints _ _, at_map h1, (by rw [eqV_nat]; exact h2), fun j z hj hz => ?_, ?_⟩
    · obtain ⟨_, rfl⟩ := at_map' hz
      rw [eqV_nat]; exact h3 j hj
    · have := q H (Same.refl _)
      rw [e2] at this; exact this
end
section
variable {P : Program} {w W_ : World} {K : PySem.W.Frag} {mg : Str → Option Value} {base : Heap}
def sp_within (K : PySem.W.Frag) (mm : List (Str × Addr)) : Sp := fun vs H Q _ => ∃ (p : Addr) (L : Lt) (a b : Nat), vs = [.ref p, .int (a : Nat), .int (b : Nat)] ∧ IsLat K mm H p L ∧ a < L.n ∧ b < L.n ∧ ∀ H', Same H H' → Q (.bl (L.le a b)) H'
end
section
variable {P : Program} {w W_ : World} {K : PySem.W.Frag} {mg : Str → Option Value} {base : Heap}
def sp_join (K : PySem.W.Frag) (mm : List (Str × Addr)) : Sp := fun vs H Q _ => ∃ (p : Addr) (L : Lt) (a b : Nat), vs = [.ref p, .int (a : Nat), .int (b : Nat)] ∧ IsLat K mm H p L ∧ L.n ≤ 1000 ∧ a < L.n ∧ b < L.n ∧ ∀ H', Same H H' → Q (optV (L.join a b)) H'
end
section
variable {P : Program} {w W_ : World} {K : PySem.W.Frag} {mg : Str → Option Value} {base : Heap}
def sp_meet (K : PySem.W.Frag) (mm : List (Str × Addr)) : Sp := fun vs H Q _ => ∃ (p : Addr) (L : Lt) (a b : Nat), vs = [.ref p, .int (a : Nat), .int (b : Nat)] ∧ IsLat K mm H p L ∧ L.n ≤ 1000 ∧ a < L.n ∧ b < L.n ∧ ∀ H', Same H H' → Q (optV (L.meet a b)) H'
end
section
variable {P : Program} {w W_ : World} {K : PySem.W.Frag} {mg : Str → Option Value} {base : Heap}
def sp_name_at (K : PySem.W.Frag) (mm : List (Str × Addr)) : Sp := fun vs H Q _ => ∃ (p : Addr) (L : Lt) (a : Nat) (x : Str), vs = [.ref p, .int (a : Nat)] ∧ IsLat K mm H p L ∧ L.names[a]? = some x ∧ ∀ H', Same H H' → Q (.str x) H'
end
section
variable {P : Program} {w W_ : World} {K : PySem.W.Frag} {mg : Str → Option Value} {base : Heap}
theorem eqV_str (a b : Str) : eqV (.str a) (.str b) = (a == b) := rfl
/-- at_name of a name that is there -/
def sp_at_name (K : PySem.W.Frag) (mm : List (Str × Addr)) : Sp := fun vs H Q _ => ∃ (p : Addr) (L : Lt) (a : Nat) (x : Str), vs = [.ref p, .str x] ∧ IsLat K mm H p L ∧ L.names.Nodup ∧ L.names[a]? = some x ∧ ∀ H', Same H H' → Q (.int (a : Nat)) H'
theorem nodup_at {α : Type} {l : List α} (nd : l.Nodup) {i j : Nat} {x : α} (h1 : l[i]? = some x) (h2 : l[j]? = some x) : i = j := by
  obtain ⟨l1, e1⟩ := List.getElem?_eq_some_iff.mp h1
  obtain ⟨l2, e2⟩ := List.getElem?_eq_some_iff.mp h2
  rcases Nat.lt_trichotomy i j with c | c | c
  · exact absurd (e1.trans e2.symm) (List.pairwise_iff_getElem.mp nd i j l1 l2 c)
  · exact c
  · exact absurd (e2.trans e1.symm) (List.pairwise_iff_getElem.mp nd j i l2 l1 c)
end
section
variable {P : Program} {w W_ : World} {K : PySem.W.Frag} {mg : Str → Option Value} {base : Heap}
def sp_irr (K : PySem.W.Frag) (mm : List (Str × Addr)) : Sp := fun vs H Q _ => ∃ (p : Addr) (L : Lt), vs = [.ref p] ∧ IsLat K mm H p L ∧ L.n ≤ 1000 ∧ ∀ l H', Same H H' → H l = none → H' l = some (.lst (natV L.irrs)) → Q (.ref l) H'
end
section
variable {P : Program} {w W_ : World} {K : PySem.W.Frag} {mg : Str → Option Value} {base : Heap}
/-- parts_among(numbers, number): which of the numbers lie within one -/
def sp_parts (K : PySem.W.Frag) : Sp := fun vs H Q _ => ∃ (a : Addr) (n g : Nat) (f : Nat → Nat), vs = [.ref a, .int (g : Nat)] ∧ SqL K H a ((List.range n).map fun i => V.int (f i : Nat)) ∧ n ≤ 1000 ∧
  ∀ H', Same H H' → Q (.int (mask n fun i => part (f i) g : Nat)) H'
theorem ok_parts (T : Tx K mg W_) : FnOk P w K mg base CX0 1 T.a_parts_among T.d_parts_among ["numbers", "number"] (sp_parts K) := by
  refine T.F_parts_among.ok sc_parts_among (fun vs H Q E h => ?_) (fun cdv A outer s H vs Q E hr h => ?_)
  · obtain ⟨a, n, g, f, rfl, _⟩ := h
    rfl
  obtain ⟨a, n, g, f, rfl, hs, hn, q⟩ := h
  refine ⟨_, pss_one (ps_ret (pe_callB (cr_sum rfl) (by rfl) T.n_sum (by decide +kernel) (pa_cons (pe_lc (own := [("place", 2), ("other", 3)]) (g := gTup K 2 (gCons (gName 2) (gCons (gName 3) gNil))) rfl sc_parts_among.nd (pi_enum (by rfl) T.n_enumerate (pa_cons (pv 0) pa_nil)) (blkOk_by (N := N_parts_among) (sc := defScope St_parts_among) (by decide +kernel)) (fun _ _ _ _ _ => (pg_tup rfl (pgs_cons (pg_name (i := 2) sc_parts_among.nd rfl (Or.inl rfl)) (pgs_cons (pg_name (i := 3) sc_parts_among.nd rfl (Or.inl rfl)) pgs_nil)))) (fun _ _ _ _ _ => (pts_one (pt_cmpR op_eq (pe_op op_and (pv 3) (pe_un un_inv (pv 1))) pe_int (nomark _)))) (fun _ _ _ _ _ => (pe_op op_shl pe_int (pv 2)))) pa_nil))), ?_⟩
  refine ⟨_, rfl, a, _, rfl, hs, fun D hD => ?_⟩
  refine lc_fold walk_enum hD (fun i _ ys => i ≤ n ∧ ys = (((List.range i).filter fun i => part (f i) g).map fun i => ((2 ^ i : Nat) : Int)).map V.int) (fun _ => ⟨Nat.zero_le _, rfl⟩) (fun i _ _ xs _ h => h) ?_ (fun H2 s2 => (s2.seq hs)) ?_ ?_
  · rintro i _ ys ⟨hi, rfl⟩
    rw [List.length_map, List.length_map]
    have := filter_le (fun i => part (f i) g) i
    omega
  · rintro i x H2 H3 ys Nx Ex hi s2 ⟨_, rfl⟩ ⟨t, x1, x2, rfl, ht, rfl, e1, e2⟩ k1 k2
    cases e1
    obtain ⟨hi, rfl⟩ := at_map' e2
    have s3 : Same H2 (upd H2 t (.tup [.int (i : Nat), .int (f i : Nat)])) := Same.new ht _
    have h3 : upd H2 t (.tup [.int (i : Nat), .int (f i : Nat)]) t = some (.tup [.int (i : Nat), .int (f i : Nat)]) := upd_same
    generalize upd H2 t (.tup [.int (i : Nat), .int (f i : Nat)]) = H3 at s3 h3 ⊢
    refine ⟨t, _, rfl, SqT.of (K := K) h3, rfl, _, _, rfl, _, _, rfl, ⟨rfl, rfl, ?_⟩⟩
    refine ⟨_, rfl, _, rfl, _, rfl, _, _, rfl, rfl, rfl, _, rfl, ?_⟩
    rw [part_is]
    refine ite2 (fun c => ?_) (fun c => ?_)
    · refine ⟨_, rfl, _, _, rfl, rfl, ⟨Int.natCast_nonneg _, by omega, by decide⟩, k1 _ _ s3 ⟨hi, ?_⟩⟩
      rw [filter_snoc, if_pos c, List.map_append, List.map_append]
      show _ ++ [V.int (1 * 2 ^ ((i : Int)).toNat)] = _
      rw [one_shl]
      rfl
    · refine k2 _ s3 ⟨hi, ?_⟩
      rw [filter_snoc, if_neg c, List.append_nil]
  · rintro H2 ys s2 h2 ⟨_, rfl⟩
    rw [List.length_map, List.length_range] at h2
    refine ⟨D, _, rfl, SqL.of (K := K) h2, ?_⟩
    rw [sum_mask]
    exact q H2 s2
end
section
variable {P : Program} {w W_ : World} {K : PySem.W.Frag} {mg : Str → Option Value} {base : Heap}
local macro_rules | `(tactic| walk_at "lk") => `(tactic| (simp only [lookup_putF]; repeat (first | rw [if_pos rfl] | rw [if_neg (by decide)])))
/-- what stands at b but for p and its changes -/
theorem upd_at {H : Hp} {p b : Addr} {o u : HO} (n : b ≠ p) (h : H b = some u) : upd H p o b = some u := by rw [upd_ne n]; exact h
theorem put_len (f : Str) (v : V) (fs : List (Str × V)) : (putF f v fs).length ≤ fs.length + 1 := by have := length_putF f v fs; omega
def sp_lat_init (K : PySem.W.Frag) (mm : List (Str × Addr)) : Sp := fun vs H Q _ => ∃ (p na da C dx : Addr) (fs0 : List (Str × V)) (L : Lt), vs = [.ref p, .str L.label, .ref na, .ref da, .int (L.depth : Nat)] ∧ H p = some (.ins C dx fs0) ∧ LatC K mm C ∧ fs0.length ≤ 10 ∧
  (∀ q ∈ mm, fs0.lookup q.1 = none) ∧ na ≠ p ∧ SqL K H na (L.names.map V.str) ∧ ((da ≠ p ∧ SqL K H da (downsV L)) ∨ (NdT K H da ∧ SqT K H da (downsV L))) ∧ L.n ≤ 64 ∧
  ∀ H' fs tn td tu, But p H H' → LatAt K mm H' p L C dx fs tn td tu → (∀ f, f ∉ latAttrs → fs.lookup f = fs0.lookup f) → Q .non H'
theorem ok_lat_init (T : Tx K mg W_) : FnOk P w K mg base CX0 2 T.a_Lattice_init T.d_Lattice_init ["self", "label", "names", "downs", "depth"] (sp_lat_init K T.mm) := by
  have G_first_place := ok_first (P := P) (w := w) (base := base) T
  refine T.F_Lattice_init.ok sc_Lattice_init (fun vs H Q E h => ?_) (fun cdv A outer s H vs Q E hr h => ?_)
  · obtain ⟨p, na, da, C, dx, fs0, L, rfl, _⟩ := h
    rfl
  obtain ⟨p, na, da, C, dx, fs0, L, rfl, hp, lc, z0, no, nna, hna, hda, hn, q⟩ := h
  refine ⟨_, pss_cons (ps_set (i := 5) sc_Lattice_init.nd rfl (Or.inr rfl) (pe_listRg rfl (by rfl) T.n_list (prg_1 (by rfl) T.n_range (pe_callB call_len_seq (by rfl) T.n_len (by decide +kernel) (pa_cons (pv 2) pa_nil)))))
    (pss_cons (ps_fld (pv 0) (pv 1) rfl)
    (pss_cons (ps_fld (pv 0) (pe_callB call_len_seq (by rfl) T.n_len (by decide +kernel) (pa_cons (pv 2) pa_nil)) rfl)
    (pss_cons (ps_fld (pv 0) (pv 4) rfl)
    (pss_cons (ps_fld (pv 0) (pe_callTy call_tupleN (by rfl) T.n_tuple (by decide +kernel) (pa_cons (pv 2) pa_nil)) rfl)
    (pss_cons (ps_fld (pv 0) (pe_callTy call_tupleN (by rfl) T.n_tuple (by decide +kernel) (pa_cons (pv 3) pa_nil)) rfl)
    (pss_cons (ps_fld (pv 0) (pe_callTy call_tupleN (by rfl) T.n_tuple (by decide +kernel) (pa_cons (pe_lc (own := [("a", 7)]) (g := gName 7) (tt := tYes) rfl sc_Lattice_init.nd (pi_list (pv 5)) (blkOk_by (N := N_Lattice_init) (sc := defScope St_Lattice_init) (by decide +kernel)) (fun _ _ _ _ _ => (pg_name (i := 7) sc_Lattice_init.nd rfl (Or.inr rfl))) (fun _ _ _ _ _ => pts_nil) (fun _ _ _ _ _ => (pe_callB (kx_cr_sum K) (by rfl) T.n_sum (by decide +kernel) (pa_cons (pe_lc (own := [("b", 6)]) (g := gName 6) rfl sc_Lattice_init.nd (kx_pi_list K (pi_list (pv 5))) (blkOk_by (N := N_Lattice_init) (by first | rfl | kernel_rfl)) (fun _ _ _ _ _ => (pg_name (i := 6) sc_Lattice_init.nd rfl (Or.inl rfl))) (fun _ _ _ _ _ => (pts_one (pt_cmpR op_eq (pe_op op_and (pe_op op_shr (pe_ix (kx_ix_seq K) (pv 3) (pv 6) (fun _ _ => rfl)) (pv 7)) pe_int) pe_int (nomark _)))) (fun _ _ _ _ _ => (pe_op op_shl pe_int (pv 6)))) pa_nil)))) pa_nil)) rfl)
    (pss_cons (ps_set (i := 8) sc_Lattice_init.nd rfl (Or.inl rfl) (pe_op op_sub (pe_op op_shl pe_int (pe_callB call_len_seq (by rfl) T.n_len (by decide +kernel) (pa_cons (pv 2) pa_nil))) pe_int))
    (pss_cons (ps_fld (pv 0) (pe_call G_first_place (hr.mono (by omega)) (by rfl) T.g_first_place T.F_first_place.kp T.b_first_place .nil pass0 (pa_cons (pe_fld (pv 0) rfl) (pa_cons (pv 8) pa_nil))) rfl)
    (pss_one (ps_fld (pv 0) (pe_call G_first_place (hr.mono (by omega)) (by rfl) T.g_first_place T.F_first_place.kp T.b_first_place .nil pass0 (pa_cons (pe_fld (pv 0) rfl) (pa_cons (pv 8) pa_nil))) rfl)))))))))), ?_⟩
  have en : ((L.names.map V.str).length : Nat) = L.n := List.length_map _
  refine ⟨_, rfl, na, _, rfl, .inl hna, _, rfl, ?_⟩
  rw [en]
  refine ⟨RgOk.of_le (by decide) (by omega) (by decide) (by omega), newQ (.lst (rgV 0 (L.n : Nat))) fun pl hpl s1 h1 => ?_⟩
  rw [rg_nat] at s1 h1
  rw [rg_nat]
  generalize upd H pl (.lst (natV (List.range L.n))) = H1 at s1 h1 ⊢
  -- label
  have p1 := s1 _ _ hp
  have na1 : SqL K H1 na _ := s1.seq hna
  have da1 : (da ≠ p ∧ SqL K H1 da (downsV L)) ∨ (NdT K H1 da ∧ SqT K H1 da (downsV L)) := hda.imp (fun x => ⟨x.1, s1.seq x.2⟩) (fun x => ⟨x.1.keep s1.keeps, s1.keeps.sqT x.2⟩)
  have b1 : But p H H1 := s1.but p
  have npl : pl ≠ p := ne_of h1 p1 (by intro z; cases z)
  refine ⟨_, rfl, _, rfl, p, C, dx, _, rfl, p1, lc.cl, lc.na _ (by decide), by omega, ?_⟩
  have b2 := b1.upd (.ins C dx (putF "label" (.str L.label) fs0))
  have p2 : upd H1 p (.ins C dx (putF "label" (.str L.label) fs0)) p = _ := upd_same
  have c2 : But p H1 (upd H1 p (.ins C dx (putF "label" (.str L.label) fs0))) := (But.refl p H1).upd _
  generalize upd H1 p (.ins C dx (putF "label" (.str L.label) fs0)) = H2 at b2 p2 c2 ⊢
  have na2 : SqL K H2 na _ := c2.seq nna na1
  have k2 := c2.keeps p1 trivial
  have da2 : (da ≠ p ∧ SqL K H2 da (downsV L)) ∨ (NdT K H2 da ∧ SqT K H2 da (downsV L)) := da1.imp (fun x => ⟨x.1, c2.seq x.1 x.2⟩) (fun x => ⟨x.1.keep k2, k2.sqT x.2⟩)
  have h2 := c2 _ _ npl h1
  -- size
  have z1 := put_len "label" (.str L.label) fs0
  generalize hf1 : putF "label" (.str L.label) fs0 = fs1 at p2 z1
  refine ⟨_, rfl, na, _, rfl, .inl na2, _, rfl, p, C, dx, _, rfl, p2, lc.cl, lc.na _ (by decide), by omega, ?_⟩
  rw [en]
  have b3 := b2.upd (.ins C dx (putF "size" (.int (L.n : Nat)) fs1))
  have p3 : upd H2 p (.ins C dx (putF "size" (.int (L.n : Nat)) fs1)) p = _ := upd_same
  have c3 : But p H2 (upd H2 p (.ins C dx (putF "size" (.int (L.n : Nat)) fs1))) := (But.refl p H2).upd _
  generalize upd H2 p (.ins C dx (putF "size" (.int (L.n : Nat)) fs1)) = H3 at b3 p3 c3 ⊢
  have z2 := put_len "size" (.int (L.n : Nat)) fs1
  generalize hf2 : putF "size" (.int (L.n : Nat)) fs1 = fs2 at p3 z2
  -- depth
  refine ⟨_, rfl, _, rfl, p, C, dx, _, rfl, p3, lc.cl, lc.na _ (by decide), by omega, ?_⟩
  have b4 := b3.upd (.ins C dx (putF "depth" (.int (L.depth : Nat)) fs2))
  have p4 : upd H3 p (.ins C dx (putF "depth" (.int (L.depth : Nat)) fs2)) p = _ := upd_same
  have c4 : But p H2 (upd H3 p (.ins C dx (putF "depth" (.int (L.depth : Nat)) fs2))) := c3.upd _
  generalize upd H3 p (.ins C dx (putF "depth" (.int (L.depth : Nat)) fs2)) = H4 at b4 p4 c4 ⊢
  have z3 := put_len "depth" (.int (L.depth : Nat)) fs2
  generalize hf3 : putF "depth" (.int (L.depth : Nat)) fs2 = fs3 at p4 z3
  have k4 := c4.keeps p2 trivial
  have na4 : SqL K H4 na _ := c4.seq nna na2
  have da4 : (da ≠ p ∧ SqL K H4 da (downsV L)) ∨ (NdT K H4 da ∧ SqT K H4 da (downsV L)) := da2.imp (fun x => ⟨x.1, c4.seq x.1 x.2⟩) (fun x => ⟨x.1.keep k4, k4.sqT x.2⟩)
  have h4 := c4 _ _ npl h2
  -- value_names
  refine ⟨_, rfl, na, _, rfl, .inl ⟨na4, fun tn on htn dtn => ?_⟩⟩
  have s5 : Same H4 (upd H4 tn (.frz on (.tup (L.names.map V.str)))) := Same.new htn _
  have t5 : upd H4 tn (.frz on (.tup (L.names.map V.str))) tn = _ := upd_same
  generalize upd H4 tn (.frz on (.tup (L.names.map V.str))) = H5 at s5 t5 ⊢
  have p5 := s5 _ _ p4
  refine ⟨_, rfl, p, C, dx, _, rfl, p5, lc.cl, lc.na _ (by decide), by omega, ?_⟩
  have c6 : But p H5 (upd H5 p (.ins C dx (putF "value_names" (.ref tn) fs3))) := (But.refl p H5).upd _
  have b6 := (b4.trans (s5.but p)).trans c6
  have p6 : upd H5 p (.ins C dx (putF "value_names" (.ref tn) fs3)) p = _ := upd_same
  generalize upd H5 p (.ins C dx (putF "value_names" (.ref tn) fs3)) = H6 at b6 p6 c6 ⊢
  have k6 := c6.keeps p5 trivial
  have z4 := put_len "value_names" (.ref tn) fs3
  generalize hf4 : putF "value_names" (.ref tn) fs3 = fs4 at p6 z4
  have tn6 : NdT K H6 tn ∧ SqT K H6 tn (L.names.map V.str) := ⟨.inl ⟨on, _, k6.frz _ _ _ t5, dtn⟩, .inl (.inr ⟨on, k6.frz _ _ _ t5⟩)⟩
  have da6 : (da ≠ p ∧ SqL K H6 da (downsV L)) ∨ (NdT K H6 da ∧ SqT K H6 da (downsV L)) := da4.imp (fun x => ⟨x.1, c6.seq x.1 (s5.seq x.2)⟩) (fun x => ⟨(x.1.keep s5.keeps).keep k6, k6.sqT (s5.keeps.sqT x.2)⟩)
  have h6 := c6 _ _ npl (s5 _ _ h4)
  have na6 : SqL K H6 na _ := c6.seq nna (s5.seq na4)
  -- downs
  dsimp only
  refine fld_run (fun v H' => ∃ td, v = .ref td ∧ Same H6 H' ∧ NdT K H' td ∧ SqT K H' td (downsV L)) (fun Q' q' => ?_) ?_
  · refine ⟨_, rfl, da, downsV L, rfl, da6.imp (fun x => ⟨x.2, fun td o ht dt => q' _ _ ⟨td, rfl, Same.new ht _, .inl ⟨o, _, upd_same, dt⟩, .inl (.inr ⟨o, upd_same⟩)⟩⟩) (fun x => ⟨x.2, q' _ _ ⟨da, rfl, Same.refl _, x⟩⟩)⟩
  rintro _ H7 ⟨td, rfl, s7, td7⟩
  have p7 := s7 _ _ p6
  refine ⟨_, rfl, p, C, dx, _, rfl, p7, lc.cl, lc.na _ (by decide), by omega, ?_⟩
  have c8 : But p H7 (upd H7 p (.ins C dx (putF "downs" (.ref td) fs4))) := (But.refl p H7).upd _
  have b8 := (b6.trans (s7.but p)).trans c8
  have p8 : upd H7 p (.ins C dx (putF "downs" (.ref td) fs4)) p = _ := upd_same
  generalize upd H7 p (.ins C dx (putF "downs" (.ref td) fs4)) = H8 at b8 p8 c8 ⊢
  have k8 := c8.keeps p7 trivial
  have k68 : Keeps H6 H8 := s7.keeps.trans k8
  have z5 := put_len "downs" (.ref td) fs4
  generalize hf5 : putF "downs" (.ref td) fs4 = fs5 at p8 z5
  have tn8 : NdT K H8 tn ∧ SqT K H8 tn (L.names.map V.str) := ⟨tn6.1.keep k68, k68.sqT tn6.2⟩
  have td8 : NdT K H8 td ∧ SqT K H8 td (downsV L) := ⟨td7.1.keep k8, k8.sqT td7.2⟩
  have da8 : SqL K H8 da (downsV L) ∨ SqT K H8 da (downsV L) := da6.imp (fun x => c8.seq x.1 (s7.seq x.2)) (fun x => k68.sqT x.2)
  have h8 := c8 _ _ npl (s7 _ _ h6)
  have na8 : SqL K H8 na _ := c8.seq nna (s7.seq na6)
  -- ups
  refine ⟨_, rfl, pl, rfl, ⟨_, SqL.of (K := K) h8⟩, fun D hD => ?_⟩
  refine lc_fold (walk_list (K := K) (a := pl) (xs := natV (List.range L.n))) hD (fun i _ ys => i ≤ L.n ∧ ys = (List.range i).map fun a => V.int (L.up a : Nat)) (fun _ => ⟨Nat.zero_le _, rfl⟩) (fun i _ _ xs _ h => h) ?_ (fun H9 s9 => s9.seq (SqL.of (K := K) h8)) ?_ ?_
  · rintro i _ ys ⟨hi, rfl⟩
    rw [List.length_map, List.length_range]; omega
  · rintro i x H9 _ ys Nx Ex hi s9 ⟨_, rfl⟩ ⟨rfl, ex⟩ k1 k2'
    obtain ⟨hi, rfl⟩ := at_map' ex
    refine ⟨rfl, ?_⟩
    refine lcY ?_
    refine ⟨_, rfl, pl, rfl, ⟨_, SqL.of (K := K) (s9 _ _ h8)⟩, fun D2 hD2 => ?_⟩
    refine lc_fold (walk_list (K := K) (a := pl) (xs := natV (List.range L.n))) hD2 (fun j _ ys => j ≤ L.n ∧ ys = (((List.range j).filter fun b => L.le i b).map fun b => ((2 ^ b : Nat) : Int)).map V.int) (fun _ => ⟨Nat.zero_le _, rfl⟩) (fun i _ _ xs _ h => h) ?_ (fun H10 s10 => s10.seq (SqL.of (K := K) (s9 _ _ h8))) ?_ ?_
    · rintro j _ ys ⟨hj, rfl⟩
      rw [List.length_map, List.length_map]
      have := filter_le (fun b => L.le i b) j
      omega
    · rintro j x H10 _ ys Nx2 Ex2 hj s10 ⟨_, rfl⟩ ⟨rfl, ex⟩ k3 k4'
      obtain ⟨hj, rfl⟩ := at_map' ex
      refine ⟨rfl, ?_⟩
      refine ans_run (b := L.le i j) (fun Q' q' => ?_) ?_
      · have e : decide (V.int (Builtin.bitAnd ((L.down j : Int) / 2 ^ ((i : Int)).toNat) 1) = V.int 1) = L.le i j := by
          rw [dec_int, Int.toNat_natCast, bit_is]
          show (mask L.n fun i => L.le i j).testBit i = _
          rw [mask_bit, decide_eq_true hi, Bool.true_and]
        rw [← e] at q'
        refine ⟨_, rfl, _, rfl, ?_⟩
        rcases da8 with d | d
        · exact .inl ⟨da, _, _, _, rfl, rfl, (s9.trans s10).seq d, atI_nat (at_map hj), _, rfl, _, _, rfl, rfl, Int.natCast_nonneg _, _, _, rfl, rfl, rfl, _, rfl, q'⟩
        · exact .inr (.inl ⟨da, _, _, _, rfl, rfl, (s9.trans s10).keeps.sqT d, atI_nat (at_map hj), _, rfl, _, _, rfl, rfl, Int.natCast_nonneg _, _, _, rfl, rfl, rfl, _, rfl, q'⟩)
      · refine ite2 (fun c => ?_) (fun c => ?_)
        · refine ⟨_, rfl, _, _, rfl, rfl, ⟨Int.natCast_nonneg _, by omega, by decide⟩, k3 _ _ (Same.refl _) ⟨hj, ?_⟩⟩
          rw [filter_snoc, if_pos c, List.map_append, List.map_append]
          show _ ++ [V.int (1 * 2 ^ ((j : Int)).toNat)] = _
          rw [one_shl]
          rfl
        · refine k4' _ (Same.refl _) ⟨hj, ?_⟩
          rw [filter_snoc, if_neg c, List.append_nil]
    · rintro H10 ys s10 h10 ⟨_, rfl⟩
      rw [natV_length, List.length_range] at h10
      refine ⟨D2, _, rfl, SqL.of (K := K) h10, ?_⟩
      rw [sum_mask]
      refine k1 _ _ s10 ⟨hi, ?_⟩
      rw [List.range_succ, List.map_append]
      rfl
  rintro H9 ys s9 h9 ⟨_, rfl⟩
  rw [natV_length, List.length_range] at h9
  refine ⟨D, _, rfl, .inl ⟨SqL.of (K := K) h9, fun tu ou htu dtu => ?_⟩⟩
  have s10 : Same H9 (upd H9 tu (.frz ou (.tup (upsV L)))) := Same.new htu _
  have t10 : upd H9 tu (.frz ou (.tup (upsV L))) tu = _ := upd_same
  show (_ : Hp → Prop) (upd H9 tu (.frz ou (.tup (upsV L))))
  generalize upd H9 tu (.frz ou (.tup (upsV L))) = H10 at s10 t10 ⊢
  have p10 := s10 _ _ (s9 _ _ p8)
  refine ⟨_, rfl, p, C, dx, _, rfl, p10, lc.cl, lc.na _ (by decide), by omega, ?_⟩
  have c11 : But p H10 (upd H10 p (.ins C dx (putF "ups" (.ref tu) fs5))) := (But.refl p H10).upd _
  have b11 := (b8.trans ((s9.trans s10).but p)).trans c11
  have p11 : upd H10 p (.ins C dx (putF "ups" (.ref tu) fs5)) p = _ := upd_same
  generalize upd H10 p (.ins C dx (putF "ups" (.ref tu) fs5)) = H11 at b11 p11 c11 ⊢
  have k11 := c11.keeps p10 trivial
  have k811 : Keeps H8 H11 := (s9.trans s10).keeps.trans k11
  have z6 := put_len "ups" (.ref tu) fs5
  generalize hf6 : putF "ups" (.ref tu) fs5 = fs6 at p11 z6
  have tn11 : NdT K H11 tn ∧ SqT K H11 tn (L.names.map V.str) := ⟨tn8.1.keep k811, k811.sqT tn8.2⟩
  have td11 : NdT K H11 td ∧ SqT K H11 td (downsV L) := ⟨td8.1.keep k811, k811.sqT td8.2⟩
  have tu11 : NdT K H11 tu ∧ SqT K H11 tu (upsV L) := ⟨.inl ⟨ou, _, k11.frz _ _ _ t10, dtu⟩, .inl (.inr ⟨ou, k11.frz _ _ _ t10⟩)⟩
  have na11 : SqL K H11 na _ := c11.seq nna (s10.seq (s9.seq na8))
  -- whole
  refine ⟨_, rfl, na, _, rfl, .inl na11, ?_⟩
  rw [en]
  refine ⟨_, _, rfl, rfl, ⟨Int.natCast_nonneg _, by omega, by decide⟩, _, _, rfl, rfl, ?_⟩
  have ew : (1 : Int) * 2 ^ ((L.n : Int)).toNat - 1 = ((2 ^ L.n - 1 : Nat) : Int) := by
    rw [one_shl]
    have : 1 ≤ 2 ^ L.n := Nat.one_le_two_pow
    omega
  -- bottom_at
  refine ⟨_, rfl, p, C, dx, fs6, _, rfl, p11, lc.cl, lc.na _ (by decide), (by rw [← hf6, lookup_putF, if_pos rfl]), _, rfl, tu, L.n, 2 ^ L.n - 1, L.up, (by rw [← ew]; rfl), tu11.1, tu11.2, by omega, fun H12 s12 => ?_⟩
  have p12 := s12 _ _ p11
  refine ⟨_, rfl, p, C, dx, _, rfl, p12, lc.cl, lc.na _ (by decide), by omega, ?_⟩
  have c13 : But p H12 (upd H12 p (.ins C dx (putF "bottom_at" (optV L.bot) fs6))) := (But.refl p H12).upd _
  have b13 := (b11.trans (s12.but p)).trans c13
  have p13 : upd H12 p (.ins C dx (putF "bottom_at" (optV L.bot) fs6)) p = _ := upd_same
  show (_ : Hp → Prop) (upd H12 p (.ins C dx (putF "bottom_at" (optV L.bot) fs6)))
  generalize upd H12 p (.ins C dx (putF "bottom_at" (optV L.bot) fs6)) = H13 at b13 p13 c13 ⊢
  have k13 := c13.keeps p12 trivial
  have k1113 : Keeps H11 H13 := s12.keeps.trans k13
  have z7 := put_len "bottom_at" (optV L.bot) fs6
  generalize hf7 : putF "bottom_at" (optV L.bot) fs6 = fs7 at p13 z7
  -- top_at
  refine ⟨_, rfl, p, C, dx, fs7, _, rfl, p13, lc.cl, lc.na _ (by decide), (by rw [← hf7, lookup_putF, if_neg (by decide), ← hf6, lookup_putF, if_neg (by decide), ← hf5, lookup_putF, if_pos rfl]), _, rfl, td, L.n, 2 ^ L.n - 1, L.down, (by rw [← ew]; rfl), td11.1.keep k1113, k1113.sqT td11.2, by omega, fun H14 s14 => ?_⟩
  have p14 := s14 _ _ p13
  refine ⟨_, rfl, p, C, dx, _, rfl, p14, lc.cl, lc.na _ (by decide), by omega, ?_⟩
  have c15 : But p H14 (upd H14 p (.ins C dx (putF "top_at" (optV L.top) fs7))) := (But.refl p H14).upd _
  have b15 := (b13.trans (s14.but p)).trans c15
  have p15 : upd H14 p (.ins C dx (putF "top_at" (optV L.top) fs7)) p = _ := upd_same
  show (_ : Hp → Prop) (upd H14 p (.ins C dx (putF "top_at" (optV L.top) fs7)))
  generalize upd H14 p (.ins C dx (putF "top_at" (optV L.top) fs7)) = H15 at b15 p15 c15 ⊢
  have k15 : Keeps H11 H15 := (k1113.trans s14.keeps).trans (c15.keeps p14 trivial)
  have look : ∀ f, (putF "top_at" (optV L.top) fs7).lookup f = if f = "top_at" then some (optV L.top) else if f = "bottom_at" then some (optV L.bot) else if f = "ups" then some (.ref tu) else if f = "downs" then some (.ref td) else
      if f = "value_names" then some (.ref tn) else if f = "depth" then some (.int (L.depth : Nat)) else if f = "size" then some (.int (L.n : Nat)) else if f = "label" then some (.str L.label) else fs0.lookup f := fun f => by
    rw [lookup_putF, ← hf7, lookup_putF, ← hf6, lookup_putF, ← hf5, lookup_putF, ← hf4, lookup_putF, ← hf3, lookup_putF, ← hf2, lookup_putF, ← hf1, lookup_putF]
  have other : ∀ f, f ∉ latAttrs → (putF "top_at" (optV L.top) fs7).lookup f = fs0.lookup f := fun f hf => by
    simp only [latAttrs, List.mem_cons, List.not_mem_nil, or_false, not_or] at hf
    obtain ⟨e1, e2, e3, e4, e5, e6, e7, e8⟩ := hf
    rw [look, if_neg e8, if_neg e7, if_neg e6, if_neg e5, if_neg e4, if_neg e3, if_neg e2, if_neg e1]
  refine q H15 _ tn td tu b15 ⟨p15, lc, fun x hx => ?_, ?_, ?_, ?_, ?_, ?_, ?_, ?_, ?_, ⟨tn11.1.keep k15, k15.sqT tn11.2⟩, ⟨td11.1.keep k15, k15.sqT td11.2⟩, ⟨tu11.1.keep k15, k15.sqT tu11.2⟩⟩ other
  · rw [other _ (T.mm_out x hx)]
    exact no x hx
  all_goals (rw [look]; repeat (first | rw [if_pos rfl] | rw [if_neg (by decide)]))
end
section
variable {w W_ : World} {K : PySem.W.Frag} {mg : Str → Option Value} {base : Heap}
def sp_chain (K : PySem.W.Frag) (mm : List (Str × Addr)) (C : Addr) : Sp := fun vs H Q _ => ∃ (p dx : Addr) (n : Nat), vs = [.ref p, .int (n : Nat)] ∧ H p = some (.ins C dx []) ∧ 1 ≤ n ∧ n ≤ 64 ∧
  ∀ H', But p H H' → IsLat K mm H' p (chainL n) → Q .non H'
end
section
variable {w W_ : World} {K : PySem.W.Frag} {mg : Str → Option Value} {base : Heap}
def sp_sets (K : PySem.W.Frag) (mm : List (Str × Addr)) (C : Addr) : Sp := fun vs H Q _ => ∃ (p dx : Addr) (c : Nat), vs = [.ref p, .int (c : Nat)] ∧ H p = some (.ins C dx []) ∧ 1 ≤ c ∧ c ≤ 6 ∧
  ∀ H', But p H H' → IsLat K mm H' p (setsL c) → Q .non H'
end
/-! ### orders: names, pairs, closed_downs -/
section
variable {P : Program} {w W_ : World} {K : PySem.W.Frag} {mg : Str → Option Value} {base : Heap}
def lettersS : Str := "abcdefghijklmnopqrstuvwxyz0123456789"
structure NameW (x : Str) : Prop where
  pos : 1 ≤ x.length
  le : x.length ≤ 12
  all : ∀ c ∈ x.cps.toList, c ∈ lettersS.cps.toList
theorem count_strs (x : Str) (xs : List Str) : (xs.map V.str).countP (fun z => eqV z (.str x)) = xs.count x := by
  rw [List.countP_map]
  rfl
theorem any_falses : ∀ n : Nat, (List.replicate n false).any id = false
  | 0 => rfl
  | n + 1 => by rw [List.replicate_succ, List.any_cons, any_falses n]; rfl
def sp_check (K : PySem.W.Frag) : Sp := fun vs H Q _ => ∃ (a : Addr) (xs : List Str) (m : Nat), vs = [.ref a, .int (m : Nat)] ∧ SqL K H a (xs.map V.str) ∧ 1 ≤ xs.length ∧ xs.length ≤ m ∧ xs.Nodup ∧ (∀ x ∈ xs, NameW x) ∧ ∀ H', Same H H' → Q .non H'
theorem ok_check (T : Tx K mg W_) : FnOk P w K mg base CX0 1 T.a_check_names T.d_check_names ["names", "most"] (sp_check K) := by
  refine T.F_check_names.ok sc_check_names (fun vs H Q E h => ?_) (fun cdv A outer s H vs Q E hr h => ?_)
  · obtain ⟨a, xs, m, rfl, _⟩ := h
    rfl
  obtain ⟨a, xs, m, rfl, ha, n1, nm, nd, nw, q⟩ := h
  refine ⟨_, pss_cons (ps_if (pt_not (pt_chain op_le op_le pe_int (pe_callB call_len_seq (by rfl) T.n_len (by decide +kernel) (pa_cons (pv 0) pa_nil)) (pv 1))) (pss_one ps_dead) pss_nil)
    (pss_one (ps_for PassesOwn.never rfl (pi_list (pv 0)) (pg_name (i := 2) sc_check_names.nd rfl (Or.inl rfl)) (pss_cons (ps_if (PW.pt (pw_or (pt_not (pt_chain op_le op_le pe_int (pe_callB call_len_str (by rfl) T.n_len (by decide +kernel) (pa_cons (pv 2) pa_nil)) pe_int)) (pw_or1 (pt_cmpR op_gt (pe_bm PySem.F.plainAttrs_list PySem.F.slot_list_count PySem.F.type_list_count mt_countF (pv 0) (pa_cons (pv 2) pa_nil)) pe_int (nomark _))))) (pss_one ps_dead) pss_nil)
    (pss_one (ps_if (pt_val (pe_callB (cr_any rfl) (by rfl) T.n_any (by decide +kernel) (pa_cons (pe_lc (own := [("letter", 3)]) (g := gName 3) (tt := tYes) rfl sc_check_names.nd (pi_str (pv 2)) (blkOk_by (N := N_check_names) (sc := defScope St_check_names) (by decide +kernel)) (fun _ _ _ _ _ => (pg_name (i := 3) sc_check_names.nd rfl (Or.inl rfl))) (fun _ _ _ _ _ => pts_nil) (fun _ _ _ _ _ => (pe_cmpR op_notIn_sign (pv 3) (pe_glob (v := .str "abcdefghijklmnopqrstuvwxyz0123456789") (by rfl) T.g_LETTERS.choose_spec ⟨_, rfl⟩) rfl))) pa_nil))) (pss_one ps_dead) pss_nil))))), ?_⟩
  refine ⟨_, rfl, a, _, rfl, .inl ha, _, _, rfl, rfl, _, rfl, ?_⟩
  rw [List.length_map]
  refine iteY (by omega) ?_
  refine ⟨_, rfl, _, _, rfl, rfl, _, rfl, ?_⟩
  rw [decide_eq_true (by omega : (xs.length : Int) ≤ m)]
  refine iteF ?_
  refine ⟨_, rfl, a, rfl, ⟨_, ha⟩, for_list (K := K) (a := a) (xs := xs.map V.str) (fun i σ H2 => ∃ v2 v3, σ = [some (.ref a), some (.int (m : Nat)), v2, v3] ∧ Same H H2) ⟨_, _, rfl, Same.refl _⟩ (fun i σ H2 _ ⟨_, _, _, s⟩ => s.seq ha) ?_ ?_⟩
  · rintro i x σ H2 hx ⟨v2, v3, rfl, s2⟩
    rw [List.getElem?_map] at hx
    obtain ⟨y, hy, rfl⟩ := Option.map_eq_some_iff.mp hx
    have ym := List.mem_of_getElem? hy
    have w := nw y ym
    have w1 := w.pos
    have w2 := w.le
    refine ⟨_, rfl, _, rfl, small_line (by omega), _, _, rfl, rfl, _, rfl, ?_⟩
    refine iteY (by omega) ?_
    refine ⟨_, _, rfl, rfl, _, rfl, ?_⟩
    rw [decide_eq_true (by omega : (y.length : Int) ≤ 12)]
    refine iteF ?_
    refine ⟨_, rfl, .inl ⟨rfl, _, s2.seq ha⟩, _, rfl, a, _, _, rfl, rfl, s2.seq ha, rfl, flat_strs _, _, _, rfl, rfl, _, rfl, ?_⟩
    have c1 : xs.count y ≤ 1 := List.nodup_iff_count.mp nd y
    rw [count_strs]
    refine iteN (by omega) ?_
    refine ⟨_, rfl, _, rfl, fun D hD => ?_⟩
    refine lc_fold walk_str hD (fun i _ ys => i ≤ y.cps.size ∧ ys = List.replicate i (V.bl false)) (fun _ => ⟨Nat.zero_le _, rfl⟩) (fun i _ _ xs _ h => h) ?_ (fun _ _ => trivial) ?_ ?_
    · rintro i _ ys ⟨hi, rfl⟩
      rw [List.length_replicate]
      have : y.cps.size = y.length := rfl
      omega
    · rintro i x H3 H4 ys Nx Ex hi s3 ⟨_, rfl⟩ ⟨rfl, c, hc, rfl⟩ k1 k2
      refine ⟨rfl, ?_⟩
      refine lcY ?_
      have cm : c ∈ y.cps.toList := by
        rw [Array.mem_toList_iff]
        exact Array.mem_of_getElem? hc
      refine ⟨_, rfl, c, lettersS, rfl, rfl, k1 _ _ (Same.refl _) ⟨hi, ?_⟩⟩
      rw [decide_eq_true (w.all c cm), List.replicate_succ']
      rfl
    · rintro H3 ys s3 h3 ⟨_, rfl⟩
      refine ⟨D, List.replicate y.cps.size false, rfl, SqL.of (K := K) (by rw [h3, List.map_replicate]), _, rfl, ?_⟩
      rw [any_falses]
      refine iteF ?_
      exact ⟨_, _, rfl, s2.trans s3⟩
  · rintro σ H2 ⟨v2, v3, rfl, s2⟩
    exact q H2 s2
/-- the pairs of a list, by the places of their names -/
def PairsAt (K : PySem.W.Frag) (H : Hp) (b : Addr) (xs : List Str) (ps : List (Nat × Nat)) : Prop := ∃ vs : List V, SqL K H b vs ∧ vs.length = ps.length ∧ ∀ (i : Nat) (q : Nat × Nat), ps[i]? = some q → ∃ (t : Addr) (x y : Str), vs[i]? = some (.ref t) ∧ SqT K H t [.str x, .str y] ∧ xs[q.1]? = some x ∧ xs[q.2]? = some y
theorem PairsAt.to {H H' : Hp} {b : Addr} {xs : List Str} {ps : List (Nat × Nat)} (h : PairsAt K H b xs ps) (k : Keeps H H') (e : ∀ vs, SqL K H b vs → SqL K H' b vs) : PairsAt K H' b xs ps := by
  obtain ⟨vs, h1, h2, h3⟩ := h
  refine ⟨vs, e _ h1, h2, fun i q hq => ?_⟩
  obtain ⟨t, x, y, a1, a2, a3⟩ := h3 i q hq
  exact ⟨t, x, y, a1, k.sqT a2, a3⟩
theorem PairsAt.same {H H' : Hp} {b : Addr} {xs : List Str} {ps : List (Nat × Nat)} (h : PairsAt K H b xs ps) (s : Same H H') : PairsAt K H' b xs ps := h.to s.keeps fun _ q => s.seq q
/-- how labels tell the pairs -/
def pairW (xs : List Str) (ps : List (Nat × Nat)) : List Str := ps.map fun q => xs.getD q.1 Str.empty ++ (" " : Str) ++ xs.getD q.2 Str.empty
def sp_pwords (K : PySem.W.Frag) : Sp := fun vs H Q _ => ∃ (b : Addr) (xs : List Str) (ps : List (Nat × Nat)), vs = [.ref b] ∧ PairsAt K H b xs ps ∧ ps.length ≤ 1000 ∧ (∀ x ∈ xs, x.length ≤ 12) ∧ ∀ H', Same H H' → Q (.str (PySem.Txt.join " " (pairW xs ps))) H'
theorem pairW_len {xs : List Str} (hx : ∀ x ∈ xs, x.length ≤ 12) (ps : List (Nat × Nat)) : ∀ z ∈ pairW xs ps, z.length ≤ 25 := by
  intro z hz
  obtain ⟨q, _, rfl⟩ := List.mem_map.mp hz
  have l : ∀ i, (xs.getD i Str.empty).length ≤ 12 := fun i => by
    rw [List.getD_eq_getElem?_getD]
    cases e : xs[i]? with
    | none => exact Nat.zero_le _
    | some x => exact hx x (List.mem_of_getElem? e)
  have l1 := l q.1
  have l2 := l q.2
  have o : (" " : Str).length = 1 := rfl
  rw [Str.length_append, Str.length_append]
  omega
theorem sum_bound {xs : List Str} {m : Nat} (h : ∀ z ∈ xs, z.length ≤ m) : (xs.map (·.length)).sum ≤ xs.length * m := by
  induction xs with
  | nil => simp
  | cons x xs ih =>
    have h1 := h x (.head _)
    have h2 := ih fun z hz => h z (.tail _ hz)
    rw [List.map_cons, List.sum_cons, List.length_cons, Nat.succ_mul]
    omega
theorem ok_pwords (T : Tx K mg W_) : FnOk P w K mg base CX0 1 T.a_pair_words T.d_pair_words ["pairs"] (sp_pwords K) := by
  refine T.F_pair_words.ok sc_pair_words (fun vs H Q E h => ?_) (fun cdv A outer s H vs Q E hr h => ?_)
  · obtain ⟨b, xs, ps, rfl, _⟩ := h
    rfl
  obtain ⟨b, xs, ps, rfl, hp, hz, hx, q⟩ := h
  refine ⟨_, pss_one (ps_ret (pe_join pe_str (pe_lc (own := [("lower", 1), ("upper", 2)]) (g := gTup K 2 (gCons (gName 1) (gCons (gName 2) gNil))) (tt := tYes) rfl sc_pair_words.nd (pi_list (pv 0)) (blkOk_by (N := N_pair_words) (sc := defScope St_pair_words) (by decide +kernel)) (fun _ _ _ _ _ => (pg_tup rfl (pgs_cons (pg_name (i := 1) sc_pair_words.nd rfl (Or.inl rfl)) (pgs_cons (pg_name (i := 2) sc_pair_words.nd rfl (Or.inl rfl)) pgs_nil)))) (fun _ _ _ _ _ => pts_nil) (fun _ _ _ _ _ => (pe_joinedT (.cons (pe_fmt (pv 1)) (.cons pe_str (.cons (pe_fmt (pv 2)) PJ.nil)))))))), ?_⟩
  obtain ⟨vs, h1, h2, h3⟩ := hp
  refine ⟨⟨_, rfl⟩, _, rfl, b, rfl, ⟨_, h1⟩, fun D hD => ?_⟩
  refine lc_fold (walk_list (K := K) (a := b) (xs := vs)) hD (fun i _ ys => i ≤ ps.length ∧ ys = ((pairW xs ps).take i).map V.str) (fun _ => ⟨Nat.zero_le _, rfl⟩) (fun i _ _ xs _ h => h) ?_ (fun H2 s2 => s2.seq h1) ?_ ?_
  · rintro i _ ys ⟨hi, rfl⟩
    rw [List.length_map, List.length_take]; omega
  · rintro i x H2 H3 ys Nx Ex hi s2 ⟨_, rfl⟩ ⟨rfl, ex⟩ k1 k2
    rw [h2] at hi
    obtain ⟨t, x1, y1, e1, e2, e3, e4⟩ := h3 i ps[i] (List.getElem?_eq_getElem hi)
    rw [ex] at e1
    cases e1
    refine ⟨t, _, rfl, s2.keeps.sqT e2, rfl, _, _, rfl, _, _, rfl, ⟨rfl, rfl, ?_⟩⟩
    refine lcY ?_
    have lx := hx x1 (List.mem_of_getElem? e3)
    have ly := hx y1 (List.mem_of_getElem? e4)
    have o : (" " : Str).length = 1 := rfl
    have o0 : (Str.empty).length = 0 := rfl
    refine ⟨_, rfl, .inl ⟨x1, rfl, small_line (by omega), x1, rfl, small_line (by rw [Str.length_append]; omega), " ", rfl, small_line (by rw [Str.length_append, Str.length_append]; omega), _, rfl, .inl ⟨y1, rfl, small_line (by omega), y1, rfl, small_line (by rw [Str.length_append, Str.length_append, Str.length_append]; omega), k1 _ _ (Same.refl _) ⟨hi, ?_⟩⟩⟩⟩
    have e : (pairW xs ps)[i]? = some (x1 ++ (" " : Str) ++ y1) := by
      unfold pairW
      rw [List.getElem?_map, List.getElem?_eq_getElem hi, Option.map_some, List.getD_eq_getElem?_getD, List.getD_eq_getElem?_getD, e3, e4]
      rfl
    rw [take_snoc e, List.map_append, empty_app]
    rfl
  · rintro H2 ys s2 h2' ⟨_, rfl⟩
    have lp : (pairW xs ps).length = ps.length := List.length_map _
    have et : (pairW xs ps).take vs.length = pairW xs ps := by rw [h2, ← lp]; exact List.take_length
    rw [et] at h2'
    refine ⟨" ", D, pairW xs ps, rfl, rfl, .inl (SqL.of (K := K) h2'), ?_, q H2 s2⟩
    have := sum_bound (pairW_len hx ps)
    have o : (" " : Str).length = 1 := rfl
    rw [lp] at this ⊢
    rw [o]
    omega
end
section
variable {P : Program} {w W_ : World} {K : PySem.W.Frag} {mg : Str → Option Value} {base : Heap}
theorem map_set {n u : Nat} {f g : Nat → V} {v : V} (hu : u < n) (h1 : g u = v) (h2 : ∀ i, i ≠ u → g i = f i) : ((List.range n).map f).set u v = (List.range n).map g := by
  refine List.ext_getElem? fun i => ?_
  rw [List.getElem?_set]
  by_cases e : u = i
  · subst e
    rw [if_pos rfl, List.length_map, List.length_range, if_pos hu, at_map hu, h1]
  · rw [if_neg e, List.getElem?_map, List.getElem?_map]
    by_cases hi : i < n
    · rw [List.getElem?_range hi, Option.map_some, Option.map_some, h2 i (Ne.symm e)]
    · rw [List.getElem?_eq_none (by rw [List.length_range]; omega)]; rfl
/-- what the rows of sets know while they grow -/
structure Grow (n : Nat) (ps : List (Nat × Nat)) (p : Nat → Nat → Bool) : Prop where
  refl : ∀ b, b < n → p b b = true
  sound : ∀ b a, b < n → a < n → p b a = true → Reach ps a b
theorem grow0 (n : Nat) (ps : List (Nat × Nat)) : Grow n ps (fun b a => a == b) := by
  refine ⟨fun b _ => beq_self_eq_true b, fun b a _ _ h => ?_⟩
  have e : a = b := by simpa using h
  subst e
  exact .here
def maskV (n : Nat) (p : Nat → Nat → Bool) : List V := (List.range n).map fun b => V.int ((mask n (p b) : Nat) : Int)
def growOne (p : Nat → Nat → Bool) (l u : Nat) : Nat → Nat → Bool := fun b a => if b = u then p u a || p l a else p b a
theorem Grow.one {n : Nat} {ps : List (Nat × Nat)} {p : Nat → Nat → Bool} (g : Grow n ps p) {l u : Nat} (hm : (l, u) ∈ ps) (hl : l < n) (hu : u < n) : Grow n ps (growOne p l u) := by
  refine ⟨fun b hb => ?_, fun b a hb ha h => ?_⟩
  · unfold growOne
    split
    · rename_i e; subst e; rw [g.refl b hb]; rfl
    · exact g.refl b hb
  · unfold growOne at h
    split at h
    · rename_i e
      subst e
      rw [Bool.or_eq_true] at h
      rcases h with h | h
      · exact g.sound b a hb ha h
      · exact .step (g.sound l a hl ha h) hm
    · exact g.sound b a hb ha h
theorem Grow.done {n : Nat} {ps : List (Nat × Nat)} {p : Nat → Nat → Bool} (g : Grow n ps p) (hn : ∀ q ∈ ps, q.1 < n ∧ q.2 < n) (hc : ∀ l u, (l, u) ∈ ps → ∀ a, a < n → p l a = true → p u a = true) {b : Nat} (hb : b < n) :
    mask n (p b) = mask n fun a => reachB ps a b := by
  refine mask_ext fun a ha => ?_
  rw [Bool.eq_iff_iff, reachB_iff]
  refine ⟨g.sound b a hb ha, fun h => ?_⟩
  exact Reach.of_closed (fun b => p b a = true) (g.refl a ha) (fun l u m h => hc l u m a ha h) h
theorem inV_strs' {xs : List Str} {x : Str} {i : Nat} (h : xs[i]? = some x) : (if true = true then !inV (.str x) (xs.map V.str) else inV (.str x) (xs.map V.str)) = false := by
  show (!inV (.str x) (xs.map V.str)) = false
  rw [inV_strs, decide_eq_true (List.mem_of_getElem? h)]; rfl
/-- names.index(x): the first place of x -/
theorem index_at {xs : List Str} {x : Str} {i : Nat} (nd : xs.Nodup) (hx : xs[i]? = some x) : (xs.map V.str)[i]? = some (.str x) ∧ eqV (.str x) (.str x) = true ∧ ∀ (m : Nat) (z' : V), m < i → (xs.map V.str)[m]? = some z' → eqV z' (.str x) = false := by
  refine ⟨by rw [List.getElem?_map, hx]; rfl, by rw [eqV_str']; exact beq_self_eq_true x, fun j z hj hz => ?_⟩
  rw [List.getElem?_map] at hz
  obtain ⟨y, hy, rfl⟩ := Option.map_eq_some_iff.mp hz
  exact beq_eq_false_iff_ne.mpr fun z => by
    subst z
    have := nodup_at' nd hy hx
    omega
def sp_closed (K : PySem.W.Frag) : Sp := fun vs H Q _ => ∃ (a b : Addr) (xs : List Str) (ps : List (Nat × Nat)), vs = [.ref a, .ref b] ∧ SqL K H a (xs.map V.str) ∧ PairsAt K H b xs ps ∧ xs.Nodup ∧ xs.length ≤ 60 ∧ ps.length ≤ 1000 ∧
  ∀ l H', Same H H' → H l = none → H' l = some (.lst (maskV xs.length fun b a => reachB ps a b)) → Q (.ref l) H'
theorem ok_closed (T : Tx K mg W_) : FnOk P w K mg base CX0 1 T.a_closed_downs T.d_closed_downs ["names", "pairs"] (sp_closed K) := by
  refine T.F_closed_downs.ok sc_closed_downs (fun vs H Q E h => ?_) (fun cdv A outer s H vs Q E hr h => ?_)
  · obtain ⟨a, b, xs, ps, rfl, _⟩ := h
    rfl
  obtain ⟨a, b, xs, ps, rfl, ha, ⟨vs, h1, h2, h3⟩, nd, n60, pz, q⟩ := h
  refine ⟨_, pss_cons (ps_for PassesOwn.never rfl (pi_list (pv 1)) (pg_tup rfl (pgs_cons (pg_name (i := 2) sc_closed_downs.nd rfl (Or.inl rfl)) (pgs_cons (pg_name (i := 3) sc_closed_downs.nd rfl (Or.inl rfl)) pgs_nil))) (pss_one (ps_if (PW.pt (pw_or (pt_cmpR op_notIn_seq (pv 2) (pv 0) (by rfl)) (pw_or1 (pt_cmpR op_notIn_seq (pv 3) (pv 0) (by rfl))))) (pss_one ps_dead) pss_nil)))
    (pss_cons (ps_setLc (i := 4) (own := [("place", 5)]) (g := gName 5) (tt := tYes) rfl sc_closed_downs.nd rfl rfl (sw_true rfl rfl rfl (by decide +kernel)) (pi_range1 (by rfl) T.n_range (pa_cons (pe_callB call_len_seq (by rfl) T.n_len (by decide +kernel) (pa_cons (pv 0) pa_nil)) pa_nil)) (blkOk_by (N := N_closed_downs) (sc := defScope St_closed_downs) (by decide +kernel)) (fun _ _ _ _ _ => (pg_name (i := 5) sc_closed_downs.nd rfl (Or.inl rfl))) (fun _ _ _ _ _ => pts_nil) (fun _ _ _ _ _ => (pe_op op_shl pe_int (pv 5))))
    (pss_cons (ps_set (i := 6) sc_closed_downs.nd rfl (Or.inl rfl) pe_bl)
    (pss_cons (ps_while PassesOwn.never (pt_val (pv 6)) (pss_cons (ps_set (i := 6) sc_closed_downs.nd rfl (Or.inl rfl) pe_bl)
    (pss_one (ps_for PassesOwn.never rfl (pi_list (pv 1)) (pg_tup rfl (pgs_cons (pg_name (i := 2) sc_closed_downs.nd rfl (Or.inl rfl)) (pgs_cons (pg_name (i := 3) sc_closed_downs.nd rfl (Or.inl rfl)) pgs_nil))) (pss_cons (ps_set (i := 7) sc_closed_downs.nd rfl (Or.inl rfl) (pe_op op_or (pe_ix ix_list (pv 4) (pe_bm PySem.F.plainAttrs_list PySem.F.slot_list_index PySem.F.type_list_index mt_index (pv 0) (pa_cons (pv 3) pa_nil)) (fun _ _ => rfl)) (pe_ix ix_list (pv 4) (pe_bm PySem.F.plainAttrs_list PySem.F.slot_list_index PySem.F.type_list_index mt_index (pv 0) (pa_cons (pv 2) pa_nil)) (fun _ _ => rfl))))
    (pss_one (ps_if (pt_cmpR op_ne (pv 7) (pe_ix ix_list (pv 4) (pe_bm PySem.F.plainAttrs_list PySem.F.slot_list_index PySem.F.type_list_index mt_index (pv 0) (pa_cons (pv 3) pa_nil)) (fun _ _ => rfl)) (nomark _)) (pss_cons (ps_asg (pv 7) (pg_sub (pv 4) (pe_bm PySem.F.plainAttrs_list PySem.F.slot_list_index PySem.F.type_list_index mt_index (pv 0) (pa_cons (pv 3) pa_nil)) set_list))
    (pss_one (ps_set (i := 6) sc_closed_downs.nd rfl (Or.inl rfl) pe_bl))) pss_nil)))))))
    (pss_one (ps_ret (pv 4)))))), ?_⟩
  refine ⟨_, rfl, b, rfl, ⟨_, h1⟩, for_list (K := K) (a := b) (xs := vs) (fun i σ H2 => ∃ v2 v3, σ = [some (.ref a), some (.ref b), v2, v3, none, none, none, none] ∧ Same H H2) ⟨_, _, rfl, Same.refl _⟩ (fun i σ H2 _ ⟨_, _, _, s⟩ => s.seq h1) ?_ ?_⟩
  · rintro i x σ H2 hx ⟨v2, v3, rfl, s2⟩
    have hi := (List.getElem?_eq_some_iff.mp hx).1
    rw [h2] at hi
    obtain ⟨t, x1, y1, e1, e2, e3, e4⟩ := h3 i ps[i] (List.getElem?_eq_getElem hi)
    rw [hx] at e1
    cases e1
    refine ⟨t, _, rfl, s2.keeps.sqT e2, rfl, _, _, rfl, _, _, rfl, ⟨rfl, ?_⟩⟩
    refine ⟨_, rfl, _, rfl, a, _, rfl, .inl (s2.seq ha), rfl, flat_strs _, _, rfl, ?_⟩
    rw [inV_strs' e3]
    refine iteF ?_
    refine ⟨_, rfl, _, rfl, a, _, rfl, .inl (s2.seq ha), rfl, flat_strs _, _, rfl, ?_⟩
    rw [inV_strs' e4]
    refine iteF ?_
    exact ⟨_, _, rfl, s2⟩
  rintro σ H2 ⟨v2, v3, rfl, s2⟩
  have pn : ∀ q ∈ ps, q.1 < xs.length ∧ q.2 < xs.length := fun q hq => by
    obtain ⟨i, hi⟩ := List.getElem?_of_mem hq
    obtain ⟨t, x1, y1, e1, e2, e3, e4⟩ := h3 i q hi
    exact ⟨(List.getElem?_eq_some_iff.mp e3).1, (List.getElem?_eq_some_iff.mp e4).1⟩
  generalize hn : xs.length = n at pn n60
  refine ⟨_, rfl, a, _, rfl, .inl (s2.seq ha), _, rfl, by rw [List.length_map, hn]; omega, by rw [List.length_map, hn]; omega, fun D hD => ?_⟩
  rw [List.length_map, hn]
  refine lc_fold walk_range hD (fun i _ ys => i ≤ n ∧ ys = (List.range i).map fun b => V.int ((mask n (fun a => a == b) : Nat) : Int)) (fun _ => ⟨Nat.zero_le _, rfl⟩) (fun i _ _ xs _ h => h) ?_ (fun _ _ => trivial) ?_ ?_
  · rintro i _ ys ⟨hi, rfl⟩
    rw [List.length_map, List.length_range]; omega
  · rintro i x H3 H4 ys Nx Ex hi s3 ⟨_, rfl⟩ ⟨rfl, ex⟩ k1 k2
    have hi : i < n := hi
    obtain rfl := yfn0 ex
    refine ⟨rfl, ?_⟩
    refine lcY ?_
    refine ⟨_, rfl, _, _, rfl, rfl, ⟨Int.natCast_nonneg _, by omega, by decide⟩, k1 _ _ (Same.refl _) ⟨hi, ?_⟩⟩
    rw [List.range_succ, List.map_append]
    show _ ++ [V.int (1 * 2 ^ ((i : Int)).toNat)] = _ ++ [V.int ((mask n (fun a => a == i) : Nat) : Int)]
    rw [one_shl, mask_one hi]
  rintro H3 ys s3 h3' ⟨_, rfl⟩
  have s03 := s2.trans s3
  have nD : ∀ {c : Addr} {o : HO}, H2 c = some o → c ≠ D := fun h => ne_of_none h hD
  refine ⟨fun k σ H4 => ∃ (p : Nat → Nat → Bool) (ch : Bool) (v2 v3 v5 v7 : Option V), k = 2 * (n * n - marks n p) + (if ch then 1 else 0) ∧ σ = [some (.ref a), some (.ref b), v2, v3, some (.ref D), v5, some (.bl ch), v7] ∧ But D H3 H4 ∧ H4 D = some (.lst (maskV n p)) ∧ Grow n ps p ∧
      (ch = false → ∀ l u, (l, u) ∈ ps → ∀ a, a < n → p l a = true → p u a = true), ⟨_, fun b a => a == b, true, _, _, _, _, rfl, rfl, But.refl _ _, h3', grow0 n ps, fun z => nomatch z⟩, ?_⟩
  rintro k σ H4 ⟨p, ch, v2, v3, v5, v7, rfl, rfl, b4, d4, g, hc⟩
  refine ⟨_, rfl, _, rfl, ?_⟩
  cases ch with
  | false =>
    refine iteF ?_
    refine ⟨_, rfl, q D H4 (fun c o hc' => ?_) ?_ ?_⟩
    · have := s03 c o hc'
      exact b4 c o (ne_of_none (s2 c o hc') hD) this
    · cases e : H D with
      | none => rfl
      | some o => have := s2 D o e; rw [hD] at this; cases this
    · rw [d4, hn]
      congr 2
      unfold maskV
      refine List.map_congr_left fun b hb => ?_
      rw [g.done pn (hc rfl) (List.mem_range.mp hb)]
  | true =>
    refine iteT ?_
    refine ⟨fun σ' H' => ∃ m' < _, _, fun _ _ h => h, ?_⟩
    dsimp only
    have bD : ∀ {H5 : Hp}, But D H3 H5 → SqL K H5 a (xs.map V.str) ∧ SqL K H5 b vs ∧ ∀ t ws, SqT K H t ws → SqT K H5 t ws := fun {H5} b5 => by
      have b25 : But D H2 H5 := fun c o nc hc => b5 c o nc (s3 c o hc)
      have sq : ∀ c zs, SqL K H c zs → SqL K H5 c zs := fun c zs h => by
        rcases s2.seq h with (h | ⟨o, h⟩) | h
        · exact .inl (.inl (b25 _ _ (ne_of_none h hD) h))
        · exact .inl (.inr ⟨o, b25 _ _ (ne_of_none h hD) h⟩)
        · exact .inr h
      refine ⟨sq _ _ ha, sq _ _ h1, fun t ws h => ?_⟩
      rcases s2.keeps.sqT h with (h | ⟨o, h⟩) | h
      · exact .inl (.inl (b25 _ _ (ne_of_none h hD) h))
      · exact .inl (.inr ⟨o, b25 _ _ (ne_of_none h hD) h⟩)
      · exact .inr h
    refine ⟨_, rfl, b, rfl, ⟨_, (bD b4).2.1⟩, for_list (K := K) (a := b) (xs := vs) (fun i σ H5 => ∃ (p' : Nat → Nat → Bool) (ch : Bool) (v2 v3 v5 v7 : Option V), σ = [some (.ref a), some (.ref b), v2, v3, some (.ref D), v5, some (.bl ch), v7] ∧ But D H3 H5 ∧ H5 D = some (.lst (maskV n p')) ∧ Grow n ps p' ∧
        (ch = false → (∀ l u, (l, u) ∈ ps.take i → ∀ a, a < n → p' l a = true → p' u a = true) ∧ marks n p ≤ marks n p') ∧ (ch = true → marks n p < marks n p')) ?_ (fun i σ H5 _ ⟨_, _, _, _, _, _, _, b5, _⟩ => (bD b5).2.1) ?_ ?_⟩
    · exact ⟨p, false, _, _, _, _, rfl, b4, d4, g, fun _ => ⟨fun l u h => by simp at h, Nat.le_refl _⟩, fun z => nomatch z⟩
    · rintro i x σ H5 hx ⟨p', ch, v2, v3, v5, v7, rfl, b5, d5, g5, c1, c2⟩
      have hi := (List.getElem?_eq_some_iff.mp hx).1
      rw [h2] at hi
      obtain ⟨t, x1, y1, e1, e2, e3, e4⟩ := h3 i ps[i] (List.getElem?_eq_getElem hi)
      rw [hx] at e1
      cases e1
      obtain ⟨ha5, hb5, ht5⟩ := bD b5
      have pm : ps[i] ∈ ps := List.getElem_mem hi
      generalize hq : ps[i] = lu at e3 e4 pm
      obtain ⟨l, u⟩ := lu
      obtain ⟨ln, un⟩ := pn _ pm
      dsimp only at e3 e4 ln un
      refine ⟨t, _, rfl, ht5 _ _ e2, rfl, _, _, rfl, _, _, rfl, ⟨rfl, ?_⟩⟩
      have dq : SqL K H5 D (maskV n p') := SqL.of d5
      have at5 : ∀ {j : Nat}, j < n → atI (maskV n p') (j : Int) = some (.int ((mask n (p' j) : Nat) : Int)) := fun hj => atI_nat (at_map hj)
      obtain ⟨iu1, iu2, iu3⟩ := index_at nd e4
      obtain ⟨il1, il2, il3⟩ := index_at nd e3
      refine ⟨_, rfl, _, rfl, .inl ⟨rfl, _, ha5⟩, _, rfl, a, _, _, u, _, rfl, rfl, ha5, rfl, flat_strs _, iu1, iu2, iu3, ?_⟩
      refine ⟨D, _, _, _, rfl, rfl, dq, at5 un, ?_⟩
      refine ⟨_, rfl, _, rfl, .inl ⟨rfl, _, ha5⟩, _, rfl, a, _, _, l, _, rfl, rfl, ha5, rfl, flat_strs _, il1, il2, il3, ?_⟩
      refine ⟨D, _, _, _, rfl, rfl, dq, at5 ln, _, _, rfl, rfl, ?_⟩
      have eg : Builtin.bitOr ((mask n (p' u) : Nat) : Int) ((mask n (p' l) : Nat) : Int) = ((mask n (fun a => p' u a || p' l a) : Nat) : Int) := by rw [or_int_nat, mask_or]
      refine ⟨_, rfl, _, rfl, _, rfl, .inl ⟨rfl, _, ha5⟩, _, rfl, a, _, _, u, _, rfl, rfl, ha5, rfl, flat_strs _, iu1, iu2, iu3, ?_⟩
      refine ⟨D, _, _, _, rfl, rfl, dq, at5 un, rfl, _, rfl, ?_⟩
      have et : (!decide (V.int (Builtin.bitOr ((mask n (p' u) : Nat) : Int) ((mask n (p' l) : Nat) : Int)) = V.int ((mask n (p' u) : Nat) : Int))) = !(mask n (fun a => p' u a || p' l a) == mask n (p' u)) := by rw [eg, int_ext]
      show if (!decide (V.int (Builtin.bitOr ((mask n (p' u) : Nat) : Int) ((mask n (p' l) : Nat) : Int)) = V.int ((mask n (p' u) : Nat) : Int))) = true then _ else _
      rw [et]
      have two : ∀ l' u', (l', u') ∈ ps.take (i + 1) → (l', u') ∈ ps.take i ∨ (l', u') = (l, u) := fun l' u' h => by
        rw [take_snoc (by rw [List.getElem?_eq_getElem hi, hq])] at h
        rcases List.mem_append.mp h with h | h
        · exact .inl h
        · exact .inr (by simpa using h)
      by_cases hs : mask n (fun a => p' u a || p' l a) = mask n (p' u)
      · rw [beq_iff_eq.mpr hs]
        refine iteF ?_
        refine ⟨p', ch, _, _, _, _, rfl, b5, d5, g5, fun z => ⟨fun l' u' h a' ha' h2 => ?_, (c1 z).2⟩, c2⟩
        rcases two l' u' h with h | h
        · exact (c1 z).1 l' u' h a' ha' h2
        · cases h
          have := mask_eq.mp hs a' ha'
          rw [h2, Bool.or_true] at this
          exact this.symm
      · rw [beq_eq_false_iff_ne.mpr hs]
        refine iteT ?_
        refine ⟨_, rfl, _, rfl, _, rfl, .inl ⟨rfl, _, ha5⟩, _, rfl, a, _, _, u, _, rfl, rfl, ha5, rfl, flat_strs _, iu1, iu2, iu3, ?_⟩
        refine ⟨D, _, _, u, rfl, rfl, d5, ixN_nat (Int.natCast_nonneg _) (by unfold maskV; rw [List.length_map, List.length_range]; exact un), ?_⟩
        have es : (maskV n p').set u (.int (Builtin.bitOr ((mask n (p' u) : Nat) : Int) ((mask n (p' l) : Nat) : Int))) = maskV n (growOne p' l u) := by
          rw [eg]
          refine map_set un ?_ fun j hj => ?_
          · unfold growOne
            congr 3
            funext a
            rw [if_pos rfl]
          · unfold growOne
            congr 3
            funext a
            rw [if_neg hj]
        rw [es]
        have up : ∀ b a, b < n → a < n → p' b a = true → growOne p' l u b a = true := fun b a _ _ h => by
          unfold growOne
          split
          · rename_i e; subst e; rw [h]; rfl
          · exact h
        obtain ⟨a', ha', hne⟩ : ∃ a', a' < n ∧ (p' u a' || p' l a') ≠ p' u a' := by
          refine Classical.byContradiction fun z => hs (mask_ext fun i hi => Classical.byContradiction fun z2 => z ⟨i, hi, z2⟩)
        have pu : p' u a' = false := by cases h : p' u a' with
          | false => rfl
          | true => rw [h] at hne; exact absurd rfl hne
        have pl : p' l a' = true := by cases h : p' l a' with
          | true => rfl
          | false => rw [pu, h] at hne; exact absurd rfl hne
        have lt : marks n p' < marks n (growOne p' l u) := marks_lt up un ha' pu (by unfold growOne; rw [if_pos rfl, pl, Bool.or_true])
        have le : marks n p ≤ marks n p' := by cases ch with
          | false => exact (c1 rfl).2
          | true => exact Nat.le_of_lt (c2 rfl)
        exact ⟨growOne p' l u, true, _, _, _, _, rfl, b5.upd _, upd_same, g5.one pm ln un, (fun z => Bool.noConfusion z), (fun _ => Nat.lt_of_le_of_lt le lt)⟩
    · rintro σ H5 ⟨p', ch, v2, v3, v5, v7, rfl, b5, d5, g5, c1, c2⟩
      have mle := marks_le n p'
      have mle2 := marks_le n p
      refine ⟨_, ?_, p', ch, _, _, _, _, rfl, rfl, b5, d5, g5, fun z l u hm => (c1 z).1 l u (by rw [h2, List.take_length]; exact hm)⟩
      cases ch with
      | false => have := (c1 rfl).2; simp; omega
      | true => have := c2 rfl; simp; omega
end
section
theorem join_len (sep : Str) (xs : List Str) : (PySem.Txt.join sep xs).length ≤ (xs.map (·.length)).sum + xs.length * sep.length := by
  rw [show PySem.Txt.join sep xs = Str.join sep xs from StrLaws.glued_eq_join _ _]
  exact StrLaws.join_length_le sep xs
theorem join_le {sep : Str} {xs : List Str} {m n : Nat} (hs : sep.length ≤ 1) (h : ∀ z ∈ xs, z.length ≤ m) (hn : xs.length ≤ n) : (PySem.Txt.join sep xs).length ≤ n * (m + 1) ∧ (xs.map (·.length)).sum + xs.length * sep.length ≤ n * (m + 1) := by
  have h1 := join_len sep xs
  have h2 := sum_bound h
  have h3 : xs.length * sep.length ≤ xs.length * 1 := Nat.mul_le_mul_left _ hs
  have h4 : xs.length * (m + 1) ≤ n * (m + 1) := Nat.mul_le_mul_right _ hn
  have h5 : xs.length * (m + 1) = xs.length * m + xs.length * 1 := Nat.mul_add _ _ _
  omega
noncomputable def orderL (xs : List Str) (ps : List (Nat × Nat)) : Lt :=
  { label := ("(order (" : Str) ++ PySem.Txt.join " " xs ++ (") (" : Str) ++ PySem.Txt.join " " (pairW xs ps) ++ ("))" : Str), names := xs, le := fun a b => reachB ps a b, depth := 1 }
variable {w W_ : World} {K : PySem.W.Frag} {mg : Str → Option Value} {base : Heap}
def sp_order (K : PySem.W.Frag) (mm : List (Str × Addr)) (C : Addr) : Sp := fun vs H Q _ => ∃ (p dx a b : Addr) (xs : List Str) (ps : List (Nat × Nat)), vs = [.ref p, .ref a, .ref b] ∧ H p = some (.ins C dx []) ∧ SqL K H a (xs.map V.str) ∧ PairsAt K H b xs ps ∧ a ≠ p ∧ b ≠ p ∧ 1 ≤ xs.length ∧ xs.length ≤ 16 ∧ xs.Nodup ∧ (∀ x ∈ xs, NameW x) ∧ ps.length ≤ 1000 ∧
  ∀ H', But p H H' → IsLat K mm H' p (orderL xs ps) → Q .non H'
theorem ok_order (T : Tx K mg W_) : FnOk PL w K mg base CX0 3 T.a_OrderLattice_init T.d_OrderLattice_init ["self", "names", "pairs"] (sp_order K T.mm T.a_OrderLattice) := by
  have G_Lattice_init := ok_lat_init (P := PL) (w := w) (base := base) T
  have G_check_names := ok_check (P := PL) (w := w) (base := base) T
  have G_closed_downs := ok_closed (P := PL) (w := w) (base := base) T
  have G_pair_words := ok_pwords (P := PL) (w := w) (base := base) T
  obtain ⟨u4, B4⟩ := T.b4_Lattice_init
  refine T.F_OrderLattice_init.ok sc_OrderLattice_init (by rfl) (by rfl) (by rfl) ⟨_, rfl, rfl⟩ (by decide +kernel) T.ci_OrderLattice T.n_super T.st_any (fun vs H Q E h => ?_) (fun cda cc A outer s H vs Q E hr S h => ?_)
  · obtain ⟨p, dx, a, b, xs, ps, rfl, _⟩ := h
    rfl
  obtain ⟨p, dx, a, b, xs, ps, rfl, hp, ha, hb, na, nb, n1, n16, nd, nw, pz, q⟩ := h
  refine ⟨_, psa_cons (ps_expr (pe_call G_check_names (hr.mono (by omega)) (by rfl) T.g_check_names T.F_check_names.kp T.b_check_names .nil pass0 (pa_cons (pv 1) (pa_cons pe_int pa_nil))))
    (psa_cons (ps_set (i := 3) sc_OrderLattice_init.nd rfl (Or.inl rfl) (pe_call G_closed_downs (hr.mono (by omega)) (by rfl) T.g_closed_downs T.F_closed_downs.kp T.b_closed_downs .nil pass0 (pa_cons (pv 1) (pa_cons (pv 2) pa_nil))))
    (psa_super (dvs := [.int 1]) S rfl (pa_cons (pe_joinedT (.cons pe_str (.cons (pe_fmt (pe_join pe_str (pv 1))) (.cons pe_str (.cons (pe_fmt (pe_call G_pair_words (hr.mono (by omega)) (by rfl) T.g_pair_words T.F_pair_words.kp T.b_pair_words .nil pass0 (pa_cons (pv 2) pa_nil))) (.cons pe_str PJ.nil)))))) (pa_cons (pv 1) (pa_cons (pv 3) pa_nil))) G_Lattice_init (hr.mono (by omega)) B4 (.cons ⟨_, rfl⟩ .nil) pass0 T.ty_Lattice T.fi_Lattice (by decide) rfl rfl rfl rfl rfl (psa_any pss_nil))), ?_⟩
  refine ⟨_, rfl, a, xs, 16, rfl, ha, n1, n16, nd, nw, fun H1 s1 => ?_⟩
  refine ⟨_, rfl, _, rfl, a, b, xs, ps, rfl, s1.seq ha, hb.same s1, nd, by omega, pz, fun l H2 s2 hl h2 => ?_⟩
  have p2 := s2 _ _ (s1 _ _ hp)
  have s02 := s1.trans s2
  refine ⟨p, _, dx, _, rfl, p2, T.mr_OrderLattice, T.su_OrderLattice, ?_⟩
  have lx : ∀ x ∈ xs, x.length ≤ 12 := fun x hx => (nw x hx).le
  obtain ⟨j1, j2⟩ := join_le (sep := " ") (by decide) lx n16
  obtain ⟨k1, k2⟩ := join_le (sep := " ") (by decide) (pairW_len lx ps) (by show (List.map _ ps).length ≤ 1000; rw [List.length_map]; exact pz)
  have o0 : (Str.empty).length = 0 := rfl
  have o1 : ("(order (" : Str).length = 8 := rfl
  have o2 : (") (" : Str).length = 3 := rfl
  have o3 : ("))" : Str).length = 2 := rfl
  refine ⟨"(order (", rfl, by decide, ⟨_, rfl⟩, _, rfl, " ", a, xs, rfl, rfl, .inl (s02.seq ha), by omega, .inl ⟨_, rfl, small_line (by omega), _, rfl, small_line (by rw [Str.length_append, Str.length_append]; omega), ") (", rfl, small_line (by rw [Str.length_append, Str.length_append, Str.length_append]; omega), ?_⟩⟩
  refine ⟨_, rfl, b, xs, ps, rfl, hb.same s02, pz, lx, fun H3 s3 => .inl ⟨_, rfl, small_line (by omega), _, rfl, small_line (by rw [Str.length_append, Str.length_append, Str.length_append, Str.length_append]; omega), "))", rfl, small_line (by rw [Str.length_append, Str.length_append, Str.length_append, Str.length_append, Str.length_append]; omega), ?_⟩⟩
  have p3 := s3 _ _ p2
  have s03 := s02.trans s3
  have hl3 := s3 _ _ h2
  refine ⟨_, rfl, _, rfl, p, a, l, _, dx, [], orderL xs ps, ?_, p3, T.lc_OrderLattice, by decide, fun _ _ => rfl, na, s03.seq ha, .inl ⟨ne_of hl3 p3 (by intro z; cases z), SqL.of (K := K) hl3⟩, by show xs.length ≤ 64; omega, fun H4 fs tn td tu b4 A _ => ?_⟩
  · rw [empty_app]; rfl
  exact q H4 ((s03.but p).trans b4) ⟨_, _, _, _, _, _, A⟩
end
section
def turnL (L : Lt) : Lt := { label := ("(turned " : Str) ++ L.label ++ (")" : Str), names := L.names, le := fun a b => L.le b a, depth := L.depth + 1 }
/-- a label is not too long, nor are the names -/
structure Lt.Fit (L : Lt) : Prop where
  lab : L.label.length ≤ 20000
  nam : ∀ x ∈ L.names, x.length ≤ 5000
/-- a field of an instance -/
def FldAt (H : Hp) (p : Addr) (f : Str) (v : V) : Prop := ∃ C dx fs, H p = some (.ins C dx fs) ∧ fs.lookup f = some v
/-- the same, its class told -/
def FldC (H : Hp) (p C : Addr) (f : Str) (v : V) : Prop := ∃ dx fs, H p = some (.ins C dx fs) ∧ fs.lookup f = some v
theorem FldC.fld {H : Hp} {p C : Addr} {f : Str} {v : V} (h : FldC H p C f v) : FldAt H p f v := by
  obtain ⟨dx, fs, a, b⟩ := h
  exact ⟨C, dx, fs, a, b⟩
theorem FldC.same {H H' : Hp} {p C : Addr} {f : Str} {v : V} (h : FldC H p C f v) (s : Same H H') : FldC H' p C f v := by
  obtain ⟨dx, fs, a, b⟩ := h
  exact ⟨dx, fs, s _ _ a, b⟩
def foldD : Nat → List Lt → Nat := List.foldl fun d L => if L.depth ≥ d then L.depth + 1 else d
variable {w W_ : World} {K : PySem.W.Frag} {mg : Str → Option Value} {base : Heap}
def sp_cdepth (K : PySem.W.Frag) (mm : List (Str × Addr)) : Sp := fun vs H Q _ => ∃ (z : Nat) (a : Addr) (ls : List (Addr × Lt)), vs = [.int (z : Nat), .ref a] ∧ SqL K H a (ls.map fun q => V.ref q.1) ∧ (∀ q ∈ ls, IsLat K mm H q.1 q.2) ∧ z ≤ 64 ∧ foldD 1 (ls.map (·.2)) ≤ 10 ∧
  ∀ H', Same H H' → Q (.int (foldD 1 (ls.map (·.2)) : Nat)) H'
def sp_turn (K : PySem.W.Frag) (mm : List (Str × Addr)) (C : Addr) : Sp := fun vs H Q _ => ∃ (p dx z : Addr) (L : Lt), vs = [.ref p, .ref z] ∧ H p = some (.ins C dx []) ∧ IsLat K mm H z L ∧ z ≠ p ∧ L.n ≤ 64 ∧ L.depth ≤ 9 ∧ 1 ≤ L.depth ∧ L.Fit ∧
  ∀ H', But p H H' → IsLat K mm H' p (turnL L) → FldC H' p C "inner" (.ref z) → Q .non H'
end
section
/-- pairs: the place is a * (size of the right one) + b -/
def pairNm (L R : Lt) (k : Nat) : Str := ("<" : Str) ++ L.names.getD (k / R.n) Str.empty ++ ("/" : Str) ++ R.names.getD (k % R.n) Str.empty ++ (">" : Str)
def pairL (L R : Lt) : Lt where
  label := ("(pair " : Str) ++ L.label ++ (" " : Str) ++ R.label ++ (")" : Str)
  names := (List.range (L.n * R.n)).map (pairNm L R)
  le := fun a b => L.le (a / R.n) (b / R.n) && R.le (a % R.n) (b % R.n)
  depth := foldD 1 [L, R]
theorem pairL_n (L R : Lt) : (pairL L R).n = L.n * R.n := by simp [pairL, Lt.n]
variable {w W_ : World} {K : PySem.W.Frag} {mg : Str → Option Value} {base : Heap}
/-- the k-th pair of places -/
def pr (m k : Nat) : List V := [.int ((k / m : Nat) : Int), .int ((k % m : Nat) : Int)]
/-- pairs of places in the heap: n of them -/
def PrsAt (K : PySem.W.Frag) (H : Hp) (b : Addr) (m n : Nat) : Prop := ∃ vs : List V, SqL K H b vs ∧ vs.length = n ∧ ∀ k, k < n → ∃ t, vs[k]? = some (.ref t) ∧ SqT K H t (pr m k)
theorem PrsAt.same {H H' : Hp} {b : Addr} {m n : Nat} (h : PrsAt K H b m n) (s : Same H H') : PrsAt K H' b m n := by
  obtain ⟨vs, h1, h2, h3⟩ := h
  refine ⟨vs, s.seq h1, h2, fun k hk => ?_⟩
  obtain ⟨t, e1, e2⟩ := h3 k hk
  exact ⟨t, e1, s.keeps.sqT e2⟩
theorem mask_succ (i : Nat) (p : Nat → Bool) : mask (i + 1) p = if p i then mask i p ||| 2 ^ i else mask i p := by
  show mask i p + (if p i = true then 2 ^ i else 0) = _
  by_cases c : p i = true
  · rw [if_pos c, if_pos c, Nat.or_comm, Nat.add_comm]
    have h := mask_lt p i
    have := Nat.two_pow_add_eq_or_of_lt h 1
    rw [Nat.mul_one] at this
    exact this
  · rw [if_neg c, if_neg c, Nat.add_zero]
def sp_prw (K : PySem.W.Frag) (mm : List (Str × Addr)) (C : Addr) : Sp := fun vs H Q _ => ∃ (p dx b t x y : Addr) (fs : List (Str × V)) (L R : Lt) (k : Nat), vs = [.ref p, .ref b, .ref t] ∧ H p = some (.ins C dx fs) ∧ fs.lookup ("left" : Str) = some (.ref x) ∧ fs.lookup ("right" : Str) = some (.ref y) ∧ IsLat K mm H x L ∧ IsLat K mm H y R ∧
  1 ≤ R.n ∧ L.n * R.n ≤ 64 ∧ k < L.n * R.n ∧ PrsAt K H b R.n (L.n * R.n) ∧ SqT K H t (pr R.n k) ∧ ∀ H', Same H H' → Q (.int ((pairL L R).down k : Nat)) H'
theorem div_lt' {k m n : Nat} (hm : 1 ≤ m) (h : k < n * m) : k / m < n := by rw [Nat.div_lt_iff_lt_mul hm]; exact h
end
section
variable {w W_ : World} {K : PySem.W.Frag} {mg : Str → Option Value} {base : Heap}
/-- the list of pairs while it is made -/
def PrsL (K : PySem.W.Frag) (H : Hp) (D : Addr) (m n : Nat) : Prop := ∃ vs : List V, H D = some (.lst vs) ∧ vs.length = n ∧ ∀ k, k < n → ∃ t, vs[k]? = some (.ref t) ∧ SqT K H t (pr m k)
theorem PrsL.at {H : Hp} {D : Addr} {m n : Nat} (h : PrsL K H D m n) : PrsAt K H D m n := by
  obtain ⟨vs, h1, h2, h3⟩ := h
  exact ⟨vs, SqL.of (K := K) h1, h2, h3⟩
theorem PrsL.same {H H' : Hp} {D : Addr} {m n : Nat} (h : PrsL K H D m n) (s : Same H H') : PrsL K H' D m n := by
  obtain ⟨vs, h1, h2, h3⟩ := h
  refine ⟨vs, s _ _ h1, h2, fun k hk => ?_⟩
  obtain ⟨t, e1, e2⟩ := h3 k hk
  exact ⟨t, e1, s.keeps.sqT e2⟩
theorem PrsL.snoc {H : Hp} {D u : Addr} {m n : Nat} {vs : List V} (h : PrsL K H D m n) (e : H D = some (.lst vs)) (hu : SqT K H u (pr m n)) : vs.length = n ∧ PrsL K (upd H D (.lst (vs ++ [.ref u]))) D m (n + 1) := by
  obtain ⟨vs', h1, h2, h3⟩ := h
  rw [e] at h1
  cases h1
  have kp : Keeps H (upd H D (.lst (vs ++ [.ref u]))) := ((But.refl D H).upd _).keeps e trivial
  refine ⟨h2, _, upd_same, by rw [List.length_append, h2]; rfl, fun k hk => ?_⟩
  rcases Nat.lt_or_ge k n with l | l
  · obtain ⟨t, e1, e2⟩ := h3 k l
    exact ⟨t, by rw [List.getElem?_append_left (by omega)]; exact e1, kp.sqT e2⟩
  · have : k = n := by omega
    subst this
    exact ⟨u, by rw [← h2, List.getElem?_append_right (Nat.le_refl _), Nat.sub_self]; rfl, kp.sqT hu⟩
def sp_pairl (K : PySem.W.Frag) (mm : List (Str × Addr)) (C : Addr) : Sp := fun vs H Q _ => ∃ (p dx x y : Addr) (L R : Lt), vs = [.ref p, .ref x, .ref y] ∧ H p = some (.ins C dx []) ∧ IsLat K mm H x L ∧ IsLat K mm H y R ∧ x ≠ p ∧ y ≠ p ∧ 1 ≤ L.n ∧ 1 ≤ R.n ∧ L.n * R.n ≤ 64 ∧ foldD 1 [L, R] ≤ 10 ∧ L.Fit ∧ R.Fit ∧
  ∀ H', But p H H' → IsLat K mm H' p (pairL L R) → FldC H' p C "left" (.ref x) → FldC H' p C "right" (.ref y) → Q .non H'
end
section
/-- the names within the name b, as places -/
noncomputable def dn (n : Nat) (ps : List (Nat × Nat)) (b : Nat) : Nat := mask n fun a => reachB ps a b
/-- the set h holds with each name all names within it -/
noncomputable def heapB (n : Nat) (ps : List (Nat × Nat)) (h : Nat) : Bool := ((List.range n).filter h.testBit).all fun a => part (dn n ps a) h
noncomputable def heaps (n : Nat) (ps : List (Nat × Nat)) : List Nat := (List.range (2 ^ n)).filter (heapB n ps)
def heapIn (xs : List Str) (h : Nat) : List Str := ((List.range xs.length).filter h.testBit).map fun a => xs.getD a Str.empty
def heapNm (xs : List Str) (h : Nat) : Str := ("{" : Str) ++ PySem.Txt.join "," (heapIn xs h) ++ ("}" : Str)
noncomputable def downL (xs : List Str) (ps : List (Nat × Nat)) : Lt where
  label := ("(downs (" : Str) ++ PySem.Txt.join " " xs ++ (") (" : Str) ++ PySem.Txt.join " " (pairW xs ps) ++ ("))" : Str)
  names := (heaps xs.length ps).map (heapNm xs)
  le := fun i j => part ((heaps xs.length ps).getD i 0) ((heaps xs.length ps).getD j 0)
  depth := 1
theorem downL_n (xs : List Str) (ps : List (Nat × Nat)) : (downL xs ps).n = (heaps xs.length ps).length := by
  show ((heaps xs.length ps).map (heapNm xs)).length = _
  rw [List.length_map]
theorem heaps_le (n : Nat) (ps : List (Nat × Nat)) : (heaps n ps).length ≤ 2 ^ n := filter_le _ _
/-- no two names lie within each other -/
def Anti (n : Nat) (ps : List (Nat × Nat)) : Prop := ∀ a b, a < n → b < n → Reach ps a b → Reach ps b a → a = b
theorem dn_inj {n : Nat} {ps : List (Nat × Nat)} (h : Anti n ps) {a b : Nat} (ha : a < n) (hb : b < n) (e : dn n ps a = dn n ps b) : a = b := by
  have e := mask_eq.mp e
  refine h a b ha hb (reachB_iff.mp ?_) (reachB_iff.mp ?_)
  · rw [← e a ha]; exact reachB_iff.mpr .here
  · rw [e b hb]; exact reachB_iff.mpr .here
theorem count_dn {n : Nat} {f : Nat → Nat} (h : ∀ a b, a < n → b < n → f a = f b → a = b) {i : Nat} (hi : i < n) : ((List.range n).map fun b => V.int (f b : Nat)).countP (fun z => eqV z (.int (f i : Nat))) ≤ 1 := by
  rw [List.countP_map]
  have e : (List.range n).countP ((fun z => eqV z (.int (f i : Nat))) ∘ fun b => V.int (f b : Nat)) = (List.range n).count i := by
    refine List.countP_congr fun b hb => ?_
    show eqV (.int (f b : Nat)) (.int (f i : Nat)) = true ↔ (b == i) = true
    rw [eqV_nat, beq_iff_eq, beq_iff_eq]
    exact ⟨fun z => h b i (List.mem_range.mp hb) hi z, fun z => by rw [z]⟩
  rw [e]
  exact List.nodup_iff_count.mp List.nodup_range i
variable {w W_ : World} {K : PySem.W.Frag} {mg : Str → Option Value} {base : Heap}
theorem seq_new {H0 H H' : Hp} {p a : Addr} {xs : List V} (n : H0 p = none) (s : Same H0 H) (e : But p H H') (h : SqL K H0 a xs) : SqL K H' a xs := by
  rcases h with h | h
  · have ne : a ≠ p := fun z => by
      rcases h with h | ⟨o, h⟩ <;> (rw [z, n] at h; cases h)
    exact e.seq ne (s.seq (.inl h))
  · exact .inr h
def sp_downl (K : PySem.W.Frag) (mm : List (Str × Addr)) (C : Addr) : Sp := fun vs H Q _ => ∃ (p dx a b : Addr) (xs : List Str) (ps : List (Nat × Nat)), vs = [.ref p, .ref a, .ref b] ∧ H p = some (.ins C dx []) ∧ SqL K H a (xs.map V.str) ∧ PairsAt K H b xs ps ∧ a ≠ p ∧ b ≠ p ∧ 1 ≤ xs.length ∧ xs.length ≤ 6 ∧ xs.Nodup ∧ (∀ x ∈ xs, NameW x) ∧ ps.length ≤ 1000 ∧ Anti xs.length ps ∧
  ∀ H', But p H H' → IsLat K mm H' p (downL xs ps) → Q .non H'
theorem ok_downl (T : Tx K mg W_) : FnOk PL w K mg base CX0 3 T.a_DownLattice_init T.d_DownLattice_init ["self", "names", "pairs"] (sp_downl K T.mm T.a_DownLattice) := by
  have G_Lattice_init := ok_lat_init (P := PL) (w := w) (base := base) T
  have G_check_names := ok_check (P := PL) (w := w) (base := base) T
  have G_closed_downs := ok_closed (P := PL) (w := w) (base := base) T
  have G_pair_words := ok_pwords (P := PL) (w := w) (base := base) T
  have G_parts_among := ok_parts (P := PL) (w := w) (base := base) T
  obtain ⟨u4, B4⟩ := T.b4_Lattice_init
  refine T.F_DownLattice_init.ok sc_DownLattice_init (by rfl) (by rfl) (by rfl) ⟨_, rfl, rfl⟩ (by decide +kernel) T.ci_DownLattice T.n_super T.st_any (fun vs H Q E h => ?_) (fun cda cc A outer s H vs Q E hr S h => ?_)
  · obtain ⟨p, dx, a, b, xs, ps, rfl, _⟩ := h
    rfl
  obtain ⟨p, dx, a, b, xs, ps, rfl, hp, ha, hb, na, nb, n1, n6, nd, nw, pz, anti, q⟩ := h
  refine ⟨_, psa_cons (ps_expr (pe_call G_check_names (hr.mono (by omega)) (by rfl) T.g_check_names T.F_check_names.kp T.b_check_names .nil pass0 (pa_cons (pv 1) (pa_cons pe_int pa_nil))))
    (psa_cons (ps_set (i := 3) sc_DownLattice_init.nd rfl (Or.inr rfl) (pe_call G_closed_downs (hr.mono (by omega)) (by rfl) T.g_closed_downs T.F_closed_downs.kp T.b_closed_downs .nil pass0 (pa_cons (pv 1) (pa_cons (pv 2) pa_nil))))
    (psa_cons (ps_set (i := 4) sc_DownLattice_init.nd rfl (Or.inr rfl) (pe_listRg rfl (by rfl) T.n_list (prg_1 (by rfl) T.n_range (pe_callB call_len_seq (by rfl) T.n_len (by decide +kernel) (pa_cons (pv 1) pa_nil)))))
    (psa_cons (ps_if (pt_val (pe_callB (cr_any rfl) (by rfl) T.n_any (by decide +kernel) (pa_cons (pe_lc (own := [("row", 5)]) (g := gName 5) (tt := tYes) rfl sc_DownLattice_init.nd (pi_list (pv 3)) (blkOk_by (N := N_DownLattice_init) (sc := defScope St_DownLattice_init) (by decide +kernel)) (fun _ _ _ _ _ => (pg_name (i := 5) sc_DownLattice_init.nd rfl (Or.inl rfl))) (fun _ _ _ _ _ => pts_nil) (fun _ _ _ _ _ => (pe_cmpR op_gt (kx_bm K (pe_bm PySem.F.plainAttrs_list PySem.F.slot_list_count PySem.F.type_list_count (kx_mt_countF K) (pv 3) (pa_cons (pv 5) pa_nil))) pe_int (nomark _)))) pa_nil))) (pss_one ps_dead) pss_nil)
    (psa_cons (ps_set (i := 6) sc_DownLattice_init.nd rfl (Or.inr rfl) (pe_lst pa_nil))
    (psa_cons (ps_for (passes_of rfl) rfl (pi_range1 (by rfl) T.n_range (pa_cons (pe_op op_shl pe_int (pe_callB call_len_seq (by rfl) T.n_len (by decide +kernel) (pa_cons (pv 1) pa_nil))) pa_nil)) (pg_name (i := 7) sc_DownLattice_init.nd rfl (Or.inr rfl)) (pss_one (ps_if (pt_val (pe_callB (cr_all rfl) (by rfl) T.n_all (by decide +kernel) (pa_cons (pe_lc (own := [("place", 8)]) (g := gName 8) rfl sc_DownLattice_init.nd (pi_list (pv 4)) (blkOk_by (N := N_DownLattice_init) (sc := defScope St_DownLattice_init) (by decide +kernel)) (fun _ _ _ _ _ => (pg_name (i := 8) sc_DownLattice_init.nd rfl (Or.inl rfl))) (fun _ _ _ _ _ => (pts_one (pt_cmpR op_eq (pe_op op_and (pe_op op_shr (pv 7) (pv 8)) pe_int) pe_int (nomark _)))) (fun _ _ _ _ _ => (pe_cmpR op_eq (pe_op op_and (pe_ix (kx_ix_list K) (pv 3) (pv 8) (fun _ _ => rfl)) (pe_un un_inv (pv 7))) pe_int (nomark _)))) pa_nil))) (pss_one (ps_expr (pe_bm PySem.F.plainAttrs_list PySem.F.slot_list_append PySem.F.type_list_append mt_append (pv 6) (pa_cons (pv 7) pa_nil)))) pss_nil)))
    (psa_cons (ps_setLc (i := 9) (own := [("heap", 10)]) (g := gName 10) (tt := tYes) rfl sc_DownLattice_init.nd rfl rfl (sw_true rfl rfl rfl (by decide +kernel)) (pi_list (pv 6)) (blkOk_by (N := N_DownLattice_init) (sc := defScope St_DownLattice_init) (by decide +kernel)) (fun _ _ _ _ _ => (pg_name (i := 10) sc_DownLattice_init.nd rfl (Or.inr rfl))) (fun _ _ _ _ _ => pts_nil) (fun _ _ _ _ _ => (kx_pe_join K (pe_join pe_str (pe_lc (own := [("place", 8)]) (g := gName 8) rfl sc_DownLattice_init.nd (kx_pi_list K (pi_list (pv 4))) (blkOk_by (N := N_DownLattice_init) (by first | rfl | kernel_rfl)) (fun _ _ _ _ _ => (pg_name (i := 8) sc_DownLattice_init.nd rfl (Or.inl rfl))) (fun _ _ _ _ _ => (pts_one (pt_cmpR op_eq (pe_op op_and (pe_op op_shr (pv 10) (pv 8)) pe_int) pe_int (nomark _)))) (fun _ _ _ _ _ => (pe_ix (kx_ix_list K) (pv 1) (pv 8) (fun _ _ => rfl))))))))
    (psa_cons (ps_set (i := 11) sc_DownLattice_init.nd rfl (Or.inl rfl) (pe_joinedT (.cons pe_str (.cons (pe_fmt (pe_join pe_str (pv 1))) (.cons pe_str (.cons (pe_fmt (pe_call G_pair_words (hr.mono (by omega)) (by rfl) T.g_pair_words T.F_pair_words.kp T.b_pair_words .nil pass0 (pa_cons (pv 2) pa_nil))) (.cons pe_str PJ.nil)))))))
    (psa_super (dvs := [.int 1]) S rfl (pa_cons (pv 11) (pa_cons (pe_lc (own := [("word", 12)]) (g := gName 12) (tt := tYes) rfl sc_DownLattice_init.nd (pi_list (pv 9)) (blkOk_by (N := N_DownLattice_init) (sc := defScope St_DownLattice_init) (by decide +kernel)) (fun _ _ _ _ _ => (pg_name (i := 12) sc_DownLattice_init.nd rfl (Or.inl rfl))) (fun _ _ _ _ _ => pts_nil) (fun _ _ _ _ _ => (pe_op op_add_str (pe_op op_add_str pe_str (pv 12)) pe_str))) (pa_cons (pe_lc (own := [("heap", 10)]) (g := gName 10) (tt := tYes) rfl sc_DownLattice_init.nd (pi_list (pv 6)) (blkOk_by (N := N_DownLattice_init) (sc := defScope St_DownLattice_init) (by decide +kernel)) (fun _ _ _ _ _ => (pg_name (i := 10) sc_DownLattice_init.nd rfl (Or.inl rfl))) (fun _ _ _ _ _ => pts_nil) (fun _ _ _ _ _ => (pe_call G_parts_among (hr.mono (by omega)) (by rfl) T.g_parts_among T.F_parts_among.kp T.b_parts_among .nil pass0 (pa_cons (pv 6) (pa_cons (pv 10) pa_nil))))) pa_nil))) G_Lattice_init (hr.mono (by omega)) B4 (.cons ⟨_, rfl⟩ .nil) pass0 T.ty_Lattice T.fi_Lattice (by decide) rfl rfl rfl rfl rfl (psa_any pss_nil))))))))), ?_⟩
  refine ⟨_, rfl, a, xs, 6, rfl, ha, n1, n6, nd, nw, fun H1 s1 => ?_⟩
  refine ⟨_, rfl, _, rfl, a, b, xs, ps, rfl, s1.seq ha, hb.same s1, nd, by omega, pz, fun l H2 s2 hl h2 => ?_⟩
  have p2 := s2 _ _ (s1 _ _ hp)
  have s02 := s1.trans s2
  have ha2 := s02.seq ha
  have lpn : l ≠ p := ne_of h2 p2 (by intro z; cases z)
  refine ⟨_, rfl, a, _, rfl, .inl ha2, ?_⟩
  rw [List.length_map]
  refine ⟨_, rfl, RgOk.of_le (by decide) (by omega) (by decide) (by omega), newQ (.lst (rgV 0 (xs.length : Nat))) fun pl hpl s3 h3 => ?_⟩
  rw [rg_nat] at s3 h3
  rw [rg_nat]
  generalize upd H2 pl (.lst (natV (List.range xs.length))) = H3 at s3 h3 ⊢
  have p3 := s3 _ _ p2
  have h23 := s3 _ _ h2
  have s03 := s02.trans s3
  have ha3 := s03.seq ha
  have fd : ∀ z ∈ List.range xs.length, V.int ((mask xs.length fun a => reachB ps a z : Nat) : Int) = V.int (dn xs.length ps z : Nat) := fun _ _ => rfl
  have em : maskV xs.length (fun b a => reachB ps a b) = (List.range xs.length).map fun b => V.int (dn xs.length ps b : Nat) := rfl
  rw [em] at h23
  have hl3 : SqL K H3 l _ := SqL.of (K := K) h23
  refine ⟨_, rfl, l, rfl, ⟨_, hl3⟩, fun D hD => ?_⟩
  refine lc_fold (walk_list (K := K) (a := l) (xs := (List.range xs.length).map fun b => V.int (dn xs.length ps b : Nat))) hD (fun i _ ys => i ≤ xs.length ∧ ys = List.replicate i (V.bl false)) (fun _ => ⟨Nat.zero_le _, rfl⟩) (fun i _ _ xs _ h => h) ?_ (fun H9 s9 => s9.seq hl3) ?_ ?_
  · rintro i _ ys ⟨hi, rfl⟩
    rw [List.length_replicate]; omega
  · rintro i x H4 H5 ys Nx Ex hi s4 ⟨_, rfl⟩ ⟨rfl, ex⟩ k1 k2
    obtain ⟨hi, rfl⟩ := at_map' ex
    refine ⟨rfl, ?_⟩
    refine lcY ?_
    refine ⟨_, rfl, .inl ⟨rfl, _, s4.seq hl3⟩, _, rfl, l, _, _, rfl, rfl, s4.seq hl3, rfl, flat_ints _ _, _, _, rfl, rfl, k1 _ _ (Same.refl _) ⟨hi, ?_⟩⟩
    have c := count_dn (f := dn xs.length ps) (fun a b => dn_inj anti) hi
    rw [List.replicate_succ']
    have e : decide ((1 : Int) < (((List.range xs.length).map fun b => V.int (dn xs.length ps b : Nat)).countP (fun z => eqV z (.int (dn xs.length ps i : Nat))) : Nat)) = false := decide_eq_false (by omega)
    show _ ++ [V.bl (decide ((1 : Int) < _))] = _
    rw [e]
  rintro H4 ys s4 h4 ⟨_, rfl⟩
  rw [List.length_map, List.length_range] at h4
  refine ⟨D, List.replicate xs.length false, rfl, SqL.of (K := K) (by rw [h4, List.map_replicate]), _, rfl, ?_⟩
  rw [any_falses]
  refine iteF ?_
  refine ⟨by show 0 ≤ sizeLine; decide, newQ (.lst []) fun hh hhn s5 h5 => ?_⟩
  generalize upd H4 hh (.lst []) = H5 at s5 h5 ⊢
  have s35 := s4.trans s5
  have s05 := s03.trans s35
  have ha5 := s05.seq ha
  have two : 2 ^ xs.length ≤ 64 := Nat.le_trans (Nat.pow_le_pow_right (by decide) n6) (by decide)
  refine ⟨_, rfl, a, _, rfl, .inl ha5, _, _, rfl, rfl, ?_⟩
  rw [List.length_map]
  refine ⟨⟨Int.natCast_nonneg _, by omega, by decide⟩, ?_⟩
  refine ⟨((2 ^ xs.length : Nat) : Int), by show [V.int ((1 : Int) * 2 ^ ((xs.length : Int)).toNat)] = _; rw [one_shl], Int.le_trans (by decide) (Int.natCast_nonneg _), Int.lt_of_le_of_lt (Int.ofNat_le.mpr two) (by decide), ?_⟩
  have pl3 : SqL K H3 pl (natV (List.range xs.length)) := SqL.of (K := K) h3
  have pl5 := s35.seq pl3
  have hl5 := s35.seq hl3
  refine for_it walk_range (fun i σ H6 => ∃ v7 v8, σ = [some (.ref p), some (.ref a), some (.ref b), some (.ref l), some (.ref pl), none, some (.ref hh), v7, v8, none, none, none, none] ∧ But hh H5 H6 ∧ H6 hh = some (.lst (natV ((List.range i).filter (heapB xs.length ps))))) ⟨_, _, rfl, But.refl _ _, h5⟩ (fun _ _ _ _ _ => trivial) ?_ ?_
  · rintro h x σ H6 H7 hi ⟨v7, v8, rfl, b6, h6⟩ ⟨rfl, ex⟩
    obtain rfl := yfn0 ex
    have hi : h < 2 ^ xs.length := hi
    have npl : pl ≠ hh := fun z => by have := s4 _ _ h3; rw [z, hhn] at this; cases this
    have nl : l ≠ hh := fun z => by have := s4 _ _ h23; rw [z, hhn] at this; cases this
    have pl7 := b6.seq npl pl5
    have hl7 := b6.seq nl hl5
    refine ⟨_, rfl, pl, rfl, ⟨_, pl7⟩, fun D2 hD2 => ?_⟩
    refine lc_fold (walk_list (K := K) (a := pl) (xs := natV (List.range xs.length))) hD2 (fun j _ ys => j ≤ xs.length ∧ ys = (((List.range j).filter h.testBit).map fun a => part (dn xs.length ps a) h).map V.bl) (fun _ => ⟨Nat.zero_le _, rfl⟩) (fun i _ _ xs _ h => h) ?_ (fun H9 s9 => s9.seq pl7) ?_ ?_
    · rintro j _ ys ⟨hj, rfl⟩
      rw [List.length_map, List.length_map]
      have := filter_le h.testBit j
      omega
    · rintro j x H8 H9 ys Nx Ex hj s8 ⟨_, rfl⟩ ⟨rfl, ex⟩ k1 k2
      obtain ⟨hj, rfl⟩ := at_map' ex
      refine ⟨rfl, ?_⟩
      refine ⟨_, rfl, _, rfl, _, _, rfl, rfl, Int.natCast_nonneg _, _, _, rfl, rfl, rfl, _, rfl, ?_⟩
      show if decide (V.int (Builtin.bitAnd ((h : Int) / 2 ^ ((j : Nat) : Int).toNat) 1) = V.int 1) = true then _ else _
      rw [dec_int, Int.toNat_natCast, bit_is]
      refine ite2 (fun c => ?_) (fun c => ?_)
      · refine ⟨_, rfl, _, rfl, l, _, _, _, rfl, rfl, s8.seq hl7, atI_nat (at_map hj), _, rfl, _, rfl, _, _, rfl, rfl, rfl, k1 _ _ (Same.refl _) ⟨hj, ?_⟩⟩
        rw [filter_snoc, if_pos c, List.map_append, List.map_append]
        exact congrArg (fun z => List.map V.bl (List.map (fun a => part (dn xs.length ps a) h) (List.filter h.testBit (List.range j))) ++ [V.bl z]) (part_is _ _)
      · refine k2 _ (Same.refl _) ⟨hj, ?_⟩
        rw [filter_snoc, if_neg c, List.append_nil]
    · rintro H8 ys s8 h8 ⟨_, rfl⟩
      rw [natV_length, List.length_range] at h8
      refine ⟨D2, _, rfl, SqL.of (K := K) h8, _, rfl, ?_⟩
      have e : List.all (((List.range xs.length).filter h.testBit).map fun a => part (dn xs.length ps a) h) id = heapB xs.length ps h := by
        unfold heapB
        rw [List.all_map]
        rfl
      rw [e]
      have b8 : But hh H5 H8 := b6.trans (s8.but hh)
      have h68 := s8 _ _ h6
      refine ite2 (fun c => ?_) (fun c => ?_)
      · refine ⟨_, rfl, .inl ⟨rfl, _, SqL.of (K := K) h68⟩, _, rfl, hh, _, _, rfl, rfl, h68, ?_, ?_⟩
        · rw [natV_length]
          exact Nat.lt_of_le_of_lt (Nat.le_trans (filter_le _ _) (Nat.le_of_lt hi)) (Nat.lt_of_le_of_lt two (by decide))
        · refine ⟨some (.int (h : Nat)), v8, rfl, b8.upd _, ?_⟩
          rw [upd_same, filter_snoc, if_pos c, natV_append]
          rfl
      · refine ⟨_, _, rfl, b8, ?_⟩
        rw [filter_snoc, if_neg c, List.append_nil]
        exact h68
  rintro σ H6 ⟨v7, v8, rfl, b6, h6⟩
  have npl : pl ≠ hh := fun z => by have := s4 _ _ h3; rw [z, hhn] at this; cases this
  have ha6 : SqL K H6 a (xs.map V.str) := seq_new hhn s5 b6 (s03.trans s4 |>.seq ha)
  have k46 : Keeps H4 H6 := s5.keeps.trans (b6.keeps h5 trivial)
  have hb6 : PairsAt K H6 b xs ps := (hb.same (s03.trans s4)).to k46 fun _ q => seq_new hhn s5 b6 q
  have nph : p ≠ hh := fun z => by have := s4 _ _ p3; rw [z, hhn] at this; cases this
  have p6 := b6 _ _ nph (s35 _ _ p3)
  have h6 : H6 hh = some (.lst (natV (heaps xs.length ps))) := h6
  have lh : (heaps xs.length ps).length ≤ 64 := Nat.le_trans (heaps_le _ _) two
  have pl6 := b6.seq npl pl5
  have b46 : Same H4 H6 := fun z o e => b6 _ _ (fun y => by subst y; rw [hhn] at e; cases e) (s5 _ _ e)
  have s06 := (s03.trans s4).trans b46
  generalize hhs : heaps xs.length ps = hs at h6 lh
  have hsd : ∀ g, ∀ z ∈ heapIn xs g, z.length ≤ 12 := fun g z hz => by
    obtain ⟨c, hc, rfl⟩ := List.mem_map.mp hz
    have hc := List.mem_range.mp (List.mem_filter.mp hc).1
    rw [List.getD_eq_getElem?_getD, List.getElem?_eq_getElem hc]
    exact (nw _ (List.getElem_mem hc)).le
  have hsl : ∀ g, (heapIn xs g).length ≤ 6 := fun g => by
    unfold heapIn
    rw [List.length_map]
    exact Nat.le_trans (filter_le _ _) n6
  refine ⟨_, rfl, hh, rfl, ⟨_, SqL.of (K := K) h6⟩, fun D1 hD1 => ?_⟩
  refine lc_fold (walk_list (K := K) (a := hh) (xs := natV hs)) hD1 (fun i _ ys => i ≤ hs.length ∧ ys = (hs.take i).map fun g => V.str (PySem.Txt.join "," (heapIn xs g))) (fun _ => ⟨Nat.zero_le _, rfl⟩) (fun i _ _ xs _ h => h) ?_ (fun H9 s9 => s9.seq (SqL.of (K := K) h6)) ?_ ?_
  · rintro i _ ys ⟨hi, rfl⟩
    rw [List.length_map, List.length_take]; omega
  · rintro i x H7 H8 ys Nx Ex hi s7 ⟨_, rfl⟩ ⟨rfl, ex⟩ k1 k2
    rw [natV_length] at hi
    have eg : hs[i]? = some hs[i] := List.getElem?_eq_getElem hi
    generalize hs[i] = g at eg
    have ex : x = .int (g : Nat) := by
      have : (natV hs)[i]? = some x := ex
      unfold natV at this
      rw [List.getElem?_map, eg] at this
      exact (Option.some.inj this).symm
    subst ex
    refine ⟨rfl, ?_⟩
    refine lcY ?_
    refine ⟨⟨_, rfl⟩, ?_⟩
    refine ⟨_, rfl, pl, rfl, ⟨_, s7.seq pl6⟩, fun D2 hD2 => ?_⟩
    refine lc_fold (walk_list (K := K) (a := pl) (xs := natV (List.range xs.length))) hD2 (fun j _ ys => j ≤ xs.length ∧ ys = (((List.range j).filter g.testBit).map fun a => xs.getD a Str.empty).map V.str) (fun _ => ⟨Nat.zero_le _, rfl⟩) (fun i _ _ xs _ h => h) ?_ (fun H9 s9 => s9.seq (s7.seq pl6)) ?_ ?_
    · rintro j _ ys ⟨hj, rfl⟩
      rw [List.length_map, List.length_map]
      have := filter_le g.testBit j
      omega
    · rintro j x H9 H10 ys Nx2 Ex2 hj s9 ⟨_, rfl⟩ ⟨e10, ex⟩ k3 k4
      obtain rfl : H9 = H10 := e10.symm
      obtain ⟨hj, rfl⟩ := at_map' ex
      refine ⟨rfl, ?_⟩
      refine ⟨_, rfl, _, rfl, _, _, rfl, rfl, Int.natCast_nonneg _, _, _, rfl, rfl, rfl, _, rfl, ?_⟩
      show if decide (V.int (Builtin.bitAnd ((g : Int) / 2 ^ ((j : Nat) : Int).toNat) 1) = V.int 1) = true then _ else _
      rw [dec_int, Int.toNat_natCast, bit_is]
      have ha9 := (s7.trans s9).seq ha6
      refine ite2 (fun c => ?_) (fun c => ?_)
      · have aj : (xs.map V.str)[j]? = some (.str xs[j]) := by rw [List.getElem?_map, List.getElem?_eq_getElem hj]; rfl
        refine ⟨_, rfl, _, rfl, a, _, _, _, rfl, rfl, ha9, atI_nat aj, k3 _ _ (Same.refl _) ⟨hj, ?_⟩⟩
        rw [filter_snoc, if_pos c, List.map_append, List.map_append]
        show _ ++ [V.str xs[j]] = _ ++ [V.str (xs.getD j Str.empty)]
        rw [List.getD_eq_getElem?_getD, List.getElem?_eq_getElem hj]
        rfl
      · refine k4 _ (Same.refl _) ⟨hj, ?_⟩
        rw [filter_snoc, if_neg c, List.append_nil]
    · rintro H9 ys s9 h9 ⟨_, rfl⟩
      rw [natV_length, List.length_range] at h9
      refine ⟨",", D2, heapIn xs g, rfl, rfl, .inl (SqL.of (K := K) h9), Nat.le_trans (join_le (sep := ",") (by decide) (hsd g) (hsl g)).2 (by decide), k1 _ _ s9 ⟨hi, ?_⟩⟩
      rw [take_snoc eg, List.map_append]
      rfl
  rintro H7 ys s7 h7 ⟨_, rfl⟩
  rw [natV_length, List.take_length] at h7
  have hj7 : H7 D1 = some (.lst (hs.map fun g => V.str (PySem.Txt.join "," (heapIn xs g)))) := h7
  have p7 := s7 _ _ p6
  have ha7 := s7.seq ha6
  have hb7 := hb6.same s7
  have h67 := s7 _ _ h6
  have lx : ∀ x ∈ xs, x.length ≤ 12 := fun x hx => (nw x hx).le
  obtain ⟨j1, j2⟩ := join_le (sep := " ") (by decide) lx n6
  obtain ⟨k1, k2⟩ := join_le (sep := " ") (by decide) (pairW_len lx ps) (by show (List.map _ ps).length ≤ 1000; rw [List.length_map]; exact pz)
  have o0 : (Str.empty).length = 0 := rfl
  have o1 : ("(downs (" : Str).length = 8 := rfl
  have o2 : (") (" : Str).length = 3 := rfl
  have o3 : ("))" : Str).length = 2 := rfl
  refine ⟨"(downs (", rfl, by decide, ⟨_, rfl⟩, _, rfl, " ", a, xs, rfl, rfl, .inl ha7, by omega, .inl ⟨_, rfl, small_line (by omega), _, rfl, small_line (by rw [Str.length_append, Str.length_append]; omega), ") (", rfl, small_line (by rw [Str.length_append, Str.length_append, Str.length_append]; omega), ?_⟩⟩
  refine ⟨_, rfl, b, xs, ps, rfl, hb7, pz, lx, fun H8 s8 => .inl ⟨_, rfl, small_line (by omega), _, rfl, small_line (by rw [Str.length_append, Str.length_append, Str.length_append, Str.length_append]; omega), "))", rfl, small_line (by rw [Str.length_append, Str.length_append, Str.length_append, Str.length_append, Str.length_append]; omega), ?_⟩⟩
  have p8 := s8 _ _ p7
  have w8 := s8 _ _ hj7
  have h68 := s8 _ _ h67
  have s08 := (s06.trans s7).trans s8
  refine ⟨p, _, dx, _, rfl, p8, T.mr_DownLattice, T.su_DownLattice, ?_⟩
  refine ⟨_, rfl, ?_⟩
  refine ⟨_, rfl, D1, rfl, ⟨_, SqL.of (K := K) w8⟩, fun D2 hD2 => ?_⟩
  refine lc_fold (walk_list (K := K) (a := D1) (xs := hs.map fun g => V.str (PySem.Txt.join "," (heapIn xs g)))) hD2 (fun i _ ys => i ≤ hs.length ∧ ys = (hs.take i).map fun g => V.str (heapNm xs g)) (fun _ => ⟨Nat.zero_le _, rfl⟩) (fun i _ _ xs _ h => h) ?_ (fun H9 s9 => s9.seq (SqL.of (K := K) w8)) ?_ ?_
  · rintro i _ ys ⟨hi, rfl⟩
    rw [List.length_map, List.length_take]; omega
  · rintro i x H9 H10 ys Nx Ex hi s9 ⟨_, rfl⟩ ⟨e10, ex⟩ k1 k2
    obtain rfl : H9 = H10 := e10.symm
    rw [List.length_map] at hi
    have eg : hs[i]? = some hs[i] := List.getElem?_eq_getElem hi
    generalize hs[i] = g at eg
    have ex : x = .str (PySem.Txt.join "," (heapIn xs g)) := by
      have : (hs.map fun g => V.str (PySem.Txt.join "," (heapIn xs g)))[i]? = some x := ex
      rw [List.getElem?_map, eg] at this
      exact (Option.some.inj this).symm
    subst ex
    refine ⟨rfl, ?_⟩
    refine lcY ?_
    have jl := (join_le (sep := ",") (by decide) (hsd g) (hsl g)).1
    have o4 : ("{" : Str).length = 1 := rfl
    have o5 : ("}" : Str).length = 1 := rfl
    refine ⟨_, rfl, _, _, rfl, rfl, small_line (by omega), _, _, rfl, rfl, small_line (by rw [Str.length_append]; omega), k1 _ _ (Same.refl _) ⟨hi, ?_⟩⟩
    rw [take_snoc eg, List.map_append]
    rfl
  rintro H9 ys s9 h9 ⟨_, rfl⟩
  rw [List.length_map, List.take_length] at h9
  have h69 := s9 _ _ h68
  refine ⟨_, rfl, hh, rfl, ⟨_, SqL.of (K := K) h69⟩, fun D3 hD3 => ?_⟩
  refine lc_fold (walk_list (K := K) (a := hh) (xs := natV hs)) hD3 (fun i _ ys => i ≤ hs.length ∧ ys = (List.range i).map fun b => V.int ((downL xs ps).down b : Nat)) (fun _ => ⟨Nat.zero_le _, rfl⟩) (fun i _ _ xs _ h => h) ?_ (fun H9 s9 => s9.seq (SqL.of (K := K) h69)) ?_ ?_
  · rintro i _ ys ⟨hi, rfl⟩
    rw [List.length_map, List.length_range]; omega
  · rintro i x H10 H11 ys Nx Ex hi s10 ⟨_, rfl⟩ ⟨e11, ex⟩ k1 k2
    obtain rfl : H10 = H11 := e11.symm
    rw [natV_length] at hi
    have eg : hs[i]? = some hs[i] := List.getElem?_eq_getElem hi
    have ex : x = .int (hs.getD i 0 : Nat) := by
      have : (natV hs)[i]? = some x := ex
      unfold natV at this
      rw [List.getElem?_map, eg] at this
      rw [List.getD_eq_getElem?_getD, eg]
      exact (Option.some.inj this).symm
    subst ex
    refine ⟨rfl, ?_⟩
    refine lcY ?_
    have hv : natV hs = (List.range hs.length).map fun i => V.int (hs.getD i 0 : Nat) := by
      refine List.ext_getElem? fun k => ?_
      unfold natV
      rw [List.getElem?_map, List.getElem?_map]
      rcases Nat.lt_or_ge k hs.length with z | z
      · rw [List.getElem?_range z, List.getElem?_eq_getElem z]
        show some _ = some (V.int (hs.getD k 0 : Nat))
        rw [List.getD_eq_getElem?_getD, List.getElem?_eq_getElem z]
        rfl
      · rw [List.getElem?_eq_none z, List.getElem?_eq_none (by rw [List.length_range]; exact z)]
        rfl
    refine ⟨_, rfl, _, rfl, hh, hs.length, hs.getD i 0, fun i => hs.getD i 0, rfl, by rw [← hv]; exact s10.seq (SqL.of (K := K) h69), by omega, fun H12 s12 => k1 _ _ s12 ⟨hi, ?_⟩⟩
    rw [List.range_succ, List.map_append]
    show _ = _ ++ [V.int ((mask (downL xs ps).n fun a => part ((heaps xs.length ps).getD a 0) ((heaps xs.length ps).getD i 0) : Nat) : Int)]
    rw [downL_n, hhs]
  rintro H10 ys s10 h10 ⟨_, rfl⟩
  rw [natV_length] at h10
  have p10 := s10 _ _ (s9 _ _ p8)
  have h910 := s10 _ _ h9
  have en : (downL xs ps).names.map V.str = hs.map fun g => V.str (heapNm xs g) := by
    show ((heaps xs.length ps).map (heapNm xs)).map V.str = _
    rw [hhs, List.map_map]
    rfl
  refine ⟨p, D2, D3, _, dx, [], downL xs ps, ?_, p10, T.lc_DownLattice, by decide, fun _ _ => rfl, ne_of h910 p10 (by intro z; cases z), SqL.of (K := K) (by rw [en]; exact h910), .inl ⟨ne_of h10 p10 (by intro z; cases z), SqL.of (K := K) (by rw [h10]; unfold downsV; rw [downL_n, hhs])⟩, by rw [downL_n, hhs]; exact lh, fun H11 fs tn td tu b11 A _ => ?_⟩
  · rw [empty_app]; rfl
  · exact q H11 (((s08.trans (s9.trans s10)).but p).trans b11) ⟨_, _, _, _, _, _, A⟩
end
/-! ### lattices made by C(..) -/
section
variable {K : PySem.W.Frag} {mm : List (Str × Addr)} {C : Addr} {H : Hp} {Q : VK} {E : XK}
theorem made_same2 {x dx : Addr} {H2 : Hp} {C : Addr} (hx : H x = none) (hd : H dx = none) (ne : dx ≠ x) (b : But x (upd (upd H dx (.own x)) x (.ins C dx [])) H2) : Same H H2 := fun z o e => by
  have n1 : z ≠ x := fun y => by rw [y, hx] at e; cases e
  have n2 : z ≠ dx := fun y => by rw [y, hd] at e; cases e
  exact b _ _ n1 (by rw [upd_ne n1, upd_ne n2]; exact e)
theorem in_same2 {x dx : Addr} {C : Addr} (hx : H x = none) (hd : H dx = none) : Same H (upd (upd H dx (.own x)) x (.ins C dx [])) := fun z o e => by
  have n1 : z ≠ x := fun y => by rw [y, hx] at e; cases e
  have n2 : z ≠ dx := fun y => by rw [y, hd] at e; cases e
  rw [upd_ne n1, upd_ne n2]; exact e
theorem IsLat.ne {z x : Addr} {L : Lt} (h : IsLat K mm H z L) (hx : H x = none) : z ≠ x := fun e => by
  obtain ⟨C, dx, fs, tn, td, tu, A⟩ := h
  have := A.at_
  rw [e, hx] at this
  cases this
theorem same_skip {H A B : Hp} {l : Addr} (s : Same H A) (hl : H l = none) (b : But l A B) : Same H B := fun z o e => b _ _ (fun y => by rw [y, hl] at e; cases e) (s _ _ e)
theorem IsLat.app {H' : Hp} {z l : Addr} {L : Lt} {xs : List V} (h : IsLat K mm H z L) (hl : H l = some (.lst xs)) (b : But l H H') : IsLat K mm H' z L := h.but b hl trivial fun e => by
  obtain ⟨C, dx, fs, tn, td, tu, A⟩ := h
  have := A.at_
  rw [e, hl] at this
  cases this
theorem mk_chain {i : Int} {n : Nat} (e : i = (n : Nat)) (h1 : 1 ≤ n) (h64 : n ≤ 64) {x dx : Addr} (hx : H x = none) (hd : H dx = none) (ne : dx ≠ x) (q : ∀ H2, Same H H2 → IsLat K mm H2 x (chainL n) → Q .non H2) :
    sp_chain K mm C [.ref x, .int i] (upd (upd H dx (.own x)) x (.ins C dx [])) Q E := by
  subst e
  exact ⟨x, dx, n, rfl, upd_same, h1, h64, fun H2 b hL => q H2 (made_same2 hx hd ne b) hL⟩
theorem mk_sets {i : Int} {n : Nat} (e : i = (n : Nat)) (h1 : 1 ≤ n) (h6 : n ≤ 6) {x dx : Addr} (hx : H x = none) (hd : H dx = none) (ne : dx ≠ x) (q : ∀ H2, Same H H2 → IsLat K mm H2 x (setsL n) → Q .non H2) :
    sp_sets K mm C [.ref x, .int i] (upd (upd H dx (.own x)) x (.ins C dx [])) Q E := by
  subst e
  exact ⟨x, dx, n, rfl, upd_same, h1, h6, fun H2 b hL => q H2 (made_same2 hx hd ne b) hL⟩
theorem mk_turn {z : Addr} {L : Lt} (hz : IsLat K mm H z L) (n64 : L.n ≤ 64) (d9 : L.depth ≤ 9) (d1 : 1 ≤ L.depth) (fit : L.Fit) {x dx : Addr} (hx : H x = none) (hd : H dx = none) (ne : dx ≠ x) (q : ∀ H2, Same H H2 → IsLat K mm H2 x (turnL L) → FldAt H2 x "inner" (.ref z) → Q .non H2) :
    sp_turn K mm C [.ref x, .ref z] (upd (upd H dx (.own x)) x (.ins C dx [])) Q E :=
  ⟨x, dx, z, L, rfl, upd_same, hz.same (in_same2 hx hd), hz.ne hx, n64, d9, d1, fit, fun H2 b hL f => q H2 (made_same2 hx hd ne b) hL f.fld⟩
theorem mk_turnC {z : Addr} {L : Lt} (hz : IsLat K mm H z L) (n64 : L.n ≤ 64) (d9 : L.depth ≤ 9) (d1 : 1 ≤ L.depth) (fit : L.Fit) {x dx : Addr} (hx : H x = none) (hd : H dx = none) (ne : dx ≠ x) (q : ∀ H2, Same H H2 → IsLat K mm H2 x (turnL L) → FldC H2 x C "inner" (.ref z) → Q .non H2) :
    sp_turn K mm C [.ref x, .ref z] (upd (upd H dx (.own x)) x (.ins C dx [])) Q E :=
  ⟨x, dx, z, L, rfl, upd_same, hz.same (in_same2 hx hd), hz.ne hx, n64, d9, d1, fit, fun H2 b hL f => q H2 (made_same2 hx hd ne b) hL f⟩
theorem mk_pairl {y z : Addr} {L R : Lt} (hy : IsLat K mm H y L) (hz : IsLat K mm H z R) (l1 : 1 ≤ L.n) (r1 : 1 ≤ R.n) (n64 : L.n * R.n ≤ 64) (dd : foldD 1 [L, R] ≤ 10) (fl : L.Fit) (fr : R.Fit)
    {x dx : Addr} (hx : H x = none) (hd : H dx = none) (ne : dx ≠ x) (q : ∀ H2, Same H H2 → IsLat K mm H2 x (pairL L R) → FldAt H2 x "left" (.ref y) → FldAt H2 x "right" (.ref z) → Q .non H2) :
    sp_pairl K mm C [.ref x, .ref y, .ref z] (upd (upd H dx (.own x)) x (.ins C dx [])) Q E :=
  ⟨x, dx, y, z, L, R, rfl, upd_same, hy.same (in_same2 hx hd), hz.same (in_same2 hx hd), hy.ne hx, hz.ne hx, l1, r1, n64, dd, fl, fr, fun H2 b hL f1 f2 => q H2 (made_same2 hx hd ne b) hL f1.fld f2.fld⟩
theorem mk_pairlC {y z : Addr} {L R : Lt} (hy : IsLat K mm H y L) (hz : IsLat K mm H z R) (l1 : 1 ≤ L.n) (r1 : 1 ≤ R.n) (n64 : L.n * R.n ≤ 64) (dd : foldD 1 [L, R] ≤ 10) (fl : L.Fit) (fr : R.Fit)
    {x dx : Addr} (hx : H x = none) (hd : H dx = none) (ne : dx ≠ x) (q : ∀ H2, Same H H2 → IsLat K mm H2 x (pairL L R) → FldC H2 x C "left" (.ref y) → FldC H2 x C "right" (.ref z) → Q .non H2) :
    sp_pairl K mm C [.ref x, .ref y, .ref z] (upd (upd H dx (.own x)) x (.ins C dx [])) Q E :=
  ⟨x, dx, y, z, L, R, rfl, upd_same, hy.same (in_same2 hx hd), hz.same (in_same2 hx hd), hy.ne hx, hz.ne hx, l1, r1, n64, dd, fl, fr, fun H2 b hL f1 f2 => q H2 (made_same2 hx hd ne b) hL f1 f2⟩
theorem mk_order {a b : Addr} {xs : List Str} {ps : List (Nat × Nat)} {ob : HO} (ha : H a = some (.lst (xs.map V.str))) (hb : PairsAt K H b xs ps) (hob : H b = some ob) (n1 : 1 ≤ xs.length) (n16 : xs.length ≤ 16) (nd : xs.Nodup) (nw : ∀ x ∈ xs, NameW x) (pz : ps.length ≤ 1000)
    {x dx : Addr} (hx : H x = none) (hd : H dx = none) (ne : dx ≠ x) (q : ∀ H2, Same H H2 → IsLat K mm H2 x (orderL xs ps) → Q .non H2) :
    sp_order K mm C [.ref x, .ref a, .ref b] (upd (upd H dx (.own x)) x (.ins C dx [])) Q E :=
  ⟨x, dx, a, b, xs, ps, rfl, upd_same, SqL.of (K := K) (in_same2 hx hd _ _ ha), hb.same (in_same2 hx hd), fun z => (by rw [z, hx] at ha; cases ha), fun z => (by rw [z, hx] at hob; cases hob), n1, n16, nd, nw, pz, fun H2 b hL => q H2 (made_same2 hx hd ne b) hL⟩
theorem mk_downl {a b : Addr} {xs : List Str} {ps : List (Nat × Nat)} {ob : HO} (ha : H a = some (.lst (xs.map V.str))) (hb : PairsAt K H b xs ps) (hob : H b = some ob) (n1 : 1 ≤ xs.length) (n6 : xs.length ≤ 6) (nd : xs.Nodup) (nw : ∀ x ∈ xs, NameW x) (pz : ps.length ≤ 1000) (anti : Anti xs.length ps)
    {x dx : Addr} (hx : H x = none) (hd : H dx = none) (ne : dx ≠ x) (q : ∀ H2, Same H H2 → IsLat K mm H2 x (downL xs ps) → Q .non H2) :
    sp_downl K mm C [.ref x, .ref a, .ref b] (upd (upd H dx (.own x)) x (.ins C dx [])) Q E :=
  ⟨x, dx, a, b, xs, ps, rfl, upd_same, SqL.of (K := K) (in_same2 hx hd _ _ ha), hb.same (in_same2 hx hd), fun z => (by rw [z, hx] at ha; cases ha), fun z => (by rw [z, hx] at hob; cases hob), n1, n6, nd, nw, pz, anti, fun H2 b hL => q H2 (made_same2 hx hd ne b) hL⟩
end
/-! ### orders as rows: the heap, the law's own defs over rows -/
section
open PyProof.Rows
variable {w W_ : World} {K : PySem.W.Frag} {mg : Str → Option Value} {base : Heap} {H H' : Hp} {n : Nat} {R : Nat → Nat → Bool}
/-- the values stand for the items, one by one -/
inductive Al {α β : Type} (F : α → β → Prop) : List α → List β → Prop
  | nil : Al F [] []
  | cons {a : α} {b : β} {as : List α} {bs : List β} : F a b → Al F as bs → Al F (a :: as) (b :: bs)
theorem al_imp {α β : Type} {F G : α → β → Prop} {as : List α} {bs : List β} (h : Al F as bs) (i : ∀ a b, F a b → G a b) : Al G as bs := by
  induction h with
  | nil => exact .nil
  | cons x _ ih => exact .cons (i _ _ x) ih
theorem al_len {α β : Type} {F : α → β → Prop} {as : List α} {bs : List β} (h : Al F as bs) : as.length = bs.length := by
  induction h with
  | nil => rfl
  | cons _ _ ih => rw [List.length_cons, List.length_cons, ih]
theorem al_snoc {α β : Type} {F : α → β → Prop} {as : List α} {bs : List β} {a : α} {b : β} (h : Al F as bs) (x : F a b) : Al F (as ++ [a]) (bs ++ [b]) := by
  induction h with
  | nil => exact .cons x .nil
  | cons y _ ih => exact .cons y ih
theorem al_get {α β : Type} {F : α → β → Prop} {as : List α} {bs : List β} (h : Al F as bs) : ∀ {i : Nat} {a : α}, as[i]? = some a → ∃ b, bs[i]? = some b ∧ F a b := by
  induction h with
  | nil => exact fun h => nomatch h
  | cons x _ ih =>
    intro i a hi
    cases i with
    | zero => cases hi; exact ⟨_, rfl, x⟩
    | succ i => exact ih (by simpa using hi)
theorem al_refs {β : Type} {G : Addr → β → Prop} {vs : List V} {ms : List β} (h : Al (fun v m => ∃ l, v = V.ref l ∧ G l m) vs ms) : ∃ ls : List Addr, vs = ls.map V.ref ∧ Al G ls ms := by
  induction h with
  | nil => exact ⟨[], rfl, .nil⟩
  | cons a _ ih =>
    obtain ⟨l, rfl, g⟩ := a
    obtain ⟨ls, rfl, gs⟩ := ih
    exact ⟨l :: ls, rfl, .cons g gs⟩
theorem al_map {β : Type} {f : β → V} {vs : List V} {ms : List β} (h : Al (fun v m => v = f m) vs ms) : vs = ms.map f := by
  induction h with
  | nil => rfl
  | cons a _ ih => rw [ih, a]; rfl
/-- a comprehension over range(n): what is known of an item stays where the new list D alone changes -/
theorem lc_rng {β : Type} {G : Hp → V → β → Prop} (P : Nat → Bool) (f : Nat → β) {n : Nat} {g : TG} {tt : TT} {te : TE} {vs : List Nat} {σ : L2.St} {H1 : Hp} {D : Addr} {Qd : Hp → Prop} (hD : H1 D = none)
    (kG : ∀ {H H' : Hp} {v : V} {m : β}, Same H H' → G H v m → G H' v m) (kD : ∀ {H : Hp} {v : V} {m : β} {zs : List V}, G H v m → G (upd H D (.lst zs)) v m) (xz : n ≤ 1000)
    (hs : ∀ i H (Nx : V → Hp → Prop) (Ex : Hp → Prop), i < n → Same H1 H → (∃ ys, H D = some (.lst ys)) → (P i = true → ∀ y H2, Same H H2 → G H2 y (f i) → Nx y H2) → (P i = false → ∀ H2, Same H H2 → Ex H2) →
      g (.int (i : Nat)) (wipe σ vs) H fun σ2 H2 => wipe σ2 vs = wipe σ vs ∧ tt σ2 H2 fun b H3 => if b = true then te σ2 H3 Nx else Ex H3)
    (hd : ∀ H ys, Same H1 H → H D = some (.lst ys) → Al (G H) ys (((List.range n).filter P).map f) → Qd H) :
    ∃ W : Nat → Nat → Hp → Prop, (∃ m, W 0 m (upd H1 D (.lst []))) ∧ ∀ i m H, W i m H →
      ((Itr 0 n).stop i H ∧ Qd H) ∨ ((Itr 0 n).go i H ∧ ∃ Nx : Hp → Prop, (∀ H', Nx H' → ∃ m', m' < m ∧ W (i + 1) m' H') ∧ ∀ x H', (Itr 0 n).yld i H x H' → g x (wipe σ vs) H' fun σ2 H2 => wipe σ2 vs = wipe σ vs ∧ tt σ2 H2 fun b H3 =>
        if b = true then te σ2 H3 fun y H4 => ∃ acc, H4 D = some (.lst acc) ∧ acc.length < sizeLine ∧ Nx (upd H4 D (.lst (acc ++ [y]))) else Nx H3) := by
  refine lc_foldF (walk_range (lo := 0) (n := n)) (fun H => Same H1 H) (fun i H ys => i ≤ n ∧ Al (G H) ys (((List.range i).filter P).map f)) (Same.new hD _) (fun H ys zs s _ => s.mut hD _) ⟨Nat.zero_le _, .nil⟩ (fun i H ys zs xs r _ => ⟨r.1, al_imp r.2 fun v b => kD⟩) (fun i H ys r => ?_) (fun _ _ => trivial) ?_ (fun H ys s hy r => hd H ys s hy r.2)
  · have := al_len r.2
    have h1 : ((List.range i).filter P).length ≤ (List.range i).length := List.length_filter_le _ _
    rw [List.length_range] at h1
    rw [this, List.length_map]
    have := r.1
    omega
  · rintro i x H2 H3 ys Nx Ex hi s hy ⟨_, r⟩ ⟨e, hx⟩ k1 k2
    obtain rfl : H2 = H3 := e.symm
    obtain rfl := yfn0 hx
    rw [List.range_succ, List.filter_append, List.map_append] at k1 k2
    refine hs i H2 Nx Ex hi s ⟨_, hy⟩ (fun hp y H4 s4 gy => k1 y H4 (s.trans s4) (s4 _ _ hy) ⟨hi, ?_⟩) (fun hp H4 s4 => k2 H4 (s.trans s4) (s4 _ _ hy) ⟨hi, ?_⟩)
    · rw [show [i].filter P = [i] by rw [List.filter_cons, if_pos hp, List.filter_nil]]
      exact al_snoc (al_imp r fun v b => kG s4) gy
    · rw [show [i].filter P = [] by rw [List.filter_cons, if_neg (by rw [hp]; decide), List.filter_nil], List.map_nil, List.append_nil]
      exact al_imp r fun v b => kG s4
/-- a comprehension over a list of places -/
theorem lc_lst {β : Type} {G : Hp → V → β → Prop} (P : Nat → Bool) (f : Nat → β) {a : Addr} {us : List Nat} {g : TG} {tt : TT} {te : TE} {vs : List Nat} {σ : L2.St} {H1 : Hp} {D : Addr} {Qd : Hp → Prop} (hD : H1 D = none)
    (kG : ∀ {H H' : Hp} {v : V} {m : β}, Same H H' → G H v m → G H' v m) (kD : ∀ {H : Hp} {v : V} {m : β} {zs : List V}, G H v m → G (upd H D (.lst zs)) v m) (xz : us.length ≤ 1000) (hl : H1 a = some (.lst (us.map fun c => V.int (c : Nat))))
    (hs : ∀ c H (Nx : V → Hp → Prop) (Ex : Hp → Prop), c ∈ us → Same H1 H → (∃ ys, H D = some (.lst ys)) → (P c = true → ∀ y H2, Same H H2 → G H2 y (f c) → Nx y H2) → (P c = false → ∀ H2, Same H H2 → Ex H2) →
      g (.int (c : Nat)) (wipe σ vs) H fun σ2 H2 => wipe σ2 vs = wipe σ vs ∧ tt σ2 H2 fun b H3 => if b = true then te σ2 H3 Nx else Ex H3)
    (hd : ∀ H ys, Same H1 H → H D = some (.lst ys) → Al (G H) ys ((us.filter P).map f) → Qd H) :
    ∃ W : Nat → Nat → Hp → Prop, (∃ m, W 0 m (upd H1 D (.lst []))) ∧ ∀ i m H, W i m H →
      ((Itl K a).stop i H ∧ Qd H) ∨ ((Itl K a).go i H ∧ ∃ Nx : Hp → Prop, (∀ H', Nx H' → ∃ m', m' < m ∧ W (i + 1) m' H') ∧ ∀ x H', (Itl K a).yld i H x H' → g x (wipe σ vs) H' fun σ2 H2 => wipe σ2 vs = wipe σ vs ∧ tt σ2 H2 fun b H3 =>
        if b = true then te σ2 H3 fun y H4 => ∃ acc, H4 D = some (.lst acc) ∧ acc.length < sizeLine ∧ Nx (upd H4 D (.lst (acc ++ [y]))) else Nx H3) := by
  refine lc_foldF (walk_list (K := K) (a := a) (xs := us.map fun c => V.int (c : Nat))) (fun H => Same H1 H) (fun i H ys => Al (G H) ys (((us.take i).filter P).map f)) (Same.new hD _) (fun H ys zs s _ => s.mut hD _) .nil (fun i H ys zs xs r _ => al_imp r fun v b => kD) (fun i H ys r => ?_) (fun H s => SqL.of (K := K) (s _ _ hl)) ?_ (fun H ys s hy r => hd H ys s hy (by rw [List.length_map, List.take_length] at r; exact r))
  · have := al_len r
    have h1 : ((us.take i).filter P).length ≤ (us.take i).length := List.length_filter_le _ _
    rw [List.length_take] at h1
    rw [this, List.length_map]
    omega
  · rintro i x H2 H3 ys Nx Ex hi s hy r ⟨e, hx⟩ k1 k2
    obtain rfl : H2 = H3 := e.symm
    rw [List.length_map] at hi
    have ha : us[i]? = some us[i] := List.getElem?_eq_getElem hi
    have hx : (us.map fun c => V.int (c : Nat))[i]? = some x := hx
    rw [List.getElem?_map, ha] at hx
    obtain rfl := Option.some.inj hx
    have et : us.take (i + 1) = us.take i ++ [us[i]] := by rw [List.take_add_one, ha]; rfl
    rw [et, List.filter_append, List.map_append] at k1 k2
    refine hs us[i] H2 Nx Ex (List.getElem_mem hi) s ⟨_, hy⟩ (fun hp y H4 s4 gy => k1 y H4 (s.trans s4) (s4 _ _ hy) ?_) (fun hp H4 s4 => k2 H4 (s.trans s4) (s4 _ _ hy) ?_)
    · rw [show [us[i]].filter P = [us[i]] by rw [List.filter_cons, if_pos hp, List.filter_nil]]
      exact al_snoc (al_imp r fun v b => kG s4) gy
    · rw [show [us[i]].filter P = [] by rw [List.filter_cons, if_neg (by rw [hp]; decide), List.filter_nil], List.map_nil, List.append_nil]
      exact al_imp r fun v b => kG s4
/-- False not in [..] -/
theorem inV_blsG : ∀ bs : List Bool, inV (.bl false) (bs.map V.bl) = !(bs.all id)
  | [] => rfl
  | b :: bs => by
    have ih := inV_blsG bs
    show (eqV (.bl b) (.bl false) || inV (.bl false) (bs.map V.bl)) = _
    rw [ih]
    cases b <;> rfl
theorem flat_blsG : ∀ bs : List Bool, (bs.map V.bl).all flatV = true
  | [] => rfl
  | _ :: bs => flat_blsG bs
theorem noFG {bs : List Bool} {A B : Prop} (yes : bs.all id = true → A) (no : bs.all id = false → B) : if (if true = true then !inV (V.bl false) (bs.map V.bl) else inV (V.bl false) (bs.map V.bl)) = true then A else B := by
  rw [show (if true = true then !inV (V.bl false) (bs.map V.bl) else inV (V.bl false) (bs.map V.bl)) = bs.all id from by rw [if_pos rfl, inV_blsG, Bool.not_not]]
  cases c : bs.all id with
  | true => exact iteT (yes c)
  | false => exact iteF (no c)
theorem if1_runG {c : TT} {t u : TS} {D : Ends} {σ : L2.St} {H : Hp} (Pv : Bool → Hp → Prop) (h : ∀ Q' : Bool → Hp → Prop, (∀ b H', Pv b H' → Q' b H') → c σ H Q')
    (q : ∀ b H', Pv b H' → if b = true then t D σ H' else u D σ H') : tIfS c t u D σ H := h _ fun b H' p => q b H' p
theorem find_filter {p q : Nat → Bool} : ∀ xs : List Nat, xs.find? (fun c => p c && q c) = (xs.filter p).find? q
  | [] => rfl
  | x :: xs => by
    have ih := find_filter (p := p) (q := q) xs
    rw [List.find?_cons, List.filter_cons]
    cases c : p x with
    | false => simpa using ih
    | true =>
      rw [if_pos rfl, List.find?_cons, Bool.true_and]
      cases q x with
      | true => rfl
      | false => exact ih
theorem find_at {q : Nat → Bool} {us : List Nat} {i c : Nat} (h : us[i]? = some c) (hq : q c = true) (hb : ∀ j x, j < i → us[j]? = some x → q x = false) : us.find? q = some c := by
  rw [List.find?_eq_some_iff_getElem]
  obtain ⟨h1, h2⟩ := List.getElem?_eq_some_iff.mp h
  refine ⟨hq, i, h1, h2, fun j hj => ?_⟩
  rw [hb j us[j] hj (List.getElem?_eq_getElem _)]
  rfl
theorem all_filter {p q : Nat → Bool} (xs : List Nat) : (xs.all fun d => !(p d) || q d) = ((xs.filter p).map q).all id := by
  rw [Bool.eq_iff_iff, List.all_eq_true, List.all_map, List.all_eq_true]
  constructor
  · intro h x hx
    obtain ⟨h1, h2⟩ := List.mem_filter.mp hx
    have := h x h1
    rw [h2] at this
    simpa using this
  · intro h x hx
    cases c : p x with
    | false => rfl
    | true =>
      have : q x = true := h x (List.mem_filter.mpr ⟨hx, c⟩)
      rw [this]; rfl
theorem rowJ_find {n : Nat} {R : Nat → Nat → Bool} {a b : Nat} : rowJ n R a b = ((List.range n).filter fun c => R a c && R b c).find? fun c => ((((List.range n).filter fun c => R a c && R b c)).map (R c)).all id := by
  unfold rowJ first
  rw [← find_filter]
  congr 1
  funext c
  rw [all_filter]
/-- rows of values -/
structure GridAt (H : Hp) (t : Addr) (n : Nat) (f : Nat → Nat → V) : Prop where
  ex : ∃ ls : List Addr, H t = some (.lst (ls.map V.ref)) ∧ ls.length = n ∧ ∀ (a : Nat) (l : Addr), ls[a]? = some l → H l = some (.lst ((List.range n).map (f a)))
theorem GridAt.same {t : Addr} {f : Nat → Nat → V} (h : GridAt H t n f) (s : Same H H') : GridAt H' t n f := by
  obtain ⟨ls, h1, h2, h3⟩ := h.ex
  exact ⟨ls, s _ _ h1, h2, fun a l e => s _ _ (h3 a l e)⟩
theorem GridAt.row {t : Addr} {f : Nat → Nat → V} (h : GridAt H t n f) {a : Nat} (ha : a < n) : ∃ (ls : List Addr) (l : Addr), H t = some (.lst (ls.map V.ref)) ∧ (ls.map V.ref)[a]? = some (.ref l) ∧ H l = some (.lst ((List.range n).map (f a))) := by
  obtain ⟨ls, h1, h2, h3⟩ := h.ex
  have e : ls[a]? = some ls[a] := List.getElem?_eq_getElem (by omega)
  exact ⟨ls, ls[a], h1, by rw [List.getElem?_map, e]; rfl, h3 a _ e⟩
theorem GridAt.len {t : Addr} {f : Nat → Nat → V} (h : GridAt H t n f) : ∃ ls : List Addr, H t = some (.lst (ls.map V.ref)) ∧ (ls.map V.ref).length = n := by
  obtain ⟨ls, h1, h2, h3⟩ := h.ex
  exact ⟨ls, h1, by rw [List.length_map, h2]⟩
theorem GridAt.ext {t : Addr} {f g : Nat → Nat → V} (h : GridAt H t n f) (e : ∀ a b, a < n → b < n → f a b = g a b) : GridAt H t n g := by
  obtain ⟨ls, h1, h2, h3⟩ := h.ex
  refine ⟨ls, h1, h2, fun a l el => ?_⟩
  have ha : a < n := by have := (List.getElem?_eq_some_iff.mp el).1; omega
  rw [h3 a l el]
  rw [show (List.range n).map (f a) = (List.range n).map (g a) from List.map_congr_left fun b hb => e a b ha (List.mem_range.mp hb)]
theorem rg_atG {n i : Nat} {f : Nat → V} (h : i < n) : ((List.range n).map f)[i]? = some (f i) := by rw [List.getElem?_map, List.getElem?_range h]; rfl
theorem flt_idG {α : Type} (xs : List α) : xs.filter (fun _ => true) = xs := List.filter_eq_self.mpr fun _ _ => rfl
/-- a grid from the rows a comprehension made -/
theorem grid_of {t : Addr} {f : Nat → Nat → V} {ys : List V} (hy : H t = some (.lst ys)) (r : Al (fun v (a : Nat) => ∃ l, v = V.ref l ∧ (l ≠ t ∧ H l = some (.lst ((List.range n).map (f a))))) ys (List.range n)) : GridAt H t n f := by
  obtain ⟨ls, rfl, gs⟩ := al_refs r
  have gl := al_len gs
  rw [List.length_range] at gl
  refine ⟨ls, hy, gl, fun a l e => ?_⟩
  obtain ⟨b, hb, m, hl⟩ := al_get gs e
  obtain rfl : a = b := by
    have := (List.getElem?_eq_some_iff.mp e).1
    rw [List.getElem?_range (by omega)] at hb
    exact Option.some.inj hb
  exact hl
def rowV (R : Nat → Nat → Bool) : Nat → Nat → V := fun a b => .bl (R a b)
end
/-! ### orders as rows: _law_closed -/
section
open PyProof.Rows
variable {w W_ : World} {K : PySem.W.Frag} {mg : Str → Option Value} {base : Heap} {H0 H H' : Hp} {n : Nat} {t : Addr} {f : Nat → Nat → V}
/-- rows of one's own, made behind H0 -/
structure MGrid (H0 H : Hp) (t : Addr) (n : Nat) (f : Nat → Nat → V) : Prop where
  same : Same H0 H
  ex : ∃ ls : List Addr, H t = some (.lst (ls.map V.ref)) ∧ ls.length = n ∧ ls.Nodup ∧ ∀ (a : Nat) (l : Addr), ls[a]? = some l → l ≠ t ∧ H0 l = none ∧ H l = some (.lst ((List.range n).map (f a)))
theorem MGrid.grid (h : MGrid H0 H t n f) : GridAt H t n f := by
  obtain ⟨ls, h1, h2, _, h3⟩ := h.ex
  exact ⟨ls, h1, h2, fun a l e => (h3 a l e).2.2⟩
theorem MGrid.ext {g : Nat → Nat → V} (h : MGrid H0 H t n f) (e : ∀ a b, a < n → b < n → f a b = g a b) : MGrid H0 H t n g := by
  obtain ⟨ls, h1, h2, nd, h3⟩ := h.ex
  refine ⟨h.same, ls, h1, h2, nd, fun a l el => ?_⟩
  have ha : a < n := by have := (List.getElem?_eq_some_iff.mp el).1; omega
  obtain ⟨q1, q2, q3⟩ := h3 a l el
  refine ⟨q1, q2, q3.trans ?_⟩
  rw [show (List.range n).map (f a) = (List.range n).map (g a) from List.map_congr_left fun b hb => e a b ha (List.mem_range.mp hb)]
theorem set_range {n y : Nat} {g : Nat → V} {v : V} : ((List.range n).map g).set y v = (List.range n).map fun b => if b = y then v else g b := by
  refine List.ext_getElem? fun k => ?_
  rw [List.getElem?_set, List.length_map, List.length_range]
  by_cases hk : k < n
  · rw [List.getElem?_map, List.getElem?_map, List.getElem?_range hk]
    by_cases ck : y = k
    · rw [if_pos ck, if_pos (by omega)]
      show _ = some (if k = y then v else g k)
      rw [if_pos ck.symm]
    · rw [if_neg ck]
      show _ = some (if k = y then v else g k)
      rw [if_neg fun e => ck e.symm]
      rfl
  · have : (List.range n)[k]? = none := List.getElem?_eq_none (by rw [List.length_range]; omega)
    rw [List.getElem?_map, List.getElem?_map, this]
    by_cases ck : y = k
    · rw [if_pos ck, if_neg (by omega)]; rfl
    · rw [if_neg ck]; rfl
/-- rows[x][y] = v -/
theorem MGrid.set (h : MGrid H0 H t n f) {x y : Nat} (hx : x < n) (v : V) : ∃ (ls : List Addr) (l : Addr), H t = some (.lst (ls.map V.ref)) ∧ (ls.map V.ref)[x]? = some (.ref l) ∧ H l = some (.lst ((List.range n).map (f x))) ∧
    MGrid H0 (upd H l (.lst (((List.range n).map (f x)).set y v))) t n (fun a b => if a = x ∧ b = y then v else f a b) := by
  obtain ⟨ls, h1, h2, nd, h3⟩ := h.ex
  have e : ls[x]? = some ls[x] := List.getElem?_eq_getElem (by omega)
  generalize ls[x] = l at e
  obtain ⟨q1, q2, q3⟩ := h3 x l e
  refine ⟨ls, l, h1, by rw [List.getElem?_map, e]; rfl, q3, h.same.mut q2 _, ls, (upd_ne (Ne.symm q1)).trans h1, h2, nd, fun a k ek => ?_⟩
  obtain ⟨r1, r2, r3⟩ := h3 a k ek
  refine ⟨r1, r2, ?_⟩
  by_cases ax : a = x
  · subst ax
    rw [e] at ek
    obtain rfl := Option.some.inj ek
    rw [upd_same, set_range]
    refine congrArg (fun z => some (HO.lst z)) (List.map_congr_left fun b _ => ?_)
    by_cases hb : b = y
    · rw [if_pos hb, if_pos ⟨rfl, hb⟩]
    · rw [if_neg hb, if_neg fun z => hb z.2]
  · have kl : k ≠ l := fun z => by
      subst z
      have h4 := List.getElem?_eq_some_iff.mp ek
      have h5 := List.getElem?_eq_some_iff.mp e
      exact ax ((List.getElem_inj nd).mp (h4.2.trans h5.2.symm))
    rw [upd_ne kl, r3]
    refine congrArg (fun z => some (HO.lst z)) (List.map_congr_left fun b _ => ?_)
    rw [if_neg fun z => ax z.1]
/-- pairs of places -/
structure DuosAt (H : Hp) (p : Addr) (ps : List (Nat × Nat)) : Prop where
  ex : ∃ ls : List Addr, H p = some (.lst (ls.map V.ref)) ∧ Al (fun l q => H l = some (.lst [.int (q.1 : Nat), .int (q.2 : Nat)])) ls ps
theorem DuosAt.same {p : Addr} {ps : List (Nat × Nat)} (h : DuosAt H p ps) (s : Same H H') : DuosAt H' p ps := by
  obtain ⟨ls, h1, h2⟩ := h.ex
  exact ⟨ls, s _ _ h1, al_imp h2 fun a b h => s _ _ h⟩
def sp_lcl : Sp := fun vs H Q _ => ∃ (p : Addr) (n : Nat) (ps : List (Nat × Nat)), vs = [.int (n : Nat), .ref p] ∧ DuosAt H p ps ∧ n ≤ 64 ∧ ps.length ≤ 100000 ∧ (∀ q ∈ ps, q.1 < n ∧ q.2 < n) ∧ ∀ r H', Same H H' → GridAt H' r n (rowV (closedR n ps)) → Q (.ref r) H'
theorem ok_lcl (T : Tx K mg w) : FnOk PL w K mg base CX0 1 T.a__law_closed T.d__law_closed ["many", "pairs"] sp_lcl := by
  refine T.F__law_closed.ok sc__law_closed (fun vs H Q E h => ?_) (fun cdv A outer s H vs Q E hr h => ?_)
  · obtain ⟨p, n, ps, rfl, _⟩ := h
    rfl
  obtain ⟨p, n, ps, rfl, hp, n64, pl, hps, q⟩ := h
  refine ⟨_, pss_cons (ps_setLc (i := 2) (own := [("a", 4)]) (g := gName 4) (tt := tYes) rfl sc__law_closed.nd rfl rfl (sw_true rfl rfl rfl (by decide +kernel)) (pi_range1 (by rfl) T.n_range (pa_cons (pv 0) pa_nil)) (blkOk_by (N := N__law_closed) (sc := defScope St__law_closed) (by decide +kernel)) (fun _ _ _ _ _ => (pg_name (i := 4) sc__law_closed.nd rfl (Or.inr rfl))) (fun _ _ _ _ _ => pts_nil) (fun _ _ _ _ _ => (pe_lc (own := [("b", 3)]) (g := gName 3) (tt := tYes) rfl sc__law_closed.nd (pi_range1 (by rfl) T.n_range (pa_cons (pv 0) pa_nil)) (blkOk_by (N := N__law_closed) (by first | rfl | kernel_rfl)) (fun _ _ _ _ _ => (pg_name (i := 3) sc__law_closed.nd rfl (Or.inl rfl))) (fun _ _ _ _ _ => pts_nil) (fun _ _ _ _ _ => (pe_cmpR op_eq (pv 4) (pv 3) (nomark _))))))
    (pss_cons (ps_for PassesOwn.never rfl (pi_list (pv 1)) (pg_name (i := 5) sc__law_closed.nd rfl (Or.inl rfl)) (pss_one (ps_asg pe_bl (pg_sub (pe_ix ix_list (pv 2) (pe_ix ix_list (pv 5) pe_int (fun _ _ => rfl)) (fun _ _ => rfl)) (pe_ix ix_list (pv 5) pe_int (fun _ _ => rfl)) set_list))))
    (pss_cons (ps_for PassesOwn.never rfl (pi_range1 (by rfl) T.n_range (pa_cons (pv 0) pa_nil)) (pg_name (i := 6) sc__law_closed.nd rfl (Or.inl rfl)) (pss_one (ps_for PassesOwn.never rfl (pi_range1 (by rfl) T.n_range (pa_cons (pv 0) pa_nil)) (pg_name (i := 4) sc__law_closed.nd rfl (Or.inl rfl)) (pss_one (ps_for PassesOwn.never rfl (pi_range1 (by rfl) T.n_range (pa_cons (pv 0) pa_nil)) (pg_name (i := 3) sc__law_closed.nd rfl (Or.inl rfl)) (pss_one (ps_if (PW.pt (pw_and (pt_val (pe_ix ix_list (pe_ix ix_list (pv 2) (pv 4) (fun _ _ => rfl)) (pv 6) (fun _ _ => rfl))) (pw_and1 (pt_val (pe_ix ix_list (pe_ix ix_list (pv 2) (pv 6) (fun _ _ => rfl)) (pv 3) (fun _ _ => rfl)))))) (pss_one (ps_asg pe_bl (pg_sub (pe_ix ix_list (pv 2) (pv 4) (fun _ _ => rfl)) (pv 3) set_list))) pss_nil)))))))
    (pss_one (ps_ret (pv 2))))), ?_⟩
  refine set_run (fun v H' => ∃ r, v = .ref r ∧ MGrid H H' r n (rowV (rowsOf []))) (fun Q' q' => ?_) ?_
  · refine ⟨_, rfl, _, rfl, by omega, by omega, fun D hD => ?_⟩
    refine lc_foldF (walk_range (lo := 0) (n := n)) (fun H' => Same H H') (fun i H' ys => i ≤ n ∧ ∃ ls : List Addr, ys = ls.map V.ref ∧ ls.length = i ∧ ls.Nodup ∧ ∀ (a : Nat) (l : Addr), ls[a]? = some l → l ≠ D ∧ H l = none ∧ H' l = some (.lst ((List.range n).map (rowV (rowsOf []) a)))) (Same.new hD _) (fun H' ys zs s _ => s.mut hD _) ⟨Nat.zero_le _, [], rfl, rfl, List.nodup_nil, fun a l e => by simp at e⟩ ?_ ?_ (fun _ _ => trivial) ?_ ?_
    · rintro i H' ys zs xs ⟨hi, ls, e, l1, nd, r⟩ _
      exact ⟨hi, ls, e, l1, nd, fun a l el => ⟨(r a l el).1, (r a l el).2.1, (upd_ne (r a l el).1).trans (r a l el).2.2⟩⟩
    · rintro i H' ys ⟨hi, ls, rfl, l1, _⟩
      rw [List.length_map, l1]; omega
    · rintro i x H2 H3 ys Nx Ex hi s2 hy ⟨_, ls, rfl, l1, nd, r⟩ ⟨e, ex⟩ k1 k2
      obtain rfl : H2 = H3 := e.symm
      have hi : i < n := hi
      obtain rfl := yfn0 ex
      refine ⟨rfl, ?_⟩
      refine lcY ?_
      refine ⟨_, rfl, _, rfl, by omega, by omega, fun D2 hD2 => ?_⟩
      refine lc_rng (n := n) (G := fun _ v (j : Nat) => v = rowV (rowsOf []) i j) (fun _ => true) id hD2 (fun _ h => h) (fun h => h) (by omega) ?_ (fun H3 zs s3 hz rr => ?_)
      · rintro j H3 Nx' Ex' hj s3 _ ky' kn'
        refine ⟨rfl, ?_⟩
        refine lcY ?_
        refine ⟨_, rfl, _, rfl, rfl, ky' rfl _ _ (Same.refl _) ?_⟩
        show V.bl (decide (V.int (i : Nat) = V.int (j : Nat))) = V.bl (i == j || ([] : List (Nat × Nat)).contains (i, j))
        rw [int_ext]
        simp
      · rw [flt_idG, List.map_id] at rr
        rw [al_map rr] at hz
        refine k1 _ _ (s2.trans s3) (s3 _ _ hy) ⟨hi, ls ++ [D2], ?_, ?_, ?_, ?_⟩
        · rw [List.map_append]; rfl
        · rw [List.length_append, l1]; rfl
        · refine List.nodup_append.mpr ⟨nd, by simp, fun a ha b hb => ?_⟩
          obtain rfl : b = D2 := by simpa using hb
          intro e
          obtain ⟨j, hj⟩ := List.getElem?_of_mem ha
          have := (r j a hj).2.2
          rw [e, hD2] at this
          cases this
        · intro a l el
          rw [List.getElem?_append] at el
          by_cases ca : a < ls.length
          · rw [if_pos ca] at el
            obtain ⟨r1, r2, r3⟩ := r a l el
            exact ⟨r1, r2, s3 _ _ r3⟩
          · rw [if_neg ca] at el
            have ea : a - ls.length = 0 := by
              have := (List.getElem?_eq_some_iff.mp el).1
              simp at this; omega
            rw [ea] at el
            obtain rfl : D2 = l := by simpa using el
            obtain rfl : a = i := by omega
            refine ⟨fun e => (by rw [e, hy] at hD2; cases hD2), ?_, hz⟩
            cases eh : H D2 with
            | none => rfl
            | some o => have := s2 _ _ eh; rw [hD2] at this; cases this
    · rintro H2 ys s2 hy ⟨_, ls, rfl, l1, nd, r⟩
      exact q' _ _ ⟨D, rfl, s2, ls, hy, l1, nd, r⟩
  rintro _ H2 ⟨r, rfl, hg⟩
  dsimp only [gName]
  obtain ⟨as, p1, p2⟩ := hp.ex
  have al := al_len p2
  show tSeq _ _ _ [some (.int (n : Nat)), some (.ref p), some (.ref r), none, none, none, none] H2
  refine st_run (fun σ H' => ∃ v5 : Option V, σ = [some (.int (n : Nat)), some (.ref p), some (.ref r), none, none, v5, none] ∧ MGrid H H' r n (rowV (rowsOf ps))) (fun D' hD q' => ?_) ?_
  · refine ⟨_, rfl, p, rfl, ⟨_, SqL.of (K := K) (hg.same _ _ p1)⟩, ?_⟩
    refine for_it (walk_list (K := K) (a := p) (xs := as.map V.ref)) (fun i σ H' => ∃ v5 : Option V, σ = [some (.int (n : Nat)), some (.ref p), some (.ref r), none, none, v5, none] ∧ MGrid H H' r n (rowV (rowsOf (ps.take i)))) ⟨_, rfl, hg⟩ (fun i σ H' _ ⟨_, _, g⟩ => SqL.of (K := K) (g.same _ _ p1)) ?_ ?_
    · rintro i x σ H3 H4 hi ⟨v5, rfl, g⟩ ⟨e4, hx⟩
      obtain rfl : H3 = H4 := e4.symm
      rw [List.length_map] at hi
      have ha : as[i]? = some as[i] := List.getElem?_eq_getElem hi
      have hx : (as.map V.ref)[i]? = some x := hx
      rw [List.getElem?_map, ha] at hx
      obtain rfl := Option.some.inj hx
      generalize as[i] = u at ha
      obtain ⟨qq, hq, hu⟩ := al_get p2 ha
      obtain ⟨b1, b2⟩ := hps qq (List.mem_of_getElem? hq)
      obtain ⟨ls, l, g1, g2, g3, g4⟩ := g.set (x := qq.1) (y := qq.2) b1 (.bl true)
      have hu3 := g.same _ _ hu
      dsimp only [gName]
      refine ⟨_, rfl, _, rfl, u, _, _, _, rfl, rfl, SqL.of (K := K) hu3, atI_nat (j := 0) rfl, r, _, _, _, rfl, rfl, SqL.of (K := K) g1, atI_nat g2, _, rfl, u, _, _, _, rfl, rfl, SqL.of (K := K) hu3, atI_nat (j := 1) rfl, l, _, _, qq.2, rfl, rfl, g3, (by rw [List.length_map, List.length_range]; exact ixN_nat (z := (qq.2 : Int)) (by omega) (by omega)), ?_⟩
      refine ⟨_, rfl, g4.ext fun a b _ _ => ?_⟩
      rw [show ps.take (i + 1) = ps.take i ++ [qq] by rw [List.take_add_one, hq]; rfl]
      show _ = V.bl (a == b || (ps.take i ++ [qq]).contains (a, b))
      by_cases c : a = qq.1 ∧ b = qq.2
      · rw [if_pos c, show (ps.take i ++ [qq]).contains (a, b) = true by rw [c.1, c.2]; simp, Bool.or_true]
      · rw [if_neg c]
        have : (a, b) ≠ qq := fun e => c ⟨by rw [← e], by rw [← e]⟩
        show V.bl (a == b || (ps.take i).contains (a, b)) = _
        congr 2
        rw [Bool.eq_iff_iff, List.contains_iff_mem, List.contains_iff_mem, List.mem_append]
        exact ⟨.inl, fun h => h.elim id fun h => absurd (by simpa using h) this⟩
    · rintro σ H3 ⟨v5, rfl, g⟩
      rw [List.length_map, al, List.take_length] at g
      exact q' _ _ ⟨_, rfl, g⟩
  rintro _ H3 ⟨v5, rfl, hg3⟩
  -- mixed rows: gone over up to (a, b)
  generalize hR : rowsOf ps = R0 at hg3
  have mixE : ∀ c a b x y : Nat, (if x < a ∨ (x = a ∧ y < b) then closeK R0 (c + 1) x y else closeK R0 c x y) = true ↔ (if x < a ∨ (x = a ∧ y < b) then closeK R0 (c + 1) x y else closeK R0 c x y) = true := fun _ _ _ _ _ => Iff.rfl
  clear mixE
  show tSeq _ _ _ [some (.int (n : Nat)), some (.ref p), some (.ref r), none, none, v5, none] H3
  refine st_run (fun σ H' => ∃ v3 v4 v6 : Option V, σ = [some (.int (n : Nat)), some (.ref p), some (.ref r), v3, v4, v5, v6] ∧ MGrid H H' r n (rowV (closeK R0 n))) (fun D' hD q' => ?_) ?_
  · refine ⟨_, rfl, _, rfl, by omega, by omega, ?_⟩
    refine for_range (lo := 0) (n := n) (fun c σ H' => ∃ v3 v4 v6 : Option V, σ = [some (.int (n : Nat)), some (.ref p), some (.ref r), v3, v4, v5, v6] ∧ MGrid H H' r n (rowV (closeK R0 c))) ⟨_, _, _, rfl, hg3⟩ ?_ (fun σ H' ⟨v3, v4, v6, e, g⟩ => q' _ _ ⟨v3, v4, v6, e, g⟩)
    rintro c σ H4 hc ⟨v3, v4, v6, rfl, g⟩
    have hc : c < n := hc
    rw [show (0 : Int) + (c : Int) = ((c : Nat) : Int) by omega]
    dsimp only [gName]
    refine ⟨_, rfl, _, rfl, by omega, by omega, ?_⟩
    refine for_range (lo := 0) (n := n) (fun a σ H' => ∃ v3 v4 : Option V, σ = [some (.int (n : Nat)), some (.ref p), some (.ref r), v3, v4, v5, some (.int (c : Nat))] ∧ MGrid H H' r n (rowV fun x y => if x < a then closeK R0 (c + 1) x y else closeK R0 c x y)) ⟨_, _, rfl, g.ext fun a b _ _ => by show _ = V.bl (if a < 0 then _ else _); rw [if_neg (Nat.not_lt_zero _)]; rfl⟩ ?_ (fun σ H' ⟨v3, v4, e, g⟩ => ⟨v3, v4, _, e, g.ext fun a b ha _ => by show V.bl (if a < n then _ else _) = _; rw [if_pos ha]; rfl⟩)
    rintro a σ H5 ha ⟨v3, v4, rfl, g5⟩
    have ha : a < n := ha
    rw [show (0 : Int) + (a : Int) = ((a : Nat) : Int) by omega]
    dsimp only [gName]
    refine ⟨_, rfl, _, rfl, by omega, by omega, ?_⟩
    refine for_range (lo := 0) (n := n) (fun b σ H' => ∃ v3 : Option V, σ = [some (.int (n : Nat)), some (.ref p), some (.ref r), v3, some (.int (a : Nat)), v5, some (.int (c : Nat))] ∧ MGrid H H' r n (rowV fun x y => if x < a ∨ (x = a ∧ y < b) then closeK R0 (c + 1) x y else closeK R0 c x y)) ⟨_, rfl, g5.ext fun x y _ _ => ?_⟩ ?_ (fun σ H' ⟨v3, e, g⟩ => ⟨v3, _, e, g.ext fun x y _ hy => ?_⟩)
    · show V.bl (if x < a then _ else _) = V.bl (if x < a ∨ (x = a ∧ y < 0) then _ else _)
      have : (x < a ∨ (x = a ∧ y < 0)) ↔ x < a := by omega
      simp only [this]
    · rintro b σ H6 hb ⟨v3, rfl, g6⟩
      have hb : b < n := hb
      rw [show (0 : Int) + (b : Int) = ((b : Nat) : Int) by omega]
      dsimp only [gName]
      have e1 : (if a < a ∨ (a = a ∧ c < b) then closeK R0 (c + 1) a c else closeK R0 c a c) = closeK R0 c a c := by
        split
        · exact closeK_col
        · rfl
      have e2 : (if c < a ∨ (c = a ∧ b < b) then closeK R0 (c + 1) c b else closeK R0 c c b) = closeK R0 c c b := by
        split
        · exact closeK_row
        · rfl
      obtain ⟨ls1, l1, u1, u2, u3⟩ := g6.grid.row ha
      obtain ⟨ls2, l2, w1, w2, w3⟩ := g6.grid.row hc
      have next : ∀ x y : Nat, ¬ (x = a ∧ y = b) → (if x < a ∨ (x = a ∧ y < b) then closeK R0 (c + 1) x y else closeK R0 c x y) = if x < a ∨ (x = a ∧ y < b + 1) then closeK R0 (c + 1) x y else closeK R0 c x y := fun x y h => by
        have : (x < a ∨ (x = a ∧ y < b)) ↔ (x < a ∨ (x = a ∧ y < b + 1)) := by omega
        simp only [this]
      refine if1_runG (fun v H' => v = (closeK R0 c a c && closeK R0 c c b) ∧ H' = H6) (fun Q' q' => ?_) ?_
      · refine ⟨_, rfl, _, rfl, r, _, _, _, rfl, rfl, SqL.of (K := K) u1, atI_nat u2, _, rfl, l1, _, _, _, rfl, rfl, SqL.of (K := K) u3, atI_nat (rg_atG hc), closeK R0 c a c, congrArg V.bl e1, ?_⟩
        cases h1 : closeK R0 c a c with
        | false => exact iteF (q' _ _ ⟨by rw [h1]; rfl, rfl⟩)
        | true => exact iteT ⟨_, rfl, _, rfl, r, _, _, _, rfl, rfl, SqL.of (K := K) w1, atI_nat w2, _, rfl, l2, _, _, _, rfl, rfl, SqL.of (K := K) w3, atI_nat (rg_atG hb), closeK R0 c c b, congrArg V.bl e2, q' _ _ ⟨by rw [h1]; rfl, rfl⟩⟩
      rintro v _ ⟨hv, rfl⟩
      cases v with
      | false =>
        refine iteF ?_
        refine ⟨_, rfl, g6.ext fun x y _ _ => congrArg V.bl ?_⟩
        by_cases cx : x = a ∧ y = b
        · obtain ⟨rfl, rfl⟩ := cx
          show (if x < x ∨ (x = x ∧ y < y) then _ else _) = if x < x ∨ (x = x ∧ y < y + 1) then _ else _
          rw [if_neg (by omega), if_pos (by omega)]
          show _ = (closeK R0 c x y || (closeK R0 c x c && closeK R0 c c y))
          rw [← hv, Bool.or_false]
        · exact next x y cx
      | true =>
        refine iteT ?_
        obtain ⟨ls, l, k1, k2, k3, k4⟩ := g6.set (x := a) (y := b) ha (.bl true)
        refine ⟨_, rfl, _, rfl, r, _, _, _, rfl, rfl, SqL.of (K := K) k1, atI_nat k2, _, rfl, l, _, _, b, rfl, rfl, k3, (by rw [List.length_map, List.length_range]; exact ixN_nat (z := (b : Int)) (by omega) (by omega)), ?_⟩
        refine ⟨_, rfl, k4.ext fun x y _ _ => ?_⟩
        by_cases cx : x = a ∧ y = b
        · rw [if_pos cx]
          obtain ⟨rfl, rfl⟩ := cx
          show _ = V.bl (if x < x ∨ (x = x ∧ y < y + 1) then _ else _)
          rw [if_pos (by omega)]
          show _ = V.bl (closeK R0 c x y || (closeK R0 c x c && closeK R0 c c y))
          rw [← hv, Bool.or_true]
        · rw [if_neg cx]
          exact congrArg V.bl (next x y cx)
    · show V.bl (if x < a ∨ (x = a ∧ y < n) then _ else _) = V.bl (if x < a + 1 then _ else _)
      have : (x < a ∨ (x = a ∧ y < n)) ↔ x < a + 1 := by omega
      simp only [this]
  rintro _ H4 ⟨v3, v4, v6, rfl, g⟩
  rw [← hR] at g
  exact ⟨_, rfl, q r H4 g.same g.grid⟩
end
/-! ### _law_words -/
section
open PyProof.Rows
variable {w W_ : World} {K : PySem.W.Frag} {mg : Str → Option Value} {base : Heap} {mm : List (Str × Addr)} {H H' : Hp} {L : Lt}
/-- the signs of drawn words -/
def signsW : Str := "q0w1e2r3t4y5u6i7o8p9asdfghjklzxcvbnm"
def signW (d : Nat) : Nat := signsW.cps.toList.getD d 0
theorem signs_at {d : Nat} (h : d < 36) : signsW.cps.toList[d]? = some (signW d) ∧ signW d ∈ lettersS.cps.toList := by
  have q : ∀ i : Fin 36, signsW.cps.toList[i.val]? = some (signW i.val) ∧ signW i.val ∈ lettersS.cps.toList := by decide +kernel
  exact q ⟨d, h⟩
theorem signs_inj {i j : Nat} (hi : i < 36) (hj : j < 36) (h : signW i = signW j) : i = j := by
  have q : ∀ i j : Fin 36, signW i.val = signW j.val → i.val = j.val := by decide +kernel
  exact q ⟨i, hi⟩ ⟨j, hj⟩ h
def wordAt (x : Str) (cut c : Nat) : Str := cutS x none (some (cut : Int)) ++ ⟨#[c]⟩ ++ cutS x (some (cut : Int)) none
theorem wordAt_cps {x : Str} {cut c : Nat} (h : cut ≤ x.length) : (wordAt x cut c).cps.toList = x.cps.toList.take cut ++ [c] ++ x.cps.toList.drop cut := by
  have lx : x.cps.toList.length = x.length := by rw [Array.length_toList]; rfl
  unfold wordAt cutS
  simp only [sIx_some, sIx_none, Nat.min_eq_left h]
  rw [Str.cps_append, Str.cps_append, Array.toList_append, Array.toList_append]
  show ((x.cps.toList.drop 0).take (cut - 0)).toArray.toList ++ [c] ++ ((x.cps.toList.drop cut).take (x.length - cut)).toArray.toList = _
  rw [List.drop_zero, Nat.sub_zero, List.take_of_length_le (l := x.cps.toList.drop cut) (by rw [List.length_drop, lx]; omega)]
theorem len_cps (x : Str) : x.cps.toList.length = x.length := by rw [Array.length_toList]; rfl
theorem wordAt_len {x : Str} {cut c : Nat} (h : cut ≤ x.length) : (wordAt x cut c).length = x.length + 1 := by
  rw [← len_cps, wordAt_cps h, List.length_append, List.length_append, List.length_take, List.length_drop, len_cps]
  show min cut x.length + 1 + (x.length - cut) = _
  omega
theorem wordAt_inj {x : Str} {cut c d : Nat} (h : cut ≤ x.length) (e : wordAt x cut c = wordAt x cut d) : c = d := by
  have e := congrArg (fun s : Str => s.cps.toList[cut]?) e
  simp only [wordAt_cps h] at e
  have l : (x.cps.toList.take cut).length = cut := by rw [List.length_take, len_cps]; omega
  rw [List.append_assoc, List.append_assoc, List.getElem?_append_right (Nat.le_of_eq l), List.getElem?_append_right (Nat.le_of_eq l), l, Nat.sub_self] at e
  exact Option.some.inj e
theorem wordAt_w {x : Str} {cut c : Nat} (h : cut ≤ x.length) (l : x.length ≤ 11) (hx : ∀ c ∈ x.cps.toList, c ∈ lettersS.cps.toList) (hc : c ∈ lettersS.cps.toList) : NameW (wordAt x cut c) := by
  have hl := wordAt_len (c := c) h
  refine ⟨by omega, by omega, fun d hd => ?_⟩
  rw [wordAt_cps h] at hd
  rcases List.mem_append.mp hd with hd | hd
  · rcases List.mem_append.mp hd with hd | hd
    · exact hx d (List.mem_of_mem_take hd)
    · obtain rfl : d = c := by simpa using hd
      exact hc
  · exact hx d (List.mem_of_mem_drop hd)
def drawnW (x : Str) (cut b n : Nat) : List Str := (List.range n).map fun k => wordAt x cut (signW ((b + 5 * k) % 36))
theorem drawnW_nodup {x : Str} {cut b n : Nat} (h : cut ≤ x.length) (n36 : n ≤ 36) : (drawnW x cut b n).Nodup := by
  unfold drawnW
  refine List.pairwise_map.mpr (List.Pairwise.imp_of_mem (R := fun a b => a < b) (fun {i j} hi hj hij e => ?_) List.pairwise_lt_range)
  have hi := List.mem_range.mp hi
  have hj := List.mem_range.mp hj
  have := signs_inj (Nat.mod_lt _ (by decide)) (Nat.mod_lt _ (by decide)) (wordAt_inj h e)
  omega
def sp_lwd (K : PySem.W.Frag) : Sp := fun vs H Q _ => ∃ (p ce : Addr) (n : Nat), vs = [.ref p, .int (n : Nat)] ∧ Src K ce H p ∧ n ≤ 17 ∧ ∀ (l : Addr) (xs : List Str) (H' : Hp), But p H H' → Src K ce H' p → H l = none → H' l = some (.lst (xs.map V.str)) → xs.length = n → xs.Nodup → (∀ x ∈ xs, NameW x) → Q (.ref l) H'
theorem ok_lwd (T : Tx K mg w) : FnOk PL w K mg base CX0 2 T.a__law_words T.d__law_words ["source", "many"] (sp_lwd K) := by
  have G__law_pick := ok__law_pick (P := PL) (w := w) (base := base) T
  refine T.F__law_words.ok sc__law_words (fun vs H Q E h => ?_) (fun cdv A outer s H vs Q E hr h => ?_)
  · obtain ⟨p, ce, n, rfl, _⟩ := h
    rfl
  obtain ⟨p, ce, n, rfl, hs, hn, q⟩ := h
  refine ⟨_, pss_cons (ps_set (i := 2) sc__law_words.nd rfl (Or.inr rfl) pe_str)
    (pss_cons (ps_set (i := 3) sc__law_words.nd rfl (Or.inr rfl) (pe_call G__law_pick (hr.mono (by omega)) (by rfl) T.g__law_pick T.F__law_pick.kp T.b__law_pick .nil pass0 (pa_cons (pv 0) (pa_cons pe_int pa_nil))))
    (pss_cons (ps_set (i := 4) sc__law_words.nd rfl (Or.inr rfl) pe_str)
    (pss_cons (ps_for PassesOwn.never rfl (pi_range1 (by rfl) T.n_range (pa_cons (pe_call G__law_pick (hr.mono (by omega)) (by rfl) T.g__law_pick T.F__law_pick.kp T.b__law_pick .nil pass0 (pa_cons (pv 0) (pa_cons pe_int pa_nil))) pa_nil)) (pg_name (i := 5) sc__law_words.nd rfl (Or.inl rfl)) (pss_one (ps_set (i := 4) sc__law_words.nd rfl (Or.inr rfl) (pe_op op_add_str (pv 4) (pe_ix ix_str (pv 2) (pe_call G__law_pick (hr.mono (by omega)) (by rfl) T.g__law_pick T.F__law_pick.kp T.b__law_pick .nil pass0 (pa_cons (pv 0) (pa_cons pe_int pa_nil))) (fun _ _ => rfl))))))
    (pss_cons (ps_set (i := 6) sc__law_words.nd rfl (Or.inr rfl) (pe_call G__law_pick (hr.mono (by omega)) (by rfl) T.g__law_pick T.F__law_pick.kp T.b__law_pick .nil pass0 (pa_cons (pv 0) (pa_cons (pe_op op_add (pe_callB call_len_str (by rfl) T.n_len (by decide +kernel) (pa_cons (pv 4) pa_nil)) pe_int) pa_nil))))
    (pss_one (ps_ret (pe_lc (own := [("k", 5)]) (g := gName 5) (tt := tYes) rfl sc__law_words.nd (pi_range1 (by rfl) T.n_range (pa_cons (pv 1) pa_nil)) (blkOk_by (N := N__law_words) (sc := defScope St__law_words) (by decide +kernel)) (fun _ _ _ _ _ => (pg_name (i := 5) sc__law_words.nd rfl (Or.inl rfl))) (fun _ _ _ _ _ => pts_nil) (fun _ _ _ _ _ => (pe_op op_add_str (pe_op op_add_str (pe_slice sl_str (pv 4) po_none (po_some (pv 6))) (pe_ix ix_str (pv 2) (pe_op op_mod (pe_callTy call_int1 (by rfl) T.n_int (by decide +kernel) (pa_cons (pe_op op_add (pv 3) (pe_op op_mul pe_int (pv 5))) pa_nil)) pe_int) (fun _ _ => rfl))) (pe_slice sl_str (pv 4) (po_some (pv 6)) po_none)))))))))), ?_⟩
  have la : signsW.length ≤ sizeLine := by decide
  refine ⟨_, rfl, p, ce, 36, rfl, hs, by decide, fun b H1 b1 s1 b0 b36 => ?_⟩
  obtain ⟨bg, rfl⟩ : ∃ i : Nat, b = (i : Int) := ⟨b.toNat, by omega⟩
  dsimp only [gName]
  refine set_run (fun v H' => v = .str "" ∧ H1 = H') (fun Q' q' => q' _ _ ⟨rfl, rfl⟩) ?_
  rintro _ _ ⟨rfl, rfl⟩
  dsimp only [gName]
  show tSeq _ _ _ [some (.ref p), some (.int (n : Nat)), some (.str signsW), some (.int (bg : Nat)), some (.str ""), none, none] H1
  refine st_run (fun σ H' => ∃ (x : Str) (v : Option V), σ = [some (.ref p), some (.int (n : Nat)), some (.str signsW), some (.int (bg : Nat)), some (.str x), v, none] ∧ x.length ≤ 11 ∧ (∀ c ∈ x.cps.toList, c ∈ lettersS.cps.toList) ∧ But p H H' ∧ Src K ce H' p) (fun D' hD q' => ?_) ?_
  · refine ⟨_, rfl, p, ce, 12, rfl, s1, by decide, fun m H2 b2 s2 m0 m1 => ?_⟩
    refine ⟨_, rfl, by omega, by omega, for_range (lo := 0) (fun i σ H3 => ∃ (x : Str) (v : Option V), σ = [some (.ref p), some (.int (n : Nat)), some (.str signsW), some (.int (bg : Nat)), some (.str x), v, none] ∧ x.length = i ∧ (∀ c ∈ x.cps.toList, c ∈ lettersS.cps.toList) ∧ But p H H3 ∧ Src K ce H3 p) ⟨_, none, rfl, rfl, (fun c hc => by rw [show (("" : Str).cps.toList) = [] from by decide +kernel] at hc; cases hc), b1.trans b2, s2⟩ ?_ ?_⟩
    · rintro i σ H3 hi ⟨x, v, rfl, lx, ax, b3, s3⟩
      refine ⟨_, rfl, _, rfl, _, rfl, p, ce, 36, rfl, s3, by decide, fun d H4 b4 s4 d0 d1 => ?_⟩
      obtain ⟨d, rfl⟩ : ∃ i : Nat, d = (i : Int) := ⟨d.toNat, by omega⟩
      obtain ⟨a2, f2⟩ := signs_at (d := d) (by omega)
      refine ⟨signsW, _, _, rfl, rfl, la, atI_nat a2, x, _, rfl, rfl, Nat.le_of_lt (smallM (by rw [lx]; show i + 1 ≤ _; omega)), ?_⟩
      refine ⟨_, _, rfl, by rw [Str.length_append, lx]; rfl, fun c hc => ?_, b3.trans b4, s4⟩
      rw [Str.cps_append, Array.toList_append] at hc
      rcases List.mem_append.mp hc with hc | hc
      · exact ax c hc
      · obtain rfl : c = signW d := by simpa using hc
        exact f2
    · rintro σ H3 ⟨x, v, rfl, lx, ax, b3, s3⟩
      exact q' _ _ ⟨x, v, rfl, by omega, ax, b3, s3⟩
  rintro _ H2 ⟨x, v, rfl, lx, ax, b2, s2⟩
  refine ⟨_, rfl, _, rfl, _, rfl, small_line (by omega), _, _, rfl, rfl, p, ce, (x.length : Int) + 1, rfl, s2, by omega, fun ct H3 b3 s3 c0 c1 => ?_⟩
  obtain ⟨ct, rfl⟩ : ∃ i : Nat, ct = (i : Int) := ⟨ct.toNat, by omega⟩
  have hct : ct ≤ x.length := by omega
  dsimp only [gName]
  refine ⟨_, rfl, _, rfl, by omega, by omega, fun D hD => ?_⟩
  refine lc_rng (n := n) (G := fun _ v (y : Str) => v = V.str y) (fun _ => true) (fun k => wordAt x ct (signW ((bg + 5 * k) % 36))) hD (fun _ h => h) (fun h => h) (by omega) ?_ (fun H4 zs s4 hz rr => ?_)
  · rintro j H4 Nx Ex hj s4 _ ky kn
    refine ⟨rfl, ?_⟩
    refine lcY ?_
    refine ⟨_, rfl, _, rfl, _, rfl, x, rfl, small_line (by omega), ?_⟩
    refine ⟨_, rfl, _, rfl, _, rfl, _, _, rfl, rfl, .inl ⟨by decide, by decide⟩, _, _, rfl, rfl, .inl ⟨_, rfl, _, _, rfl, rfl, (by show (0 : Int) < 36; decide), ?_⟩⟩
    have em : ((bg : Nat) : Int) + 5 * ((j : Nat) : Int) = ((bg + 5 * j : Nat) : Int) := by omega
    have em2 : (((bg : Nat) : Int) + 5 * ((j : Nat) : Int)) % 36 = (((bg + 5 * j) % 36 : Nat) : Int) := by omega
    have a2 := (signs_at (d := (bg + 5 * j) % 36) (Nat.mod_lt _ (by decide))).1
    have cl := cutS_length x none (some (ct : Int))
    have cr := cutS_length x (some (ct : Int)) none
    refine ⟨signsW, _, _, rfl, rfl, la, (by rw [em2]; exact atI_nat a2), ?_⟩
    refine ⟨_, _, rfl, rfl, small_line (by show _ + 1 ≤ _; omega), _, rfl, _, rfl, _, rfl, x, rfl, small_line (by omega), _, _, rfl, rfl, small_line (by rw [Str.length_append]; show _ + 1 + _ ≤ _; omega), ?_⟩
    exact ky rfl _ _ (Same.refl _) rfl
  · rw [flt_idG] at rr
    rw [al_map rr] at hz
    have hD' : H D = none := by
      cases e : H D with
      | none => rfl
      | some o =>
        have ne : D ≠ p := s3.ne hD
        have := b3 _ _ ne (b2 _ _ ne e)
        rw [hD] at this; cases this
    refine q D (drawnW x ct bg n) H4 ((b2.trans b3).trans (s4.but p)) (s3.same s4) hD' hz ?_ (drawnW_nodup hct (by omega)) ?_
    · show ((List.range n).map _).length = n
      rw [List.length_map, List.length_range]
    · intro y hy
      obtain ⟨k, hk, rfl⟩ := List.mem_map.mp hy
      exact wordAt_w hct lx ax (signs_at (Nat.mod_lt _ (by decide))).2
end
/-! ### names and pairs that break a rule -/
section
variable {w W_ : World} {K : PySem.W.Frag} {mg : Str → Option Value} {base : Heap}
theorem any_append_falses (n : Nat) (bs : List Bool) : (List.replicate n false ++ bs).any id = bs.any id := by
  rw [List.any_append, any_falses, Bool.false_or]
/-- the names keep the rules -/
structure OkN (m : Nat) (xs : List Str) : Prop where
  pos : 1 ≤ xs.length
  le : xs.length ≤ m
  nd : xs.Nodup
  w : ∀ x ∈ xs, NameW x
def sp_checkB (K : PySem.W.Frag) (CB : Addr) : Sp := fun vs H _ E => ∃ (a : Addr) (xs : List Str) (m : Nat), vs = [.ref a, .int (m : Nat)] ∧ SqL K H a (xs.map V.str) ∧ xs.length ≤ 100 ∧ (∀ x ∈ xs, x.length ≤ 100) ∧ ¬ OkN m xs ∧ ∀ H', Same H H' → E (.ref CB) none H'
theorem ok_checkB (T : Tx K mg W_) : FnOk PL w K mg base (L2.CX PL w) 1 T.a_check_names T.d_check_names ["names", "most"] (sp_checkB K T.a_BadLattice) := by
  refine T.F_check_names.okX sc_check_names (fun vs H Q E h => ?_) (fun cdv A outer s H vs Q E hr h => ?_)
  · obtain ⟨a, xs, m, rfl, _⟩ := h
    rfl
  obtain ⟨a, xs, m, rfl, ha, xl, xw, bad, qe⟩ := h
  refine ⟨_, pss_cons (ps_if (pt_not (pt_chain op_le op_le pe_int (pe_callB call_len_seq (by rfl) T.n_len (by decide +kernel) (pa_cons (pv 0) pa_nil)) (pv 1))) (pss_one (ps_raise rfl (takes_of rfl rfl rfl rfl) (pmk_own PySem.F.excBase_ValueError T.q_BadLattice T.g_BadLattice T.r_BadLattice.2.2 (raises_own T.r_BadLattice.1 T.r_BadLattice.2.1) (by rfl)))) pss_nil)
    (pss_one (ps_for (passes_of rfl) rfl (pi_list (pv 0)) (pg_name (i := 2) sc_check_names.nd rfl (Or.inl rfl)) (pss_cons (ps_if (PW.pt (pw_or (pt_not (pt_chain op_le op_le pe_int (pe_callB call_len_str (by rfl) T.n_len (by decide +kernel) (pa_cons (pv 2) pa_nil)) pe_int)) (pw_or1 (pt_cmpR op_gt (pe_bm PySem.F.plainAttrs_list PySem.F.slot_list_count PySem.F.type_list_count mt_countF (pv 0) (pa_cons (pv 2) pa_nil)) pe_int (nomark _))))) (pss_one (ps_raise rfl (takes_of rfl rfl rfl rfl) (pmk_own PySem.F.excBase_ValueError T.q_BadLattice T.g_BadLattice T.r_BadLattice.2.2 (raises_own T.r_BadLattice.1 T.r_BadLattice.2.1) (by rfl)))) pss_nil)
    (pss_one (ps_if (pt_val (pe_callB (cr_any rfl) (by rfl) T.n_any (by decide +kernel) (pa_cons (pe_lc (own := [("letter", 3)]) (g := gName 3) (tt := tYes) rfl sc_check_names.nd (pi_str (pv 2)) (blkOk_by (N := N_check_names) (sc := defScope St_check_names) (by decide +kernel)) (fun _ _ _ _ _ => (pg_name (i := 3) sc_check_names.nd rfl (Or.inl rfl))) (fun _ _ _ _ _ => pts_nil) (fun _ _ _ _ _ => (pe_cmpR op_notIn_sign (pv 3) (pe_glob (v := .str "abcdefghijklmnopqrstuvwxyz0123456789") (by rfl) T.g_LETTERS.choose_spec ⟨_, rfl⟩) rfl))) pa_nil))) (pss_one (ps_raise rfl (takes_of rfl rfl rfl rfl) (pmk_own PySem.F.excBase_ValueError T.q_BadLattice T.g_BadLattice T.r_BadLattice.2.2 (raises_own T.r_BadLattice.1 T.r_BadLattice.2.1) (by rfl)))) pss_nil))))), ?_⟩
  refine ⟨_, rfl, a, _, rfl, .inl ha, _, _, rfl, rfl, _, rfl, ?_⟩
  rw [List.length_map]
  by_cases c1 : 1 ≤ xs.length
  · refine iteY (by omega) ?_
    refine ⟨_, rfl, _, _, rfl, rfl, _, rfl, ?_⟩
    by_cases c2 : xs.length ≤ m
    · rw [decide_eq_true (by omega : (xs.length : Int) ≤ m)]
      refine iteF ?_
      refine ⟨_, rfl, a, rfl, ⟨_, ha⟩, for_list (K := K) (a := a) (xs := xs.map V.str) (fun i σ H2 => ∃ v2 v3, σ = [some (.ref a), some (.int (m : Nat)), v2, v3] ∧ Same H H2 ∧ ∀ j x, j < i → xs[j]? = some x → NameW x ∧ xs.count x ≤ 1) ⟨_, _, rfl, Same.refl _, fun j x hj => absurd hj (Nat.not_lt_zero _)⟩ (fun i σ H2 _ ⟨_, _, _, s, _⟩ => s.seq ha) ?_ ?_⟩
      · rintro i x σ H2 hx ⟨v2, v3, rfl, s2, ok⟩
        rw [List.getElem?_map] at hx
        obtain ⟨y, hy, rfl⟩ := Option.map_eq_some_iff.mp hx
        have ym := List.mem_of_getElem? hy
        have yl := xw y ym
        have qe' : ∀ H', Same H2 H' → E (.ref T.a_BadLattice) none H' := fun H' s => qe H' (s2.trans s)
        have next : NameW y → xs.count y ≤ 1 → ∀ j x, j < i + 1 → xs[j]? = some x → NameW x ∧ xs.count x ≤ 1 := fun w c j x hj hx' => by
          rcases Nat.lt_or_ge j i with h | h
          · exact ok j x h hx'
          · obtain rfl : j = i := by omega
            obtain rfl : y = x := Option.some.inj (hy.symm.trans hx')
            exact ⟨w, c⟩
        refine ⟨_, rfl, _, rfl, small_line (by omega), _, _, rfl, rfl, _, rfl, ?_⟩
        by_cases d1 : 1 ≤ y.length
        · refine iteY (by omega) ?_
          refine ⟨_, _, rfl, rfl, _, rfl, ?_⟩
          by_cases d2 : y.length ≤ 12
          · rw [decide_eq_true (by omega : (y.length : Int) ≤ 12)]
            refine iteF ?_
            refine ⟨_, rfl, .inl ⟨rfl, _, s2.seq ha⟩, _, rfl, a, _, _, rfl, rfl, s2.seq ha, rfl, flat_strs _, _, _, rfl, rfl, _, rfl, ?_⟩
            rw [count_strs]
            by_cases c : xs.count y ≤ 1
            · refine iteN (by omega) ?_
              refine ⟨_, rfl, _, rfl, fun D hD => ?_⟩
              refine lc_fold walk_str hD (fun i _ ys => i ≤ y.cps.size ∧ ys = ((y.cps.toList.take i).map fun c => !decide (c ∈ lettersS.cps.toList)).map V.bl) (fun _ => ⟨Nat.zero_le _, rfl⟩) (fun i _ _ xs _ h => h) ?_ (fun _ _ => trivial) ?_ ?_
              · rintro i _ ys ⟨hi, rfl⟩
                rw [List.length_map, List.length_map, List.length_take]
                have : y.cps.size = y.length := rfl
                omega
              · rintro i x H3 H4 ys Nx Ex hi s3 ⟨_, rfl⟩ ⟨rfl, c, hc, rfl⟩ k1 k2
                refine ⟨rfl, ?_⟩
                refine lcY ?_
                refine ⟨_, rfl, c, lettersS, rfl, rfl, k1 _ _ (Same.refl _) ⟨hi, ?_⟩⟩
                rw [take_snoc (show y.cps.toList[i]? = some c by rw [Array.getElem?_toList]; exact hc), List.map_append, List.map_append]
                rfl
              · rintro H3 ys s3 h3 ⟨_, rfl⟩
                refine ⟨D, (y.cps.toList.take y.cps.size).map fun c => !decide (c ∈ lettersS.cps.toList), rfl, SqL.of (K := K) h3, _, rfl, ?_⟩
                rw [List.take_of_length_le (by rw [Array.length_toList]; exact Nat.le_refl _)]
                by_cases d3 : ∀ c ∈ y.cps.toList, c ∈ lettersS.cps.toList
                · have e : (y.cps.toList.map fun c => !decide (c ∈ lettersS.cps.toList)).any id = false := by
                    rw [List.any_eq_false]
                    intro b hb
                    obtain ⟨c, hc, rfl⟩ := List.mem_map.mp hb
                    simp [d3 c hc]
                  rw [e]
                  exact iteF ⟨_, _, rfl, s2.trans s3, next ⟨d1, d2, d3⟩ c⟩
                · have e : (y.cps.toList.map fun c => !decide (c ∈ lettersS.cps.toList)).any id = true := by
                    rw [List.any_eq_true]
                    refine Classical.byContradiction fun z => d3 fun c hc => Classical.byContradiction fun z2 => z ⟨true, List.mem_map.mpr ⟨c, hc, by simp [z2]⟩, rfl⟩
                  rw [e]
                  exact iteT (qe' _ s3)
            · exact iteY (by omega) (qe' _ (Same.refl _))
          · rw [decide_eq_false (by omega : ¬ (y.length : Int) ≤ 12)]
            exact iteT (qe' _ (Same.refl _))
        · refine iteN (by omega) ?_
          exact ⟨_, rfl, iteT (qe' _ (Same.refl _))⟩
      · rintro σ H2 ⟨v2, v3, rfl, s2, ok⟩
        refine absurd ⟨c1, c2, ?_, fun x hx => ?_⟩ bad
        · refine List.nodup_iff_count.mpr fun x => ?_
          by_cases hx : x ∈ xs
          · obtain ⟨j, hj⟩ := List.getElem?_of_mem hx
            have := (List.getElem?_eq_some_iff.mp hj).1
            exact (ok j x (by rw [List.length_map]; exact this) hj).2
          · rw [List.count_eq_zero_of_not_mem hx]; exact Nat.zero_le _
        · obtain ⟨j, hj⟩ := List.getElem?_of_mem hx
          have := (List.getElem?_eq_some_iff.mp hj).1
          exact (ok j x (by rw [List.length_map]; exact this) hj).1
    · rw [decide_eq_false (by omega : ¬ (xs.length : Int) ≤ m)]
      exact iteT (qe H (Same.refl _))
  · refine iteN (by omega) ?_
    exact ⟨_, rfl, iteT (qe H (Same.refl _))⟩
theorem inV_yes {x : Str} {xs : List Str} (h : x ∈ xs) : (if true = true then !inV (.str x) (xs.map V.str) else inV (.str x) (xs.map V.str)) = false := by
  show (!inV (.str x) (xs.map V.str)) = false
  rw [inV_strs, decide_eq_true h]; rfl
theorem inV_no {x : Str} {xs : List Str} (h : x ∉ xs) : (if true = true then !inV (.str x) (xs.map V.str) else inV (.str x) (xs.map V.str)) = true := by
  show (!inV (.str x) (xs.map V.str)) = true
  rw [inV_strs, decide_eq_false h]; rfl
/-- pairs of strings -/
def StrPs (K : PySem.W.Frag) (H : Hp) (b : Addr) (qs : List (Str × Str)) : Prop := ∃ vs : List V, SqL K H b vs ∧ vs.length = qs.length ∧ ∀ (i : Nat) (q : Str × Str), qs[i]? = some q → ∃ t : Addr, vs[i]? = some (.ref t) ∧ SqT K H t [.str q.1, .str q.2]
theorem StrPs.same {H H' : Hp} {b : Addr} {qs : List (Str × Str)} (h : StrPs K H b qs) (s : Same H H') : StrPs K H' b qs := by
  obtain ⟨vs, h1, h2, h3⟩ := h
  refine ⟨vs, s.seq h1, h2, fun i q hq => ?_⟩
  obtain ⟨t, a1, a2⟩ := h3 i q hq
  exact ⟨t, a1, s.keeps.sqT a2⟩
/-- all names of the pairs are there -/
def Known (xs : List Str) (qs : List (Str × Str)) : Prop := ∀ q ∈ qs, q.1 ∈ xs ∧ q.2 ∈ xs
def idxs (xs : List Str) (qs : List (Str × Str)) : List (Nat × Nat) := qs.map fun q => (xs.idxOf q.1, xs.idxOf q.2)
theorem idx_get {xs : List Str} {x : Str} (h : x ∈ xs) : xs[xs.idxOf x]? = some x := by
  have := List.idxOf_lt_length_of_mem h
  rw [List.getElem?_eq_getElem this, List.getElem_idxOf this]
theorem StrPs.pairs {H : Hp} {b : Addr} {xs : List Str} {qs : List (Str × Str)} (h : StrPs K H b qs) (k : Known xs qs) : PairsAt K H b xs (idxs xs qs) := by
  obtain ⟨vs, h1, h2, h3⟩ := h
  refine ⟨vs, h1, by unfold idxs; rw [List.length_map, h2], fun i q hq => ?_⟩
  unfold idxs at hq
  rw [List.getElem?_map] at hq
  obtain ⟨r, hr, rfl⟩ := Option.map_eq_some_iff.mp hq
  obtain ⟨t, a1, a2⟩ := h3 i r hr
  have kk := k r (List.mem_of_getElem? hr)
  exact ⟨t, r.1, r.2, a1, a2, idx_get kk.1, idx_get kk.2⟩
def sp_closedB (K : PySem.W.Frag) (CB : Addr) : Sp := fun vs H _ E => ∃ (a b : Addr) (xs : List Str) (qs : List (Str × Str)), vs = [.ref a, .ref b] ∧ SqL K H a (xs.map V.str) ∧ StrPs K H b qs ∧ ¬ Known xs qs ∧ ∀ H', Same H H' → E (.ref CB) none H'
theorem ok_closedB (T : Tx K mg W_) : FnOk PL w K mg base (L2.CX PL w) 1 T.a_closed_downs T.d_closed_downs ["names", "pairs"] (sp_closedB K T.a_BadLattice) := by
  refine T.F_closed_downs.okX sc_closed_downs (fun vs H Q E h => ?_) (fun cdv A outer s H vs Q E hr h => ?_)
  · obtain ⟨a, b, xs, qs, rfl, _⟩ := h
    rfl
  obtain ⟨a, b, xs, qs, rfl, ha, ⟨vs, h1, h2, h3⟩, bad, qe⟩ := h
  refine ⟨_, pss_cons (ps_for (passes_of rfl) rfl (pi_list (pv 1)) (pg_tup rfl (pgs_cons (pg_name (i := 2) sc_closed_downs.nd rfl (Or.inl rfl)) (pgs_cons (pg_name (i := 3) sc_closed_downs.nd rfl (Or.inl rfl)) pgs_nil))) (pss_one (ps_if (PW.pt (pw_or (pt_cmpR op_notIn_seq (pv 2) (pv 0) (by rfl)) (pw_or1 (pt_cmpR op_notIn_seq (pv 3) (pv 0) (by rfl))))) (pss_one (ps_raise rfl (takes_of rfl rfl rfl rfl) (pmk_own PySem.F.excBase_ValueError T.q_BadLattice T.g_BadLattice T.r_BadLattice.2.2 (raises_own T.r_BadLattice.1 T.r_BadLattice.2.1) (by rfl)))) pss_nil)))
    (pss_cons (ps_setLc (i := 4) (own := [("place", 5)]) (g := gName 5) (tt := tYes) rfl sc_closed_downs.nd rfl rfl (sw_true rfl rfl rfl (by decide +kernel)) (pi_range1 (by rfl) T.n_range (pa_cons (pe_callB call_len_seq (by rfl) T.n_len (by decide +kernel) (pa_cons (pv 0) pa_nil)) pa_nil)) (blkOk_by (N := N_closed_downs) (sc := defScope St_closed_downs) (by decide +kernel)) (fun _ _ _ _ _ => (pg_name (i := 5) sc_closed_downs.nd rfl (Or.inl rfl))) (fun _ _ _ _ _ => pts_nil) (fun _ _ _ _ _ => (pe_op op_shl pe_int (pv 5))))
    (pss_cons (ps_set (i := 6) sc_closed_downs.nd rfl (Or.inl rfl) pe_bl)
    (pss_cons (ps_while (passes_of rfl) (pt_val (pv 6)) (pss_cons (ps_set (i := 6) sc_closed_downs.nd rfl (Or.inl rfl) pe_bl)
    (pss_one (ps_for (passes_of rfl) rfl (pi_list (pv 1)) (pg_tup rfl (pgs_cons (pg_name (i := 2) sc_closed_downs.nd rfl (Or.inl rfl)) (pgs_cons (pg_name (i := 3) sc_closed_downs.nd rfl (Or.inl rfl)) pgs_nil))) (pss_cons (ps_set (i := 7) sc_closed_downs.nd rfl (Or.inl rfl) (pe_op op_or (pe_ix ix_list (pv 4) (pe_bm PySem.F.plainAttrs_list PySem.F.slot_list_index PySem.F.type_list_index mt_index (pv 0) (pa_cons (pv 3) pa_nil)) (fun _ _ => rfl)) (pe_ix ix_list (pv 4) (pe_bm PySem.F.plainAttrs_list PySem.F.slot_list_index PySem.F.type_list_index mt_index (pv 0) (pa_cons (pv 2) pa_nil)) (fun _ _ => rfl))))
    (pss_one (ps_if (pt_cmpR op_ne (pv 7) (pe_ix ix_list (pv 4) (pe_bm PySem.F.plainAttrs_list PySem.F.slot_list_index PySem.F.type_list_index mt_index (pv 0) (pa_cons (pv 3) pa_nil)) (fun _ _ => rfl)) (nomark _)) (pss_cons (ps_asg (pv 7) (pg_sub (pv 4) (pe_bm PySem.F.plainAttrs_list PySem.F.slot_list_index PySem.F.type_list_index mt_index (pv 0) (pa_cons (pv 3) pa_nil)) set_list))
    (pss_one (ps_set (i := 6) sc_closed_downs.nd rfl (Or.inl rfl) pe_bl))) pss_nil)))))))
    (pss_one (ps_ret (pv 4)))))), ?_⟩
  refine ⟨_, rfl, b, rfl, ⟨_, h1⟩, for_list (K := K) (a := b) (xs := vs) (fun i σ H2 => (∃ v2 v3, σ = [some (.ref a), some (.ref b), v2, v3, none, none, none, none]) ∧ Same H H2 ∧ ∀ j q, j < i → qs[j]? = some q → q.1 ∈ xs ∧ q.2 ∈ xs) ⟨⟨_, _, rfl⟩, Same.refl _, fun j q hj => absurd hj (Nat.not_lt_zero _)⟩ (fun i σ H2 _ ⟨_, s, _⟩ => s.seq h1) ?_ ?_⟩
  · rintro i x σ H2 hx ⟨⟨v2, v3, rfl⟩, s2, ok⟩
    have hi := (List.getElem?_eq_some_iff.mp hx).1
    rw [h2] at hi
    obtain ⟨t, e1, e2⟩ := h3 i qs[i] (List.getElem?_eq_getElem hi)
    rw [hx] at e1
    cases e1
    generalize hq : qs[i] = q at e2
    have hq : qs[i]? = some q := by rw [List.getElem?_eq_getElem hi, hq]
    refine ⟨t, _, rfl, s2.keeps.sqT e2, rfl, _, _, rfl, _, _, rfl, ⟨rfl, ?_⟩⟩
    refine ⟨_, rfl, _, rfl, a, _, rfl, .inl (s2.seq ha), rfl, flat_strs _, _, rfl, ?_⟩
    by_cases c1 : q.1 ∈ xs
    · rw [inV_yes c1]
      refine iteF ?_
      refine ⟨_, rfl, _, rfl, a, _, rfl, .inl (s2.seq ha), rfl, flat_strs _, _, rfl, ?_⟩
      by_cases c2 : q.2 ∈ xs
      · rw [inV_yes c2]
        refine iteF ⟨⟨_, _, rfl⟩, s2, fun j r hj hr' => ?_⟩
        rcases Nat.lt_or_ge j i with h | h
        · exact ok j r h hr'
        · obtain rfl : j = i := by omega
          obtain rfl : q = r := Option.some.inj (hq.symm.trans hr')
          exact ⟨c1, c2⟩
      · rw [inV_no c2]
        exact iteT (qe _ s2)
    · rw [inV_no c1]
      exact iteT (qe _ s2)
  · rintro σ H2 ⟨_, s2, ok⟩
    refine absurd (fun q hq => ?_) bad
    obtain ⟨j, hj⟩ := List.getElem?_of_mem hq
    have := (List.getElem?_eq_some_iff.mp hj).1
    exact ok j q (by rw [h2]; exact this) hj
end
/-! ### orders and down-sets that can't be made -/
section
open PyProof.Rows
variable {w W_ : World} {K : PySem.W.Frag} {mg : Str → Option Value} {base : Heap} {mm : List (Str × Addr)} {C CB : Addr} {H : Hp} {Q : VK} {E : XK}
theorem two_mem {xs : List Nat} {a b : Nat} (ha : a ∈ xs) (hb : b ∈ xs) (ne : a ≠ b) : 1 < xs.length := by
  match xs, ha, hb with
  | [x], ha, hb => exact absurd ((List.mem_singleton.mp ha).trans (List.mem_singleton.mp hb).symm) ne
  | _ :: _ :: _, _, _ => simp
def sp_orderB (K : PySem.W.Frag) (C CB : Addr) : Sp := fun vs H _ E => ∃ (p dx a b : Addr) (xs : List Str) (qs : List (Str × Str)), vs = [.ref p, .ref a, .ref b] ∧ H p = some (.ins C dx []) ∧ SqL K H a (xs.map V.str) ∧ StrPs K H b qs ∧ xs.length ≤ 100 ∧ (∀ x ∈ xs, x.length ≤ 100) ∧ ¬ (OkN 16 xs ∧ Known xs qs) ∧ ∀ H', Same H H' → E (.ref CB) none H'
theorem ok_orderB (T : Tx K mg W_) : FnOk PL w K mg base (L2.CX PL w) 3 T.a_OrderLattice_init T.d_OrderLattice_init ["self", "names", "pairs"] (sp_orderB K T.a_OrderLattice T.a_BadLattice) := by
  have G_Lattice_init := ok_lat_init (P := PL) (w := w) (base := base) T
  have GX_check_names := (ok_check (P := PL) (w := w) (base := base) T).or0 (ok_checkB (w := w) (base := base) T) (Nat.le_refl _)
  have GX_closed_downs := (ok_closed (P := PL) (w := w) (base := base) T).or0 (ok_closedB (w := w) (base := base) T) (Nat.le_refl _)
  have G_pair_words := ok_pwords (P := PL) (w := w) (base := base) T
  obtain ⟨u4, B4⟩ := T.b4_Lattice_init
  refine T.F_OrderLattice_init.ok sc_OrderLattice_init (by rfl) (by rfl) (by rfl) ⟨_, rfl, rfl⟩ (by decide +kernel) T.ci_OrderLattice T.n_super T.st_any (fun vs H Q E h => ?_) (fun cda cc A outer s H vs Q E hr S h => ?_)
  · obtain ⟨p, dx, a, b, xs, qs, rfl, _⟩ := h
    rfl
  obtain ⟨p, dx, a, b, xs, qs, rfl, hp, ha, hb, xl, xw, bad, qe⟩ := h
  refine ⟨_, psa_cons (ps_expr (pe_callS GX_check_names (hr.mono (by omega)) (by rfl) T.g_check_names T.F_check_names.kp T.b_check_names (fun σ => passAt (takes_of rfl rfl rfl rfl) σ) (pa_cons (pv 1) (pa_cons pe_int pa_nil))))
    (psa_cons (ps_set (i := 3) sc_OrderLattice_init.nd rfl (Or.inl rfl) (pe_callS GX_closed_downs (hr.mono (by omega)) (by rfl) T.g_closed_downs T.F_closed_downs.kp T.b_closed_downs (fun σ => passAt (takes_of rfl rfl rfl rfl) σ) (pa_cons (pv 1) (pa_cons (pv 2) pa_nil))))
    (psa_super (dvs := [.int 1]) S rfl (pa_cons (pe_joinedT (.cons pe_str (.cons (pe_fmt (pe_join pe_str (pv 1))) (.cons pe_str (.cons (pe_fmt (pe_call G_pair_words (hr.mono (by omega)) (by rfl) T.g_pair_words T.F_pair_words.kp T.b_pair_words .nil pass0 (pa_cons (pv 2) pa_nil))) (.cons pe_str PJ.nil)))))) (pa_cons (pv 1) (pa_cons (pv 3) pa_nil))) G_Lattice_init (hr.mono (by omega)) B4 (.cons ⟨_, rfl⟩ .nil) pass0 T.ty_Lattice T.fi_Lattice (by decide) rfl rfl rfl rfl rfl (psa_any pss_nil))), ?_⟩
  by_cases c1 : OkN 16 xs
  · refine ⟨_, rfl, .inl ⟨a, xs, 16, rfl, ha, c1.pos, c1.le, c1.nd, c1.w, fun H1 s1 => ?_⟩⟩
    exact ⟨_, rfl, _, rfl, .inr ⟨a, b, xs, qs, rfl, s1.seq ha, hb.same s1, fun k => bad ⟨c1, k⟩, fun H2 s2 => qe H2 (s1.trans s2)⟩⟩
  · exact ⟨_, rfl, .inr ⟨a, xs, 16, rfl, ha, xl, xw, c1, qe⟩⟩
theorem mk_orderB {a b : Addr} {xs : List Str} {qs : List (Str × Str)} (ha : SqL K H a (xs.map V.str)) (hb : StrPs K H b qs) (xl : xs.length ≤ 100) (xw : ∀ x ∈ xs, x.length ≤ 100) (bad : ¬ (OkN 16 xs ∧ Known xs qs)) {x dx : Addr} (hx : H x = none) (hd : H dx = none) (qe : ∀ H2, Same H H2 → E (.ref CB) none H2) :
    sp_orderB K C CB [.ref x, .ref a, .ref b] (upd (upd H dx (.own x)) x (.ins C dx [])) Q E :=
  ⟨x, dx, a, b, xs, qs, rfl, upd_same, (in_same2 hx hd).seq ha, hb.same (in_same2 hx hd), xl, xw, bad, fun H' s => qe H' ((in_same2 hx hd).trans s)⟩
def sp_downB (K : PySem.W.Frag) (C CB : Addr) : Sp := fun vs H _ E => ∃ (p dx a b : Addr) (xs : List Str) (qs : List (Str × Str)), vs = [.ref p, .ref a, .ref b] ∧ H p = some (.ins C dx []) ∧ SqL K H a (xs.map V.str) ∧ StrPs K H b qs ∧ qs.length ≤ 1000 ∧ xs.length ≤ 100 ∧ (∀ x ∈ xs, x.length ≤ 100) ∧ ¬ (OkN 6 xs ∧ Known xs qs ∧ Anti xs.length (idxs xs qs)) ∧ ∀ H', Same H H' → E (.ref CB) none H'
theorem ok_downB (T : Tx K mg W_) : FnOk PL w K mg base (L2.CX PL w) 3 T.a_DownLattice_init T.d_DownLattice_init ["self", "names", "pairs"] (sp_downB K T.a_DownLattice T.a_BadLattice) := by
  have G_Lattice_init := ok_lat_init (P := PL) (w := w) (base := base) T
  have GX_check_names := (ok_check (P := PL) (w := w) (base := base) T).or0 (ok_checkB (w := w) (base := base) T) (Nat.le_refl _)
  have GX_closed_downs := (ok_closed (P := PL) (w := w) (base := base) T).or0 (ok_closedB (w := w) (base := base) T) (Nat.le_refl _)
  have G_pair_words := ok_pwords (P := PL) (w := w) (base := base) T
  have G_parts_among := ok_parts (P := PL) (w := w) (base := base) T
  obtain ⟨u4, B4⟩ := T.b4_Lattice_init
  refine T.F_DownLattice_init.ok sc_DownLattice_init (by rfl) (by rfl) (by rfl) ⟨_, rfl, rfl⟩ (by decide +kernel) T.ci_DownLattice T.n_super T.st_any (fun vs H Q E h => ?_) (fun cda cc A outer s H vs Q E hr S h => ?_)
  · obtain ⟨p, dx, a, b, xs, qs, rfl, _⟩ := h
    rfl
  obtain ⟨p, dx, a, b, xs, qs, rfl, hp, ha, hb, ql, xl, xw, bad, qe⟩ := h
  refine ⟨_, psa_cons (ps_expr (pe_callS GX_check_names (hr.mono (by omega)) (by rfl) T.g_check_names T.F_check_names.kp T.b_check_names (fun σ => passAt (takes_of rfl rfl rfl rfl) σ) (pa_cons (pv 1) (pa_cons pe_int pa_nil))))
    (psa_cons (ps_set (i := 3) sc_DownLattice_init.nd rfl (Or.inr rfl) (pe_callS GX_closed_downs (hr.mono (by omega)) (by rfl) T.g_closed_downs T.F_closed_downs.kp T.b_closed_downs (fun σ => passAt (takes_of rfl rfl rfl rfl) σ) (pa_cons (pv 1) (pa_cons (pv 2) pa_nil))))
    (psa_cons (ps_set (i := 4) sc_DownLattice_init.nd rfl (Or.inr rfl) (pe_listRg rfl (by rfl) T.n_list (prg_1 (by rfl) T.n_range (pe_callB call_len_seq (by rfl) T.n_len (by decide +kernel) (pa_cons (pv 1) pa_nil)))))
    (psa_cons (ps_if (pt_val (pe_callB (cr_any rfl) (by rfl) T.n_any (by decide +kernel) (pa_cons (pe_lc (own := [("row", 5)]) (g := gName 5) (tt := tYes) rfl sc_DownLattice_init.nd (pi_list (pv 3)) (blkOk_by (N := N_DownLattice_init) (sc := defScope St_DownLattice_init) (by decide +kernel)) (fun _ _ _ _ _ => (pg_name (i := 5) sc_DownLattice_init.nd rfl (Or.inl rfl))) (fun _ _ _ _ _ => pts_nil) (fun _ _ _ _ _ => (pe_cmpR op_gt (kx_bm K (pe_bm PySem.F.plainAttrs_list PySem.F.slot_list_count PySem.F.type_list_count (kx_mt_countF K) (pv 3) (pa_cons (pv 5) pa_nil))) pe_int (nomark _)))) pa_nil))) (pss_one (ps_raise rfl (takes_of rfl rfl rfl rfl) (pmk_own PySem.F.excBase_ValueError T.q_BadLattice T.g_BadLattice T.r_BadLattice.2.2 (raises_own T.r_BadLattice.1 T.r_BadLattice.2.1) (by rfl)))) pss_nil)
    (psa_cons (ps_set (i := 6) sc_DownLattice_init.nd rfl (Or.inr rfl) (pe_lst pa_nil))
    (psa_cons (ps_for (passes_of rfl) rfl (pi_range1 (by rfl) T.n_range (pa_cons (pe_op op_shl pe_int (pe_callB call_len_seq (by rfl) T.n_len (by decide +kernel) (pa_cons (pv 1) pa_nil))) pa_nil)) (pg_name (i := 7) sc_DownLattice_init.nd rfl (Or.inr rfl)) (pss_one (ps_if (pt_val (pe_callB (cr_all rfl) (by rfl) T.n_all (by decide +kernel) (pa_cons (pe_lc (own := [("place", 8)]) (g := gName 8) rfl sc_DownLattice_init.nd (pi_list (pv 4)) (blkOk_by (N := N_DownLattice_init) (sc := defScope St_DownLattice_init) (by decide +kernel)) (fun _ _ _ _ _ => (pg_name (i := 8) sc_DownLattice_init.nd rfl (Or.inl rfl))) (fun _ _ _ _ _ => (pts_one (pt_cmpR op_eq (pe_op op_and (pe_op op_shr (pv 7) (pv 8)) pe_int) pe_int (nomark _)))) (fun _ _ _ _ _ => (pe_cmpR op_eq (pe_op op_and (pe_ix (kx_ix_list K) (pv 3) (pv 8) (fun _ _ => rfl)) (pe_un un_inv (pv 7))) pe_int (nomark _)))) pa_nil))) (pss_one (ps_expr (pe_bm PySem.F.plainAttrs_list PySem.F.slot_list_append PySem.F.type_list_append mt_append (pv 6) (pa_cons (pv 7) pa_nil)))) pss_nil)))
    (psa_cons (ps_setLc (i := 9) (own := [("heap", 10)]) (g := gName 10) (tt := tYes) rfl sc_DownLattice_init.nd rfl rfl (sw_true rfl rfl rfl (by decide +kernel)) (pi_list (pv 6)) (blkOk_by (N := N_DownLattice_init) (sc := defScope St_DownLattice_init) (by decide +kernel)) (fun _ _ _ _ _ => (pg_name (i := 10) sc_DownLattice_init.nd rfl (Or.inr rfl))) (fun _ _ _ _ _ => pts_nil) (fun _ _ _ _ _ => (kx_pe_join K (pe_join pe_str (pe_lc (own := [("place", 8)]) (g := gName 8) rfl sc_DownLattice_init.nd (kx_pi_list K (pi_list (pv 4))) (blkOk_by (N := N_DownLattice_init) (by first | rfl | kernel_rfl)) (fun _ _ _ _ _ => (pg_name (i := 8) sc_DownLattice_init.nd rfl (Or.inl rfl))) (fun _ _ _ _ _ => (pts_one (pt_cmpR op_eq (pe_op op_and (pe_op op_shr (pv 10) (pv 8)) pe_int) pe_int (nomark _)))) (fun _ _ _ _ _ => (pe_ix (kx_ix_list K) (pv 1) (pv 8) (fun _ _ => rfl))))))))
    (psa_cons (ps_set (i := 11) sc_DownLattice_init.nd rfl (Or.inl rfl) (pe_joinedT (.cons pe_str (.cons (pe_fmt (pe_join pe_str (pv 1))) (.cons pe_str (.cons (pe_fmt (pe_call G_pair_words (hr.mono (by omega)) (by rfl) T.g_pair_words T.F_pair_words.kp T.b_pair_words .nil pass0 (pa_cons (pv 2) pa_nil))) (.cons pe_str PJ.nil)))))))
    (psa_super (dvs := [.int 1]) S rfl (pa_cons (pv 11) (pa_cons (pe_lc (own := [("word", 12)]) (g := gName 12) (tt := tYes) rfl sc_DownLattice_init.nd (pi_list (pv 9)) (blkOk_by (N := N_DownLattice_init) (sc := defScope St_DownLattice_init) (by decide +kernel)) (fun _ _ _ _ _ => (pg_name (i := 12) sc_DownLattice_init.nd rfl (Or.inl rfl))) (fun _ _ _ _ _ => pts_nil) (fun _ _ _ _ _ => (pe_op op_add_str (pe_op op_add_str pe_str (pv 12)) pe_str))) (pa_cons (pe_lc (own := [("heap", 10)]) (g := gName 10) (tt := tYes) rfl sc_DownLattice_init.nd (pi_list (pv 6)) (blkOk_by (N := N_DownLattice_init) (sc := defScope St_DownLattice_init) (by decide +kernel)) (fun _ _ _ _ _ => (pg_name (i := 10) sc_DownLattice_init.nd rfl (Or.inl rfl))) (fun _ _ _ _ _ => pts_nil) (fun _ _ _ _ _ => (pe_call G_parts_among (hr.mono (by omega)) (by rfl) T.g_parts_among T.F_parts_among.kp T.b_parts_among .nil pass0 (pa_cons (pv 6) (pa_cons (pv 10) pa_nil))))) pa_nil))) G_Lattice_init (hr.mono (by omega)) B4 (.cons ⟨_, rfl⟩ .nil) pass0 T.ty_Lattice T.fi_Lattice (by decide) rfl rfl rfl rfl rfl (psa_any pss_nil))))))))), ?_⟩
  by_cases c1 : OkN 6 xs
  · have n6 := c1.le
    refine ⟨_, rfl, .inl ⟨a, xs, 6, rfl, ha, c1.pos, c1.le, c1.nd, c1.w, fun H1 s1 => ?_⟩⟩
    by_cases c2 : Known xs qs
    · refine ⟨_, rfl, _, rfl, .inl ⟨a, b, xs, idxs xs qs, rfl, s1.seq ha, (hb.pairs c2).same s1, c1.nd, by omega, by unfold idxs; rw [List.length_map]; exact ql, fun l H2 s2 hl h2 => ?_⟩⟩
      generalize hps : idxs xs qs = ps at h2
      have anti : ¬ Anti xs.length ps := fun an => bad ⟨c1, c2, by rw [hps]; exact an⟩
      have s02 := s1.trans s2
      have ha2 := s02.seq ha
      refine ⟨_, rfl, a, _, rfl, .inl ha2, ?_⟩
      rw [List.length_map]
      refine ⟨_, rfl, RgOk.of_le (by decide) (by omega) (by decide) (by omega), newQ (.lst (rgV 0 (xs.length : Nat))) fun pl hpl s3 h3 => ?_⟩
      rw [rg_nat] at s3 h3
      rw [rg_nat]
      generalize upd H2 pl (.lst (natV (List.range xs.length))) = H3 at s3 h3 ⊢
      have h23 := s3 _ _ h2
      have s03 := s02.trans s3
      have em : maskV xs.length (fun b a => reachB ps a b) = (List.range xs.length).map fun b => V.int (dn xs.length ps b : Nat) := rfl
      rw [em] at h23
      have hl3 : SqL K H3 l _ := SqL.of (K := K) h23
      refine ⟨_, rfl, l, rfl, ⟨_, hl3⟩, fun D hD => ?_⟩
      refine lc_fold (walk_list (K := K) (a := l) (xs := (List.range xs.length).map fun b => V.int (dn xs.length ps b : Nat))) hD (fun i _ ys => i ≤ xs.length ∧ ys = ((List.range i).map fun b => decide (1 < (List.range xs.length).countP fun c => dn xs.length ps c == dn xs.length ps b)).map V.bl) (fun _ => ⟨Nat.zero_le _, rfl⟩) (fun i _ _ xs _ h => h) ?_ (fun H9 s9 => s9.seq hl3) ?_ ?_
      · rintro i _ ys ⟨hi, rfl⟩
        rw [List.length_map, List.length_map, List.length_range]; omega
      · rintro i x H4 H5 ys Nx Ex hi s4 ⟨_, rfl⟩ ⟨rfl, ex⟩ k1 k2
        obtain ⟨hi, rfl⟩ := at_map' ex
        refine ⟨rfl, ?_⟩
        refine lcY ?_
        refine ⟨_, rfl, .inl ⟨rfl, _, s4.seq hl3⟩, _, rfl, l, _, _, rfl, rfl, s4.seq hl3, rfl, flat_ints _ _, _, _, rfl, rfl, k1 _ _ (Same.refl _) ⟨hi, ?_⟩⟩
        have e : ((List.range xs.length).map fun b => V.int (dn xs.length ps b : Nat)).countP (fun z => eqV z (.int (dn xs.length ps i : Nat))) = (List.range xs.length).countP fun c => dn xs.length ps c == dn xs.length ps i := by
          rw [List.countP_map]
          refine List.countP_congr fun b hb => ?_
          show eqV (.int (dn xs.length ps b : Nat)) (.int (dn xs.length ps i : Nat)) = true ↔ _
          rw [eqV_nat]
        rw [List.range_succ, List.map_append, List.map_append]
        show _ ++ [V.bl (decide ((1 : Int) < (((List.range xs.length).map fun b => V.int (dn xs.length ps b : Nat)).countP (fun z => eqV z (.int (dn xs.length ps i : Nat))) : Nat)))] = _
        rw [e]
        refine congrArg (fun z => _ ++ [V.bl z]) (decide_eq_decide.mpr ?_)
        omega
      rintro H4 ys s4 h4 ⟨_, rfl⟩
      rw [List.length_map, List.length_range] at h4
      refine ⟨D, _, rfl, SqL.of (K := K) h4, _, rfl, ?_⟩
      have e : ((List.range xs.length).map fun b => decide (1 < (List.range xs.length).countP fun c => dn xs.length ps c == dn xs.length ps b)).any id = true := by
        rw [List.any_eq_true]
        refine Classical.byContradiction fun z => anti fun a b ha hb r1 r2 => Classical.byContradiction fun ne => z ⟨true, List.mem_map.mpr ⟨a, List.mem_range.mpr ha, decide_eq_true ?_⟩, rfl⟩
        have e : dn xs.length ps a = dn xs.length ps b := mask_ext fun c hc => by
          rw [Bool.eq_iff_iff, reachB_iff, reachB_iff]
          exact ⟨fun h => h.trans r1, fun h => h.trans r2⟩
        rw [List.countP_eq_length_filter]
        refine two_mem (a := a) (b := b) (List.mem_filter.mpr ⟨List.mem_range.mpr ha, beq_self_eq_true _⟩) (List.mem_filter.mpr ⟨List.mem_range.mpr hb, beq_iff_eq.mpr e.symm⟩) ne
      rw [e]
      exact iteT (qe _ (s03.trans s4))
    · exact ⟨_, rfl, _, rfl, .inr ⟨a, b, xs, qs, rfl, s1.seq ha, hb.same s1, c2, fun H2 s2 => qe H2 (s1.trans s2)⟩⟩
  · exact ⟨_, rfl, .inr ⟨a, xs, 6, rfl, ha, xl, xw, c1, qe⟩⟩
theorem mk_downB {a b : Addr} {xs : List Str} {qs : List (Str × Str)} (ha : SqL K H a (xs.map V.str)) (hb : StrPs K H b qs) (ql : qs.length ≤ 1000) (xl : xs.length ≤ 100) (xw : ∀ x ∈ xs, x.length ≤ 100) (bad : ¬ (OkN 6 xs ∧ Known xs qs ∧ Anti xs.length (idxs xs qs))) {x dx : Addr} (hx : H x = none) (hd : H dx = none) (qe : ∀ H2, Same H H2 → E (.ref CB) none H2) :
    sp_downB K C CB [.ref x, .ref a, .ref b] (upd (upd H dx (.own x)) x (.ins C dx [])) Q E :=
  ⟨x, dx, a, b, xs, qs, rfl, upd_same, (in_same2 hx hd).seq ha, hb.same (in_same2 hx hd), ql, xl, xw, bad, fun H' s => qe H' ((in_same2 hx hd).trans s)⟩
end
/-! ### _law_right_name, _law_odd -/
section
open PyProof.Rows
variable {w W_ : World} {K : PySem.W.Frag} {mg : Str → Option Value} {base : Heap}
theorem tw_stop {g : Nat → Bool} : ∀ l : List Nat, (∃ c ∈ l, g c = false) → ∃ pre c post, l = pre ++ c :: post ∧ (l.takeWhile g).length = pre.length ∧ g c = false
  | [], h => by obtain ⟨_, h, _⟩ := h; cases h
  | x :: xs, h => by
    cases e : g x with
    | false => exact ⟨[], x, xs, rfl, by rw [List.takeWhile_cons, e]; rfl, e⟩
    | true =>
      obtain ⟨c, hc, hg⟩ := h
      rcases List.mem_cons.mp hc with z | z
      · subst z; rw [e] at hg; cases hg
      · obtain ⟨pre, d, post, h1, h2, h3⟩ := tw_stop xs ⟨c, z, hg⟩
        exact ⟨x :: pre, d, post, by rw [h1]; rfl, by rw [List.takeWhile_cons, e]; exact congrArg (· + 1) h2, h3⟩
theorem tw_le {g : Nat → Bool} {c : Nat} (h : g c = false) : ∀ l : List Nat, ((l ++ [c]).takeWhile g).length ≤ l.length
  | [] => by show (List.takeWhile g [c]).length ≤ 0; rw [List.takeWhile_cons, h]; exact Nat.le_refl _
  | x :: xs => by
    show (List.takeWhile g (x :: (xs ++ [c]))).length ≤ _
    rw [List.takeWhile_cons]
    cases g x with
    | false => exact Nat.zero_le _
    | true => exact Nat.succ_le_succ (tw_le h xs)
theorem tw_all {g : Nat → Bool} : ∀ l : List Nat, (∀ c ∈ l, g c = true) → l.takeWhile g = l
  | [], _ => rfl
  | x :: xs, h => by
    rw [List.takeWhile_cons, h x (List.mem_cons_self ..)]
    exact congrArg (x :: ·) (tw_all xs fun c hc => h c (List.mem_cons_of_mem _ hc))
theorem sub_nilG (x : Str) (i j : Nat) (h : j ≤ x.length) : (PySem.Builtin.Str.strSub x i j).length = j - i := by
  show (x.cps.extract i j).size = _
  rw [Array.size_extract]
  have : x.cps.size = x.length := rfl
  omega
theorem strip_nil_iff {x : Str} (h : 1 ≤ x.length) : PySem.Txt.stripChars x lettersS = ("" : Str) ↔ ∀ c ∈ x.cps.toList, c ∈ lettersS.cps.toList := by
  have gl : ∀ c, lettersS.cps.contains c = true ↔ c ∈ lettersS.cps.toList := fun c => by rw [Array.contains_iff_mem, Array.mem_toList_iff]
  have ln : x.cps.toList.length = x.length := by rw [Array.length_toList]; rfl
  have l0 : ∀ y : Str, y = ("" : Str) → y.length = 0 := fun y e => by rw [e]; decide
  unfold PySem.Txt.stripChars PySem.Txt.stripBy
  generalize lettersS.cps.contains = g at gl ⊢
  constructor
  · intro e
    refine Classical.byContradiction fun z => ?_
    have : ∃ c ∈ x.cps.toList, g c = false := Classical.byContradiction fun z2 => z fun c hc => (gl c).mp (by
      cases k : g c with
      | true => rfl
      | false => exact absurd ⟨c, hc, k⟩ z2)
    obtain ⟨pre, c, post, h1, h2, h3⟩ := tw_stop _ this
    have hl := congrArg List.length h1
    rw [List.length_append, List.length_cons, ln] at hl
    have m := tw_le h3 post.reverse
    rw [List.length_reverse] at m
    split at e
    · have := l0 _ e
      omega
    · have e := l0 _ e
      unfold PySem.stripped PySem.stripLo PySem.stripHi at e
      rw [if_pos rfl, if_pos rfl, h2, h1, List.drop_append_of_le_length (Nat.le_refl _), List.drop_length, List.nil_append, List.reverse_cons, sub_nilG _ _ _ (Nat.sub_le _ _)] at e
      omega
  · intro a
    have t := tw_all x.cps.toList fun c hc => (gl c).mpr (a c hc)
    have lo : PySem.stripLo g true x = x.length := by
      unfold PySem.stripLo
      rw [if_pos rfl, t, ln]
    have sm : PySem.stripSame g true true x = false := by
      unfold PySem.stripSame
      rw [lo, beq_eq_false_iff_ne.mpr (by omega)]
      rfl
    rw [sm, if_neg (by decide)]
    unfold PySem.stripped
    rw [lo]
    have n0 := sub_nilG x x.length (PySem.stripHi g true x x.length) (by unfold PySem.stripHi; rw [if_pos rfl]; exact Nat.sub_le _ _)
    have n1 : (PySem.Builtin.Str.strSub x x.length (PySem.stripHi g true x x.length)).length = 0 := by
      rw [n0]
      unfold PySem.stripHi
      rw [if_pos rfl]
      omega
    generalize PySem.Builtin.Str.strSub x x.length (PySem.stripHi g true x x.length) = y at n1
    obtain ⟨cs⟩ := y
    have : cs = #[] := Array.eq_empty_of_size_eq_zero n1
    rw [this]
    decide
theorem alnum_letters {x : Str} (h : 1 ≤ x.length) (a : ∀ c ∈ x.cps.toList, c ∈ lettersS.cps.toList) : PySem.Txt.isalnum x = true := by
  have q : ∀ c ∈ lettersS.cps.toList, PySem.Unicode.isAlnum c = true := by decide +kernel
  unfold PySem.Txt.isalnum
  rw [Bool.and_eq_true, decide_eq_true_iff]
  refine ⟨h, ?_⟩
  rw [← Array.all_toList, List.all_eq_true]
  exact fun c hc => q c (a c hc)
def sp_rnm : Sp := fun vs H Q _ => ∃ x : Str, vs = [.str x] ∧ x.length ≤ 100 ∧ ∀ b, (b = true ↔ NameW x) → Q (.bl b) H
theorem ok_rnm (T : Tx K mg w) : FnOk PL w K mg base CX0 1 T.a__law_right_name T.d__law_right_name ["name"] sp_rnm := by
  refine T.F__law_right_name.ok sc__law_right_name (fun vs H Q E h => ?_) (fun cdv A outer s H vs Q E hr h => ?_)
  · obtain ⟨x, rfl, _⟩ := h
    rfl
  obtain ⟨x, rfl, xl, q⟩ := h
  refine ⟨_, pss_one (ps_ret (pe_and (pe_chain op_lt op_lt pe_int (pe_callB call_len_str (by rfl) T.n_len (by decide +kernel) (pa_cons (pv 0) pa_nil)) pe_int) (pe_and (pe_cmpR op_eq (pe_m1 PySem.F.slot_str_strip PySem.F.type_str_strip mt_stripChars (pv 0) pe_str) pe_str (nomark _)) (pe_one (pe_m0 PySem.F.slot_str_isalnum PySem.F.type_str_isalnum mt_isalnum (pv 0)))))), ?_⟩
  refine ⟨_, rfl, _, rfl, small_line (by omega), _, _, rfl, rfl, _, rfl, ?_⟩
  by_cases c1 : 1 ≤ x.length
  · refine iteY (by omega) ?_
    refine ⟨_, _, rfl, rfl, _, rfl, ?_⟩
    by_cases c2 : x.length ≤ 12
    · rw [decide_eq_true (by omega : (x.length : Int) < 13)]
      refine iteT ?_
      refine ⟨_, rfl, ⟨_, rfl⟩, x, lettersS, rfl, rfl, small_line (by omega), rfl, _, rfl, ?_⟩
      by_cases c3 : ∀ c ∈ x.cps.toList, c ∈ lettersS.cps.toList
      · rw [(strip_nil_iff c1).mpr c3, decide_eq_true rfl]
        refine iteT ⟨_, rfl, ⟨_, rfl⟩, x, rfl, rfl, trivial, ?_⟩
        rw [alnum_letters c1 c3]
        exact q _ ⟨fun _ => ⟨c1, c2, c3⟩, fun _ => rfl⟩
      · refine iteN (fun e => c3 ((strip_nil_iff c1).mp (by injection e))) ?_
        exact q _ ⟨fun z => (nomatch z), fun z => absurd z.all c3⟩
    · rw [decide_eq_false (by omega : ¬ (x.length : Int) < 13)]
      exact iteF (q _ ⟨fun z => (nomatch z), fun z => absurd z.le c2⟩)
  · refine iteN (by omega) ?_
    exact ⟨_, rfl, iteF (q _ ⟨fun z => (nomatch z), fun z => absurd z.pos c1⟩)⟩
def sp_odd (K : PySem.W.Frag) : Sp := fun vs H Q _ => ∃ (p ce : Addr), vs = [.ref p] ∧ Src K ce H p ∧ ∀ (x : Str) (H' : Hp), But p H H' → Src K ce H' p → x.length ≤ 13 → Q (.str x) H'
theorem ok_odd (T : Tx K mg w) : FnOk PL w K mg base CX0 2 T.a__law_odd T.d__law_odd ["state"] (sp_odd K) := by
  have G__law_pick := ok__law_pick (P := PL) (w := w) (base := base) T
  refine T.F__law_odd.ok sc__law_odd (fun vs H Q E h => ?_) (fun cdv A outer s H vs Q E hr h => ?_)
  · obtain ⟨p, ce, rfl, _⟩ := h
    rfl
  obtain ⟨p, ce, rfl, hs, q⟩ := h
  refine ⟨_, pss_cons (ps_set (i := 1) sc__law_odd.nd rfl (Or.inl rfl) (pe_lst (pa_cons pe_str (pa_cons pe_str (pa_cons pe_str (pa_cons pe_str (pa_cons pe_str (pa_cons pe_str (pa_cons pe_str (pa_cons pe_str (pa_cons (pe_op op_rep_str pe_str pe_int) (pa_cons pe_str pa_nil))))))))))))
    (pss_cons (ps_set (i := 2) sc__law_odd.nd rfl (Or.inl rfl) (pe_call G__law_pick (hr.mono (by omega)) (by rfl) T.g__law_pick T.F__law_pick.kp T.b__law_pick .nil pass0 (pa_cons (pv 0) (pa_cons pe_int pa_nil))))
    (pss_cons (ps_if (pt_cmpR op_lt (pv 2) pe_int (nomark _)) (pss_one (ps_ret (pe_ix ix_list (pv 1) (pv 2) (fun _ _ => rfl)))) pss_nil)
    (pss_cons (ps_set (i := 3) sc__law_odd.nd rfl (Or.inl rfl) pe_str)
    (pss_cons (ps_set (i := 4) sc__law_odd.nd rfl (Or.inl rfl) (pe_ix ix_str (pv 3) (pe_call G__law_pick (hr.mono (by omega)) (by rfl) T.g__law_pick T.F__law_pick.kp T.b__law_pick .nil pass0 (pa_cons (pv 0) (pa_cons (pe_callB call_len_str (by rfl) T.n_len (by decide +kernel) (pa_cons (pv 3) pa_nil)) pa_nil))) (fun _ _ => rfl)))
    (pss_one (ps_ret (pe_op op_add_str (pe_op op_add_str (pe_slice sl_str pe_str po_none (po_some (pe_call G__law_pick (hr.mono (by omega)) (by rfl) T.g__law_pick T.F__law_pick.kp T.b__law_pick .nil pass0 (pa_cons (pv 0) (pa_cons pe_int pa_nil))))) (pv 4)) (pe_slice sl_str pe_str po_none (po_some (pe_call G__law_pick (hr.mono (by omega)) (by rfl) T.g__law_pick T.F__law_pick.kp T.b__law_pick .nil pass0 (pa_cons (pv 0) (pa_cons pe_int pa_nil)))))))))))), ?_⟩
  refine set_run (fun v H' => ∃ (l : Addr) (ws : List Str), v = .ref l ∧ Same H H' ∧ H l = none ∧ H' l = some (.lst (ws.map V.str)) ∧ ws.length = 10 ∧ ∀ x ∈ ws, x.length ≤ 13) (fun Q' q' => ?_) ?_
  · refine ⟨("z" : Str), 13, rfl, rfl, ⟨by decide +kernel, by decide +kernel, by decide +kernel⟩, (by show 10 ≤ sizeLine; decide), newQ (.lst _) fun l hl s1 e1 => q' _ _ ⟨l, [("" : Str), "abcdefghijklm", "A", "a-b", "a b", "{a}", "a_", " ", PySem.Txt.mul "z" 13, "<a/b>"], rfl, s1, hl, e1, rfl, ?_⟩⟩
    decide +kernel
  rintro _ H1 ⟨l, ws, rfl, s1, hn, hl, wn, wl⟩
  dsimp only [gName]
  refine ⟨_, rfl, p, ce, 20, rfl, hs.same s1, by decide, fun d H2 b2 s2 d0 d1 => ?_⟩
  obtain ⟨d, rfl⟩ : ∃ i : Nat, d = (i : Int) := ⟨d.toNat, by omega⟩
  dsimp only [gName]
  refine ⟨_, rfl, _, _, rfl, rfl, _, rfl, ?_⟩
  have lp : l ≠ p := fun e => by
    obtain ⟨_, _, _, _, S0⟩ := hs
    have := S0.at_
    rw [← e, hn] at this
    cases this
  have s2' : But p H H2 := (s1.but p).trans b2
  by_cases c : d < 10
  · refine iteY (by omega) ?_
    have hx : (ws.map V.str)[d]? = some (.str (ws[d]'(by omega))) := by rw [List.getElem?_map, List.getElem?_eq_getElem (by omega)]; rfl
    refine ⟨_, rfl, _, rfl, l, _, _, _, rfl, rfl, SqL.of (K := K) (b2 _ _ lp hl), atI_nat hx, ?_⟩
    exact q _ _ s2' s2 (wl _ (List.getElem_mem _))
  · refine iteN (by omega) (nx_run ?_)
    dsimp only
    refine set_run (fun v H' => ∃ z : Str, v = .str z ∧ z.length = 32 ∧ z.cps.toList.length = 32 ∧ H2 = H') (fun Q' q' => q' _ _ ⟨_, rfl, by decide +kernel, by decide +kernel, rfl⟩) ?_
    rintro _ _ ⟨z, rfl, z1, z2, rfl⟩
    dsimp only [gName]
    refine ⟨_, rfl, _, rfl, _, rfl, _, rfl, small_line (by omega), p, ce, _, rfl, s2, by omega, fun e H3 b3 s3 e0 e1 => ?_⟩
    obtain ⟨e, rfl⟩ : ∃ i : Nat, e = (i : Int) := ⟨e.toNat, by omega⟩
    have he : e < z.cps.toList.length := by omega
    refine ⟨_, _, _, rfl, rfl, small_line (by omega), atI_nat (List.getElem?_eq_getElem he), ?_⟩
    generalize z.cps.toList[e] = sg
    dsimp only [gName]
    refine ⟨_, rfl, p, ce, 3, rfl, s3, by decide, fun f H4 b4 s4 f0 f1 => ⟨_, rfl, _, rfl, by decide, ?_⟩⟩
    have cl := cutS_length ("a1" : Str) none (some (f : Int))
    have cr : (("a1" : Str)).length = 2 ∧ (("z9" : Str)).length = 2 := by decide
    refine ⟨_, rfl, _, _, rfl, rfl, small_line (by show _ + 1 ≤ _; omega), _, rfl, p, ce, 3, rfl, s4, by decide, fun g H5 b5 s5 g0 g1 => ⟨_, rfl, _, rfl, by decide, ?_⟩⟩
    have cg := cutS_length ("z9" : Str) none (some (g : Int))
    refine ⟨_, _, rfl, rfl, small_line (by rw [Str.length_append]; show _ + 1 + _ ≤ _; omega), ?_⟩
    refine q _ _ (((s2'.trans b3).trans b4).trans b5) s5 ?_
    rw [Str.length_append, Str.length_append]
    show _ + 1 + _ ≤ _
    omega
end
/-! ### lists of places, compared -/
section
variable {K : PySem.W.Frag}
def natD (xs : List Nat) : List PyData := xs.map fun i => PyData.int (i : Nat)
theorem dpAll_nats {H : Hp} : ∀ xs : List Nat, DpAll K H (natV xs) (natD xs)
  | [] => .nil
  | x :: xs => .cons (.int _) (dpAll_nats xs)
theorem dp_nats {H : Hp} {a : Addr} {xs : List Nat} (h : SqL K H a (natV xs)) : Dp K H (.ref a) (.list (natD xs)) := .lst h (dpAll_nats xs)
theorem eqvAll_nats : ∀ xs ys : List Nat, PyData.eqvAll (natD xs) (natD ys) = decide (xs = ys)
  | [], [] => by simp [natD, PyData.eqvAll]
  | [], y :: ys => by simp [natD, PyData.eqvAll]
  | x :: xs, [] => by simp [natD, PyData.eqvAll]
  | x :: xs, y :: ys => by
    have h := eqvAll_nats xs ys
    unfold natD at h ⊢
    simp only [List.map_cons, PyData.eqvAll, PyData.eqv, h]
    by_cases c : x = y
    · subst c; simp
    · have : ((x : Nat) : Int) ≠ (y : Nat) := fun z => c (by omega)
      simp [c, this]
theorem eqv_nats (xs ys : List Nat) : PyData.eqv (.list (natD xs)) (.list (natD ys)) = decide (xs = ys) := by
  rw [← eqvAll_nats]
  simp [PyData.eqv]
theorem depth_nats : ∀ xs : List Nat, PyData.depthAll (natD xs) ≤ 1
  | [] => by simp [natD, PyData.depthAll]
  | x :: xs => by have := depth_nats xs; simp [natD, PyData.depthAll, PyData.depth] at this ⊢; omega
theorem lay_nats : ∀ xs : List Nat, PyData.canLayAll0 (natD xs) = true
  | [] => by simp [natD, PyData.canLayAll0]
  | x :: xs => by have := lay_nats xs; simp [natD, PyData.canLayAll0, PyData.canLay0] at this ⊢; exact this
theorem shp_nats {xs : List Nat} : Shp 190 (.list (natD xs)) :=
  ⟨by simp [PyData.canLay0, lay_nats xs], by have := depth_nats xs; simp [PyData.depth]; omega⟩
theorem if_end {c : TT} {t u : TS} {D : Ends} {σ : L2.St} {H : Hp} (Pv : Bool → Hp → Prop) (h : ∀ Q' : Bool → Hp → Prop, (∀ b H', Pv b H' → Q' b H') → c σ H Q')
    (q : ∀ b H', Pv b H' → if b = true then t D σ H' else u D σ H') : tIfS c t u D σ H := h _ fun b H' p => q b H' p
theorem nat_at {xs : List Nat} {j : Nat} {x : V} (hx : (natV xs)[j]? = some x) : ∃ b, xs[j]? = some b ∧ x = .int (b : Nat) := by
  unfold natV at hx
  rw [List.getElem?_map] at hx
  cases e : xs[j]? with
  | none => rw [e] at hx; cases hx
  | some b => rw [e] at hx; cases hx; exact ⟨b, rfl, rfl⟩
theorem ft_no {p : Nat → Bool} {xs : List Nat} {i c : Nat} (hc : xs[i]? = some c) (h : p c = false) : natV ((xs.take i).filter p) = natV ((xs.take (i + 1)).filter p) := by
  rw [List.take_add_one, hc, List.filter_append, show (some c).toList = [c] from rfl, List.filter_cons_of_neg (by rw [h]; decide), List.filter_nil, List.append_nil]
theorem ft_yes {p : Nat → Bool} {xs : List Nat} {i c : Nat} (hc : xs[i]? = some c) (h : p c = true) : natV ((xs.take i).filter p) ++ [V.int (c : Nat)] = natV ((xs.take (i + 1)).filter p) := by
  rw [List.take_add_one, hc, List.filter_append, show (some c).toList = [c] from rfl, List.filter_cons_of_pos h, List.filter_nil]
  unfold natV
  rw [List.map_append]
  rfl
theorem fr_no {p : Nat → Bool} {i : Nat} (h : p i = false) : natV ((List.range i).filter p) = natV ((List.range (i + 1)).filter p) := by
  rw [List.range_succ, List.filter_append, List.filter_cons_of_neg (by rw [h]; decide), List.filter_nil, List.append_nil]
theorem fr_yes {p : Nat → Bool} {i : Nat} (h : p i = true) : natV ((List.range i).filter p) ++ [V.int (i : Nat)] = natV ((List.range (i + 1)).filter p) := by
  rw [List.range_succ, List.filter_append, List.filter_cons_of_pos h, List.filter_nil]
  unfold natV
  rw [List.map_append]
  rfl
theorem inV_nats (x : Nat) : ∀ xs : List Nat, inV (.int (x : Nat)) (natV xs) = decide (x ∈ xs)
  | [] => rfl
  | y :: ys => by
    show (eqV (.int (y : Nat)) (.int (x : Nat)) || inV (.int (x : Nat)) (natV ys)) = _
    rw [inV_nats x ys, eqV_nat]
    by_cases h : y = x
    · subst h; simp
    · have h' : ¬ x = y := fun e => h e.symm
      simp [h, h']
theorem flat_nats : ∀ xs : List Nat, (natV xs).all flatV = true
  | [] => rfl
  | _ :: ys => flat_nats ys
theorem shp_int {i : Int} : Shp 190 (.int i) := ⟨by simp [PyData.canLay0], by simp [PyData.depth]⟩
theorem kit_ll : PySem.W.kitOne K (.type "list") (.type "list") = some true := kit_ty (by decide +kernel)
theorem Src.but {H H' : Hp} {p ce D : Addr} (s : Src K ce H p) (h1 : D ≠ p) (h2 : D ≠ ce) (b : But D H H') : Src K ce H' p := by
  obtain ⟨cs, i, l, m, S⟩ := s
  exact ⟨cs, i, l, m, ⟨b _ _ h1.symm S.at_, b.seq h2.symm S.cel, S.ne, S.hi, S.hl, S.hc, S.m0, S.m1⟩⟩
end
/-! ### the plain law: regular lattices -/
namespace Lt
def IsJ (L : Lt) (a b k : Nat) : Prop := k < L.n ∧ ∀ i, i < L.n → L.le k i = (L.le a i && L.le b i)
def IsM (L : Lt) (a b k : Nat) : Prop := k < L.n ∧ ∀ i, i < L.n → L.le i k = (L.le i a && L.le i b)
structure Reg (L : Lt) : Prop where
  ord : L.Ord
  trans : ∀ a b c, a < L.n → b < L.n → c < L.n → L.le a b = true → L.le b c = true → L.le a c = true
  bot : ∃ k, k < L.n ∧ ∀ i, i < L.n → L.le k i = true
  top : ∃ k, k < L.n ∧ ∀ i, i < L.n → L.le i k = true
  J : ∀ a b, a < L.n → b < L.n → ∃ k, L.IsJ a b k
  M : ∀ a b, a < L.n → b < L.n → ∃ k, L.IsM a b k
  dist : ∀ a b c j m1 m2 r x, a < L.n → b < L.n → c < L.n → x < L.n → L.IsJ b c j → L.IsM a b m1 → L.IsM a c m2 → L.IsJ m1 m2 r → L.le x a = true → L.le x j = true → L.le x r = true
  codist : ∀ a b c j m1 m2 r x, a < L.n → b < L.n → c < L.n → x < L.n → L.IsM b c j → L.IsJ a b m1 → L.IsJ a c m2 → L.IsM m1 m2 r → L.le a x = true → L.le j x = true → L.le r x = true
def jn (L : Lt) (a b : Nat) : Nat := (L.join a b).getD 0
def mt (L : Lt) (a b : Nat) : Nat := (L.meet a b).getD 0
def low (L : Lt) : Nat := L.bot.getD 0
def high (L : Lt) : Nat := L.top.getD 0
namespace Reg
variable {L : Lt} (R : L.Reg)
include R
theorem refl {a : Nat} (h : a < L.n) : L.le a a = true := R.ord.refl a h
theorem pos : 1 ≤ L.n := by
  obtain ⟨k, h, _⟩ := R.bot
  omega
theorem isJ {a b : Nat} (ha : a < L.n) (hb : b < L.n) : L.join a b = some (L.jn a b) ∧ L.IsJ a b (L.jn a b) := by
  obtain ⟨k, hk, h⟩ := R.J a b ha hb
  have e := R.ord.join hk h
  unfold Lt.jn
  rw [e]
  exact ⟨rfl, hk, h⟩
theorem isM {a b : Nat} (ha : a < L.n) (hb : b < L.n) : L.meet a b = some (L.mt a b) ∧ L.IsM a b (L.mt a b) := by
  obtain ⟨k, hk, h⟩ := R.M a b ha hb
  have e := R.ord.meet hk h
  unfold Lt.mt
  rw [e]
  exact ⟨rfl, hk, h⟩
theorem isLow : L.bot = some L.low ∧ L.low < L.n ∧ ∀ i, i < L.n → L.le L.low i = true := by
  obtain ⟨k, hk, h⟩ := R.bot
  have e := R.ord.bot hk h
  unfold Lt.low
  rw [e]
  exact ⟨rfl, hk, h⟩
theorem isHigh : L.top = some L.high ∧ L.high < L.n ∧ ∀ i, i < L.n → L.le i L.high = true := by
  obtain ⟨k, hk, h⟩ := R.top
  have e := R.ord.top hk h
  unfold Lt.high
  rw [e]
  exact ⟨rfl, hk, h⟩
theorem jlt {a b : Nat} (ha : a < L.n) (hb : b < L.n) : L.jn a b < L.n := (R.isJ ha hb).2.1
theorem mlt {a b : Nat} (ha : a < L.n) (hb : b < L.n) : L.mt a b < L.n := (R.isM ha hb).2.1
theorem jle {a b i : Nat} (ha : a < L.n) (hb : b < L.n) (hi : i < L.n) : L.le (L.jn a b) i = (L.le a i && L.le b i) := (R.isJ ha hb).2.2 i hi
theorem mle {a b i : Nat} (ha : a < L.n) (hb : b < L.n) (hi : i < L.n) : L.le i (L.mt a b) = (L.le i a && L.le i b) := (R.isM ha hb).2.2 i hi
theorem eqUp {a b : Nat} (ha : a < L.n) (hb : b < L.n) (h : ∀ i, i < L.n → L.le a i = L.le b i) : a = b :=
  R.ord.anti a b ha hb (by rw [h b hb]; exact R.refl hb) (by rw [← h a ha]; exact R.refl ha)
theorem eqDn {a b : Nat} (ha : a < L.n) (hb : b < L.n) (h : ∀ i, i < L.n → L.le i a = L.le i b) : a = b :=
  R.ord.anti a b ha hb (by rw [← h a ha]; exact R.refl ha) (by rw [h b hb]; exact R.refl hb)
theorem jl {a b : Nat} (ha : a < L.n) (hb : b < L.n) : L.le a (L.jn a b) = true ∧ L.le b (L.jn a b) = true := by
  have := R.jle ha hb (R.jlt ha hb)
  rw [R.refl (R.jlt ha hb)] at this
  simpa using this.symm
theorem ml {a b : Nat} (ha : a < L.n) (hb : b < L.n) : L.le (L.mt a b) a = true ∧ L.le (L.mt a b) b = true := by
  have := R.mle ha hb (R.mlt ha hb)
  rw [R.refl (R.mlt ha hb)] at this
  simpa using this.symm
theorem jj {a : Nat} (ha : a < L.n) : L.jn a a = a := R.eqUp (R.jlt ha ha) ha fun i hi => by rw [R.jle ha ha hi, Bool.and_self]
theorem mm {a : Nat} (ha : a < L.n) : L.mt a a = a := R.eqDn (R.mlt ha ha) ha fun i hi => by rw [R.mle ha ha hi, Bool.and_self]
theorem jc {a b : Nat} (ha : a < L.n) (hb : b < L.n) : L.jn a b = L.jn b a := R.eqUp (R.jlt ha hb) (R.jlt hb ha) fun i hi => by rw [R.jle ha hb hi, R.jle hb ha hi, Bool.and_comm]
theorem mc {a b : Nat} (ha : a < L.n) (hb : b < L.n) : L.mt a b = L.mt b a := R.eqDn (R.mlt ha hb) (R.mlt hb ha) fun i hi => by rw [R.mle ha hb hi, R.mle hb ha hi, Bool.and_comm]
theorem ja {a b c : Nat} (ha : a < L.n) (hb : b < L.n) (hc : c < L.n) : L.jn (L.jn a b) c = L.jn a (L.jn b c) :=
  R.eqUp (R.jlt (R.jlt ha hb) hc) (R.jlt ha (R.jlt hb hc)) fun i hi => by rw [R.jle (R.jlt ha hb) hc hi, R.jle ha hb hi, R.jle ha (R.jlt hb hc) hi, R.jle hb hc hi, Bool.and_assoc]
theorem ma {a b c : Nat} (ha : a < L.n) (hb : b < L.n) (hc : c < L.n) : L.mt (L.mt a b) c = L.mt a (L.mt b c) :=
  R.eqDn (R.mlt (R.mlt ha hb) hc) (R.mlt ha (R.mlt hb hc)) fun i hi => by rw [R.mle (R.mlt ha hb) hc hi, R.mle ha hb hi, R.mle ha (R.mlt hb hc) hi, R.mle hb hc hi, Bool.and_assoc]
/-- a ≤ b just if their join is b -/
theorem le_j {a b : Nat} (ha : a < L.n) (hb : b < L.n) : L.le a b = true ↔ L.jn a b = b := by
  constructor
  · intro h
    exact R.eqUp (R.jlt ha hb) hb fun i hi => by
      rw [R.jle ha hb hi, Bool.eq_iff_iff, Bool.and_eq_true]
      exact ⟨fun z => z.2, fun z => ⟨R.trans a b i ha hb hi h z, z⟩⟩
  · intro h
    have := (R.jl ha hb).1
    rw [h] at this
    exact this
theorem le_m {a b : Nat} (ha : a < L.n) (hb : b < L.n) : L.le a b = true ↔ L.mt a b = a := by
  constructor
  · intro h
    exact R.eqDn (R.mlt ha hb) ha fun i hi => by
      rw [R.mle ha hb hi, Bool.eq_iff_iff, Bool.and_eq_true]
      exact ⟨fun z => z.1, fun z => ⟨z, R.trans i a b hi ha hb z h⟩⟩
  · intro h
    have := (R.ml ha hb).2
    rw [h] at this
    exact this
theorem jm {a b : Nat} (ha : a < L.n) (hb : b < L.n) : L.jn a (L.mt a b) = a := by
  rw [R.jc ha (R.mlt ha hb)]
  exact (R.le_j (R.mlt ha hb) ha).mp (R.ml ha hb).1
theorem mj {a b : Nat} (ha : a < L.n) (hb : b < L.n) : L.mt a (L.jn a b) = a := (R.le_m ha (R.jlt ha hb)).mp (R.jl ha hb).1
theorem mdist {a b c : Nat} (ha : a < L.n) (hb : b < L.n) (hc : c < L.n) : L.mt a (L.jn b c) = L.jn (L.mt a b) (L.mt a c) := by
  have hj := R.jlt hb hc
  have h1 := R.mlt ha hb
  have h2 := R.mlt ha hc
  have hr := R.jlt h1 h2
  refine R.ord.anti _ _ (R.mlt ha hj) hr ?_ ?_
  · exact R.dist a b c _ _ _ _ _ ha hb hc (R.mlt ha hj) (R.isJ hb hc).2 (R.isM ha hb).2 (R.isM ha hc).2 (R.isJ h1 h2).2 (R.ml ha hj).1 (R.ml ha hj).2
  · rw [R.jle h1 h2 (R.mlt ha hj), R.mle ha hj h1, R.mle ha hj h2, (R.ml ha hb).1, (R.ml ha hc).1,
      R.trans _ b _ h1 hb hj (R.ml ha hb).2 (R.jl hb hc).1, R.trans _ c _ h2 hc hj (R.ml ha hc).2 (R.jl hb hc).2]
    rfl
theorem jdist {a b c : Nat} (ha : a < L.n) (hb : b < L.n) (hc : c < L.n) : L.jn a (L.mt b c) = L.mt (L.jn a b) (L.jn a c) := by
  have hj := R.mlt hb hc
  have h1 := R.jlt ha hb
  have h2 := R.jlt ha hc
  have hr := R.mlt h1 h2
  refine R.ord.anti _ _ (R.jlt ha hj) hr ?_ ?_
  · rw [R.mle h1 h2 (R.jlt ha hj), R.jle ha hj h1, R.jle ha hj h2, (R.jl ha hb).1, (R.jl ha hc).1,
      R.trans _ b _ hj hb h1 (R.ml hb hc).1 (R.jl ha hb).2, R.trans _ c _ hj hc h2 (R.ml hb hc).2 (R.jl ha hc).2]
    rfl
  · exact R.codist a b c _ _ _ _ _ ha hb hc (R.jlt ha hj) (R.isM hb hc).2 (R.isJ ha hb).2 (R.isJ ha hc).2 (R.isM h1 h2).2 (R.jl ha hj).1 (R.jl ha hj).2
theorem jlow {a : Nat} (ha : a < L.n) : L.jn a L.low = a := by
  rw [R.jc ha R.isLow.2.1]
  exact (R.le_j R.isLow.2.1 ha).mp (R.isLow.2.2 a ha)
theorem mlow {a : Nat} (ha : a < L.n) : L.mt a L.low = L.low := by
  rw [R.mc ha R.isLow.2.1]
  exact (R.le_m R.isLow.2.1 ha).mp (R.isLow.2.2 a ha)
theorem jhigh {a : Nat} (ha : a < L.n) : L.jn a L.high = L.high := (R.le_j ha R.isHigh.2.1).mp (R.isHigh.2.2 a ha)
theorem mhigh {a : Nat} (ha : a < L.n) : L.mt a L.high = a := (R.le_m ha R.isHigh.2.1).mp (R.isHigh.2.2 a ha)
end Reg
end Lt
/-! #### turned ones -/
theorem turn_n (L : Lt) : (turnL L).n = L.n := rfl
theorem turn_j (L : Lt) (a b k : Nat) : (turnL L).IsJ a b k ↔ L.IsM a b k := Iff.rfl
theorem turn_m (L : Lt) (a b k : Nat) : (turnL L).IsM a b k ↔ L.IsJ a b k := Iff.rfl
theorem Lt.Reg.turn {L : Lt} (R : L.Reg) : (turnL L).Reg where
  ord := ⟨fun a h => R.ord.refl a h, fun a b ha hb h1 h2 => R.ord.anti a b ha hb h2 h1⟩
  trans a b c ha hb hc h1 h2 := R.trans c b a hc hb ha h2 h1
  bot := R.top
  top := R.bot
  J := R.M
  M := R.J
  dist := R.codist
  codist := R.dist
/-! #### chains -/
theorem chain_isJ {n a b k : Nat} (ha : a < (chainL n).n) (hb : b < (chainL n).n) (h : (chainL n).IsJ a b k) : k = max a b := by
  have e := (chain_ord n).join h.1 h.2
  rw [chainL_n] at ha hb
  rw [chain_join ha hb] at e
  exact (Option.some.inj e).symm
theorem chain_isM {n a b k : Nat} (ha : a < (chainL n).n) (hb : b < (chainL n).n) (h : (chainL n).IsM a b k) : k = min a b := by
  have e := (chain_ord n).meet h.1 h.2
  rw [chainL_n] at ha hb
  rw [chain_meet ha hb] at e
  exact (Option.some.inj e).symm
theorem chain_reg {n : Nat} (h : 1 ≤ n) : (chainL n).Reg where
  ord := chain_ord n
  trans a b c _ _ _ h1 h2 := by
    simp only [chainL, decide_eq_true_eq] at h1 h2 ⊢
    omega
  bot := ⟨0, by rw [chainL_n]; omega, fun i _ => by simp [chainL]⟩
  top := ⟨n - 1, by rw [chainL_n]; omega, fun i hi => by rw [chainL_n] at hi; simp [chainL]; omega⟩
  J a b ha hb := ⟨max a b, by rw [chainL_n] at *; omega, fun i hi => by
    rw [Bool.eq_iff_iff]; simp only [chainL, Bool.and_eq_true, decide_eq_true_eq]; omega⟩
  M a b ha hb := ⟨min a b, by rw [chainL_n] at *; omega, fun i hi => by
    rw [Bool.eq_iff_iff]; simp only [chainL, Bool.and_eq_true, decide_eq_true_eq]; omega⟩
  dist a b c j m1 m2 r x ha hb hc hx hj h1 h2 hr xa xj := by
    have e := chain_isJ hb hc hj
    have e1 := chain_isM ha hb h1
    have e2 := chain_isM ha hc h2
    have e3 := chain_isJ h1.1 h2.1 hr
    have xa : x ≤ a := of_decide_eq_true xa
    have xj : x ≤ j := of_decide_eq_true xj
    exact decide_eq_true (show x ≤ r by omega)
  codist a b c j m1 m2 r x ha hb hc hx hj h1 h2 hr xa xj := by
    have e := chain_isM hb hc hj
    have e1 := chain_isJ ha hb h1
    have e2 := chain_isJ ha hc h2
    have e3 := chain_isM h1.1 h2.1 hr
    have xa : a ≤ x := of_decide_eq_true xa
    have xj : j ≤ x := of_decide_eq_true xj
    exact decide_eq_true (show r ≤ x by omega)
/-! #### rings of sets: hs are the sets, as numbers -/
structure Ring (hs : List Nat) (w : Nat) : Prop where
  nd : hs.Nodup
  lt : ∀ h ∈ hs, h < 2 ^ w
  zero : 0 ∈ hs
  all : 2 ^ w - 1 ∈ hs
  or : ∀ g ∈ hs, ∀ h ∈ hs, g ||| h ∈ hs
  and : ∀ g ∈ hs, ∀ h ∈ hs, g &&& h ∈ hs
theorem getD_mem {hs : List Nat} {i : Nat} (h : i < hs.length) : hs.getD i 0 ∈ hs := by
  rw [List.getD_eq_getElem?_getD, List.getElem?_eq_getElem h]
  exact List.getElem_mem h
theorem mem_getD {hs : List Nat} {g : Nat} (h : g ∈ hs) : ∃ i, i < hs.length ∧ hs.getD i 0 = g := by
  obtain ⟨i, hi, e⟩ := List.mem_iff_getElem.mp h
  exact ⟨i, hi, by rw [List.getD_eq_getElem?_getD, List.getElem?_eq_getElem hi]; exact e⟩
theorem getD_inj {hs : List Nat} (nd : hs.Nodup) {i j : Nat} (hi : i < hs.length) (hj : j < hs.length) (e : hs.getD i 0 = hs.getD j 0) : i = j := by
  rw [List.getD_eq_getElem?_getD, List.getElem?_eq_getElem hi, List.getD_eq_getElem?_getD, List.getElem?_eq_getElem hj] at e
  have e : hs[i] = hs[j] := e
  exact nodup_at' nd (List.getElem?_eq_getElem hi) (by rw [List.getElem?_eq_getElem hj, e])
theorem ring_reg {L : Lt} {hs : List Nat} {w : Nat} (R : Ring hs w) (hn : L.n = hs.length) (hl : ∀ i j, i < L.n → j < L.n → L.le i j = part (hs.getD i 0) (hs.getD j 0)) : L.Reg := by
  have mem : ∀ {i}, i < L.n → hs.getD i 0 ∈ hs := fun h => getD_mem (hn ▸ h)
  have get : ∀ {g}, g ∈ hs → ∃ i, i < L.n ∧ hs.getD i 0 = g := fun h => by rw [hn]; exact mem_getD h
  have toJ : ∀ {a b k}, a < L.n → b < L.n → L.IsJ a b k → hs.getD k 0 = hs.getD a 0 ||| hs.getD b 0 := fun {a b k} ha hb h => by
    obtain ⟨i, hi, e⟩ := get (R.or _ (mem ha) _ (mem hb))
    refine part_anti ?_ ?_
    · have := h.2 i hi
      rw [hl _ _ h.1 hi, hl _ _ ha hi, hl _ _ hb hi, e, ← part_or, part_refl] at this
      exact this
    · have := h.2 k h.1
      rw [hl _ _ h.1 h.1, hl _ _ ha h.1, hl _ _ hb h.1, part_refl, ← part_or] at this
      exact this.symm
  have toM : ∀ {a b k}, a < L.n → b < L.n → L.IsM a b k → hs.getD k 0 = hs.getD a 0 &&& hs.getD b 0 := fun {a b k} ha hb h => by
    obtain ⟨i, hi, e⟩ := get (R.and _ (mem ha) _ (mem hb))
    refine part_anti ?_ ?_
    · have := h.2 k h.1
      rw [hl _ _ h.1 h.1, hl _ _ h.1 ha, hl _ _ h.1 hb, part_refl, ← part_and] at this
      exact this.symm
    · have := h.2 i hi
      rw [hl _ _ hi h.1, hl _ _ hi ha, hl _ _ hi hb, e, ← part_and, part_refl] at this
      exact this
  refine ⟨⟨fun a ha => by rw [hl _ _ ha ha]; exact part_refl _, fun a b ha hb h1 h2 => ?_⟩, fun a b c ha hb hc h1 h2 => ?_, ?_, ?_, fun a b ha hb => ?_, fun a b ha hb => ?_, fun a b c j m1 m2 r x ha hb hc hx hj h1 h2 hr xa xj => ?_, fun a b c j m1 m2 r x ha hb hc hx hj h1 h2 hr xa xj => ?_⟩
  · rw [hl _ _ ha hb] at h1
    rw [hl _ _ hb ha] at h2
    exact getD_inj R.nd (hn ▸ ha) (hn ▸ hb) (part_anti h1 h2)
  · rw [hl _ _ ha hb] at h1
    rw [hl _ _ hb hc] at h2
    rw [hl _ _ ha hc]
    exact part_bits.mpr fun k hk => part_bits.mp h2 k (part_bits.mp h1 k hk)
  · obtain ⟨k, hk, e⟩ := get R.zero
    exact ⟨k, hk, fun i hi => by rw [hl _ _ hk hi, e]; exact part_bits.mpr fun j h => by simp at h⟩
  · obtain ⟨k, hk, e⟩ := get R.all
    refine ⟨k, hk, fun i hi => ?_⟩
    rw [hl _ _ hi hk, e]
    refine part_bits.mpr fun j h => ?_
    rw [Nat.testBit_two_pow_sub_one]
    refine decide_eq_true (Nat.lt_of_not_le fun z => ?_)
    rw [Nat.testBit_lt_two_pow (Nat.lt_of_lt_of_le (R.lt _ (mem hi)) (Nat.pow_le_pow_right (by decide) z))] at h
    cases h
  · obtain ⟨k, hk, e⟩ := get (R.or _ (mem ha) _ (mem hb))
    exact ⟨k, hk, fun i hi => by rw [hl _ _ hk hi, hl _ _ ha hi, hl _ _ hb hi, e, part_or]⟩
  · obtain ⟨k, hk, e⟩ := get (R.and _ (mem ha) _ (mem hb))
    exact ⟨k, hk, fun i hi => by rw [hl _ _ hi hk, hl _ _ hi ha, hl _ _ hi hb, e, part_and]⟩
  · rw [hl _ _ hx ha] at xa
    rw [hl _ _ hx hj.1, toJ hb hc hj] at xj
    rw [hl _ _ hx hr.1, toJ h1.1 h2.1 hr, toM ha hb h1, toM ha hc h2]
    refine part_bits.mpr fun k hk => ?_
    have p1 := part_bits.mp xa k hk
    have p2 := part_bits.mp xj k hk
    rw [Nat.testBit_or] at p2
    rw [Nat.testBit_or, Nat.testBit_and, Nat.testBit_and, p1]
    simpa using p2
  · rw [hl _ _ ha hx] at xa
    rw [hl _ _ hj.1 hx, toM hb hc hj] at xj
    rw [hl _ _ hr.1 hx, toM h1.1 h2.1 hr, toJ ha hb h1, toJ ha hc h2]
    refine part_bits.mpr fun k hk => ?_
    rw [Nat.testBit_and, Nat.testBit_or, Nat.testBit_or] at hk
    cases e : (hs.getD a 0).testBit k with
    | true => exact part_bits.mp xa k e
    | false =>
      rw [e] at hk
      refine part_bits.mp xj k ?_
      rw [Nat.testBit_and]
      simpa using hk
theorem sets_reg (c : Nat) : (setsL c).Reg := by
  refine ring_reg (hs := List.range (2 ^ c)) (w := c) ⟨List.nodup_range, fun h hh => List.mem_range.mp hh, ?_, ?_, fun g hg h hh => ?_, fun g hg h hh => ?_⟩ (by rw [setsL_n, List.length_range]) fun i j hi hj => ?_
  · exact List.mem_range.mpr (Nat.pow_pos (by decide))
  · have := Nat.pow_pos (n := c) (show 0 < 2 by decide)
    exact List.mem_range.mpr (by omega)
  · exact List.mem_range.mpr (Nat.or_lt_two_pow (List.mem_range.mp hg) (List.mem_range.mp hh))
  · exact List.mem_range.mpr (Nat.lt_of_le_of_lt Nat.and_le_left (List.mem_range.mp hg))
  · rw [setsL_n] at hi hj
    have g : ∀ {i}, i < 2 ^ c → (List.range (2 ^ c)).getD i 0 = i := fun h => by rw [List.getD_eq_getElem?_getD, List.getElem?_range h]; rfl
    rw [g hi, g hj]
    rfl
theorem heap_mem {n h : Nat} {ps : List (Nat × Nat)} : h ∈ heaps n ps ↔ h < 2 ^ n ∧ ∀ a, a < n → h.testBit a = true → ∀ b, b < n → Reach ps b a → h.testBit b = true := by
  unfold heaps heapB
  rw [List.mem_filter, List.mem_range, List.all_eq_true]
  refine and_congr_right fun _ => ⟨fun h a ha hb b hbn r => ?_, fun h a ha => ?_⟩
  · have := part_bits.mp (h a (List.mem_filter.mpr ⟨List.mem_range.mpr ha, hb⟩)) b
    refine this ?_
    unfold dn
    rw [mask_bit, decide_eq_true hbn, Bool.true_and]
    exact reachB_iff.mpr r
  · obtain ⟨ha, hb⟩ := List.mem_filter.mp ha
    refine part_bits.mpr fun b z => ?_
    unfold dn at z
    rw [mask_bit, Bool.and_eq_true, decide_eq_true_eq] at z
    exact h a (List.mem_range.mp ha) hb b z.1 (reachB_iff.mp z.2)
theorem down_ring (n : Nat) (ps : List (Nat × Nat)) : Ring (heaps n ps) n where
  nd := List.nodup_range.filter _
  lt h hh := (heap_mem.mp hh).1
  zero := heap_mem.mpr ⟨Nat.pow_pos (by decide), fun a _ z => by simp at z⟩
  all := heap_mem.mpr ⟨by have := Nat.pow_pos (n := n) (show 0 < 2 by decide); omega, fun a _ _ b hb _ => by rw [Nat.testBit_two_pow_sub_one]; exact decide_eq_true hb⟩
  or g hg h hh := by
    have hg := heap_mem.mp hg
    have hh := heap_mem.mp hh
    refine heap_mem.mpr ⟨Nat.or_lt_two_pow hg.1 hh.1, fun a ha z b hb r => ?_⟩
    rw [Nat.testBit_or, Bool.or_eq_true] at z ⊢
    exact z.imp (fun y => hg.2 a ha y b hb r) fun y => hh.2 a ha y b hb r
  and g hg h hh := by
    have hg := heap_mem.mp hg
    have hh := heap_mem.mp hh
    refine heap_mem.mpr ⟨Nat.lt_of_le_of_lt Nat.and_le_left hg.1, fun a ha z b hb r => ?_⟩
    rw [Nat.testBit_and, Bool.and_eq_true] at z ⊢
    exact ⟨hg.2 a ha z.1 b hb r, hh.2 a ha z.2 b hb r⟩
theorem down_reg (xs : List Str) (ps : List (Nat × Nat)) : (downL xs ps).Reg :=
  ring_reg (down_ring xs.length ps) (downL_n xs ps) fun _ _ _ _ => rfl
/-! #### pairs -/
theorem pair_reg {L R : Lt} (A : L.Reg) (B : R.Reg) : (pairL L R).Reg := by
  have r1 := B.pos
  have dl : ∀ {k}, k < (pairL L R).n → k / R.n < L.n := fun h => div_lt' r1 (by rw [pairL_n] at h; exact h)
  have dm : ∀ k, k % R.n < R.n := fun k => Nat.mod_lt _ r1
  have mk : ∀ {i j}, i < L.n → j < R.n → i * R.n + j < (pairL L R).n ∧ (i * R.n + j) / R.n = i ∧ (i * R.n + j) % R.n = j := fun {i j} hi hj => by
    refine ⟨?_, ?_, ?_⟩
    · rw [pairL_n]
      have := Nat.mul_le_mul_right R.n (show i + 1 ≤ L.n from hi)
      rw [Nat.succ_mul] at this
      omega
    · rw [Nat.mul_comm, Nat.mul_add_div (by omega), Nat.div_eq_of_lt hj, Nat.add_zero]
    · rw [Nat.mul_comm, Nat.mul_add_mod, Nat.mod_eq_of_lt hj]
  have ext : ∀ {a b : Nat}, a / R.n = b / R.n → a % R.n = b % R.n → a = b := fun {a b} h1 h2 => by
    rw [← Nat.div_add_mod a R.n, ← Nat.div_add_mod b R.n, h1, h2]
  have le : ∀ a b, (pairL L R).le a b = (L.le (a / R.n) (b / R.n) && R.le (a % R.n) (b % R.n)) := fun _ _ => rfl
  have toJ : ∀ {a b k}, a < (pairL L R).n → b < (pairL L R).n → (pairL L R).IsJ a b k → L.IsJ (a / R.n) (b / R.n) (k / R.n) ∧ R.IsJ (a % R.n) (b % R.n) (k % R.n) := fun {a b k} ha hb h => by
    obtain ⟨i, hi1, hi2⟩ := A.J _ _ (dl ha) (dl hb)
    obtain ⟨j, hj1, hj2⟩ := B.J _ _ (dm a) (dm b)
    obtain ⟨m1, m2, m3⟩ := mk hi1 hj1
    have e1 := h.2 _ m1
    rw [le, le, le, m2, m3] at e1
    have a1 := hi2 i hi1
    have b1 := hj2 j hj1
    rw [A.refl hi1] at a1
    rw [B.refl hj1] at b1
    have a1 := a1.symm
    have b1 := b1.symm
    rw [Bool.and_eq_true] at a1 b1
    rw [a1.1, a1.2, b1.1, b1.2] at e1
    simp only [Bool.and_self] at e1
    rw [Bool.and_eq_true] at e1
    have e2 := h.2 k h.1
    rw [le, le, le, A.refl (dl h.1), B.refl (dm k)] at e2
    have e2 := e2.symm
    simp only [Bool.and_self, Bool.and_eq_true] at e2
    have ek : k / R.n = i := A.ord.anti _ _ (dl h.1) hi1 e1.1 (by rw [hi2 _ (dl h.1), e2.1.1, e2.2.1]; rfl)
    have ek2 : k % R.n = j := B.ord.anti _ _ (dm k) hj1 e1.2 (by rw [hj2 _ (dm k), e2.1.2, e2.2.2]; rfl)
    rw [ek, ek2]
    exact ⟨⟨hi1, hi2⟩, hj1, hj2⟩
  have toM : ∀ {a b k}, a < (pairL L R).n → b < (pairL L R).n → (pairL L R).IsM a b k → L.IsM (a / R.n) (b / R.n) (k / R.n) ∧ R.IsM (a % R.n) (b % R.n) (k % R.n) := fun {a b k} ha hb h => by
    obtain ⟨i, hi1, hi2⟩ := A.M _ _ (dl ha) (dl hb)
    obtain ⟨j, hj1, hj2⟩ := B.M _ _ (dm a) (dm b)
    obtain ⟨m1, m2, m3⟩ := mk hi1 hj1
    have e1 := h.2 _ m1
    rw [le, le, le, m2, m3] at e1
    have a1 := hi2 i hi1
    have b1 := hj2 j hj1
    rw [A.refl hi1] at a1
    rw [B.refl hj1] at b1
    have a1 := a1.symm
    have b1 := b1.symm
    rw [Bool.and_eq_true] at a1 b1
    rw [a1.1, a1.2, b1.1, b1.2] at e1
    simp only [Bool.and_self] at e1
    rw [Bool.and_eq_true] at e1
    have e2 := h.2 k h.1
    rw [le, le, le, A.refl (dl h.1), B.refl (dm k)] at e2
    have e2 := e2.symm
    simp only [Bool.and_self, Bool.and_eq_true] at e2
    have ek : k / R.n = i := A.ord.anti _ _ (dl h.1) hi1 (by rw [hi2 _ (dl h.1), e2.1.1, e2.2.1]; rfl) e1.1
    have ek2 : k % R.n = j := B.ord.anti _ _ (dm k) hj1 (by rw [hj2 _ (dm k), e2.1.2, e2.2.2]; rfl) e1.2
    rw [ek, ek2]
    exact ⟨⟨hi1, hi2⟩, hj1, hj2⟩
  refine ⟨⟨fun a ha => ?_, fun a b ha hb h1 h2 => ?_⟩, fun a b c ha hb hc h1 h2 => ?_, ?_, ?_, fun a b ha hb => ?_, fun a b ha hb => ?_, fun a b c j m1 m2 r x ha hb hc hx hj h1 h2 hr xa xj => ?_, fun a b c j m1 m2 r x ha hb hc hx hj h1 h2 hr xa xj => ?_⟩
  · rw [le, A.refl (dl ha), B.refl (dm a)]; rfl
  · rw [le, Bool.and_eq_true] at h1 h2
    exact ext (A.ord.anti _ _ (dl ha) (dl hb) h1.1 h2.1) (B.ord.anti _ _ (dm a) (dm b) h1.2 h2.2)
  · rw [le, Bool.and_eq_true] at h1 h2 ⊢
    exact ⟨A.trans _ _ _ (dl ha) (dl hb) (dl hc) h1.1 h2.1, B.trans _ _ _ (dm a) (dm b) (dm c) h1.2 h2.2⟩
  · obtain ⟨i, hi1, hi2⟩ := A.bot
    obtain ⟨j, hj1, hj2⟩ := B.bot
    obtain ⟨m1, m2, m3⟩ := mk hi1 hj1
    exact ⟨_, m1, fun x hx => by rw [le, m2, m3, hi2 _ (dl hx), hj2 _ (dm x)]; rfl⟩
  · obtain ⟨i, hi1, hi2⟩ := A.top
    obtain ⟨j, hj1, hj2⟩ := B.top
    obtain ⟨m1, m2, m3⟩ := mk hi1 hj1
    exact ⟨_, m1, fun x hx => by rw [le, m2, m3, hi2 _ (dl hx), hj2 _ (dm x)]; rfl⟩
  · obtain ⟨i, hi1, hi2⟩ := A.J _ _ (dl ha) (dl hb)
    obtain ⟨j, hj1, hj2⟩ := B.J _ _ (dm a) (dm b)
    obtain ⟨m1, m2, m3⟩ := mk hi1 hj1
    exact ⟨_, m1, fun x hx => by
      rw [le, le, le, m2, m3, hi2 _ (dl hx), hj2 _ (dm x)]
      simp only [Bool.and_assoc, Bool.and_left_comm]⟩
  · obtain ⟨i, hi1, hi2⟩ := A.M _ _ (dl ha) (dl hb)
    obtain ⟨j, hj1, hj2⟩ := B.M _ _ (dm a) (dm b)
    obtain ⟨m1, m2, m3⟩ := mk hi1 hj1
    exact ⟨_, m1, fun x hx => by
      rw [le, le, le, m2, m3, hi2 _ (dl hx), hj2 _ (dm x)]
      simp only [Bool.and_assoc, Bool.and_left_comm]⟩
  · rw [le, Bool.and_eq_true] at xa xj ⊢
    obtain ⟨j1, j2⟩ := toJ hb hc hj
    obtain ⟨p1, p2⟩ := toM ha hb h1
    obtain ⟨q1, q2⟩ := toM ha hc h2
    obtain ⟨r1', r2⟩ := toJ h1.1 h2.1 hr
    exact ⟨A.dist _ _ _ _ _ _ _ _ (dl ha) (dl hb) (dl hc) (dl hx) j1 p1 q1 r1' xa.1 xj.1, B.dist _ _ _ _ _ _ _ _ (dm a) (dm b) (dm c) (dm x) j2 p2 q2 r2 xa.2 xj.2⟩
  · rw [le, Bool.and_eq_true] at xa xj ⊢
    obtain ⟨j1, j2⟩ := toM hb hc hj
    obtain ⟨p1, p2⟩ := toJ ha hb h1
    obtain ⟨q1, q2⟩ := toJ ha hc h2
    obtain ⟨r1', r2⟩ := toM h1.1 h2.1 hr
    exact ⟨A.codist _ _ _ _ _ _ _ _ (dl ha) (dl hb) (dl hc) (dl hx) j1 p1 q1 r1' xa.1 xj.1, B.codist _ _ _ _ _ _ _ _ (dm a) (dm b) (dm c) (dm x) j2 p2 q2 r2 xa.2 xj.2⟩
/-! ### comprehensions over lists of objects; True in a list of Booleans; digits -/
section
open PyProof.Rows
variable {w W_ : World} {K : PySem.W.Frag} {mg : Str → Option Value} {base : Heap} {H H' : Hp}
/-- a comprehension over a list of objects -/
theorem lc_refs {β γ : Type} {G : Hp → V → γ → Prop} (f : β → γ) {a : Addr} {as : List Addr} {bs : List β} {g : TG} {tt : TT} {te : TE} {vs : List Nat} {σ : L2.St} {H1 : Hp} {D : Addr} {Qd : Hp → Prop} (hD : H1 D = none)
    (kG : ∀ {H H' : Hp} {v : V} {m : γ}, Same H H' → G H v m → G H' v m) (kD : ∀ {H : Hp} {v : V} {m : γ} {zs : List V}, G H v m → G (upd H D (.lst zs)) v m) (xz : as.length ≤ 100000) (hab : as.length = bs.length) (hl : H1 a = some (.lst (as.map V.ref)))
    (hs : ∀ (i : Nat) (l : Addr) (b : β) (H : Hp) (Nx : V → Hp → Prop) (Ex : Hp → Prop), as[i]? = some l → bs[i]? = some b → Same H1 H → (∃ ys, H D = some (.lst ys)) → (∀ y H2, Same H H2 → G H2 y (f b) → Nx y H2) →
      g (.ref l) (wipe σ vs) H fun σ2 H2 => wipe σ2 vs = wipe σ vs ∧ tt σ2 H2 fun b H3 => if b = true then te σ2 H3 Nx else Ex H3)
    (hd : ∀ H ys, Same H1 H → H D = some (.lst ys) → Al (G H) ys (bs.map f) → Qd H) :
    ∃ W : Nat → Nat → Hp → Prop, (∃ m, W 0 m (upd H1 D (.lst []))) ∧ ∀ i m H, W i m H →
      ((Itl K a).stop i H ∧ Qd H) ∨ ((Itl K a).go i H ∧ ∃ Nx : Hp → Prop, (∀ H', Nx H' → ∃ m', m' < m ∧ W (i + 1) m' H') ∧ ∀ x H', (Itl K a).yld i H x H' → g x (wipe σ vs) H' fun σ2 H2 => wipe σ2 vs = wipe σ vs ∧ tt σ2 H2 fun b H3 =>
        if b = true then te σ2 H3 fun y H4 => ∃ acc, H4 D = some (.lst acc) ∧ acc.length < sizeLine ∧ Nx (upd H4 D (.lst (acc ++ [y]))) else Nx H3) := by
  refine lc_foldF (walk_list (K := K) (a := a) (xs := as.map V.ref)) (fun H => Same H1 H) (fun i H ys => Al (G H) ys ((bs.take i).map f)) (Same.new hD _) (fun H ys zs s _ => s.mut hD _) .nil (fun i H ys zs xs r _ => al_imp r fun v b => kD) (fun i H ys r => ?_) (fun H s => SqL.of (K := K) (s _ _ hl)) ?_ (fun H ys s hy r => hd H ys s hy (by rw [List.length_map, hab, List.take_length] at r; exact r))
  · have := al_len r
    rw [this, List.length_map, List.length_take]
    omega
  · rintro i x H2 H3 ys Nx Ex hi s hy r ⟨e, hx⟩ k1 k2
    obtain rfl : H2 = H3 := e.symm
    rw [List.length_map] at hi
    have ha : as[i]? = some as[i] := List.getElem?_eq_getElem hi
    have hb : bs[i]? = some (bs[i]'(hab ▸ hi)) := List.getElem?_eq_getElem (hab ▸ hi)
    have hx : (as.map V.ref)[i]? = some x := hx
    rw [List.getElem?_map, ha] at hx
    obtain rfl := Option.some.inj hx
    have et : bs.take (i + 1) = bs.take i ++ [bs[i]'(hab ▸ hi)] := by rw [List.take_add_one, hb]; rfl
    rw [et, List.map_append] at k1
    refine hs i as[i] _ H2 Nx Ex ha hb s ⟨_, hy⟩ fun y H4 s4 gy => k1 y H4 (s.trans s4) (s4 _ _ hy) ?_
    exact al_snoc (al_imp r fun v b => kG s4) gy
theorem bitG (m a : Nat) : decide (V.int (((m : Nat) : Int) / 2 ^ a % 2) = V.int 1) = m.testBit a := by
  rw [dec_int, Nat.testBit_eq_decide_div_mod_eq]
  have e2 : ((m : Int) / 2 ^ a) % 2 = ((m / 2 ^ a % 2 : Nat) : Int) := by
    rw [Int.natCast_emod, Int.natCast_ediv, Int.natCast_pow]
    rfl
  rw [e2]
  refine decide_eq_decide.mpr ?_
  omega

theorem inV_truesG : ∀ bs : List Bool, inV (.bl true) (bs.map V.bl) = bs.any id
  | [] => rfl
  | b :: bs => by
    show (eqV (.bl b) (.bl true) || inV (.bl true) (bs.map V.bl)) = (b || bs.any id)
    rw [inV_truesG bs]
    cases b <;> rfl
theorem cut_strsG {xs : List Str} {k : Nat} (h : k ≤ xs.length) : cutV (xs.map V.str) none (some (k : Int)) = (xs.take k).map V.str := by
  unfold cutV
  simp only [sIx_some, sIx_none, List.length_map, Nat.min_eq_left h]
  rw [List.drop_zero, Nat.sub_zero, List.map_take]
theorem set1_run {te : TE} {g : TG} {D : Ends} {σ : L2.St} {H : Hp} (Pv : V → Hp → Prop) (h : ∀ Q' : V → Hp → Prop, (∀ v H', Pv v H' → Q' v H') → te σ H Q') (q : ∀ v H', Pv v H' → g v σ H' D.nx) : tAsg te g D σ H := h _ fun v H' p => q v H' p
end
/-! ### _law_size -/
section
open PyProof.Rows
set_option pp.maxSteps 1500
variable {w W_ : World} {K : PySem.W.Frag} {mg : Str → Option Value} {base : Heap} {mm : List (Str × Addr)} {H H' : Hp} {L : Lt}
def mostN (d : Bool) : Nat := if d then 6 else 16
/-- what can be made -/
def Fine (d : Bool) (xs : List Str) (qs : List (Str × Str)) : Prop := OkN (mostN d) xs ∧ Known xs qs ∧ (d = true → Anti xs.length (idxs xs qs))
noncomputable def sizeN (d : Bool) (xs : List Str) (qs : List (Str × Str)) : Nat := if d then (heaps xs.length (idxs xs qs)).length else xs.length
def sp_lsz (K : PySem.W.Frag) : Sp := fun vs H Q _ => ∃ (a b : Addr) (d : Bool) (xs : List Str) (ts : List Addr) (qs : List (Str × Str)), vs = [.ref a, .ref b, .bl d] ∧ H a = some (.lst (xs.map V.str)) ∧ H b = some (.lst (ts.map V.ref)) ∧ Al (fun t q => H t = some (.tup [.str q.1, .str q.2])) ts qs ∧ xs.length ≤ 17 ∧ qs.length ≤ 100 ∧ (∀ x ∈ xs, x.length ≤ 100) ∧
  (Fine d xs qs → ∀ H', Same H H' → Q (.int (sizeN d xs qs : Nat)) H') ∧ (¬ Fine d xs qs → ∀ H', Same H H' → Q (.int (-1)) H')
theorem heapB_is2 {n : Nat} {ps : List (Nat × Nat)} (hp : ∀ q ∈ ps, q.1 < n ∧ q.2 < n) {i : Nat} (hi : i < 2 ^ n) : heapB n ps i = (((List.range n).filter fun a => !(decide (a ∈ (List.range n).filter i.testBit))).all fun a => !((((List.range n).filter i.testBit).map (closedR n ps a)).any id)) := by
  refine Bool.eq_iff_iff.mpr ?_
  have h1 : heapB n ps i = true ↔ i ∈ heaps n ps := by
    unfold heaps
    rw [List.mem_filter, List.mem_range]
    exact ⟨fun h => ⟨hi, h⟩, fun h => h.2⟩
  have mem : ∀ a, a ∈ (List.range n).filter i.testBit ↔ a < n ∧ i.testBit a = true := fun a => by rw [List.mem_filter, List.mem_range]
  rw [h1, heap_mem, List.all_eq_true]
  constructor
  · rintro ⟨_, h⟩ a ha
    obtain ⟨ha1, ha2⟩ := List.mem_filter.mp ha
    rw [Bool.not_eq_true', decide_eq_false_iff_not] at ha2
    rw [Bool.not_eq_true', List.any_eq_false]
    intro c hc
    obtain ⟨b, hb, rfl⟩ := List.mem_map.mp hc
    intro z
    obtain ⟨hb1, hb2⟩ := (mem b).mp hb
    exact ha2 ((mem a).mpr ⟨List.mem_range.mp ha1, h b hb1 hb2 a (List.mem_range.mp ha1) ((closed_reach hp).mp z)⟩)
  · intro h
    refine ⟨hi, fun a ha hb b hbn r => Classical.byContradiction fun z => ?_⟩
    have h2 := h b (List.mem_filter.mpr ⟨List.mem_range.mpr hbn, by rw [Bool.not_eq_true', decide_eq_false_iff_not]; exact fun m => z ((mem b).mp m).2⟩)
    rw [Bool.not_eq_true', List.any_eq_false] at h2
    exact h2 (closedR n ps b a) (List.mem_map.mpr ⟨a, (mem a).mpr ⟨ha, hb⟩, rfl⟩) ((closed_reach hp).mpr r)
theorem ok_lsz (T : Tx K mg w) : FnOk PL w K mg base CX0 3 T.a__law_size T.d__law_size ["names", "pairs", "downs"] (sp_lsz K) := by
  have G__law_right_name := ok_rnm (w := w) (base := base) T
  have G__law_closed := ok_lcl (w := w) (base := base) T
  refine T.F__law_size.ok sc__law_size (fun vs H Q E h => ?_) (fun cdv A outer s H vs Q E hr h => ?_)
  · obtain ⟨a, b, d, xs, ts, qs, rfl, _⟩ := h
    rfl
  obtain ⟨a, b, d, xs, ts, qs, rfl, ha, hb, hts, n17, ql, xw, q, qe⟩ := h
  refine ⟨_, pss_cons (ps_set (i := 3) sc__law_size.nd rfl (Or.inl rfl) (pe_ifExp (pt_val (pv 2)) pe_int pe_int))
    (pss_cons (ps_if (pt_not (pt_chain op_lt op_le pe_int (pe_callB call_len_seq (by rfl) T.n_len (by decide +kernel) (pa_cons (pv 0) pa_nil)) (pv 3))) (pss_one (ps_ret (pe_un un_neg pe_int))) pss_nil)
    (pss_cons (ps_for PassesOwn.never rfl (pi_range1 (by rfl) T.n_range (pa_cons (pe_callB call_len_seq (by rfl) T.n_len (by decide +kernel) (pa_cons (pv 0) pa_nil)) pa_nil)) (pg_name (i := 4) sc__law_size.nd rfl (Or.inl rfl)) (pss_one (ps_if (PW.pt (pw_or (pt_not (pt_val (pe_call G__law_right_name (hr.mono (by omega)) (by rfl) T.g__law_right_name T.F__law_right_name.kp T.b__law_right_name .nil pass0 (pa_cons (pe_ix ix_list (pv 0) (pv 4) (fun _ _ => rfl)) pa_nil)))) (pw_or1 (pt_cmpR op_in_seq (pe_ix ix_list (pv 0) (pv 4) (fun _ _ => rfl)) (pe_slice sl_list (pv 0) po_none (po_some (pv 4))) (by rfl))))) (pss_one (ps_ret (pe_un un_neg pe_int))) pss_nil)))
    (pss_cons (ps_for PassesOwn.never rfl (pi_list (pv 1)) (pg_name (i := 5) sc__law_size.nd rfl (Or.inl rfl)) (pss_one (ps_if (PW.pt (pw_or (pt_cmpR op_notIn_seq (pe_ix ix_tup (pv 5) pe_int (fun _ _ => rfl)) (pv 0) (by rfl)) (pw_or1 (pt_cmpR op_notIn_seq (pe_ix ix_tup (pv 5) pe_int (fun _ _ => rfl)) (pv 0) (by rfl))))) (pss_one (ps_ret (pe_un un_neg pe_int))) pss_nil)))
    (pss_cons (ps_if (pt_not (pt_val (pv 2))) (pss_one (ps_ret (pe_callB call_len_seq (by rfl) T.n_len (by decide +kernel) (pa_cons (pv 0) pa_nil)))) pss_nil)
    (pss_cons (ps_set (i := 6) sc__law_size.nd rfl (Or.inr rfl) (pe_call G__law_closed (hr.mono (by omega)) (by rfl) T.g__law_closed T.F__law_closed.kp T.b__law_closed .nil pass0 (pa_cons (pe_callB call_len_seq (by rfl) T.n_len (by decide +kernel) (pa_cons (pv 0) pa_nil)) (pa_cons (pe_lc (own := [("pair", 5)]) (g := gName 5) (tt := tYes) rfl sc__law_size.nd (pi_list (pv 1)) (blkOk_by (N := N__law_size) (sc := defScope St__law_size) (by decide +kernel)) (fun _ _ _ _ _ => (pg_name (i := 5) sc__law_size.nd rfl (Or.inl rfl))) (fun _ _ _ _ _ => pts_nil) (fun _ _ _ _ _ => (pe_lst (pa_cons (kx_bm K (pe_bm PySem.F.plainAttrs_list PySem.F.slot_list_index PySem.F.type_list_index (kx_mt_index K) (pv 0) (pa_cons (pe_ix (kx_ix_tup K) (pv 5) pe_int (fun _ _ => rfl)) pa_nil))) (pa_cons (kx_bm K (pe_bm PySem.F.plainAttrs_list PySem.F.slot_list_index PySem.F.type_list_index (kx_mt_index K) (pv 0) (pa_cons (pe_ix (kx_ix_tup K) (pv 5) pe_int (fun _ _ => rfl)) pa_nil))) pa_nil))))) pa_nil))))
    (pss_cons (ps_set (i := 7) sc__law_size.nd rfl (Or.inl rfl) pe_int)
    (pss_cons (ps_for PassesOwn.never rfl (pi_range1 (by rfl) T.n_range (pa_cons (pe_op op_shl pe_int (pe_callB call_len_seq (by rfl) T.n_len (by decide +kernel) (pa_cons (pv 0) pa_nil))) pa_nil)) (pg_name (i := 8) sc__law_size.nd rfl (Or.inr rfl)) (pss_cons (ps_set (i := 9) sc__law_size.nd rfl (Or.inr rfl) (pe_lc (own := [("a", 10)]) (g := gName 10) rfl sc__law_size.nd (pi_range1 (by rfl) T.n_range (pa_cons (pe_callB call_len_seq (by rfl) T.n_len (by decide +kernel) (pa_cons (pv 0) pa_nil)) pa_nil)) (blkOk_by (N := N__law_size) (sc := defScope St__law_size) (by decide +kernel)) (fun _ _ _ _ _ => (pg_name (i := 10) sc__law_size.nd rfl (Or.inl rfl))) (fun _ _ _ _ _ => (pts_one (pt_cmpR op_eq (pe_op op_mod (pe_callTy call_int1 (by rfl) T.n_int (by decide +kernel) (pa_cons (pe_op op_shr (pv 8) (pv 10)) pa_nil)) pe_int) pe_int (nomark _)))) (fun _ _ _ _ _ => (pv 10))))
    (pss_cons (ps_setLc (i := 11) (own := [("a", 10)]) (g := gName 10) rfl sc__law_size.nd rfl rfl (sw_true rfl rfl rfl (by decide +kernel)) (pi_range1 (by rfl) T.n_range (pa_cons (pe_callB call_len_seq (by rfl) T.n_len (by decide +kernel) (pa_cons (pv 0) pa_nil)) pa_nil)) (blkOk_by (N := N__law_size) (sc := defScope St__law_size) (by decide +kernel)) (fun _ _ _ _ _ => (pg_name (i := 10) sc__law_size.nd rfl (Or.inl rfl))) (fun _ _ _ _ _ => (pts_one (pt_cmpR (kx_op_notIn_seq K) (pv 10) (pv 9) (by rfl)))) (fun _ _ _ _ _ => (pv 10)))
    (pss_cons (ps_set (i := 12) sc__law_size.nd rfl (Or.inl rfl) pe_bl)
    (pss_cons (ps_for PassesOwn.never rfl (pi_list (pv 11)) (pg_name (i := 10) sc__law_size.nd rfl (Or.inr rfl)) (pss_one (ps_set (i := 12) sc__law_size.nd rfl (Or.inl rfl) (pe_and (pv 12) (pe_one (pe_cmpR op_notIn_seq pe_bl (pe_lc (own := [("b", 13)]) (g := gName 13) (tt := tYes) rfl sc__law_size.nd (pi_list (pv 9)) (blkOk_by (N := N__law_size) (sc := defScope St__law_size) (by decide +kernel)) (fun _ _ _ _ _ => (pg_name (i := 13) sc__law_size.nd rfl (Or.inl rfl))) (fun _ _ _ _ _ => pts_nil) (fun _ _ _ _ _ => (pe_ix (kx_ix_list K) (pe_ix (kx_ix_list K) (pv 6) (pv 10) (fun _ _ => rfl)) (pv 13) (fun _ _ => rfl)))) (by rfl)))))))
    (pss_one (ps_set (i := 7) sc__law_size.nd rfl (Or.inl rfl) (pe_op op_add (pv 7) (pe_callTy call_int1 (by rfl) T.n_int (by decide +kernel) (pa_cons (pv 12) pa_nil))))))))))
    (pss_cons (ps_for PassesOwn.never rfl (pi_range1 (by rfl) T.n_range (pa_cons (pe_callB call_len_seq (by rfl) T.n_len (by decide +kernel) (pa_cons (pv 0) pa_nil)) pa_nil)) (pg_name (i := 10) sc__law_size.nd rfl (Or.inr rfl)) (pss_one (ps_if (pt_cmpR op_in_seq pe_bl (pe_lc (own := [("b", 13)]) (g := gName 13) (tt := tYes) rfl sc__law_size.nd (pi_range1 (by rfl) T.n_range (pa_cons (pe_callB call_len_seq (by rfl) T.n_len (by decide +kernel) (pa_cons (pv 0) pa_nil)) pa_nil)) (blkOk_by (N := N__law_size) (sc := defScope St__law_size) (by decide +kernel)) (fun _ _ _ _ _ => (pg_name (i := 13) sc__law_size.nd rfl (Or.inl rfl))) (fun _ _ _ _ _ => pts_nil) (fun _ _ _ _ _ => (pe_and (pe_cmpR op_ne (pv 10) (pv 13) (nomark _)) (pe_and (pe_ix (kx_ix_list K) (pe_ix (kx_ix_list K) (pv 6) (pv 10) (fun _ _ => rfl)) (pv 13) (fun _ _ => rfl)) (pe_one (pe_ix (kx_ix_list K) (pe_ix (kx_ix_list K) (pv 6) (pv 13) (fun _ _ => rfl)) (pv 10) (fun _ _ => rfl))))))) (by rfl)) (pss_one (ps_ret (pe_un un_neg pe_int))) pss_nil)))
    (pss_one (ps_ret (pv 7))))))))))), ?_⟩
  have tl := al_len hts
  refine set_run (fun v H' => v = .int (mostN d : Nat) ∧ H = H') (fun Q' q' => ?_) ?_
  · cases d with
    | true => exact ⟨_, rfl, true, rfl, iteT (q' _ _ ⟨rfl, rfl⟩)⟩
    | false => exact ⟨_, rfl, false, rfl, iteF (q' _ _ ⟨rfl, rfl⟩)⟩
  rintro _ _ ⟨rfl, rfl⟩
  dsimp only [gName]
  have qe' : ∀ H', Same H H' → ¬ Fine d xs qs → Q (.int (-1)) H' := fun H' s f => qe f H' s
  show tSeq _ _ _ [some (.ref a), some (.ref b), some (.bl d), some (.int (mostN d : Nat)), none, none, none, none, none, none, none, none, none, none] H
  have sq : ∀ {H'}, Same H H' → SqL K H' a (xs.map V.str) := fun s => SqL.of (K := K) (s _ _ ha)
  refine st_run (fun σ H' => σ = [some (.ref a), some (.ref b), some (.bl d), some (.int (mostN d : Nat)), none, none, none, none, none, none, none, none, none, none] ∧ H = H' ∧ 1 ≤ xs.length ∧ xs.length ≤ mostN d) (fun D' hD q' => ?_) ?_
  · refine ⟨_, rfl, a, _, rfl, .inl (sq (Same.refl _)), _, _, rfl, rfl, _, rfl, ?_⟩
    rw [List.length_map]
    by_cases c1 : 1 ≤ xs.length
    · refine iteY (by omega) ?_
      refine ⟨_, rfl, _, _, rfl, rfl, _, rfl, ?_⟩
      by_cases c2 : xs.length ≤ mostN d
      · rw [decide_eq_true (by omega : (xs.length : Int) ≤ (mostN d : Nat))]
        exact iteF (nx_run (q' _ _ ⟨rfl, rfl, c1, c2⟩))
      · rw [decide_eq_false (by omega : ¬ (xs.length : Int) ≤ (mostN d : Nat))]
        refine iteT ⟨1, rfl, ?_⟩
        show D'.rt _ _
        rw [hD]
        exact qe' H (Same.refl _) fun f => c2 f.1.le
    · refine iteN (by omega) ⟨_, rfl, iteT ⟨1, rfl, ?_⟩⟩
      show D'.rt _ _
      rw [hD]
      exact qe' H (Same.refl _) fun f => c1 f.1.pos
  rintro _ _ ⟨rfl, rfl, c1, c2⟩
  refine st_run (fun σ H' => (∃ v4, σ = [some (.ref a), some (.ref b), some (.bl d), some (.int (mostN d : Nat)), v4, none, none, none, none, none, none, none, none, none]) ∧ Same H H' ∧ xs.Nodup ∧ ∀ x ∈ xs, NameW x) (fun D' hD q' => ?_) ?_
  · refine ⟨_, rfl, a, _, rfl, .inl (sq (Same.refl _)), ?_⟩
    rw [List.length_map]
    refine ⟨_, rfl, by omega, by omega, for_range (lo := 0) (n := xs.length) (fun i σ H' => (∃ v4, σ = [some (.ref a), some (.ref b), some (.bl d), some (.int (mostN d : Nat)), v4, none, none, none, none, none, none, none, none, none]) ∧ Same H H' ∧ (xs.take i).Nodup ∧ ∀ x ∈ xs.take i, NameW x) ⟨⟨_, rfl⟩, Same.refl _, .nil, fun x hx => by simp at hx⟩ ?_ ?_⟩
    · rintro i σ H1 hi ⟨⟨v4, rfl⟩, s1, nd, nw⟩
      rw [show (0 : Int) + (i : Int) = ((i : Nat) : Int) by omega]
      have hx : xs[i]? = some xs[i] := List.getElem?_eq_getElem hi
      generalize xs[i] = x at hx
      have xm := List.mem_of_getElem? hx
      have mx : (xs.map V.str)[i]? = some (.str x) := by rw [List.getElem?_map, hx]; rfl
      refine ⟨_, rfl, _, rfl, a, _, _, _, rfl, rfl, sq s1, atI_nat mx, x, rfl, xw x xm, fun b hb => ⟨b, rfl, ?_⟩⟩
      have bad : ¬ NameW x → D'.rt (.int (-1)) H1 := fun z => by
        rw [hD]
        exact qe' H1 s1 fun f => z (f.1.w x xm)
      cases b with
      | false => exact iteT ⟨1, rfl, bad fun z => nomatch hb.mpr z⟩
      | true =>
        have wx := hb.mp rfl
        refine iteF ?_
        refine ⟨_, rfl, _, rfl, a, _, _, _, rfl, rfl, sq s1, atI_nat mx, _, rfl, _, rfl, _, rfl, a, _, rfl, sq s1, newQ (.lst (cutV (xs.map V.str) none (some (i : Int)))) fun l hl s12 lh => ?_⟩
        have s2 := s1.trans s12
        generalize upd H1 l (.lst (cutV (xs.map V.str) none (some (i : Int)))) = H2 at lh s12 s2 ⊢
        rw [cut_strsG (Nat.le_of_lt hi)] at lh
        refine ⟨l, _, rfl, .inl (SqL.of (K := K) lh), rfl, flat_strs _, _, rfl, ?_⟩
        rw [if_neg (by decide), inV_strs]
        by_cases c : x ∈ xs.take i
        · rw [decide_eq_true c]
          refine iteT ⟨1, rfl, ?_⟩
          show D'.rt _ _
          rw [hD]
          refine qe' H2 s2 fun f => ?_
          have nd2 := f.1.nd
          rw [← List.take_append_drop i xs] at nd2
          refine (List.nodup_append.mp nd2).2.2 x c x ?_ rfl
          rw [List.mem_iff_getElem?]
          exact ⟨0, by rw [List.getElem?_drop, Nat.add_zero]; exact hx⟩
        · rw [decide_eq_false c]
          refine iteF (nx_run ⟨⟨_, rfl⟩, s2, ?_, ?_⟩)
          · rw [take_snoc hx]
            refine List.nodup_append.mpr ⟨nd, by simp, fun y hy z hz => ?_⟩
            obtain rfl : z = x := by simpa using hz
            exact fun e => c (e ▸ hy)
          · rw [take_snoc hx]
            intro y hy
            rcases List.mem_append.mp hy with hy | hy
            · exact nw y hy
            · obtain rfl : y = x := by simpa using hy
              exact wx
    · rintro σ H1 ⟨⟨v4, rfl⟩, s1, nd, nw⟩
      rw [List.take_length] at nd nw
      exact q' _ _ ⟨⟨_, rfl⟩, s1, nd, nw⟩
  rintro _ H1 ⟨⟨v4, rfl⟩, s1, nd, nw⟩
  refine st_run (fun σ H' => (∃ v4 v5, σ = [some (.ref a), some (.ref b), some (.bl d), some (.int (mostN d : Nat)), v4, v5, none, none, none, none, none, none, none, none]) ∧ Same H H' ∧ Known xs qs) (fun D' hD q' => ?_) ?_
  · refine ⟨_, rfl, b, rfl, ⟨_, SqL.of (K := K) (s1 _ _ hb)⟩, for_list (K := K) (a := b) (xs := ts.map V.ref) (fun i σ H' => (∃ v4 v5, σ = [some (.ref a), some (.ref b), some (.bl d), some (.int (mostN d : Nat)), v4, v5, none, none, none, none, none, none, none, none]) ∧ Same H H' ∧ Known xs (qs.take i)) ⟨⟨_, _, rfl⟩, s1, fun q hq => by simp at hq⟩ (fun i σ H2 _ h => SqL.of (K := K) (h.2.1 _ _ hb)) ?_ ?_⟩
    · rintro i x σ H2 hx ⟨⟨v4, v5, rfl⟩, s2, kn⟩
      rw [List.getElem?_map] at hx
      obtain ⟨t, ht, rfl⟩ := Option.map_eq_some_iff.mp hx
      obtain ⟨r, hr', et⟩ := al_get hts ht
      have et2 := s2 _ _ et
      dsimp only [gName]
      refine ⟨_, rfl, t, _, _, _, rfl, rfl, SqT.of (K := K) et2, atI_nat (j := 0) rfl, _, rfl, a, _, rfl, .inl (sq s2), rfl, flat_strs _, _, rfl, ?_⟩
      by_cases k1 : r.1 ∈ xs
      · rw [inV_yes k1]
        refine iteF ?_
        refine ⟨_, rfl, t, _, _, _, rfl, rfl, SqT.of (K := K) et2, atI_nat (j := 1) rfl, _, rfl, a, _, rfl, .inl (sq s2), rfl, flat_strs _, _, rfl, ?_⟩
        by_cases k2 : r.2 ∈ xs
        · rw [inV_yes k2]
          refine iteF (nx_run ⟨⟨_, _, rfl⟩, s2, fun q hq => ?_⟩)
          rw [take_snoc hr'] at hq
          rcases List.mem_append.mp hq with hq | hq
          · exact kn q hq
          · obtain rfl : q = r := by simpa using hq
            exact ⟨k1, k2⟩
        · rw [inV_no k2]
          refine iteT ⟨1, rfl, ?_⟩
          show D'.rt _ _
          rw [hD]
          exact qe' H2 s2 fun f => k2 (f.2.1 r (List.mem_of_getElem? hr')).2
      · rw [inV_no k1]
        refine iteT ⟨1, rfl, ?_⟩
        show D'.rt _ _
        rw [hD]
        exact qe' H2 s2 fun f => k1 (f.2.1 r (List.mem_of_getElem? hr')).1
    · rintro σ H2 ⟨⟨v4, v5, rfl⟩, s2, kn⟩
      rw [List.length_map, tl, List.take_length] at kn
      exact q' _ _ ⟨⟨_, _, rfl⟩, s2, kn⟩
  rintro _ H2 ⟨⟨v4, v5, rfl⟩, s2, kn⟩
  have okn : OkN (mostN d) xs := ⟨c1, c2, nd, nw⟩
  cases d with
  | false =>
    refine ⟨_, rfl, false, rfl, iteT ⟨_, rfl, a, _, rfl, .inl (sq s2), ?_⟩⟩
    rw [List.length_map]
    exact q ⟨okn, kn, fun z => nomatch z⟩ H2 s2
  | true =>
  refine ⟨_, rfl, true, rfl, iteF (nx_run ?_)⟩
  dsimp only
  have n6 : xs.length ≤ 6 := c2
  have pn : ∀ q ∈ idxs xs qs, q.1 < xs.length ∧ q.2 < xs.length := fun q hq => by
    obtain ⟨z, hz, rfl⟩ := List.mem_map.mp hq
    exact ⟨List.idxOf_lt_length_of_mem (kn z hz).1, List.idxOf_lt_length_of_mem (kn z hz).2⟩
  have pz : (idxs xs qs).length ≤ 100 := by unfold idxs; rw [List.length_map]; exact ql
  have q : Anti xs.length (idxs xs qs) → ∀ H', Same H H' → Q (.int ((heaps xs.length (idxs xs qs)).length : Nat)) H' := fun an => q ⟨okn, kn, fun _ => an⟩
  have qe : ¬ Anti xs.length (idxs xs qs) → ∀ H', Same H H' → Q (.int (-1)) H' := fun an => qe fun f => an (f.2.2 rfl)
  have e0 : idxs xs qs = qs.map fun q => (xs.idxOf q.1, xs.idxOf q.2) := rfl
  generalize idxs xs qs = ps at pn pz q qe e0
  refine set_run (fun v H' => ∃ r, v = .ref r ∧ Same H2 H' ∧ GridAt H' r xs.length (rowV (closedR xs.length ps))) (fun Q' q' => ?_) ?_
  · refine ⟨_, rfl, a, _, rfl, .inl (sq s2), ?_⟩
    rw [List.length_map]
    refine ⟨_, rfl, b, rfl, ⟨_, SqL.of (K := K) (s2 _ _ hb)⟩, fun D hD => ?_⟩
    refine lc_refs (G := fun H v (q : Nat × Nat) => ∃ t, v = V.ref t ∧ t ≠ D ∧ H t = some (.lst [.int (q.1 : Nat), .int (q.2 : Nat)])) (fun q : Str × Str => (xs.idxOf q.1, xs.idxOf q.2)) hD (fun s ⟨t, e, n, h⟩ => ⟨t, e, n, s _ _ h⟩) (fun ⟨t, e, n, h⟩ => ⟨t, e, n, (upd_ne n).trans h⟩) (by rw [tl]; omega) tl (s2 _ _ hb) ?_ (fun H6 ys s6 hy6 rr => ?_)
    · rintro i t r H3 Nx Ex ht hr' s3 ⟨ys, hys⟩ ky
      refine ⟨rfl, ?_⟩
      refine lcY ?_
      obtain ⟨r2, hr2, et⟩ := al_get hts ht
      obtain rfl : r = r2 := Option.some.inj (hr'.symm.trans hr2)
      have et3 := s3 _ _ (s2 _ _ et)
      have kk := kn r (List.mem_of_getElem? hr')
      obtain ⟨i1, i2, i3⟩ := index_at nd (idx_get kk.1)
      obtain ⟨j1, j2, j3⟩ := index_at nd (idx_get kk.2)
      have sq3 := sq (s2.trans s3)
      refine ⟨_, rfl, .inl ⟨rfl, _, sq3⟩, _, rfl, t, _, _, _, rfl, rfl, SqT.of (K := K) et3, atI_nat (j := 0) rfl, a, _, _, _, _, rfl, rfl, sq3, rfl, flat_strs _, i1, i2, i3, ?_⟩
      refine ⟨_, rfl, .inl ⟨rfl, _, sq3⟩, _, rfl, t, _, _, _, rfl, rfl, SqT.of (K := K) et3, atI_nat (j := 1) rfl, a, _, _, _, _, rfl, rfl, sq3, rfl, flat_strs _, j1, j2, j3, ?_⟩
      exact ⟨(by show 2 ≤ sizeLine; decide), newQ (.lst _) fun l hl s e => ky _ _ s ⟨l, rfl, (fun z => by rw [z, hys] at hl; cases hl), e⟩⟩
    · obtain ⟨ls, rfl, al⟩ := al_refs rr
      rw [← e0] at al
      exact ⟨D, xs.length, ps, rfl, ⟨ls, hy6, al_imp al fun l q h => h.2⟩, by omega, by omega, pn, fun r H7 s7 hg => q' _ _ ⟨r, rfl, s6.trans s7, hg⟩⟩
  rintro _ H3 ⟨r, rfl, s3, hg⟩
  have s3 := s2.trans s3
  dsimp only [gName]
  have n64 : 2 ^ xs.length ≤ 64 := Nat.le_trans (Nat.pow_le_pow_right (by decide) n6) (by decide)
  refine set_run (fun v H' => v = .int ((0 : Nat) : Int) ∧ H3 = H') (fun Q' q' => q' _ _ ⟨rfl, rfl⟩) ?_
  rintro _ _ ⟨rfl, rfl⟩
  dsimp only [gName]
  show tSeq _ _ _ [some (.ref a), some (.ref b), some (.bl true), some (.int (mostN true : Nat)), v4, v5, some (.ref r), some (.int ((0 : Nat) : Int)), none, none, none, none, none, none] H3
  refine st_run (fun σ H' => ∃ (v8 v9 v10 v11 v12 v13 : Option V), σ = [some (.ref a), some (.ref b), some (.bl true), some (.int (mostN true : Nat)), v4, v5, some (.ref r), some (.int ((heaps xs.length ps).length : Nat)), v8, v9, v10, v11, v12, v13] ∧ Same H3 H') (fun D' hD q' => ?_) ?_
  · refine rg_run (fun z H' => z = ((2 ^ xs.length : Nat) : Int) ∧ H3 = H') (fun Q' q'' => ?_) ?_
    · refine ⟨_, rfl, a, _, rfl, .inl (sq s3), _, _, rfl, rfl, ?_⟩
      rw [List.length_map]
      refine ⟨⟨Int.natCast_nonneg _, (by show ((xs.length : Nat) : Int) ≤ _; omega), by decide⟩, q'' _ _ ⟨?_, rfl⟩⟩
      exact one_shl xs.length
    rintro _ _ ⟨rfl, rfl⟩
    have z64 : ((2 ^ xs.length : Nat) : Int) ≤ 64 := Int.ofNat_le.mpr n64
    refine ⟨_, rfl, Int.natCast_nonneg _, (by generalize ((2 ^ xs.length : Nat) : Int) = z at z64 ⊢; omega), for_range (lo := 0) (n := 2 ^ xs.length) (fun i σ H' => ∃ (v8 v9 v10 v11 v12 v13 : Option V), σ = [some (.ref a), some (.ref b), some (.bl true), some (.int (mostN true : Nat)), v4, v5, some (.ref r), some (.int (((List.range i).filter (heapB xs.length ps)).length : Nat)), v8, v9, v10, v11, v12, v13] ∧ Same H3 H') ⟨_, _, _, _, _, _, rfl, Same.refl _⟩ ?_ (fun σ H' h => q' _ _ h)⟩
    rintro i σ H4 hi ⟨v8, v9, v10, v11, v12, v13, rfl, s4⟩
    have hi : i < 2 ^ xs.length := hi
    rw [show (0 : Int) + (i : Int) = ((i : Nat) : Int) by omega]
    dsimp only [gName]
    have hg4 := hg.same s4
    refine ⟨_, rfl, a, _, rfl, .inl (sq (s3.trans s4)), ?_⟩
    rw [List.length_map]
    refine ⟨_, rfl, by omega, by omega, fun D hD => ?_⟩
    refine lc_rng (n := xs.length) (G := fun _ v (y : Nat) => v = V.int (y : Nat)) i.testBit id hD (fun _ h => h) (fun h => h) (by omega) ?_ (fun H5 zs s5 hz rr => ?_)
    · rintro a H3 Nx Ex ha s3 _ ky kn
      refine ⟨rfl, ?_⟩
      refine ⟨_, rfl, _, rfl, _, _, rfl, rfl, Int.natCast_nonneg _, .inl ⟨_, rfl, _, _, rfl, rfl, (by show (0 : Int) < 2; decide), rfl, _, rfl, ?_⟩⟩
      show if decide (V.int (((i : Nat) : Int) / 2 ^ a % 2) = V.int 1) = true then _ else _
      rw [bitG]
      cases e : i.testBit a with
      | true => exact iteT ⟨_, rfl, ky e _ _ (Same.refl _) rfl⟩
      | false => exact iteF (kn e _ (Same.refl _))
    rw [List.map_id] at rr
    rw [al_map rr] at hz
    have memn : ∀ x ∈ (List.range xs.length).filter i.testBit, x < xs.length := fun x hx => List.mem_range.mp (List.mem_filter.mp hx).1
    have hB := heapB_is2 pn hi
    have usl := filter_le i.testBit xs.length
    generalize (List.range xs.length).filter i.testBit = us at hz memn hB usl
    have hz : H5 D = some (.lst (natV us)) := hz
    have hg5 := hg4.same s5
    have s35 := s4.trans s5
    dsimp only [gName]
    refine ⟨_, rfl, a, _, rfl, .inl (sq (s3.trans s35)), ?_⟩
    rw [List.length_map]
    refine ⟨_, rfl, by omega, by omega, fun D2 hD2 => ?_⟩
    refine lc_rng (n := xs.length) (G := fun _ v (y : Nat) => v = V.int (y : Nat)) (fun a => !(decide (a ∈ us))) id hD2 (fun _ h => h) (fun h => h) (by omega) ?_ (fun H6 zs2 s6 hz2 rr2 => ?_)
    · rintro a H6 Nx Ex ha s6 _ ky kn
      refine ⟨rfl, ?_⟩
      refine ⟨_, rfl, _, rfl, D, _, rfl, .inl (SqL.of (K := K) (s6 _ _ hz)), rfl, flat_nats _, _, rfl, ?_⟩
      rw [if_pos rfl, inV_nats]
      cases ed : decide (a ∈ us) with
      | false => exact iteT ⟨_, rfl, ky (by rw [ed]; rfl) _ _ (Same.refl _) rfl⟩
      | true => exact iteF (kn (by rw [ed]; rfl) _ (Same.refl _))
    rw [List.map_id] at rr2
    rw [al_map rr2] at hz2
    have outn : ∀ x ∈ (List.range xs.length).filter (fun a => !(decide (a ∈ us))), x < xs.length := fun x hx => List.mem_range.mp (List.mem_filter.mp hx).1
    generalize (List.range xs.length).filter (fun a => !(decide (a ∈ us))) = outs at hz2 hB outn
    have hz2 : H6 D2 = some (.lst (natV outs)) := hz2
    have hz6 := s6 _ _ hz
    have hg6 := hg5.same s6
    have s36 := s35.trans s6
    dsimp only [gName]
    refine set_run (fun v H' => v = .bl ((outs.take 0).all fun a => !((us.map (closedR xs.length ps a)).any id)) ∧ H6 = H') (fun Q' q' => q' _ _ ⟨rfl, rfl⟩) ?_
    rintro _ _ ⟨rfl, rfl⟩
    dsimp only [gName]
    refine st_run (fun σ H' => ∃ (v10 v13 : Option V), σ = [some (.ref a), some (.ref b), some (.bl true), some (.int (mostN true : Nat)), v4, v5, some (.ref r), some (.int (((List.range i).filter (heapB xs.length ps)).length : Nat)), some (.int (i : Nat)), some (.ref D), v10, some (.ref D2), some (.bl (heapB xs.length ps i)), v13] ∧ Same H6 H') (fun D' hD' kk => ?_) ?_
    · refine ⟨_, rfl, D2, rfl, ⟨_, SqL.of (K := K) hz2⟩, for_list (K := K) (a := D2) (xs := natV outs) (fun j σ H' => ∃ (v10 v13 : Option V), σ = [some (.ref a), some (.ref b), some (.bl true), some (.int (mostN true : Nat)), v4, v5, some (.ref r), some (.int (((List.range i).filter (heapB xs.length ps)).length : Nat)), some (.int (i : Nat)), some (.ref D), v10, some (.ref D2), some (.bl ((outs.take j).all fun a => !((us.map (closedR xs.length ps a)).any id))), v13] ∧ Same H6 H') ⟨_, _, rfl, Same.refl _⟩ (fun j σ H' _ ⟨_, _, _, s⟩ => SqL.of (K := K) (s _ _ hz2)) ?_ ?_⟩
      · rintro j x σ H7 hx ⟨v10, v13, rfl, s7⟩
        obtain ⟨c, hc, rfl⟩ := nat_at hx
        have hcn := outn _ (List.mem_of_getElem? hc)
        dsimp only [gName]
        have hg7 := hg6.same s7
        refine set1_run (fun v H' => v = .bl ((outs.take (j + 1)).all fun a => !((us.map (closedR xs.length ps a)).any id)) ∧ Same H7 H') (fun Q' q' => ?_) ?_
        · have ea : (outs.take (j + 1)).all (fun a => !((us.map (closedR xs.length ps a)).any id)) = ((outs.take j).all (fun a => !((us.map (closedR xs.length ps a)).any id)) && !((us.map (closedR xs.length ps c)).any id)) := by
            rw [take_snoc hc, List.all_append]
            simp
          rw [ea] at q'
          refine ⟨_, rfl, _, rfl, ?_⟩
          cases e1 : (outs.take j).all fun a => !((us.map (closedR xs.length ps a)).any id) with
          | false => exact iteF (q' _ _ ⟨by rw [e1]; rfl, Same.refl _⟩)
          | true =>
            refine iteT ?_
            refine ⟨_, rfl, D, rfl, ⟨_, SqL.of (K := K) (s7 _ _ hz6)⟩, fun D3 hD3 => ?_⟩
            refine lc_lst (us := us) (G := fun _ v (b : Bool) => v = V.bl b) (fun _ => true) (closedR xs.length ps c) hD3 (fun _ h => h) (fun h => h) (by omega) (s7 _ _ hz6) ?_ (fun H8 zs3 s8 hz8 rr3 => ?_)
            · rintro j H8 Nx Ex hj s8 _ ky kn
              obtain ⟨ls1, l1, g1, g2, g3⟩ := (hg7.same s8).row hcn
              refine ⟨rfl, ?_⟩
              refine lcY ?_
              exact ⟨_, rfl, _, rfl, r, _, _, _, rfl, rfl, SqL.of (K := K) g1, atI_nat g2, _, rfl, l1, _, _, _, rfl, rfl, SqL.of (K := K) g3, atI_nat (rg_atG (memn j hj)), ky rfl _ _ (Same.refl _) rfl⟩
            · rw [flt_idG] at rr3
              rw [al_map rr3] at hz8
              refine ⟨D3, _, rfl, .inl (SqL.of (K := K) hz8), rfl, flat_blsG _, ?_⟩
              rw [if_pos rfl, inV_truesG]
              exact q' _ _ ⟨by rw [e1]; rfl, s8⟩
        · rintro _ H8 ⟨rfl, s8⟩
          exact ⟨_, _, rfl, s7.trans s8⟩
      · rintro σ H7 ⟨v10, v13, rfl, s7⟩
        refine kk _ _ ⟨v10, v13, ?_, s7⟩
        rw [natV_length, List.take_length, hB]
    rintro _ H7 ⟨v10', v13', rfl, s7⟩
    refine ⟨_, rfl, _, rfl, .inr ⟨_, rfl, _, _, rfl, rfl, ?_⟩⟩
    have e2 : V.int ((((List.range i).filter (heapB xs.length ps)).length : Nat) + (if heapB xs.length ps i = true then 1 else 0) : Int) = V.int (((List.range (i + 1)).filter (heapB xs.length ps)).length : Nat) := by
      rw [filter_snoc]
      cases heapB xs.length ps i <;> simp
    exact ⟨_, _, _, _, _, _, congrArg (fun v => ([some (V.ref a), some (V.ref b), some (V.bl true), some (V.int (mostN true : Nat)), v4, v5, some (V.ref r), some v, some (V.int (i : Nat)), some (V.ref D), v10', some (V.ref D2), some (V.bl (heapB xs.length ps i)), v13'] : List (Option V))) e2, s36.trans s7⟩
  rintro _ H4 ⟨v8, v9, v10, v11, v12, v13, rfl, s4⟩
  have s34 := s3.trans s4
  have hg4 := hg.same s4
  refine ⟨_, rfl, a, _, rfl, .inl (sq s34), ?_⟩
  rw [List.length_map]
  refine ⟨_, rfl, by omega, by omega, for_range (lo := 0) (n := xs.length) (fun i σ H' => (∃ (v10 v13 : Option V), σ = [some (.ref a), some (.ref b), some (.bl true), some (.int (mostN true : Nat)), v4, v5, some (.ref r), some (.int ((heaps xs.length ps).length : Nat)), v8, v9, v10, v11, v12, v13]) ∧ Same H4 H' ∧ ∀ j k, j < i → k < xs.length → j ≠ k → ¬ (closedR xs.length ps j k = true ∧ closedR xs.length ps k j = true)) ⟨⟨_, _, rfl⟩, Same.refl _, fun j k h => absurd h (Nat.not_lt_zero _)⟩ ?_ ?_⟩
  · rintro i σ H5 hi ⟨⟨v10, v13, rfl⟩, s5, no⟩
    rw [show (0 : Int) + (i : Int) = ((i : Nat) : Int) by omega]
    dsimp only [gName]
    have hg5 := hg4.same s5
    refine ⟨_, rfl, a, _, rfl, .inl (sq (s34.trans s5)), ?_⟩
    rw [List.length_map]
    refine ⟨_, rfl, by omega, by omega, fun D hD => ?_⟩
    refine lc_rng (n := xs.length) (G := fun _ v (y : Bool) => v = V.bl y) (fun _ => true) (fun j => !(decide (i = j)) && (closedR xs.length ps i j && closedR xs.length ps j i)) hD (fun _ h => h) (fun h => h) (by omega) ?_ (fun H6 zs s6 hz rr => ?_)
    · rintro j H6 Nx Ex hj s6 _ ky kn
      refine ⟨rfl, ?_⟩
      refine lcY ?_
      obtain ⟨ls1, l1, g1, g2, g3⟩ := (hg5.same s6).row hi
      obtain ⟨ls2, l2, f1, f2, f3⟩ := (hg5.same s6).row hj
      refine ⟨_, rfl, _, rfl, rfl, _, rfl, ?_⟩
      by_cases e : i = j
      · subst e
        rw [decide_eq_true rfl]
        refine iteF (ky rfl _ _ (Same.refl _) ?_)
        simp
      · rw [decide_eq_false (fun z => e (by injection z with z; omega))]
        refine iteT ⟨_, rfl, _, rfl, r, _, _, _, rfl, rfl, SqL.of (K := K) g1, atI_nat g2, _, rfl, l1, _, _, _, rfl, rfl, SqL.of (K := K) g3, atI_nat (rg_atG hj), _, rfl, ?_⟩
        cases c1 : closedR xs.length ps i j with
        | false => exact iteF (ky rfl _ _ (Same.refl _) (by rw [c1]; simp))
        | true => exact iteT ⟨_, rfl, _, rfl, r, _, _, _, rfl, rfl, SqL.of (K := K) f1, atI_nat f2, _, rfl, l2, _, _, _, rfl, rfl, SqL.of (K := K) f3, atI_nat (rg_atG hi), ky rfl _ _ (Same.refl _) (by rw [c1, decide_eq_false e]; rfl)⟩
    · rw [flt_idG] at rr
      rw [al_map rr] at hz
      refine ⟨D, _, rfl, .inl (SqL.of (K := K) hz), rfl, flat_blsG _, _, rfl, ?_⟩
      rw [if_neg (by decide), inV_truesG]
      cases c : ((List.range xs.length).map fun j => !(decide (i = j)) && (closedR xs.length ps i j && closedR xs.length ps j i)).any id with
      | true =>
        refine iteT ⟨1, rfl, ?_⟩
        refine qe (fun an => ?_) _ ((s34.trans s5).trans s6)
        obtain ⟨z, hz, e⟩ := List.any_eq_true.mp c
        obtain ⟨j, hj, rfl⟩ := List.mem_map.mp hz
        have hj := List.mem_range.mp hj
        have e : (!(decide (i = j)) && (closedR xs.length ps i j && closedR xs.length ps j i)) = true := e
        rw [Bool.and_eq_true, Bool.and_eq_true, Bool.not_eq_true', decide_eq_false_iff_not] at e
        exact e.1 (an i j hi hj ((closed_reach pn).mp e.2.1) ((closed_reach pn).mp e.2.2))
      | false =>
        refine iteF (nx_run ⟨⟨_, _, rfl⟩, s5.trans s6, fun j k hj hk ne => ?_⟩)
        rcases Nat.lt_or_ge j i with h | h
        · exact no j k h hk ne
        · obtain rfl : i = j := by omega
          rintro ⟨r1, r2⟩
          have := List.any_eq_false.mp c _ (List.mem_map.mpr ⟨k, List.mem_range.mpr hk, rfl⟩)
          refine this ?_
          show (!(decide (i = k)) && (closedR xs.length ps i k && closedR xs.length ps k i)) = true
          rw [r1, r2, decide_eq_false ne]
          rfl
  · rintro σ H5 ⟨⟨v10, v13, rfl⟩, s5, no⟩
    refine ⟨_, rfl, ?_⟩
    exact q (fun x y hx hy r1 r2 => Classical.byContradiction fun ne => no x y hx hy ne ⟨(closed_reach pn).mpr r1, (closed_reach pn).mpr r2⟩) _ (s34.trans s5)
end
/-! ### law k02 -/
section
open PyProof.Rows
set_option pp.maxSteps 2500
variable {w W_ : World} {K : PySem.W.Frag} {mg : Str → Option Value} {base : Heap}
/-- what is handed in -/
structure Giv (K : PySem.W.Frag) (H : Hp) (p ce na pl : Addr) (n : Nat) (xs : List Str) (ts : List Addr) (qs : List (Str × Str)) : Prop where
  src : Src K ce H p
  hc : ∃ o, H ce = some o
  np : na ≠ p
  pp : pl ≠ p
  npl : na ≠ pl
  nc : na ≠ ce
  pc : pl ≠ ce
  hn : H na = some (.lst (xs.map V.str))
  hp : H pl = some (.lst (ts.map V.ref))
  tup : Al (fun t q => H t = some (.tup [.str q.1, .str q.2])) ts qs
  len : xs.length = n
  w : ∀ x ∈ xs, x.length ≤ 13
theorem src_at {H : Hp} {p ce : Addr} (s : Src K ce H p) : ∃ vs, H p = some (.lst vs) := by
  obtain ⟨cs, i, l, m, S⟩ := s
  exact ⟨_, S.at_⟩
theorem ne_srcG {H : Hp} {p ce l : Addr} {i : Int} {xs : List V} (s : Src K ce H p) (hl : H l = some (.lst (.int i :: xs))) : l ≠ p := fun e => by
  obtain ⟨cs, k, l', m, S⟩ := s
  have := S.at_
  rw [← e, hl] at this
  cases this
theorem ne_src2 {H : Hp} {p ce l : Addr} {x y : V} (s : Src K ce H p) (hl : H l = some (.lst [x, y])) : l ≠ p := fun e => by
  obtain ⟨cs, k, l', m, S⟩ := s
  have := S.at_
  rw [← e, hl] at this
  cases this
theorem tup_ne {H : Hp} {p ce l : Addr} {xs : List V} (s : Src K ce H p) (hl : H l = some (.tup xs)) : l ≠ p := fun e => by
  obtain ⟨cs, k, l', m, S⟩ := s
  have := S.at_
  rw [← e, hl] at this
  cases this
theorem src_ne {H : Hp} {p ce : Addr} (s : Src K ce H p) : ce ≠ p := by
  obtain ⟨cs, i, l, m, S⟩ := s
  exact S.ne
theorem src_upd {H : Hp} {p ce a : Addr} {o : HO} (s : Src K ce H p) (n1 : a ≠ p) (n2 : a ≠ ce) : Src K ce (upd H a o) p := by
  obtain ⟨cs, i, l, m, S⟩ := s
  exact ⟨cs, i, l, m, (upd_ne n1.symm).trans S.at_, (But.upd (But.refl a H) _).seq n2.symm S.cel, S.ne, S.hi, S.hl, S.hc, S.m0, S.m1⟩
theorem tup_but {H H' : Hp} {a : Addr} {vs : List V} (h : H a = some (.lst vs)) (b : But a H H') {ts : List Addr} {qs : List (Str × Str)} (al : Al (fun t q => H t = some (.tup [.str q.1, .str q.2])) ts qs) : Al (fun t q => H' t = some (.tup [.str q.1, .str q.2])) ts qs :=
  al_imp al fun t q ht => b _ _ (fun e => by rw [e, h] at ht; cases ht) ht
theorem Giv.drawn {H H' : Hp} {p ce na pl : Addr} {n : Nat} {xs : List Str} {ts : List Addr} {qs : List (Str × Str)} (g : Giv K H p ce na pl n xs ts qs) (b : But p H H') (s : Src K ce H' p) : Giv K H' p ce na pl n xs ts qs := by
  obtain ⟨vs, hv⟩ := src_at g.src
  obtain ⟨o, ho⟩ := g.hc
  exact ⟨s, ⟨o, b _ _ (src_ne g.src) ho⟩, g.np, g.pp, g.npl, g.nc, g.pc, b _ _ g.np g.hn, b _ _ g.pp g.hp, tup_but hv b g.tup, g.len, g.w⟩
theorem Giv.same {H H' : Hp} {p ce na pl : Addr} {n : Nat} {xs : List Str} {ts : List Addr} {qs : List (Str × Str)} (g : Giv K H p ce na pl n xs ts qs) (s : Same H H') : Giv K H' p ce na pl n xs ts qs := by
  obtain ⟨o, ho⟩ := g.hc
  exact ⟨g.src.same s, ⟨o, s _ _ ho⟩, g.np, g.pp, g.npl, g.nc, g.pc, s _ _ g.hn, s _ _ g.hp, al_imp g.tup fun _ _ h => s _ _ h, g.len, g.w⟩
theorem Giv.setN {H : Hp} {p ce na pl : Addr} {n : Nat} {xs : List Str} {ts : List Addr} {qs : List (Str × Str)} (g : Giv K H p ce na pl n xs ts qs) (i : Nat) {y : Str} (hy : y.length ≤ 13) : Giv K (upd H na (.lst ((xs.map V.str).set i (.str y)))) p ce na pl n (xs.set i y) ts qs := by
  obtain ⟨o, ho⟩ := g.hc
  refine ⟨src_upd g.src g.np g.nc, ⟨o, (upd_ne g.nc.symm).trans ho⟩, g.np, g.pp, g.npl, g.nc, g.pc, by rw [upd_same, List.map_set], (upd_ne g.npl.symm).trans g.hp, tup_but g.hn (But.upd (But.refl _ _) _) g.tup, by rw [List.length_set]; exact g.len, fun x hx => ?_⟩
  rcases List.mem_or_eq_of_mem_set hx with h | h
  · exact g.w x h
  · subst h; exact hy
theorem Giv.app {H : Hp} {p ce na pl t : Addr} {n : Nat} {xs : List Str} {ts : List Addr} {qs : List (Str × Str)} {q : Str × Str} (g : Giv K H p ce na pl n xs ts qs) (ht : H t = some (.tup [.str q.1, .str q.2])) : Giv K (upd H pl (.lst (ts.map V.ref ++ [.ref t]))) p ce na pl n xs (ts ++ [t]) (qs ++ [q]) := by
  obtain ⟨o, ho⟩ := g.hc
  have al := tup_but g.hp (But.upd (But.refl _ _) (.lst (ts.map V.ref ++ [.ref t]))) g.tup
  exact ⟨src_upd g.src g.pp g.pc, ⟨o, (upd_ne g.pc.symm).trans ho⟩, g.np, g.pp, g.npl, g.nc, g.pc, (upd_ne g.npl).trans g.hn, by rw [upd_same, List.map_append]; rfl, al_snoc al ((upd_ne fun e => by rw [e, g.hp] at ht; cases ht).trans ht), g.len, g.w⟩
theorem al_set {α β : Type} {F : α → β → Prop} {as : List α} {bs : List β} {a : α} {b : β} (x : F a b) (h : Al F as bs) : ∀ i, Al F (as.set i a) (bs.set i b) := by
  induction h with
  | nil => exact fun _ => .nil
  | cons y ys ih =>
    intro i
    cases i with
    | zero => exact .cons x ys
    | succ i => exact .cons y (ih i)
theorem Giv.setP {H : Hp} {p ce na pl t : Addr} {n : Nat} {xs : List Str} {ts : List Addr} {qs : List (Str × Str)} {q : Str × Str} (g : Giv K H p ce na pl n xs ts qs) (i : Nat) (ht : H t = some (.tup [.str q.1, .str q.2])) : Giv K (upd H pl (.lst ((ts.map V.ref).set i (.ref t)))) p ce na pl n xs (ts.set i t) (qs.set i q) := by
  obtain ⟨o, ho⟩ := g.hc
  have al := tup_but g.hp (But.upd (But.refl _ _) (.lst ((ts.map V.ref).set i (.ref t)))) g.tup
  exact ⟨src_upd g.src g.pp g.pc, ⟨o, (upd_ne g.pc.symm).trans ho⟩, g.np, g.pp, g.npl, g.nc, g.pc, (upd_ne g.npl).trans g.hn, by rw [upd_same, List.map_set], al_set (F := fun t' (q : Str × Str) => upd H pl (.lst ((ts.map V.ref).set i (.ref t))) t' = some (.tup [.str q.1, .str q.2])) ((upd_ne fun e => by rw [e, g.hp] at ht; cases ht).trans ht) al i, g.len, g.w⟩
theorem Giv.strPs {H : Hp} {p ce na pl : Addr} {n : Nat} {xs : List Str} {ts : List Addr} {qs : List (Str × Str)} (g : Giv K H p ce na pl n xs ts qs) : StrPs K H pl qs := by
  refine ⟨_, SqL.of (K := K) g.hp, by rw [List.length_map, al_len g.tup], fun i q hq => ?_⟩
  have hi : i < ts.length := by rw [al_len g.tup]; exact (List.getElem?_eq_some_iff.mp hq).1
  have ht : ts[i]? = some ts[i] := List.getElem?_eq_getElem hi
  obtain ⟨r, hr, e⟩ := al_get g.tup ht
  obtain rfl : q = r := Option.some.inj (hq.symm.trans hr)
  exact ⟨ts[i], by rw [List.getElem?_map, ht]; rfl, SqT.of (K := K) e⟩
theorem Giv.at_ {H : Hp} {p ce na pl : Addr} {n : Nat} {xs : List Str} {ts : List Addr} {qs : List (Str × Str)} (g : Giv K H p ce na pl n xs ts qs) {i : Nat} (hi : i < n) : ∃ x, (xs.map V.str)[i]? = some (.str x) ∧ x.length ≤ 13 := by
  have hx : xs[i]? = some (xs[i]'(by rw [g.len]; exact hi)) := List.getElem?_eq_getElem _
  exact ⟨_, by rw [List.getElem?_map, hx]; rfl, g.w _ (List.getElem_mem _)⟩
theorem ok_law (T : Tx K mg w) : FnOk PL w K mg base CX0 120 T.a_law T.d_law ["script"] (spLaw K) := by
  have G__law_cells := ok__law_cells (P := PL) (w := w) (base := base) T
  have G__law_pick := ok__law_pick (P := PL) (w := w) (base := base) T
  have G__law_words := ok_lwd (w := w) (base := base) T
  have G__law_odd := ok_odd (w := w) (base := base) T
  have G__law_size := ok_lsz (w := w) (base := base) T
  have GX_OrderLattice_init := (ok_order (w := w) (base := base) T).or0 (ok_orderB (w := w) (base := base) T) (Nat.le_refl _)
  have GX_DownLattice_init := (ok_downl (w := w) (base := base) T).or0 (ok_downB (w := w) (base := base) T) (Nat.le_refl _)
  refine T.F_law.ok sc_law (fun vs H Q E h => ?_) (fun cdv A outer s H vs Q E hr h => ?_)
  · obtain ⟨a, ns, rfl, _⟩ := h
    rfl
  obtain ⟨sa, ns, rfl, hS, h63, q⟩ := h
  have hu := hu_of hr
  refine ⟨_, pss_cons (ps_set (i := 1) sc_law.nd rfl (Or.inl rfl) (pe_call G__law_cells (hr.mono (by omega)) (by rfl) T.g__law_cells T.F__law_cells.kp T.b__law_cells .nil pass0 (pa_cons (pv 0) pa_nil)))
    (pss_cons (ps_set (i := 2) sc_law.nd rfl (Or.inl rfl) (pe_cmpR op_eq (pe_call G__law_pick (hr.mono (by omega)) (by rfl) T.g__law_pick T.F__law_pick.kp T.b__law_pick .nil pass0 (pa_cons (pv 1) (pa_cons pe_int pa_nil))) pe_int (nomark _)))
    (pss_cons (ps_set (i := 3) sc_law.nd rfl (Or.inl rfl) (pe_call G__law_pick (hr.mono (by omega)) (by rfl) T.g__law_pick T.F__law_pick.kp T.b__law_pick .nil pass0 (pa_cons (pv 1) (pa_cons pe_int pa_nil))))
    (pss_cons (ps_if (pt_cmpR op_eq (pe_call G__law_pick (hr.mono (by omega)) (by rfl) T.g__law_pick T.F__law_pick.kp T.b__law_pick .nil pass0 (pa_cons (pv 1) (pa_cons pe_int pa_nil))) pe_int (nomark _)) (pss_one (ps_set (i := 3) sc_law.nd rfl (Or.inl rfl) (pe_op op_add (pe_ix ix_list (pe_lst (pa_cons pe_int (pa_cons pe_int pa_nil))) (pe_callTy call_int1 (by rfl) T.n_int (by decide +kernel) (pa_cons (pv 2) pa_nil)) (fun _ _ => rfl)) (pe_call G__law_pick (hr.mono (by omega)) (by rfl) T.g__law_pick T.F__law_pick.kp T.b__law_pick .nil pass0 (pa_cons (pv 1) (pa_cons pe_int pa_nil)))))) pss_nil)
    (pss_cons (ps_set (i := 4) sc_law.nd rfl (Or.inl rfl) (pe_call G__law_words (hr.mono (by omega)) (by rfl) T.g__law_words T.F__law_words.kp T.b__law_words .nil pass0 (pa_cons (pv 1) (pa_cons (pv 3) pa_nil))))
    (pss_cons (ps_set (i := 5) sc_law.nd rfl (Or.inl rfl) (pe_lst pa_nil))
    (pss_cons (ps_for PassesOwn.never rfl (pi_range1 (by rfl) T.n_range (pa_cons (pe_ifExp (pt_cmpR op_gt (pv 3) pe_int (nomark _)) (pe_call G__law_pick (hr.mono (by omega)) (by rfl) T.g__law_pick T.F__law_pick.kp T.b__law_pick .nil pass0 (pa_cons (pv 1) (pa_cons pe_int pa_nil))) pe_int) pa_nil)) (pg_name (i := 6) sc_law.nd rfl (Or.inl rfl)) (pss_cons (ps_set (i := 7) sc_law.nd rfl (Or.inl rfl) (pe_lst (pa_cons (pe_call G__law_pick (hr.mono (by omega)) (by rfl) T.g__law_pick T.F__law_pick.kp T.b__law_pick .nil pass0 (pa_cons (pv 1) (pa_cons (pv 3) pa_nil))) (pa_cons (pe_call G__law_pick (hr.mono (by omega)) (by rfl) T.g__law_pick T.F__law_pick.kp T.b__law_pick .nil pass0 (pa_cons (pv 1) (pa_cons (pv 3) pa_nil))) pa_nil))))
    (pss_cons (ps_if (pt_cmpR op_gt (pe_call G__law_pick (hr.mono (by omega)) (by rfl) T.g__law_pick T.F__law_pick.kp T.b__law_pick .nil pass0 (pa_cons (pv 1) (pa_cons pe_int pa_nil))) pe_int (nomark _)) (pss_one (ps_set (i := 7) sc_law.nd rfl (Or.inl rfl) (pe_lst (pa_cons (pe_callB (call_min2 rfl) (by rfl) T.n_min (by decide +kernel) (pa_cons (pe_callTy call_int1 (by rfl) T.n_int (by decide +kernel) (pa_cons (pe_ix ix_list (pv 7) pe_int (fun _ _ => rfl)) pa_nil)) (pa_cons (pe_callTy call_int1 (by rfl) T.n_int (by decide +kernel) (pa_cons (pe_ix ix_list (pv 7) pe_int (fun _ _ => rfl)) pa_nil)) pa_nil))) (pa_cons (pe_callB (call_max2 rfl) (by rfl) T.n_max (by decide +kernel) (pa_cons (pe_callTy call_int1 (by rfl) T.n_int (by decide +kernel) (pa_cons (pe_ix ix_list (pv 7) pe_int (fun _ _ => rfl)) pa_nil)) (pa_cons (pe_callTy call_int1 (by rfl) T.n_int (by decide +kernel) (pa_cons (pe_ix ix_list (pv 7) pe_int (fun _ _ => rfl)) pa_nil)) pa_nil))) pa_nil))))) pss_nil)
    (pss_one (ps_expr (pe_bm PySem.F.plainAttrs_list PySem.F.slot_list_append PySem.F.type_list_append mt_append (pv 5) (pa_cons (pe_tup (pa_cons (pe_ix ix_list (pv 4) (pe_ix ix_list (pv 7) pe_int (fun _ _ => rfl)) (fun _ _ => rfl)) (pa_cons (pe_ix ix_list (pv 4) (pe_ix ix_list (pv 7) pe_int (fun _ _ => rfl)) (fun _ _ => rfl)) pa_nil))) pa_nil)))))))
    (pss_cons (ps_for PassesOwn.never rfl (pi_range1 (by rfl) T.n_range (pa_cons (pe_call G__law_pick (hr.mono (by omega)) (by rfl) T.g__law_pick T.F__law_pick.kp T.b__law_pick .nil pass0 (pa_cons (pv 1) (pa_cons pe_int pa_nil))) pa_nil)) (pg_name (i := 6) sc_law.nd rfl (Or.inl rfl)) (pss_cons (ps_set (i := 8) sc_law.nd rfl (Or.inl rfl) (pe_call G__law_pick (hr.mono (by omega)) (by rfl) T.g__law_pick T.F__law_pick.kp T.b__law_pick .nil pass0 (pa_cons (pv 1) (pa_cons pe_int pa_nil))))
    (pss_cons (ps_set (i := 9) sc_law.nd rfl (Or.inl rfl) (pe_ifExp (pt_cmpR op_gt (pv 3) pe_int (nomark _)) (pe_call G__law_pick (hr.mono (by omega)) (by rfl) T.g__law_pick T.F__law_pick.kp T.b__law_pick .nil pass0 (pa_cons (pv 1) (pa_cons (pv 3) pa_nil))) pe_int))
    (pss_cons (ps_if (PW.pt (pw_and (pt_cmpR op_eq (pv 8) pe_int (nomark _)) (pw_and1 (pt_cmpR op_gt (pv 3) pe_int (nomark _))))) (pss_one (ps_asg (pe_ix ix_list (pv 4) (pe_call G__law_pick (hr.mono (by omega)) (by rfl) T.g__law_pick T.F__law_pick.kp T.b__law_pick .nil pass0 (pa_cons (pv 1) (pa_cons (pv 3) pa_nil))) (fun _ _ => rfl)) (pg_sub (pv 4) (pv 9) set_list))) pss_nil)
    (pss_cons (ps_if (PW.pt (pw_and (pt_cmpR op_eq (pv 8) pe_int (nomark _)) (pw_and1 (pt_cmpR op_gt (pv 3) pe_int (nomark _))))) (pss_one (ps_asg (pe_call G__law_odd (hr.mono (by omega)) (by rfl) T.g__law_odd T.F__law_odd.kp T.b__law_odd .nil pass0 (pa_cons (pv 1) pa_nil)) (pg_sub (pv 4) (pv 9) set_list))) pss_nil)
    (pss_one (ps_if (PW.pt (pw_and (pt_cmpR op_eq (pv 8) pe_int (nomark _)) (pw_and1 (pt_cmpR op_gt (pe_callB call_len_seq (by rfl) T.n_len (by decide +kernel) (pa_cons (pv 5) pa_nil)) pe_int (nomark _))))) (pss_one (ps_asg (pe_ix ix_list (pe_lst (pa_cons (pe_tup (pa_cons pe_str (pa_cons (pe_ix ix_list (pv 4) (pv 9) (fun _ _ => rfl)) pa_nil))) (pa_cons (pe_tup (pa_cons (pe_ix ix_list (pv 4) (pv 9) (fun _ _ => rfl)) (pa_cons pe_str pa_nil))) pa_nil))) (pe_call G__law_pick (hr.mono (by omega)) (by rfl) T.g__law_pick T.F__law_pick.kp T.b__law_pick .nil pass0 (pa_cons (pv 1) (pa_cons pe_int pa_nil))) (fun _ _ => rfl)) (pg_sub (pv 5) (pe_call G__law_pick (hr.mono (by omega)) (by rfl) T.g__law_pick T.F__law_pick.kp T.b__law_pick .nil pass0 (pa_cons (pv 1) (pa_cons (pe_callB call_len_seq (by rfl) T.n_len (by decide +kernel) (pa_cons (pv 5) pa_nil)) pa_nil))) set_list))) pss_nil)))))))
    (pss_cons (ps_set (i := 10) sc_law.nd rfl (Or.inl rfl) (pe_un un_neg pe_int))
    (pss_cons (ps_set (i := 11) sc_law.nd rfl (Or.inl rfl) (pe_lst pa_nil))
    (pss_cons (ps_try_as (i := 12) (Wout := fun _ _ _ _ => False) rfl rfl sc_law.nd rfl rfl ⟨rfl, by decide, Or.inl T.g_BadLattice⟩ takes0
      (fun W pn xe tk _ => (pss_one (ps_set (i := 10) sc_law.nd rfl (Or.inl rfl) (pe_ifExp (pt_val (pv 2)) (kx_pe_fld K (pe_fld (pe_makeS T.M_DownLattice GX_DownLattice_init (hr.mono (by omega)) (by rfl) T.g_DownLattice T.b_DownLattice_init (fun σ => passAt tk σ) (pa_cons (pv 4) (pa_cons (pv 5) pa_nil))) rfl)) (kx_pe_fld K (pe_fld (pe_makeS T.M_OrderLattice GX_OrderLattice_init (hr.mono (by omega)) (by rfl) T.g_OrderLattice T.b_OrderLattice_init (fun σ => passAt tk σ) (pa_cons (pv 4) (pa_cons (pv 5) pa_nil))) rfl))))))
      (fun a oe cls d pn hz hf => (pss_one (ps_set (i := 11) sc_law.nd rfl (Or.inl rfl) (pe_lst (pa_cons (pe_callB (call_isN hz hf) (by rfl) T.n_isinstance (by decide +kernel) (pa_cons (pv 12) (pa_cons (pe_glob (v := .ref T.a_LatticeError) (by rfl) T.g_LatticeError rfl) pa_nil))) (pa_cons (pe_callB (call_isN hz hf) (by rfl) T.n_isinstance (by decide +kernel) (pa_cons (pv 12) (pa_cons (pe_bltn (v := .ty "ValueError") (u := .type "ValueError") (by rfl) T.n_ValueError (by decide +kernel) rfl) pa_nil))) (pa_cons (pe_callB (call_isN hz hf) (by rfl) T.n_isinstance (by decide +kernel) (pa_cons (pv 12) (pa_cons (pe_glob (v := .ref T.a_MixedLattices) (by rfl) T.g_MixedLattices rfl) pa_nil))) pa_nil))))))))
    (pss_cons (ps_set (i := 13) sc_law.nd rfl (Or.inl rfl) (pe_call G__law_size (hr.mono (by omega)) (by rfl) T.g__law_size T.F__law_size.kp T.b__law_size .nil pass0 (pa_cons (pv 4) (pa_cons (pv 5) (pa_cons (pv 2) pa_nil)))))
    (pss_one (ps_ret (pe_and (pe_cmpR op_eq (pv 10) (pv 13) (nomark _)) (pe_one (pe_cmpR (op_eqX hr.un2) (pv 11) (pe_ifExp (pt_cmpR op_lt (pv 13) pe_int (nomark _)) (pe_lst (pa_cons pe_bl (pa_cons pe_bl (pa_cons pe_bl pa_nil)))) (pe_lst pa_nil)) (nomark _))))))))))))))))), ?_⟩
  refine ⟨_, rfl, sa, ns, rfl, hS, h63, fun p c m cs H1 sm cp hc pos hp m0 m1 => ?_⟩
  have src1 : Src K c H1 p := ⟨cs, 0, 1, m, ⟨hp, SqL.of (K := K) hc, cp, Nat.zero_le _, by decide, pos, m0, m1⟩⟩
  dsimp only [gName]
  have hc1 : ∃ o, H1 c = some o := ⟨_, hc⟩
  refine set_run (fun v H' => ∃ dn : Bool, v = .bl dn ∧ But p H1 H' ∧ Src K c H' p) (fun Q' q' => ⟨_, rfl, p, c, 2, rfl, src1, by decide, fun d H2 b2 s2 d0 d1 => ⟨rfl, q' _ _ ⟨_, rfl, b2, s2⟩⟩⟩) ?_
  rintro _ H2 ⟨dn, rfl, b2, s2⟩
  dsimp only [gName]
  refine set_run (fun v H' => ∃ n : Nat, v = .int (n : Nat) ∧ n ≤ 5 ∧ But p H1 H' ∧ Src K c H' p) (fun Q' q' => ⟨_, rfl, p, c, 6, rfl, s2, by decide, fun d H3 b3 s3 d0 d1 => q' _ _ ⟨d.toNat, by rw [show ((d.toNat : Nat) : Int) = d by omega], by omega, b2.trans b3, s3⟩⟩) ?_
  rintro _ H3 ⟨n0, rfl, hn0, b3, s3⟩
  dsimp only [gName]
  show tSeq _ _ _ [some (.ref sa), some (.ref p), some (.bl dn), some (.int (n0 : Nat)), none, none, none, none, none, none, none, none, none, none] H3
  refine st_run (fun σ H' => ∃ n : Nat, σ = [some (.ref sa), some (.ref p), some (.bl dn), some (.int (n : Nat)), none, none, none, none, none, none, none, none, none, none] ∧ n ≤ 17 ∧ But p H1 H' ∧ Src K c H' p) (fun D' hD q' => ?_) ?_
  · refine ⟨_, rfl, p, c, 8, rfl, s3, by decide, fun d H4 b4 s4 d0 d1 => ⟨rfl, _, rfl, ?_⟩⟩
    refine ite2 (fun _ => ?_) (fun _ => ?_)
    · refine set1_run (fun v H' => ∃ n : Nat, v = .int (n : Nat) ∧ n ≤ 17 ∧ But p H1 H' ∧ Src K c H' p) (fun Q' q' => ?_) ?_
      · refine ⟨(by show 2 ≤ sizeLine; decide), newQ (.lst [.int 16, .int 6]) fun l hl s5 e5 => ?_⟩
        generalize upd H4 l (.lst [.int 16, .int 6]) = H5 at s5 e5 ⊢
        refine ⟨_, rfl, .inr ⟨dn, rfl, l, _, _, .int ((if dn then 6 else 16 : Nat) : Int), rfl, rfl, SqL.of (K := K) e5, ?_, ?_⟩⟩
        · cases dn <;> rfl
        · refine ⟨_, rfl, p, c, 2, rfl, s4.same s5, by decide, fun d H6 b6 s6 d0 d1 => ⟨_, _, rfl, rfl, q' _ _ ⟨(if dn then 6 else 16) + d.toNat, ?_, ?_, ((b3.trans b4).trans (s5.but p)).trans b6, s6⟩⟩⟩
          · cases dn
            · show V.int (16 + d) = V.int ((16 + d.toNat : Nat) : Int)
              congr 1; omega
            · show V.int (6 + d) = V.int ((6 + d.toNat : Nat) : Int)
              congr 1; omega
          · cases dn <;> simp <;> omega
      · rintro _ H5 ⟨n, rfl, hn, b5, s5⟩
        exact q' _ _ ⟨n, rfl, hn, b5, s5⟩
    · exact nx_run (q' _ _ ⟨n0, rfl, by omega, b3.trans b4, s4⟩)
  rintro _ H4 ⟨n, rfl, hn, b4, s4⟩
  refine ⟨_, rfl, _, rfl, p, c, n, rfl, s4, hn, fun na xs H5 b5 s5 hna e5 hlen nd nw => ?_⟩
  dsimp only [gName]
  have hp4 := src_at s4
  have c1p := src_ne src1
  obtain ⟨oc, hoc⟩ := hc1
  have hc4 := b4 _ _ c1p hoc
  have np : na ≠ p := fun e => by rw [e] at hna; obtain ⟨vs, hv⟩ := hp4; rw [hna] at hv; cases hv
  have nc : na ≠ c := fun e => by rw [e, hc4] at hna; cases hna
  refine set_run (fun v H' => ∃ pl, v = .ref pl ∧ Giv K H' p c na pl n xs [] []) (fun Q' q' => ⟨(by show 0 ≤ sizeLine; decide), newQ (.lst []) fun pl hpl s6 e6 => q' _ _ ⟨pl, rfl, s5.same s6, ⟨_, s6 _ _ (b5 _ _ c1p hc4)⟩, np, fun e => ?_, fun e => ?_, nc, fun e => ?_, s6 _ _ e5, e6, .nil, hlen, fun x hx => ?_⟩⟩) ?_
  · obtain ⟨vs, hv⟩ := src_at s5; rw [← e, hpl] at hv; cases hv
  · rw [← e, e5] at hpl; cases hpl
  · rw [e, b5 _ _ c1p hc4] at hpl; cases hpl
  · have := (nw x hx).le; omega
  rintro _ H6 ⟨pl, rfl, g6⟩
  dsimp only [gName]
  show tSeq _ _ _ [some (.ref sa), some (.ref p), some (.bl dn), some (.int (n : Nat)), some (.ref na), some (.ref pl), none, none, none, none, none, none, none, none] H6
  refine st_run (fun σ H' => ∃ (v6 v7 : Option V) (ts : List Addr) (qs : List (Str × Str)), σ = [some (.ref sa), some (.ref p), some (.bl dn), some (.int (n : Nat)), some (.ref na), some (.ref pl), v6, v7, none, none, none, none, none, none] ∧ Giv K H' p c na pl n xs ts qs ∧ qs.length ≤ 5 ∧ (n = 0 → qs.length = 0)) (fun D' hD q' => ?_) ?_
  · refine rg_run (fun z H' => ∃ k : Nat, z = (k : Nat) ∧ k ≤ 5 ∧ (n = 0 → k = 0) ∧ Giv K H' p c na pl n xs [] []) (fun Q' q'' => ?_) ?_
    · refine ⟨_, rfl, _, _, rfl, rfl, _, rfl, ?_⟩
      by_cases n1 : 0 < n
      · refine iteY (by omega) ⟨_, rfl, p, c, 6, rfl, g6.src, by decide, fun d H7 b7 s7 d0 d1 => q'' _ _ ⟨d.toNat, by omega, by omega, by omega, g6.drawn b7 s7⟩⟩
      · exact iteN (by omega) (q'' _ _ ⟨0, rfl, by omega, fun _ => rfl, g6⟩)
    rintro _ H7 ⟨k, rfl, hk, k0, g7⟩
    refine ⟨_, rfl, by omega, by omega, for_range (lo := 0) (n := k) (fun i σ H' => ∃ (v6 v7 : Option V) (ts : List Addr) (qs : List (Str × Str)), σ = [some (.ref sa), some (.ref p), some (.bl dn), some (.int (n : Nat)), some (.ref na), some (.ref pl), v6, v7, none, none, none, none, none, none] ∧ Giv K H' p c na pl n xs ts qs ∧ qs.length ≤ i) ⟨_, _, [], [], rfl, g7, Nat.zero_le _⟩ ?_ ?_⟩
    · rintro i σ H8 hi ⟨v6, v7, ts, qs, rfl, g8, hq⟩
      have n1 : 1 ≤ n := by rcases Nat.eq_zero_or_pos n with h | h; exact absurd (k0 h) (by omega); exact h
      dsimp only [gName]
      refine set_run (fun v H' => ∃ (sl : Addr) (a b : Nat), v = .ref sl ∧ H' sl = some (.lst [.int (a : Nat), .int (b : Nat)]) ∧ a < n ∧ b < n ∧ Giv K H' p c na pl n xs ts qs) (fun Q' q' => ?_) ?_
      · refine ⟨_, rfl, _, rfl, p, c, (n : Nat), rfl, g8.src, by omega, fun a H9 b9 s9 a0 a1 => ⟨_, rfl, _, rfl, p, c, (n : Nat), rfl, s9, by omega, fun b H10 b10 s10 b0 b1 => ⟨(by show 2 ≤ sizeLine; decide), newQ (.lst [.int a, .int b]) fun l hl s11 e11 => q' _ _ ⟨l, a.toNat, b.toNat, rfl, ?_, by omega, by omega, ((g8.drawn b9 s9).drawn b10 s10).same s11⟩⟩⟩⟩
        rw [e11, show ((a.toNat : Nat) : Int) = a by omega, show ((b.toNat : Nat) : Int) = b by omega]
      rintro _ H9 ⟨sl, a, b, rfl, e9, an, bn, g9⟩
      dsimp only [gName]
      show tSeq _ _ _ [some (.ref sa), some (.ref p), some (.bl dn), some (.int (n : Nat)), some (.ref na), some (.ref pl), some (.int (0 + (i : Int))), some (.ref sl), none, none, none, none, none, none] H9
      refine st_run (fun σ H' => ∃ (sl : Addr) (a b : Nat), σ = [some (.ref sa), some (.ref p), some (.bl dn), some (.int (n : Nat)), some (.ref na), some (.ref pl), some (.int (0 + (i : Int))), some (.ref sl), none, none, none, none, none, none] ∧ H' sl = some (.lst [.int (a : Nat), .int (b : Nat)]) ∧ a < n ∧ b < n ∧ Giv K H' p c na pl n xs ts qs) (fun D'' hD' kk => ?_) ?_
      · refine ⟨_, rfl, p, c, 6, rfl, g9.src, by decide, fun d H10 b10 s10 d0 d1 => ⟨_, _, rfl, rfl, _, rfl, ?_⟩⟩
        have slp : sl ≠ p := ne_srcG g9.src e9
        have e10 := b10 _ _ slp e9
        have g10 := g9.drawn b10 s10
        refine ite2 (fun _ => ?_) (fun _ => ?_)
        · refine ⟨_, rfl, sl, _, _, _, rfl, rfl, SqL.of (K := K) e10, atI_nat (j := 0) rfl, .inl ⟨_, rfl, _, rfl, sl, _, _, _, rfl, rfl, SqL.of (K := K) e10, atI_nat (j := 1) rfl, .inl ⟨_, rfl, _, _, rfl, ?_⟩⟩⟩
          refine ⟨_, rfl, sl, _, _, _, rfl, rfl, SqL.of (K := K) e10, atI_nat (j := 0) rfl, .inl ⟨_, rfl, _, rfl, sl, _, _, _, rfl, rfl, SqL.of (K := K) e10, atI_nat (j := 1) rfl, .inl ⟨_, rfl, _, _, rfl, ?_⟩⟩⟩
          have emin : (if ((b : Nat) : Int) < ((a : Nat) : Int) then ((b : Nat) : Int) else ((a : Nat) : Int)) = ((min a b : Nat) : Int) := by split <;> omega
          have emax : (if ((b : Nat) : Int) > ((a : Nat) : Int) then ((b : Nat) : Int) else ((a : Nat) : Int)) = ((max a b : Nat) : Int) := by split <;> omega
          rw [emin, emax]
          refine ⟨(by show 2 ≤ sizeLine; decide), newQ (.lst [.int ((min a b : Nat) : Int), .int ((max a b : Nat) : Int)]) fun t ht s11 e11 => ?_⟩
          exact kk _ _ ⟨t, min a b, max a b, rfl, e11, by omega, by omega, g10.same s11⟩
        · exact nx_run (kk _ _ ⟨sl, a, b, rfl, e10, an, bn, g10⟩)
      rintro _ H10 ⟨sl, a, b, rfl, e10, an, bn, g10⟩
      obtain ⟨x, hx, _⟩ := g10.at_ an
      obtain ⟨y, hy, _⟩ := g10.at_ bn
      refine ⟨_, rfl, .inl ⟨rfl, _, SqL.of (K := K) g10.hp⟩, ?_⟩
      refine ⟨_, rfl, _, rfl, sl, _, _, _, rfl, rfl, SqL.of (K := K) e10, atI_nat (j := 0) rfl, na, _, _, _, rfl, rfl, SqL.of (K := K) g10.hn, atI_nat hx, ?_⟩
      refine ⟨_, rfl, _, rfl, sl, _, _, _, rfl, rfl, SqL.of (K := K) e10, atI_nat (j := 1) rfl, na, _, _, _, rfl, rfl, SqL.of (K := K) g10.hn, atI_nat hy, ?_⟩
      refine ⟨(by show 2 ≤ sizeLine; decide), newQ (.tup [.str x, .str y]) fun t ht s11 e11 => ?_⟩
      have g11 := g10.same s11
      refine ⟨pl, _, _, rfl, rfl, g11.hp, small_line (by rw [List.length_map, al_len g11.tup]; omega), ?_⟩
      exact ⟨_, _, ts ++ [t], qs ++ [(x, y)], rfl, g11.app (q := (x, y)) e11, by rw [List.length_append]; show _ + 1 ≤ _; omega⟩
    · rintro σ H8 ⟨v6, v7, ts, qs, rfl, g8, hq⟩
      exact q' _ _ ⟨v6, v7, ts, qs, rfl, g8, by omega, fun z => by have := k0 z; omega⟩
  rintro _ H7 ⟨v6, v7, ts, qs, rfl, g7, hq⟩
  refine st_run (fun σ H' => ∃ (v6 v7 v8 v9 : Option V) (xs : List Str) (ts : List Addr) (qs : List (Str × Str)), σ = [some (.ref sa), some (.ref p), some (.bl dn), some (.int (n : Nat)), some (.ref na), some (.ref pl), v6, v7, v8, v9, none, none, none, none] ∧ Giv K H' p c na pl n xs ts qs ∧ qs.length ≤ 5 ∧ (n = 0 → qs.length = 0)) (fun D' hD q' => ?_) ?_
  · refine rg_run (fun z H' => ∃ k : Nat, z = (k : Nat) ∧ k ≤ 3 ∧ Giv K H' p c na pl n xs ts qs) (fun Q' q'' => ⟨_, rfl, p, c, 3, rfl, g7.src, by decide, fun d H8 b8 s8 d0 d1 => q'' _ _ ⟨d.toNat, by omega, by omega, g7.drawn b8 s8⟩⟩) ?_
    rintro _ H8 ⟨k, rfl, hk, g8⟩
    refine ⟨_, rfl, by omega, by omega, for_range (lo := 0) (n := k) (fun i σ H' => ∃ (v6 v7 v8 v9 : Option V) (xs : List Str) (ts : List Addr) (qs : List (Str × Str)), σ = [some (.ref sa), some (.ref p), some (.bl dn), some (.int (n : Nat)), some (.ref na), some (.ref pl), v6, v7, v8, v9, none, none, none, none] ∧ Giv K H' p c na pl n xs ts qs ∧ qs.length ≤ 5 ∧ (n = 0 → qs.length = 0)) ⟨_, _, _, _, xs, ts, qs, rfl, g8, hq⟩ ?_ (fun σ H' h => q' _ _ h)⟩
    rintro i σ H9 hi ⟨v6, v7, v8, v9, xs, ts, qs, rfl, g9, hq⟩
    dsimp only [gName]
    refine ⟨_, rfl, p, c, 4, rfl, g9.src, by decide, fun wy H10 b10 s10 w0 w1 => ?_⟩
    have g10 := g9.drawn b10 s10
    dsimp only [gName]
    refine set_run (fun v H' => ∃ sp : Nat, v = .int (sp : Nat) ∧ (0 < n → sp < n) ∧ Giv K H' p c na pl n xs ts qs) (fun Q' q' => ?_) ?_
    · refine ⟨_, rfl, _, _, rfl, rfl, _, rfl, ?_⟩
      by_cases n1 : 0 < n
      · refine iteY (by omega) ⟨_, rfl, _, rfl, p, c, (n : Nat), rfl, s10, by omega, fun d H11 b11 s11 d0 d1 => q' _ _ ⟨d.toNat, by rw [show ((d.toNat : Nat) : Int) = d by omega], by omega, g10.drawn b11 s11⟩⟩
      · exact iteN (by omega) (q' _ _ ⟨0, rfl, by omega, g10⟩)
    rintro _ H11 ⟨sp, rfl, hsp, g11⟩
    dsimp only [gName]
    show tSeq _ _ _ [some (.ref sa), some (.ref p), some (.bl dn), some (.int (n : Nat)), some (.ref na), some (.ref pl), some (.int (0 + (i : Int))), v7, some (.int wy), some (.int (sp : Nat)), none, none, none, none] H11
    refine st_run (fun σ H' => ∃ (xs : List Str), σ = [some (.ref sa), some (.ref p), some (.bl dn), some (.int (n : Nat)), some (.ref na), some (.ref pl), some (.int (0 + (i : Int))), v7, some (.int wy), some (.int (sp : Nat)), none, none, none, none] ∧ Giv K H' p c na pl n xs ts qs) (fun D'' hD' kk => ?_) ?_
    · refine ⟨_, rfl, rfl, _, rfl, ?_⟩
      refine ite2 (fun _ => ?_) (fun _ => iteF (nx_run (kk _ _ ⟨xs, rfl, g11⟩)))
      refine ⟨_, rfl, _, _, rfl, rfl, _, rfl, ?_⟩
      by_cases n1 : 0 < n
      · refine iteY (by omega) ?_
        refine ⟨_, rfl, _, rfl, _, rfl, p, c, (n : Nat), rfl, g11.src, by omega, fun d H12 b12 s12 d0 d1 => ?_⟩
        have g12 := g11.drawn b12 s12
        obtain ⟨d, rfl⟩ : ∃ i : Nat, d = (i : Int) := ⟨d.toNat, by omega⟩
        obtain ⟨x, hx, lx⟩ := g12.at_ (i := d) (by omega)
        refine ⟨na, _, _, _, rfl, rfl, SqL.of (K := K) g12.hn, atI_nat hx, ?_⟩
        refine ⟨_, rfl, _, rfl, na, _, _, sp, rfl, rfl, g12.hn, ixN_nat (Int.natCast_nonneg _) (by rw [List.length_map, g12.len]; exact hsp n1), ?_⟩
        exact kk _ _ ⟨xs.set sp x, rfl, g12.setN sp lx⟩
      · exact iteN (by omega) (nx_run (kk _ _ ⟨xs, rfl, g11⟩))
    clear g11
    rintro _ H11 ⟨xs, rfl, g11⟩
    refine st_run (fun σ H' => ∃ (xs : List Str), σ = [some (.ref sa), some (.ref p), some (.bl dn), some (.int (n : Nat)), some (.ref na), some (.ref pl), some (.int (0 + (i : Int))), v7, some (.int wy), some (.int (sp : Nat)), none, none, none, none] ∧ Giv K H' p c na pl n xs ts qs) (fun D'' hD' kk => ?_) ?_
    · refine ⟨_, rfl, rfl, _, rfl, ?_⟩
      refine ite2 (fun _ => ?_) (fun _ => iteF (nx_run (kk _ _ ⟨xs, rfl, g11⟩)))
      refine ⟨_, rfl, _, _, rfl, rfl, _, rfl, ?_⟩
      by_cases n1 : 0 < n
      · refine iteY (by omega) ?_
        refine ⟨_, rfl, p, c, rfl, g11.src, fun x H12 b12 s12 lx => ?_⟩
        have g12 := g11.drawn b12 s12
        refine ⟨_, rfl, _, rfl, na, _, _, sp, rfl, rfl, g12.hn, ixN_nat (Int.natCast_nonneg _) (by rw [List.length_map, g12.len]; exact hsp n1), ?_⟩
        exact kk _ _ ⟨xs.set sp x, rfl, g12.setN sp lx⟩
      · exact iteN (by omega) (nx_run (kk _ _ ⟨xs, rfl, g11⟩))
    clear g11
    rintro _ H11 ⟨xs, rfl, g11⟩
    refine ⟨_, rfl, rfl, _, rfl, ?_⟩
    refine ite2 (fun _ => ?_) (fun _ => iteF (nx_run ⟨_, _, _, _, xs, ts, qs, rfl, g11, hq⟩))
    refine ⟨_, rfl, pl, _, rfl, .inl (SqL.of (K := K) g11.hp), _, _, rfl, rfl, _, rfl, ?_⟩
    rw [List.length_map, al_len g11.tup]
    by_cases q1 : 0 < qs.length
    · refine iteY (by omega) ?_
      have n1 : 0 < n := by rcases Nat.eq_zero_or_pos n with h | h; have := hq.2 h; omega; exact h
      obtain ⟨x, hx, lx⟩ := g11.at_ (hsp n1)
      refine ⟨_, rfl, _, rfl, na, _, _, _, rfl, rfl, SqL.of (K := K) g11.hn, atI_nat hx, (by show 2 ≤ sizeLine; decide), newQ (.tup [.str "zz", .str x]) fun t1 ht1 s12 e12 => ?_⟩
      have g12 := g11.same s12
      generalize upd H11 t1 (.tup [.str "zz", .str x]) = H12 at s12 e12 g12 ⊢
      refine ⟨_, rfl, _, rfl, na, _, _, _, rfl, rfl, SqL.of (K := K) g12.hn, atI_nat hx, (by show 2 ≤ sizeLine; decide), newQ (.tup [.str x, .str "zz"]) fun t2 ht2 s13 e13 => ?_⟩
      have g13 := g12.same s13
      have e13' := s13 _ _ e12
      generalize upd H12 t2 (.tup [.str x, .str "zz"]) = H13 at s13 e13 e13' g13 ⊢
      refine ⟨(by show 2 ≤ sizeLine; decide), newQ (.lst [.ref t1, .ref t2]) fun l hl s14 e14 => ?_⟩
      have g14 := g13.same s14
      have f1 := s14 _ _ e13'
      have f2 := s14 _ _ e13
      generalize upd H13 l (.lst [.ref t1, .ref t2]) = H14 at s14 e14 f1 f2 g14 ⊢
      refine ⟨_, rfl, p, c, 2, rfl, g14.src, by decide, fun d H15 b15 s15 d0 d1 => ?_⟩
      have g15 := g14.drawn b15 s15
      have e15 := b15 _ _ (ne_src2 g14.src e14) e14
      have f1' := b15 _ _ (tup_ne g14.src f1) f1
      have f2' := b15 _ _ (tup_ne g14.src f2) f2
      obtain ⟨d, rfl⟩ : ∃ i : Nat, d = (i : Int) := ⟨d.toNat, by omega⟩
      obtain ⟨t, qq, hat, ht⟩ : ∃ (t : Addr) (qq : Str × Str), [V.ref t1, V.ref t2][d]? = some (.ref t) ∧ H15 t = some (.tup [.str qq.1, .str qq.2]) := by
        have : d = 0 ∨ d = 1 := by omega
        rcases this with rfl | rfl
        · exact ⟨t1, ("zz", x), rfl, f1'⟩
        · exact ⟨t2, (x, "zz"), rfl, f2'⟩
      refine ⟨l, _, _, _, rfl, rfl, SqL.of (K := K) e15, atI_nat hat, ?_⟩
      refine ⟨_, rfl, _, rfl, _, rfl, pl, _, rfl, .inl (SqL.of (K := K) g15.hp), p, c, ((qs.length : Nat) : Int), by rw [List.length_map, al_len g15.tup]; rfl, g15.src, by omega, fun e H16 b16 s16 e0 e1 => ?_⟩
      have g16 := g15.drawn b16 s16
      have ht16 := b16 _ _ (tup_ne g15.src ht) ht
      obtain ⟨e, rfl⟩ : ∃ i : Nat, e = (i : Int) := ⟨e.toNat, by omega⟩
      refine ⟨pl, _, _, e, rfl, rfl, g16.hp, ixN_nat (Int.natCast_nonneg _) (by rw [List.length_map, al_len g16.tup]; omega), ?_⟩
      exact ⟨_, _, _, _, xs, ts.set e t, qs.set e qq, rfl, g16.setP e ht16, by rw [List.length_set]; exact hq⟩
    · exact iteN (by omega) (nx_run ⟨_, _, _, _, xs, ts, qs, rfl, g11, hq⟩)
  rintro _ H8 ⟨v6, v7, v8, v9, xs, ts, qs, rfl, g8, hq, hq0⟩
  clear g7
  refine ⟨_, rfl, ?_⟩
  dsimp only [gName]
  refine ⟨(by show 0 ≤ sizeLine; decide), newQ (.lst []) fun cl hcl s9 e9 => ?_⟩
  have g9 := g8.same s9
  generalize upd H8 cl (.lst []) = H9 at s9 e9 g9 ⊢
  dsimp only [gName]
  show tSeq _ _ _ [some (.ref sa), some (.ref p), some (.bl dn), some (.int (n : Nat)), some (.ref na), some (.ref pl), v6, v7, v8, v9, some (.int (-1)), some (.ref cl), none, none] H9
  have size : ∀ {z : Addr} {L : Lt} {H' : Hp} {R : VK}, IsLat K T.mm H' z L → R (.int (L.n : Nat)) H' → ∃ (a C dx : Addr) (fs : List (Str × V)) (v : V), V.ref z = V.ref a ∧ H' a = some (.ins C dx fs) ∧ Cls K C ∧ NoAttr K C "size" ∧ fs.lookup ("size" : Str) = some v ∧ R v H' := fun {z L H' R} hL r => by
    obtain ⟨C, dx, fs, tn, td, tu, A⟩ := hL
    exact ⟨z, C, dx, fs, .int (L.n : Nat), rfl, A.at_, A.c.cl, A.c.na _ (by decide), A.size, r⟩
  have hsq := g9.strPs
  have xl : xs.length ≤ 17 := by rw [g9.len]; exact hn
  have xw : ∀ x ∈ xs, x.length ≤ 100 := fun x hx => by have := g9.w x hx; omega
  by_cases hf : Fine dn xs qs
  · refine st_run (fun σ H' => ∃ v12 : Option V, σ = [some (.ref sa), some (.ref p), some (.bl dn), some (.int (n : Nat)), some (.ref na), some (.ref pl), v6, v7, v8, v9, some (.int (sizeN dn xs qs : Nat)), some (.ref cl), v12, none] ∧ Same H9 H') (fun D' hD q' => ?_) ?_
    · have hpz : (idxs xs qs).length ≤ 1000 := by unfold idxs; rw [List.length_map]; omega
      cases dn with
      | true =>
        refine ⟨_, rfl, true, rfl, iteT ?_⟩
        refine ⟨_, rfl, _, rfl, fun o dx ho hd ne => .inl (mk_downl g9.hn (hsq.pairs hf.2.1) g9.hp hf.1.pos hf.1.le hf.1.nd hf.1.w hpz (hf.2.2 rfl) ho hd ne fun H10 s10 hL => ⟨rfl, size hL ?_⟩)⟩
        rw [downL_n]
        exact q' _ _ ⟨_, rfl, s10⟩
      | false =>
        refine ⟨_, rfl, false, rfl, iteF ?_⟩
        refine ⟨_, rfl, _, rfl, fun o dx ho hd ne => .inl (mk_order g9.hn (hsq.pairs hf.2.1) g9.hp hf.1.pos hf.1.le hf.1.nd hf.1.w hpz ho hd ne fun H10 s10 hL => ⟨rfl, size hL ?_⟩)⟩
        exact q' _ _ ⟨_, rfl, s10⟩
    rintro _ H10 ⟨v12, rfl, s10⟩
    have g10 := g9.same s10
    have e10 := s10 _ _ e9
    refine ⟨_, rfl, _, rfl, _, rfl, na, pl, dn, xs, ts, qs, rfl, g10.hn, g10.hp, g10.tup, xl, by omega, xw, fun _ H11 s11 => ?_, fun nf => absurd hf nf⟩
    dsimp only [gName]
    refine ⟨_, rfl, _, rfl, rfl, _, rfl, ?_⟩
    rw [decide_eq_true rfl]
    refine iteT ?_
    refine ⟨_, rfl, _, rfl, _, _, rfl, rfl, _, rfl, ?_⟩
    refine iteN (by omega) ?_
    refine ⟨(by show 0 ≤ sizeLine; decide), newQ (.lst []) fun l hl s12 e12 => ?_⟩
    refine ⟨.list [], .list [], .lst (SqL.of (s12 _ _ (s11 _ _ e10))) .nil, .lst (SqL.of e12) .nil, ⟨by decide +kernel, by decide +kernel⟩, ⟨by decide +kernel, by decide +kernel⟩, ?_⟩
    rw [show PyData.eqv (.list []) (.list []) = true from by decide +kernel]
    exact q _
  · refine st_run (fun σ H' => ∃ (v12 : Option V) (cl : Addr), σ = [some (.ref sa), some (.ref p), some (.bl dn), some (.int (n : Nat)), some (.ref na), some (.ref pl), v6, v7, v8, v9, some (.int (-1)), some (.ref cl), v12, none] ∧ Same H9 H' ∧ H' cl = some (.lst [.bl true, .bl true, .bl false])) (fun D' hD q' => ?_) ?_
    · cases dn with
      | true =>
        refine ⟨_, rfl, true, rfl, iteT ?_⟩
        refine ⟨_, rfl, _, rfl, fun o dx ho hd ne => .inr (mk_downB (SqL.of (K := K) g9.hn) hsq (by omega) (by omega) xw (fun b => hf ⟨b.1, b.2.1, fun _ => b.2.2⟩) ho hd fun H10 s10 => ?_)⟩
        refine ⟨true, T.te_BadLattice_BadLattice, fun _ a ha => ?_, (fun z => nomatch z)⟩
        refine ⟨_, rfl, _, rfl, rfl, T.xc_BadLattice, _, _, _, rfl, (fun u h => h), T.kx_BadLattice_LatticeError, ?_⟩
        refine ⟨_, rfl, _, rfl, rfl, T.xc_BadLattice, _, _, _, rfl, (fun u h => h), T.kx_BadLattice_ValueError, ?_⟩
        refine ⟨_, rfl, _, rfl, rfl, T.xc_BadLattice, _, _, _, rfl, (fun u h => h), T.kx_BadLattice_MixedLattices, ?_⟩
        exact ⟨(by show 3 ≤ sizeLine; decide), newQ (.lst [.bl true, .bl true, .bl false]) fun l hl s11 e11 => q' _ _ ⟨_, l, rfl, s10.trans s11, e11⟩⟩
      | false =>
        refine ⟨_, rfl, false, rfl, iteF ?_⟩
        refine ⟨_, rfl, _, rfl, fun o dx ho hd ne => .inr (mk_orderB (SqL.of (K := K) g9.hn) hsq (by omega) xw (fun b => hf ⟨b.1, b.2, fun z => nomatch z⟩) ho hd fun H10 s10 => ?_)⟩
        refine ⟨true, T.te_BadLattice_BadLattice, fun _ a ha => ?_, (fun z => nomatch z)⟩
        refine ⟨_, rfl, _, rfl, rfl, T.xc_BadLattice, _, _, _, rfl, (fun u h => h), T.kx_BadLattice_LatticeError, ?_⟩
        refine ⟨_, rfl, _, rfl, rfl, T.xc_BadLattice, _, _, _, rfl, (fun u h => h), T.kx_BadLattice_ValueError, ?_⟩
        refine ⟨_, rfl, _, rfl, rfl, T.xc_BadLattice, _, _, _, rfl, (fun u h => h), T.kx_BadLattice_MixedLattices, ?_⟩
        exact ⟨(by show 3 ≤ sizeLine; decide), newQ (.lst [.bl true, .bl true, .bl false]) fun l hl s11 e11 => q' _ _ ⟨_, l, rfl, s10.trans s11, e11⟩⟩
    rintro _ H10 ⟨v12, cl, rfl, s10, e10⟩
    have g10 := g9.same s10
    refine ⟨_, rfl, _, rfl, _, rfl, na, pl, dn, xs, ts, qs, rfl, g10.hn, g10.hp, g10.tup, xl, by omega, xw, fun f => absurd f hf, fun _ H11 s11 => ?_⟩
    dsimp only [gName]
    refine ⟨_, rfl, _, rfl, rfl, _, rfl, ?_⟩
    rw [decide_eq_true rfl]
    refine iteT ?_
    refine ⟨_, rfl, _, rfl, _, _, rfl, rfl, _, rfl, ?_⟩
    refine iteY (by decide) ?_
    refine ⟨(by show 3 ≤ sizeLine; decide), newQ (.lst [.bl true, .bl true, .bl false]) fun l hl s12 e12 => ?_⟩
    refine ⟨.list [.bool true, .bool true, .bool false], .list [.bool true, .bool true, .bool false], .lst (SqL.of (s12 _ _ (s11 _ _ e10))) (.cons (.bl _) (.cons (.bl _) (.cons (.bl _) .nil))), .lst (SqL.of e12) (.cons (.bl _) (.cons (.bl _) (.cons (.bl _) .nil))), ⟨by decide +kernel, by decide +kernel⟩, ⟨by decide +kernel, by decide +kernel⟩, ?_⟩
    rw [show PyData.eqv (.list [.bool true, .bool true, .bool false]) (.list [.bool true, .bool true, .bool false]) = true from by decide +kernel]
    exact q _
end
end Lw
theorem PySem.Challenge.cw_latticewish_k02_bad_orders_holds : PySem.Challenge.rw_latticewish_k02_bad_orders.Holds := by
  exact Lw.pre fun K mg w T base => Lw.ok_law T
#print axioms PySem.Challenge.cw_latticewish_k02_bad_orders_holds
