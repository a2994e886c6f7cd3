import PyProof.Rows.All
import Wide.All
import OpenK.AllK
import Wide.FinOn
import HandS.ForMost
import KE.OsRunLaw
import HandS.Walk
import HandS.Zip
import KE.GoesMore
import HandS.Deep
import HandS.DictComp
import HandS.IsInst
import HandS.RaiseMore
import HandS.ExcOwn
import KE.KSuper
import HandS.ClsMeth
import KE.RegKSuper
import HandS.ExcInit
import HandS.ExcSuper
import KE.KExcSuper
import KE.KExcInit
import HandS.ExcIs
import HandS.ExcField
import HandS.TryOnly
import HandS.Strs
import HandS.FStr
import HandS.Conv
import HandS.Defaults
import KE.KExcIs
import KE.RegKIsAll
import HandS.WordsExc
import HandS.Small
import HandS.ExcValue
import HandS.Wide
import PySem.Challenge.RW_latticewish_k91_errors
set_option Elab.async false
set_option linter.all false
set_option maxRecDepth 100000
set_option maxHeartbeats 4000000
namespace Lw
open PySem L2
local macro_rules | `(tactic| walk_at "up") => `(tactic| first | assumption | (refine Same.at (by assumption) ?_; walk_at "up") | (refine Same.seq (by assumption) ?_; walk_at "up"))
local macro_rules | `(tactic| walk_at "rd") => `(tactic| repeat (first | (refine ⟨_, rfl, ?_⟩) | (refine ⟨_, _, rfl, rfl, ?_⟩) | (refine ⟨(by decide), ?_⟩)))
theorem _root_.L2.Same.new {H : Hp} {p : Addr} (h : H p = none) (o : HO) : Same H (upd H p o) := fun b u q => by rw [upd_ne (ne_of_none q h)]; exact q
theorem _root_.L2.Same.mut {H H' : Hp} {p : Addr} (s : Same H H') (h : H p = none) (o : HO) : Same H (upd H' p o) := fun b u q => by
  rw [upd_ne (ne_of_none q h)]; exact s b u q
theorem _root_.L2.Same.at {H H' : Hp} {p : Addr} {o : HO} (s : Same H H') (h : H p = some o) : H' p = some o := s p o h
/-- a new object, its heap told by what is known of it -/
theorem newO {H : Hp} {o : HO} {Q : Addr → Hp → Prop} (h : ∀ p H', H p = none → Same H H' → H' p = some o → Q p H') : ∀ p, H p = none → Q p (upd H p o) :=
  fun p hp => h p _ hp (Same.new hp o) upd_same
/-- the same, the object said, the heap as it is -/
theorem newQ {H : Hp} (o : HO) {G : Addr → Prop} (h : ∀ p, H p = none → Same H (upd H p o) → upd H p o p = some o → G p) : ∀ p, H p = none → G p :=
  fun p hp => h p hp (Same.new hp o) upd_same
theorem ans_run {t : TT} {σ : L2.St} {H : Hp} {Q : Bool → Hp → Prop} (b : Bool) (h : ∀ Q' : Bool → Hp → Prop, Q' b H → t σ H Q') (q : Q b H) : t σ H Q := h Q q
theorem iteN {c A B : Prop} [Decidable c] (hc : ¬ c) (h : B) : if decide c = true then A else B := by
  rw [decide_eq_false hc]
  exact iteF h
theorem iteY {c A B : Prop} [Decidable c] (hc : c) (h : A) : if decide c = true then A else B := by
  rw [decide_eq_true hc]
  exact iteT h
theorem lcY {σ : L2.St} {H : Hp} {A B : Hp → Prop} (h : A H) : tYes σ H (fun b H3 => if b = true then A H3 else B H3) := by
  show (if true = true then A H else B H)
  exact iteT h
theorem abs_map (ns : List Int) : ∀ z ∈ ns.map (fun i : Int => if i < 0 then -i else i), 0 ≤ z := by
  intro z hz
  obtain ⟨i, _, rfl⟩ := List.mem_map.mp hz
  split <;> omega
theorem map_at {ns : List Int} {i : Nat} {x : V} (h : (ns.map V.int)[i]? = some x) : ∃ z, ns[i]? = some z ∧ x = .int z := by
  rw [List.getElem?_map] at h
  cases e : ns[i]? with
  | none => rw [e] at h; cases h
  | some z => rw [e] at h; exact ⟨z, rfl, (Option.some.inj h).symm⟩
theorem take_snoc {α : Type} {l : List α} {i : Nat} {x : α} (h : l[i]? = some x) : l.take (i + 1) = l.take i ++ [x] := by
  obtain ⟨hl, rfl⟩ := List.getElem?_eq_some_iff.mp h
  rw [List.take_succ, List.getElem?_eq_getElem hl]; rfl
/-- what draws are made of -/
structure SrcIs (K : PySem.W.Frag) (H : Hp) (p c : Addr) (cs : List Int) (i : Nat) (l m : Int) : Prop where
  at_ : H p = some (.lst [.ref c, .int i, .int l, .int m])
  cel : SqL K H c (cs.map V.int)
  ne : c ≠ p
  hi : i ≤ cs.length
  hl : 0 ≤ l
  hc : ∀ z ∈ cs, 0 ≤ z
  m0 : 0 ≤ m
  m1 : m < 2147483563
def Src (K : PySem.W.Frag) (c : Addr) (H : Hp) (p : Addr) : Prop := ∃ cs i l m, SrcIs K H p c cs i l m
/-- all but p is as it was -/
def But (p : Addr) (H H' : Hp) : Prop := ∀ b o, b ≠ p → H b = some o → H' b = some o
theorem But.refl (p : Addr) (H : Hp) : But p H H := fun _ _ _ h => h
theorem But.trans {p : Addr} {H H1 H2 : Hp} (a : But p H H1) (b : But p H1 H2) : But p H H2 := fun c o n h => b c o n (a c o n h)
theorem But.upd {p : Addr} {H H' : Hp} (s : But p H H') (o : HO) : But p H (upd H' p o) := fun b u n h => by rw [upd_ne n]; exact s b u n h
theorem _root_.L2.Same.but {H H' : Hp} (s : Same H H') (p : Addr) : But p H H' := fun b o _ h => s b o h
theorem But.seq {K : PySem.W.Frag} {H H' : Hp} {p a : Addr} {xs : List V} (e : But p H H') (n : a ≠ p) (h : SqL K H a xs) : SqL K H' a xs := by
  rcases h with (h | ⟨o, h⟩) | h
  · exact .inl (.inl (e _ _ n h))
  · exact .inl (.inr ⟨o, e _ _ n h⟩)
  · exact .inr h
theorem SrcIs.put {K : PySem.W.Frag} {H : Hp} {p c : Addr} {cs : List Int} {i : Nat} {l m : Int} (h : SrcIs K H p c cs i l m) {i' : Nat} {l' m' : Int} (a : i' ≤ cs.length) (b : 0 ≤ l') (d : 0 ≤ m') (e : m' < 2147483563) :
    SrcIs K (upd H p (.lst [.ref c, .int i', .int l', .int m'])) p c cs i' l' m' :=
  ⟨upd_same, (But.upd (But.refl p H) _).seq h.ne h.cel, h.ne, a, b, h.hc, d, e⟩
theorem smallM {n : Nat} (h : n ≤ 1000000) : n < sizeLine := Nat.lt_of_le_of_lt h (by decide)
/-- a comprehension: R i H ys: what is known of the list made so far; F: what is kept of the heap; the list itself stands at D -/
theorem lc_foldF {J : It} {n : Nat} {G : Hp → Prop} {Yw : Nat → Hp → V → Hp → Prop} (w : Walk J n G Yw) {g : TG} {tt : TT} {te : TE} {vs : List Nat} {σ : L2.St} {H1 : Hp} {D : Addr} {Qd : Hp → Prop}
    (F : Hp → Prop) (R : Nat → Hp → List V → Prop) (f0 : F (upd H1 D (.lst []))) (fD : ∀ H ys zs, F H → H D = some (.lst ys) → F (upd H D (.lst zs))) (r0 : R 0 (upd H1 D (.lst [])) [])
    (rD : ∀ i H ys zs xs, R i H xs → H D = some (.lst ys) → R i (upd H D (.lst zs)) xs) (len : ∀ i H ys, R i H ys → ys.length ≤ 1000000) (hG : ∀ H, F H → G H)
    (hs : ∀ i x H H' ys (Nx : V → Hp → Prop) (Ex : Hp → Prop), i < n → F H → H D = some (.lst ys) → R i H ys → Yw i H x H' →
      (∀ y H2, F H2 → H2 D = some (.lst ys) → R (i + 1) H2 (ys ++ [y]) → Nx y H2) → (∀ H2, F H2 → H2 D = some (.lst ys) → R (i + 1) H2 ys → Ex H2) →
      g x (wipe σ vs) H' fun σ2 H2 => wipe σ2 vs = wipe σ vs ∧ tt σ2 H2 fun b H3 => if b = true then te σ2 H3 Nx else Ex H3)
    (hd : ∀ H ys, F H → H D = some (.lst ys) → R n H ys → Qd H) :
    ∃ W : Nat → Nat → Hp → Prop, (∃ m, W 0 m (upd H1 D (.lst []))) ∧ ∀ i m H, W i m H →
      (J.stop i H ∧ Qd H) ∨ (J.go i H ∧ ∃ Nx : Hp → Prop, (∀ H', Nx H' → ∃ m', m' < m ∧ W (i + 1) m' H') ∧ ∀ x H', J.yld i H x H' → g x (wipe σ vs) H' fun σ2 H2 => wipe σ2 vs = wipe σ vs ∧ tt σ2 H2 fun b H3 =>
        if b = true then te σ2 H3 fun y H4 => ∃ acc, H4 D = some (.lst acc) ∧ acc.length < sizeLine ∧ Nx (upd H4 D (.lst (acc ++ [y]))) else Nx H3) := by
  refine lc_it w (fun i H => F H ∧ ∃ ys, H D = some (.lst ys) ∧ R i H ys) ⟨f0, [], upd_same, r0⟩ (fun i H _ h => hG H h.1) ?_ ?_
  · rintro i x H H' hi ⟨f, ys, hy, r⟩ y
    refine hs i x H H' ys _ _ hi f hy r y (fun z H2 f2 h2 r2 => ?_) (fun H2 f2 h2 r2 => ⟨f2, ys, h2, r2⟩)
    exact ⟨ys, h2, smallM (len i H ys r), fD _ _ _ f2 h2, _, upd_same, rD _ _ _ _ _ r2 h2⟩
  · rintro H ⟨f, ys, hy, r⟩
    exact hd H ys f hy r
theorem snoc_at {α : Type} {l : List α} {x y : α} {j : Nat} (h : (l ++ [x])[j]? = some y) : l[j]? = some y ∨ (j = l.length ∧ y = x) := by
  rcases Nat.lt_or_ge j l.length with hj | hj
  · rw [List.getElem?_append_left hj] at h; exact .inl h
  · rw [List.getElem?_append_right hj] at h
    have := (List.getElem?_eq_some_iff.mp h).1
    simp at this
    have e : j = l.length := by omega
    subst e
    rw [Nat.sub_self] at h
    cases h
    exact .inr ⟨rfl, rfl⟩
theorem _root_.L2.Room.un2 {k : Nat} {A : Around} (r : Room k A) : A.units + 200 < cLine := by have := r.un; omega
theorem ixN_nat {n : Nat} {z : Int} (h0 : 0 ≤ z) (h : z.toNat < n) : ixN n z = some z.toNat := by
  unfold ixN
  rw [if_pos h0, if_pos (by omega : z < (n : Int))]
theorem sIx_some (n d k : Nat) : HT.sIx n d (some (k : Int)) = min k n := by first | exact HT.sIx_nat n d k | exact HT.sIx_some n d k | simp [HT.sIx]
theorem sIx_none (n d : Nat) : HT.sIx n d none = d := by first | rfl | simp [HT.sIx]
theorem cut1 (x : V) (xs : List V) : cutV (x :: xs) (some 1) none = xs := by
  unfold cutV
  rw [show (some (1 : Int)) = some ((1 : Nat) : Int) from rfl, sIx_some, sIx_none]
  have e : min 1 (x :: xs).length = 1 := by rw [List.length_cons]; omega
  rw [e]
  show List.take ((x :: xs).length - 1) xs = xs
  exact List.take_of_length_le (by rw [List.length_cons]; omega)
theorem cut1_not (x : V) (xs : List V) : ¬ (HT.sIx (x :: xs).length 0 (some 1) = 0 ∧ HT.sIx (x :: xs).length (x :: xs).length none = (x :: xs).length) := by
  rw [show (some (1 : Int)) = some ((1 : Nat) : Int) from rfl, sIx_some, List.length_cons]
  omega
/-! ### further rules: data compared and looked for at greater depths, dict.update, get of a written dict, zip of a tuple and a list -/
section
open PySem.Spec PyProof.Rows
variable {X : Cx}
/-- a datum that may be compared: n deep at most -/
def Shp (n : Nat) (d : PyData) : Prop := d.canLay0 = true ∧ d.depth ≤ n
def rEqX (K : PySem.W.Frag) : R2 := fun x y H Q => ∃ d e, Dp K H x d ∧ Dp K H y e ∧ Shp 190 d ∧ Shp 190 e ∧ Q (.bl (PyData.eqv d e)) H
def rNeX (K : PySem.W.Frag) : R2 := fun x y H Q => ∃ d e, Dp K H x d ∧ Dp K H y e ∧ Shp 190 d ∧ Shp 190 e ∧ Q (.bl (!PyData.eqv d e)) H
theorem op_eqX (hu : X.A.units + 200 < cLine) : OpR X (compareOp .Eq) (rEqX X.K) := by
  intro pins s σ H x y v u Q I rx ry ⟨d, e, hd, he, ⟨c1, d1⟩, ⟨c2, d2⟩, q⟩
  obtain ⟨as, r1⟩ := Dp.reads I d x v hd rx
  obtain ⟨bs, r2⟩ := Dp.reads I e y u he ry
  exact SeqAt.compareEq_reads r1 r2 c1 c2 (by have := Nat.min_le_left d.depth e.depth; omega) ⟨.bl _, H, I, rfl, q⟩
theorem op_neX (hu : X.A.units + 200 < cLine) : OpR X (compareOp .NotEq) (rNeX X.K) := by
  intro pins s σ H x y v u Q I rx ry ⟨d, e, hd, he, ⟨c1, d1⟩, ⟨c2, d2⟩, q⟩
  obtain ⟨as, r1⟩ := Dp.reads I d x v hd rx
  obtain ⟨bs, r2⟩ := Dp.reads I e y u he ry
  exact SeqAt.compareNe_reads r1 r2 c1 c2 (by have := Nat.min_le_left d.depth e.depth; omega) ⟨.bl _, H, I, rfl, q⟩
/-- x in (a, b, ..): data of any kind in a tuple -/
def rInTX (K : PySem.W.Frag) : R2 := fun x y H Q => ∃ d ds, Dp K H x d ∧ Dp K H y (.tuple ds) ∧ Shp 190 d ∧ PyData.canLayAll0 ds = true ∧ Q (.bl (ds.any fun z => PyData.eqv z d)) H
theorem op_inTX (hu : X.A.units + 200 < cLine) : OpR X (compareOp .In) (rInTX X.K) := by
  intro pins s σ H x y v u Q I rx ry ⟨d, ds, hd, he, ⟨c1, d1⟩, c2, q⟩
  obtain ⟨as, r1⟩ := Dp.reads I d x v hd rx
  obtain ⟨bs, r2⟩ := Dp.reads I (.tuple ds) y u he ry
  exact SeqAt.in_tuple_reads r2 r1 c2 c1 (by have := Nat.min_le_right (PyData.depthAll ds) d.depth; omega) ⟨.bl _, H, I, rfl, q⟩
/-- x in [a, b, ..]: the same in a list -/
def rInLX (K : PySem.W.Frag) : R2 := fun x y H Q => ∃ d ds, Dp K H x d ∧ Dp K H y (.list ds) ∧ Shp 190 d ∧ PyData.canLayAll0 ds = true ∧ Q (.bl (ds.any fun z => PyData.eqv z d)) H
theorem op_inLX (hu : X.A.units + 200 < cLine) : OpR X (compareOp .In) (rInLX X.K) := by
  intro pins s σ H x y v u Q I rx ry ⟨d, ds, hd, he, ⟨c1, d1⟩, c2, q⟩
  obtain ⟨as, r1⟩ := Dp.reads I d x v hd rx
  obtain ⟨bs, r2⟩ := Dp.reads I (.list ds) y u he ry
  exact SeqAt.in_list_reads r2 r1 c2 c1 (by have := Nat.min_le_right (PyData.depthAll ds) d.depth; omega) ⟨.bl _, H, I, rfl, q⟩
/-- blanks, n times -/
def rRepS : R2 := fun x y H Q => ∃ z n, x = .str z ∧ y = .int n ∧ MulOk z n ∧ Q (.str (Txt.mul z n)) H
theorem op_rep_str : OpR X (binaryOp .Mult) rRepS := by
  intro pins s σ H x y v u Q I rx ry ⟨z, n, e1, e2, ok, q⟩
  subst e1
  subst e2
  obtain ⟨t, rfl⟩ := rx
  obtain ⟨t2, rfl⟩ := ry
  exact SB.mul ok fun t' k => ⟨.str (Txt.mul z n), H, I.tok _, ⟨_, rfl⟩, q⟩
/-- d.update(e), two dicts of the call's own -/
def rUpdate : V → List V → Hp → VK → Prop := fun x vs H Q => ∃ (a b : Addr) (kvs more : List (Key × V)), x = .ref a ∧ vs = [.ref b] ∧ a ≠ b ∧ H a = some (.dK kvs) ∧ H b = some (.dK more) ∧ kvs.length + more.length ≤ sizeLine ∧ Q .non (upd H a (.dK (mergeK kvs more)))
theorem mt_update : MtR X "dict.update" rUpdate := by
  intro pins s σ H x vs v us Q I rx rv ⟨a, b, kvs, more, e1, e2, ne, ha, hb, hz, q⟩
  subst e1 e2
  cases rx
  obtain ⟨u, rfl, ru⟩ := rv.one
  cases ru
  obtain ⟨z1, lo1, ws, k1, D1⟩ := I.hok a _ ha
  obtain ⟨z2, lo2, rs, k2, D2⟩ := I.hok b _ hb
  have l1 := k1.length
  have l2 := k2.length
  refine call_meetsIn PySem.F.slot_dict_update D1.typeIs PySem.F.entry_dict_update (PySem.F.args_dict_update_2 _ _) (meets_dict_update (mixKind X.prog X.w) a b ne lo2)
    ⟨ws, rs, D1, D2, by omega, fun h' m1 m2 sb => ?_⟩
  have hm : Mut (H a) := by rw [ha]; trivial
  have new : ObjOk X.prog X.w (upd H a (.dK (mergeK kvs more))) h' a (.dK (mergeK kvs more)) :=
    ⟨Nat.le_trans (length_mergeK more kvs) hz, lo1, _, k2.merge k1, m1⟩
  obtain ⟨ob, _, _, q1, _⟩ := id m1
  refine ⟨.non, _, I.write (t' := s.toks) hm (.inl rfl) (fun c o n e => (sb.2 c n).trans e) ⟨ob, q1⟩ new, rfl, q⟩
/-- a dict that stands in the written part, its keys texts -/
structure KdAt (K : PySem.W.Frag) (w : World) (a : Addr) : Prop where
  at_ : ∃ es n, K.lookup a = some ⟨.type "dict", none, .dict es n, #[]⟩ ∧ PySem.W.KeysLit w.params es.toList
  low : (a == sysModules) = false
/-- D.get(k, d) of a written dict: r is what stands at k -/
theorem pe_kget2 {o e f : Expr} {td ty tx : TE} {apos cpos : Pos} (ho : PE X o td) (he : PE X e ty) (hf : PE X f tx) (m : M2 X o "get" apos e f cpos) :
    PE X (.Call (.Attribute o "get" apos) [e, f] [] cpos) (fun σ H Q => td σ H fun x H1 => ∃ a, x = .ref a ∧ KdAt X.K X.w a ∧ ty σ H1 fun y H2 => tx σ H2 fun z H3 =>
      ∃ (k : Str) (r : Option Value), y = .str k ∧ PySem.W.nsIn X.K a k = some r ∧ ∃ v, RelO (some v) (some (r.getD (.none))) ∧ Q (if r.isSome then v else z) H3) := by
  refine ⟨fun pins s σ H Q I h => ?_⟩
  refine wpAny_Call_method m.base m.few m.line PySem.F.plainAttrs_dict PySem.F.slot_dict_get PySem.F.type_dict_get (thn (ho.run pins s σ H _ I h) fun u s1 ⟨x, H1, I1, rx, a, ex, ⟨⟨es, n, hl, hk⟩, lo⟩, q1⟩ => ?_)
  subst ex
  obtain rfl : u = Value.ref a := rx
  have hm := PySem.W.mapOf_K (prog := X.prog) (w := X.w) I1.kIn hl hk
  refine ⟨hm.typeIs, fun b eb => ?_, ?_⟩
  · cases eb
    exact ⟨_, I1.kIn _ _ hl, rfl⟩
  rw [m.trees]
  refine Calls.callWith_builtin rfl (Calls.evalArgs_plain (Calls.spliced_cons (thn (he.run pins s1 σ H1 _ I1 q1) fun iv s2 ⟨y, H2, I2, ry, q2⟩ =>
    Calls.spliced_cons (thn (hf.run pins s2 σ H2 _ I2 q2) fun fv s3 ⟨z, H3, I3, rz, k, r, ey, hn, v, rv, q3⟩ => Calls.spliced_nil ?_))))
  subst ey
  obtain ⟨t, rfl⟩ := ry
  have hm3 := PySem.W.mapOf_K (prog := X.prog) (w := X.w) I3.kIn hl hk
  refine call_meetsIn PySem.F.slot_dict_get hm3.typeIs PySem.F.entry_dict_get (PySem.F.args_dict_get_3 _ _ _) (meets_dict_get_default (strKind X.prog X.w) a (strKind_is X.prog X.w k t) lo fv) ⟨_, hm3, ?_⟩
  rw [PySem.W.find_K hl hn]
  cases r with
  | none => exact ⟨_, H3, I3.tok _, rz, q3⟩
  | some u => exact ⟨_, H3, I3.tok _, rv, q3⟩
end

section
open PySem.Spec PyProof.Rows
/-- zip of the tuple at a and the list at b: their items in new pairs -/
def ItzM (K : PySem.W.Frag) (a b : Addr) : It where
  go := fun i H => ∃ (xs ys : List V) (x y : V), SqT K H a xs ∧ SqL K H b ys ∧ xs[i]? = some x ∧ ys[i]? = some y
  yld := fun i H v H' => ∃ T x y, v = .ref T ∧ H T = none ∧ H' = upd H T (.tup [x, y]) ∧ (∀ xs, SqT K H a xs → xs[i]? = some x) ∧ ∀ ys, SqL K H b ys → ys[i]? = some y
  stop := fun i H => ∃ xs ys : List V, SqT K H a xs ∧ SqL K H b ys ∧ i ≤ xs.length ∧ i ≤ ys.length ∧ (i = xs.length ∨ i = ys.length)
theorem turn_zipM {P : Program} {w : World} {K : PySem.W.Frag} {elts : List Expr} {kk : Nat} {tpos : Pos} {a b z TI TO i1 i2 : Addr} (D : ZipApart z TI TO i1 i2 a b) :
    Turn P w K (.Tuple elts kk tpos) (ItzM K a b) [z, TI, TO, i1, i2] z (fun i h => IsZip h z TI TO .none ∧ IsTupOf2 h TI (.ref i1) (.ref i2) ∧ (∃ x y, IsTupOf2 h TO x y) ∧ h.IsTupleIter i1 a i ∧ h.IsListIter i2 b i) := by
  have S : ZipSep2 z TI TO i1 i2 [i1, a] [i2, b] := by
    obtain ⟨d1, d2, d3, d4, d5, d6, d7, d8, d9, d10, d11, d12, d13, d14, d15, d16, d17, d18⟩ := D
    exact ⟨d1, d2, d5, d6, by simp, by simp [d3.symm, d11.symm], by simp [d8, d12.symm], d7, by simp, by simp [d4.symm, d15.symm], by simp [d9, d16.symm], by simp [d10, d17.symm], by simp [d10.symm, d14.symm]⟩
  have five : ∀ {c : Addr} {p : Addr → Prop}, c ∈ [z, TI, TO, i1, i2] → p z → p TI → p TO → p i1 → p i2 → p c := fun {c p} hc p1 p2 p3 p4 p5 => by
    rcases (by simpa using hc : c = z ∨ c = TI ∨ c = TO ∨ c = i1 ∨ c = i2) with r | r | r | r | r <;> rw [r] <;> assumption
  constructor
  case mem => simp
  case obj =>
    intro i h ⟨hz, hTI, ⟨x, y, hTO⟩, ⟨o1, e1, _, f1⟩, ⟨o2, e2, _, f2⟩⟩ c hc
    refine five (p := fun c => ∃ o, h.get? c = some o ∧ ∀ v, o.data ≠ .cell v) hc ⟨_, hz, fun v q => nomatch q⟩ ⟨_, hTI, fun v q => nomatch q⟩ ⟨_, hTO, fun v q => nomatch q⟩ ⟨o1, e1, fun v q => ?_⟩ ⟨o2, e2, fun v q => ?_⟩
    · rw [f1] at q; cases q
    · rw [f2] at q; cases q
  case keep =>
    intro i h h' ⟨hz, hTI, ⟨x, y, hTO⟩, h1, h2⟩ k
    exact ⟨k _ (by simp) _ hz, k _ (by simp) _ hTI, ⟨_, _, k _ (by simp) _ hTO⟩, h1.at fun o q => k _ (by simp) o q, h2.at fun o q => k _ (by simp) o q⟩
  case item =>
    intro X hP hw hK hc i pins s σ H E I hf ⟨hz, hTI, ⟨x0, y0, hTO⟩, h1, h2⟩ ⟨xs, ys, x, y, hqx, hqy, hx, hy⟩
    subst hP hw hK
    have hh := I.ok.hd hc
    obtain ⟨its, rv, p, _⟩ := I.tuple hqx
    obtain ⟨its2, rv2, p2, _⟩ := I.list hqy
    obtain ⟨u, hu, ru⟩ := rv.get hx
    obtain ⟨u2, hu2, ru2⟩ := rv2.get hy
    have hzl : z < s.heap.objs.size := Heap.lt_size hz
    have g1 : i < its.toArray.size := by simpa using (List.getElem?_eq_some_iff.mp hu).1
    have g2 : i < its2.toArray.size := by simpa using (List.getElem?_eq_some_iff.mp hu2).1
    refine wpAny_pyNext_zipD2_item S (Draws.tuple (A := X.A.in1) hh i1 a D.l1i1 its.toArray) (Draws.list (A := X.A.in1) hh i2 b D.l2i2 its2.toArray) hz hTI hTO ⟨h1, p⟩ ⟨h2, p2.isList⟩ g1 g2 fun v1 v2 h' tk w1 w2 z' TO' s1 s2 hT hsz hk => ?_
    have ev1 : v1 = u := by
      have q : its[i]? = some v1 := by simpa using w1
      rw [hu] at q; exact (Option.some.inj q).symm
    have ev2 : v2 = u2 := by
      have q : its2[i]? = some v2 := by simpa using w2
      rw [hu2] at q; exact (Option.some.inj q).symm
    subst ev1 ev2
    refine ⟨_, rfl, wpAny_letOwnedTupleGo_zip (s := { s with heap := h', toks := tk }) z' fun h'' z'' sb => ?_⟩
    have hT2 : h''.get? s.heap.objs.size = some { cls := .type "tuple", data := .seq #[v1, v2] } := (sb.2 _ (Nat.ne_of_gt hzl)).trans hT
    have new : ObjOk X.prog X.w (upd H s.heap.objs.size (.tup [x, y])) h'' s.heap.objs.size (.tup [x, y]) :=
      ⟨by show 2 ≤ sizeLine; decide, [v1, v2], .cons ru (.cons ru2 .nil), ⟨_, hT2, rfl, _, rfl⟩⟩
    have out : ∀ {c : Addr}, c ∉ [z, TI, TO, i1, i2] → c ≠ z ∧ c ≠ TO ∧ c ≠ i1 ∧ c ≠ i2 := fun {c} hc => by
      simp only [List.mem_cons, not_or] at hc
      exact ⟨hc.1, hc.2.2.1, hc.2.2.2.1, hc.2.2.2.2.1⟩
    have I1 : Inv X pins σ (upd H s.heap.objs.size (.tup [x, y])) { s with heap := h'', toks := tk } :=
      I.turnedNew (t' := tk) (ch := [z, TI, TO, i1, i2]) (fun c o hb q => let ⟨n1, n2, n3, n4⟩ := out hb; (sb.2 c n1).trans (hk c o n1 n2 n3 n4 q)) hf (Nat.le_refl _) new
    refine ⟨.ref s.heap.objs.size, _, I1, rfl, ⟨_, x, y, rfl, I.hok.fresh (Nat.le_refl _), rfl, fun l hl => ?_, fun l hl => ?_⟩, ⟨z'', ?_, ⟨v1, v2, ?_⟩, ?_, ?_⟩, fun c hcm => ?_⟩
    · rw [I.tuple_inj hl hqx]; exact hx
    · rw [I.list_inj hl hqy]; exact hy
    · exact (sb.2 _ D.TIz).trans (hk _ _ D.TIz D.TITO D.TIi1 D.TIi2 hTI)
    · exact (sb.2 _ D.TOz).trans TO'
    · exact s1.1.at fun o q => (sb.2 _ D.i1z).trans q
    · exact s2.1.at fun o q => (sb.2 _ D.i2z).trans q
    · have lt1 : i1 < s.heap.objs.size := by obtain ⟨_, e1, _⟩ := h1; exact Heap.lt_size e1
      have lt2 : i2 < s.heap.objs.size := by obtain ⟨_, e1, _⟩ := h2; exact Heap.lt_size e1
      have hlt : c < s.heap.objs.size := five (p := fun c => c < s.heap.objs.size) hcm hzl (Heap.lt_size hTI) (Heap.lt_size hTO) lt1 lt2
      rw [upd_ne (Nat.ne_of_lt hlt)]
      exact (hf c hcm).1
  case done =>
    intro X hP hw hK hc i pins s σ H E I hf ⟨hz, hTI, ⟨x0, y0, hTO⟩, h1, h2⟩ ⟨xs, ys, hqx, hqy, b1, b2, hend⟩
    subst hP hw hK
    have hh := I.ok.hd hc
    obtain ⟨its, rv, p, _⟩ := I.tuple hqx
    obtain ⟨its2, rv2, p2, _⟩ := I.list hqy
    have l1 : xs.length = its.toArray.size := by simpa using rv.length
    have l2 : ys.length = its2.toArray.size := by simpa using rv2.length
    refine wpAny_pyNext_zipD2_end S (Draws.tuple (A := X.A.in1) hh i1 a D.l1i1 its.toArray) (Draws.list (A := X.A.in1) hh i2 b D.l2i2 its2.toArray) hz hTI hTO ⟨h1, p⟩ ⟨h2, p2.isList⟩ (by omega) (by omega) (by omega) fun h' tk hk => ⟨rfl, ?_⟩
    refine I.turnedL (t' := tk) (ch := [z, TI, TO, i1, i2]) (fun c o hb q => ?_) hf
    simp only [List.mem_cons, not_or] at hb
    exact hk c o hb.1 hb.2.2.1 hb.2.2.2.1 hb.2.2.2.2.1 q
  case self => exact fun A i s Q E st h => wpAny_pyIter_zip st.1 h
def iZipM (K : PySem.W.Frag) (ta : TA) : TI := fun σ H R => ta σ H fun vs H1 => ∃ a b xs ys, vs = [.ref a, .ref b] ∧ SqT K H1 a xs ∧ SqL K H1 b ys ∧ R (ItzM K a b) H1
theorem pi_zipM {X : Cx} {e e2 : Expr} {ta : TA} {p pos tpos : Pos} {elts : List Expr} {kk : Nat} (hg : Gl X "zip") (hm : X.mg "zip" = none) (ha : PA X [e, e2] ta)
    (hs : starEach [e, e2] X.env = (false, eval e X.env) :: starEach [e2] X.env := by rfl) (hpl : (backTo pos (starEach [e2] X.env)).any (·.1) = false := by rfl) :
    PI X (.Tuple elts kk tpos) (.Call (.Name "zip" p) [e, e2] [] pos) (iZipM X.K ta) := by
  refine ⟨fun pins s σ H R I h => ?_⟩
  refine Call_ (ld_blt I hg hm PyProof.Rows.boot_zip (PyProof.Rows.callWith_type1 (thn (ha.run pos pins s σ H _ I h) fun us s1 ⟨vs, H1, I1, r1, a, b, xs, ys, ex, hqx, hqy, q⟩ => ?_) hs hpl))
  subst ex
  obtain ⟨u, u', rfl, r, r'⟩ := r1.two
  cases r
  cases r'
  obtain ⟨its, rv, p1, _⟩ := I1.tuple hqx
  obtain ⟨its2, rv2, p2, _⟩ := I1.list hqy
  have la : a < s1.heap.objs.size := by obtain ⟨o1, ho1, _⟩ := id p1; exact Heap.lt_size ho1
  refine zip_begins2 (begins_tuple a its.toArray) (begins_list b its2.toArray) p1 p2.isList fun h' hz hTI hTO h1 h2 hsz hk => wpAny_pyIter_zip hz ?_
  have I2 : Inv X pins σ H1 { s1 with heap := h' } := I1.kept (t' := s1.toks) hk
  refine ⟨s1.heap.objs.size + 4, [s1.heap.objs.size + 4, s1.heap.objs.size + 2, s1.heap.objs.size + 3, s1.heap.objs.size, s1.heap.objs.size + 1], _, _, H1, rfl, I2, turn_zipM (PySem.W.ktu_apart s1.heap.objs.size a b la p2.lt), ⟨hz, hTI, ⟨_, _, hTO⟩, ⟨_, h1, rfl, rfl⟩, ⟨_, h2, rfl, rfl⟩⟩, fun c hcm => ?_, q⟩
  have hle : s1.heap.objs.size ≤ c := by
    rcases (by simpa using hcm : c = s1.heap.objs.size + 4 ∨ c = s1.heap.objs.size + 2 ∨ c = s1.heap.objs.size + 3 ∨ c = s1.heap.objs.size ∨ c = s1.heap.objs.size + 1) with r | r | r | r | r <;> rw [r]
    · exact Nat.le_add_right _ _
    · exact Nat.le_add_right _ _
    · exact Nat.le_add_right _ _
    · exact Nat.le_refl _
    · exact Nat.le_add_right _ _
  exact I1.fpOk hle (I1.hok.fresh hle)
/-- a loop over such a zip, as many items on both sides -/
theorem for_zipM {K : PySem.W.Frag} {a b : Addr} {xs ys : List V} {g : TG} {tb : TS} {D : Ends} {σ : L2.St} {H : Hp} (hl : xs.length = ys.length) (Pv : Nat → L2.St → Hp → Prop) (h0 : Pv 0 σ H) (hq : ∀ i σ H, Pv i σ H → SqT K H a xs ∧ SqL K H b ys)
    (hs : ∀ (i : Nat) (x y : V) (T : Addr) (σ : L2.St) (H : Hp), xs[i]? = some x → ys[i]? = some y → Pv i σ H → H T = none → g (.ref T) σ (upd H T (.tup [x, y])) fun σ2 H2 => tb { D with nx := Pv (i + 1), ct := Pv (i + 1), bk := D.nx } σ2 H2) (hd : ∀ σ H, Pv xs.length σ H → D.nx σ H) :
    ∃ W : Nat → Nat → L2.St → Hp → Prop, (∃ m, W 0 m σ H) ∧ ∀ i m σ H, W i m σ H →
      ((ItzM K a b).stop i H ∧ D.nx σ H) ∨ ((ItzM K a b).go i H ∧ ∃ N : L2.St → Hp → Prop, (∀ σ' H', N σ' H' → ∃ m', m' < m ∧ W (i + 1) m' σ' H') ∧ ∀ v H', (ItzM K a b).yld i H v H' → g v σ H' fun σ2 H2 => tb { D with nx := N, ct := N, bk := D.nx } σ2 H2) := by
  refine ⟨fun i m σ H => m = xs.length - i ∧ i ≤ xs.length ∧ Pv i σ H, ⟨xs.length, rfl, Nat.zero_le _, h0⟩, fun i m σ H ⟨em, hi, p⟩ => ?_⟩
  subst em
  obtain ⟨qx, qy⟩ := hq i σ H p
  rcases Nat.lt_or_ge i xs.length with hlt | hge
  · refine .inr ⟨⟨xs, ys, _, _, qx, qy, List.getElem?_eq_getElem hlt, List.getElem?_eq_getElem (by omega : i < ys.length)⟩, Pv (i + 1), fun σ' H' p' => ⟨xs.length - (i + 1), by omega, rfl, hlt, p'⟩, fun v H' ⟨T, x', y', e1, hT, e2, f1, f2⟩ => ?_⟩
    subst e1 e2
    exact hs i x' y' T σ H (f1 xs qx) (f2 ys qy) p hT
  · have e : i = xs.length := by omega
    subst e
    exact .inl ⟨⟨xs, ys, qx, qy, Nat.le_refl _, by omega, .inl rfl⟩, hd σ H p⟩
end
/-! ### rules for a comprehension's block: the written part by its name -/
section
variable {X : Cx} (K : PySem.W.Frag)
theorem kx_ix_tup (h : X.K = K := by rfl) : IxR X (rIxT K) := h ▸ ix_tup
theorem kx_ix_list (h : X.K = K := by rfl) : IxR X (rIxL K) := h ▸ ix_list
theorem kx_ix_kdict (w : World) (h : X.K = K := by rfl) (hw : X.w = w := by rfl) : IxR X (rIxD K w) := by subst h hw; exact ix_kdict
theorem kx_op_eqX (hu : X.A.units + 200 < cLine) (h : X.K = K := by rfl) : OpR X (compareOp .Eq) (rEqX K) := h ▸ op_eqX hu
theorem kx_op_neX (hu : X.A.units + 200 < cLine) (h : X.K = K := by rfl) : OpR X (compareOp .NotEq) (rNeX K) := h ▸ op_neX hu
theorem kx_op_in_seq (h : X.K = K := by rfl) : OpR X (compareOp .In) (rIn K false) := h ▸ op_in_seq
theorem kx_op_notIn_seq (h : X.K = K := by rfl) : OpR X (compareOp .NotIn) (rIn K true) := h ▸ op_notIn_seq
theorem kx_call_isi (h : X.K = K := by rfl) : CallR X (.builtin "isinstance") (rIsi K) := h ▸ call_isi
def rLenQ (K : PySem.W.Frag) : List V → Hp → VK → Prop := fun xs H Q => ∃ p ys, xs = [.ref p] ∧ (SqL K H p ys ∨ SqT K H p ys) ∧ Q (.int ys.length) H
theorem kx_call_len_seq (h : X.K = K := by rfl) : CallR X (.builtin "len") (rLenQ K) := h ▸ call_len_seq
theorem kx_bm {e : Expr} {ty : String} {r : V → List V → Hp → VK → Prop} {to : TE} {t : TA} (p : PE X e (tBM X.K ty r to t)) (h : X.K = K := by rfl) : PE X e (tBM K ty r to t) := h ▸ p
theorem kx_bm0 {e : Expr} {ty : String} {r : V → List V → Hp → VK → Prop} {to : TE} (p : PE X e (tBM0 X.K ty r to)) (h : X.K = K := by rfl) : PE X e (tBM0 K ty r to) := h ▸ p
theorem kx_cr_sum (hc : X.calm = true := by rfl) (h : X.K = K := by rfl) : CallR X (.builtin "sum") (rSum K) := h ▸ cr_sum hc
end

section
variable {X : Cx}
/-- a new thing is locked as soon as it is there (a dict that is walked and dropped) -/
def tFrz (t : TE) : TE := fun σ H Q => t σ H fun x H1 => ∃ d u, x = .ref d ∧ H1 d = some u ∧ Mut (some u) ∧ ∀ od, Q x (upd H1 d (.frz od u))
theorem pe_frz {e : Expr} {t : TE} (he : PE X e t) : PE X e (tFrz t) := by
  refine ⟨fun pins s σ H Q I hw => ?_⟩
  refine thn (he.run pins s σ H _ I hw) fun v s1 ⟨x, H1, I1, r, d, u, ex, hd, mu, q⟩ => ?_
  obtain ⟨od, I2⟩ := I1.lock hd mu
  exact ⟨x, _, I2, r, q od⟩
end
/-! ### the plain law: sets of places as numbers, lattices -/
/-- the number whose binary digits are the places below n with p -/
def mask (n : Nat) (p : Nat → Bool) : Nat := match n with
  | 0 => 0
  | n + 1 => mask n p + if p n then 2 ^ n else 0
theorem mask_lt (p : Nat → Bool) : ∀ n, mask n p < 2 ^ n
  | 0 => by show 0 < 1; omega
  | n + 1 => by
    have h := mask_lt p n
    show mask n p + (if p n then 2 ^ n else 0) < 2 ^ (n + 1)
    rw [Nat.pow_succ]
    split <;> omega
theorem mask_bit (p : Nat → Bool) : ∀ n i, (mask n p).testBit i = (decide (i < n) && p i)
  | 0, i => by
    show Nat.testBit 0 i = _
    simp
  | n + 1, i => by
    have h := mask_lt p n
    have ih := mask_bit p n i
    show (mask n p + if p n then 2 ^ n else 0).testBit i = _
    by_cases c : p n = true
    · rw [if_pos c, Nat.add_comm]
      by_cases e : i = n
      · subst e
        rw [Nat.testBit_two_pow_add_eq, ih, c]
        simp
      · rcases Nat.lt_or_ge i n with l | l
        · rw [Nat.testBit_two_pow_add_gt (by omega), ih]
          have : i < n + 1 := by omega
          simp [l, this]
        · have l2 : ¬ i < n + 1 := by omega
          have z : 2 ^ n + mask n p < 2 ^ i := Nat.lt_of_lt_of_le (by rw [Nat.pow_succ]; omega : 2 ^ n + mask n p < 2 ^ (n + 1)) (Nat.pow_le_pow_right (by decide) (by omega))
          rw [Nat.testBit_lt_two_pow z]
          simp [l2]
    · rw [if_neg c, Nat.add_zero, ih]
      by_cases e : i = n
      · subst e
        simp [Bool.not_eq_true _ ▸ c]
      · have : (i < n) ↔ (i < n + 1) := by omega
        simp [this]
theorem mask_ext {n : Nat} {p q : Nat → Bool} (h : ∀ i, i < n → p i = q i) : mask n p = mask n q := by
  refine Nat.eq_of_testBit_eq fun i => ?_
  rw [mask_bit, mask_bit]
  by_cases c : i < n
  · rw [h i c]
  · simp [c]
theorem mask_eq {n : Nat} {p q : Nat → Bool} : mask n p = mask n q ↔ ∀ i, i < n → p i = q i := by
  refine ⟨fun h i hi => ?_, mask_ext⟩
  have := congrArg (Nat.testBit · i) h
  simpa [mask_bit, hi] using this
theorem mask_and (n : Nat) (p q : Nat → Bool) : mask n p &&& mask n q = mask n fun i => p i && q i := by
  refine Nat.eq_of_testBit_eq fun i => ?_
  rw [Nat.testBit_and, mask_bit, mask_bit, mask_bit]
  cases decide (i < n) <;> simp
theorem mask_or (n : Nat) (p q : Nat → Bool) : mask n p ||| mask n q = mask n fun i => p i || q i := by
  refine Nat.eq_of_testBit_eq fun i => ?_
  rw [Nat.testBit_or, mask_bit, mask_bit, mask_bit]
  cases decide (i < n) <;> simp
theorem mask_all (n : Nat) : mask n (fun _ => true) = 2 ^ n - 1 := by
  refine Nat.eq_of_testBit_eq fun i => ?_
  rw [mask_bit, Nat.testBit_two_pow_sub_one]
  simp
theorem mask_one {n a : Nat} (h : a < n) : mask n (fun i => i == a) = 2 ^ a := by
  refine Nat.eq_of_testBit_eq fun i => ?_
  rw [mask_bit, Nat.testBit_two_pow]
  by_cases e : i = a
  · subst e; simp [h]
  · simp [e, Ne.symm e]
theorem mask_of {n m : Nat} (h : m < 2 ^ n) : m = mask n m.testBit := by
  refine Nat.eq_of_testBit_eq fun i => ?_
  rw [mask_bit]
  by_cases c : i < n
  · simp [c]
  · rw [Nat.testBit_lt_two_pow (Nat.lt_of_lt_of_le h (Nat.pow_le_pow_right (by decide) (by omega)))]
    simp [c]
/-! #### the same as whole numbers of the program -/
theorem bit_int (m a : Nat) : Builtin.bitAnd ((m : Int) / 2 ^ a) 1 = if m.testBit a then 1 else 0 := by
  have e : Builtin.bitAnd ((m : Int) / 2 ^ a) 1 = ((m : Int) / 2 ^ a) % 2 := by
    have := Bits.bitAnd_mask (x := (m : Int) / 2 ^ a) 1 (Int.ediv_nonneg (Int.natCast_nonneg _) (by exact Int.le_of_lt (Int.pow_pos (by decide))))
    simpa using this
  rw [e, Nat.testBit_eq_decide_div_mod_eq]
  have e2 : ((m : Int) / 2 ^ a) % 2 = ((m / 2 ^ a % 2 : Nat) : Int) := by
    rw [Int.natCast_emod, Int.natCast_ediv, Int.natCast_pow]
    rfl
  rw [e2]
  rcases Nat.mod_two_eq_zero_or_one (m / 2 ^ a) with h | h <;> rw [h] <;> rfl
theorem bit_is (m a : Nat) : decide (Builtin.bitAnd ((m : Int) / 2 ^ a) 1 = 1) = m.testBit a := by
  rw [bit_int]
  cases m.testBit a <;> rfl
theorem and_int_nat (a b : Nat) : Builtin.bitAnd (a : Int) (b : Int) = ((a &&& b : Nat) : Int) := by
  rw [PyProof.Rows.bitAnd_pp (Int.natCast_nonneg _) (Int.natCast_nonneg _)]
  rfl
theorem or_int_nat (a b : Nat) : Builtin.bitOr (a : Int) (b : Int) = ((a ||| b : Nat) : Int) := by
  rw [Bits.bitOr_pp (Int.natCast_nonneg _) (Int.natCast_nonneg _)]
  rfl
/-- a & ~b -/
theorem andnot_int (n : Nat) (p q : Nat → Bool) : Builtin.bitAnd (mask n p : Int) (Builtin.bitNot (mask n q : Int)) = (mask n (fun i => p i && !q i) : Int) := by
  have hneg : ¬ (0 ≤ Builtin.bitNot (mask n q : Int)) := by show ¬ (0 ≤ -(mask n q : Int) - 1); omega
  have hpos : (0 : Int) ≤ (mask n p : Int) := Int.natCast_nonneg _
  have nn : Builtin.bitNot (Builtin.bitNot (mask n q : Int)) = (mask n q : Int) := by show -(-(mask n q : Int) - 1) - 1 = _; omega
  have e : Builtin.bitAnd (mask n p : Int) (Builtin.bitNot (mask n q : Int)) = (mask n p : Int) - ((mask n p &&& mask n q : Nat) : Int) := by
    unfold Builtin.bitAnd
    rw [show decide ((0 : Int) ≤ (mask n p : Int)) = true from decide_eq_true hpos, show decide ((0 : Int) ≤ Builtin.bitNot (mask n q : Int)) = false from decide_eq_false hneg]
    show (mask n p : Int) - (((mask n p : Int).toNat &&& (Builtin.bitNot (Builtin.bitNot (mask n q : Int))).toNat : Nat) : Int) = _
    rw [nn]
    rfl
  rw [e, mask_and]
  have s : ∀ m, mask m (fun i => p i && q i) + mask m (fun i => p i && !q i) = mask m p := fun m => by
    induction m with
    | zero => rfl
    | succ m ih =>
      show (mask m _ + if (p m && q m) = true then 2 ^ m else 0) + (mask m _ + if (p m && !q m) = true then 2 ^ m else 0) = mask m p + if p m = true then 2 ^ m else 0
      rw [← ih]
      cases p m <;> cases q m <;> simp <;> omega
  have := s n
  omega
/-- the sum of 2 ** i over the places with p -/
theorem sum_mask (p : Nat → Bool) : ∀ n, ((((List.range n).filter p).map fun i => ((2 ^ i : Nat) : Int))).sum = (mask n p : Int)
  | 0 => rfl
  | n + 1 => by
    rw [List.range_succ, List.filter_append, List.map_append, List.sum_append, sum_mask p n]
    show _ = ((mask n p + if p n then 2 ^ n else 0 : Nat) : Int)
    by_cases c : p n = true
    · simp [List.filter, c]
    · simp [List.filter, c]
/-- the first place below n with p -/
def first : Nat → (Nat → Bool) → Option Nat := fun n p => (List.range n).find? p
theorem first_some {n k : Nat} {p : Nat → Bool} (h : first n p = some k) : k < n ∧ p k = true ∧ ∀ j, j < k → p j = false := by
  unfold first at h
  obtain ⟨h1, as, bs, h2, h3⟩ := List.find?_eq_some_iff_append.mp h
  have hk : k < n := List.mem_range.mp (List.mem_of_find?_eq_some h)
  refine ⟨hk, h1, fun j hj => ?_⟩
  have hl : as.length = k := by
    have e1 : (List.range n)[as.length]? = some k := by rw [h2, List.getElem?_append_right (Nat.le_refl _), Nat.sub_self]; rfl
    have e2 := (List.getElem?_eq_some_iff.mp e1).1
    rw [List.getElem?_range (by simpa using e2)] at e1
    exact Option.some.inj e1
  have e1 : (List.range n)[j]? = some j := List.getElem?_range (by omega)
  rw [h2, List.getElem?_append_left (by omega)] at e1
  have := h3 j (List.mem_of_getElem? e1)
  simpa using this
theorem first_none {n : Nat} {p : Nat → Bool} (h : first n p = none) : ∀ j, j < n → p j = false := fun j hj => by
  have := List.find?_eq_none.mp h j (List.mem_range.mpr hj)
  simpa using this
theorem first_is {n k : Nat} {p : Nat → Bool} (hk : k < n) (h1 : p k = true) (h2 : ∀ j, j < k → p j = false) : first n p = some k := by
  cases e : first n p with
  | none => have := first_none e k hk; rw [h1] at this; cases this
  | some m =>
    obtain ⟨a, b, c⟩ := first_some e
    rcases Nat.lt_trichotomy m k with l | l | l
    · have := h2 m l; rw [b] at this; cases this
    · rw [l]
    · have := c k l; rw [h1] at this; cases this
theorem first_not {n : Nat} {p : Nat → Bool} (h : ∀ j, j < n → p j = false) : first n p = none := by
  cases e : first n p with
  | none => rfl
  | some m =>
    obtain ⟨a, b, _⟩ := first_some e
    rw [h m a] at b; cases b
theorem first_ext {n : Nat} {p q : Nat → Bool} (h : ∀ i, i < n → p i = q i) : first n p = first n q := by
  cases e : first n p with
  | none => exact (first_not fun j hj => by rw [← h j hj]; exact first_none e j hj).symm
  | some m =>
    obtain ⟨a, b, c⟩ := first_some e
    exact (first_is a (by rw [← h m a]; exact b) fun j hj => by rw [← h j (by omega)]; exact c j hj).symm
/-- a lattice: its label, names, order and depth -/
structure Lt where
  label : Str
  names : List Str
  le : Nat → Nat → Bool
  depth : Nat
namespace Lt
def n (L : Lt) : Nat := L.names.length
def down (L : Lt) (b : Nat) : Nat := mask L.n fun a => L.le a b
def up (L : Lt) (a : Nat) : Nat := mask L.n fun b => L.le a b
def join (L : Lt) (a b : Nat) : Option Nat := first L.n fun k => L.up k == (L.up a &&& L.up b)
def meet (L : Lt) (a b : Nat) : Option Nat := first L.n fun k => L.down k == (L.down a &&& L.down b)
def bot (L : Lt) : Option Nat := first L.n fun k => L.up k == 2 ^ L.n - 1
def top (L : Lt) : Option Nat := first L.n fun k => L.down k == 2 ^ L.n - 1
def irr (L : Lt) (a : Nat) : Bool := (List.range L.n).any fun k => L.down k == mask L.n (fun i => L.le i a && !(i == a))
def irrs (L : Lt) : List Nat := (List.range L.n).filter L.irr
end Lt
def optV : Option Nat → V
  | none => .non
  | some k => .int k
def natV (l : List Nat) : List V := l.map fun k => V.int (k : Nat)
/-! ### defs that say super(): the frame with the class's cell -/
section
open PySem.W PyProof.Rows PySem.Calls
theorem lookup_class {cc c : Addr} {x : Str} (h : ([("__class__", cc)] : List (Str × Addr)).lookup x = some c) : x = "__class__" ∧ c = cc := by
  by_cases e : x = "__class__"
  · subst e
    simp at h
    exact ⟨rfl, h.symm⟩
  · have : (x == ("__class__" : Str)) = false := beq_eq_false_iff_ne.mpr e
    simp [List.lookup, this] at h
theorem start_get {N : List Str} {vs : List V} {i : Nat} {v : V} (h : (L2.start N vs)[i]? = some (some v)) : vs[i]? = some v := by
  rcases Nat.lt_or_ge i vs.length with hi | hi
  · simpa [L2.start, List.getElem?_append_left, hi] using h
  · simp only [L2.start, List.getElem?_append, List.length_map, Nat.not_lt.mpr hi, if_false, List.getElem?_replicate] at h
    split at h <;> cases h
end
section
open PySem.W PyProof.Rows PySem.Calls ClX
variable {X : Cx} {c : Code} {st : Stmt} {ss rest : List Stmt} {t u : TS}
/-- a suite run where the frame's own code stands below -/
structure PSa (X : Cx) (c : Code) (ss : List Stmt) (t : TS) : Prop where
  run : ∀ (pins : List (Addr × Obj)) (s : Shared) (σ : L2.St) (H : Hp) (D : Ends), Inv X pins σ H s → t D σ H → _root_.PySem.wpAt (model X.prog X.w) X.A c (execs ss X.env) (SP X pins D) X.xe s
theorem psa_any (h : PSs X ss t) : PSa X c ss t := ⟨fun pins s σ H D I q => _root_.PySem.wpAt_of_wpAny (h.run pins s σ H D I q)⟩
theorem psa_cons (h1 : PS X st t) (h2 : PSa X c rest u) : PSa X c (st :: rest) (tSeq t u) := by
  refine ⟨fun pins s σ H D I h => ?_⟩
  refine ks_wpAt_execs_cons (_root_.PySem.wpAt_of_wpAny (thn (h1.run pins s σ H { D with nx := u D } I h) fun f s1 q => ?_))
  match f, q with
  | .next, ⟨σ', H', I', q⟩ => exact h2.run pins s1 σ' H' D I' q
  | .ret v, q => exact q
  | .brk, q => exact q
  | .cont, q => exact q
/-- a local name, or one with a cell of the frame's own -/
def locK (sc : Scope) (x : Str) : Bool := match sc.names.lookup x with
  | some .local => true
  | some .cell => true
  | _ => false
theorem locK_vis {sc : Scope} {x : Str} (h : locK sc x = true) : Vis sc x := by
  unfold locK at h
  split at h
  · exact .inl ‹_›
  · exact .inr (.inl ‹_›)
  · cases h
theorem load_self {M : Model} {A : Around} {E : Value → Shared → Prop} {env : Env} {s : Shared} {me : Str} {u : Value} {m0 : Str → Option Value} {Q : Value → Shared → Prop} (hk : env.scope.kind = .function) (ka : locK env.scope me = true) (hn : s.heap.Ns env.locals m0) (lk : Look env s.heap m0 me u) (h : Q u s) : wpAny M A (loadName env me) Q E s := by
  rcases lk with ⟨a, q⟩ | ⟨a, c, e1, e2⟩
  · exact wpAny_loadName_local hk a hn q h
  · unfold locK at ka
    rcases a with a | a
    · exact wpAny_loadName_cell hk a e1 e2 h
    · have a' : env.scope.names.lookup me = some .free := a
      rw [a'] at ka
      cases ka
/-- what a frame with the class's cell knows of itself -/
structure SupX (X : Cx) (f cd cc D : Addr) (me : Str) : Prop where
  ks : X.env.scope.names.lookup ("super" : Str) = some .globalImplicit
  kc : X.env.scope.names.lookup ("__class__" : Str) = some .free
  ka : locK X.env.scope me = true
  fn : X.env.func = some f
  fd : ∃ o : Obj, X.K.lookup f = some o ∧ ∃ d : FuncData, o.data = .func d ∧ ∃ ar : Arg, (d.params.posonlyargs ++ d.params.args).head? = some ar ∧ ar.arg = me
  co : X.env.code = .ref cd
  cv : ∃ o : Obj, X.K.lookup cd = some o ∧ ∃ vs, o.data = .fields vs ∧ ∃ (file : Str) (tf : Tok), vs[2]? = some (.str file tf) ∧ ((X.prog.main.file : Str) == file) = true
  top : (X.prog.main.scope.names.lookup ("super" : Str)).isSome = false
  cl : X.env.cells.lookup ("__class__" : Str) = some cc
  cc : ∃ (a : Value) (b : Option Addr) (e : Array (Option Value)), X.K.lookup cc = some ⟨a, b, .cell (some (.ref D)), e⟩
  cls : ∃ cdD, clsIn X.K D = some cdD
  mg : X.mg "super" = none
  st : nsIn X.K cStatics "thirdparty.any" = some none
/-- super().m(..) where self stands in slot 0 -/
def tSup (K : PySem.W.Frag) (D : Addr) (m : Str) (f2 : Addr) (sp : Sp) (dvs : List V) (E : XK) (ta : TA) : TS := fun Dn σ H => ∃ (a C : Addr) (dx : Addr) (fs : List (Str × V)), σ[0]? = some (some (.ref a)) ∧ H a = some (.ins C dx fs) ∧ mroIn K C (.ref D) = some true ∧
  ks_superIn K C D m = some (some (.ref f2)) ∧ ta σ H fun vs H1 => sp (.ref a :: (vs ++ dvs)) H1 (fun _ H2 => Dn.nx σ H2) E
theorem cls_obj {K : PySem.W.Frag} {h : Heap} {D : Addr} {cd : ClassData} (k : K.In h) (e : clsIn K D = some cd) : ∃ oD, h.get? D = some oD ∧ oD.data = .cls cd := by
  unfold clsIn at e
  split at e
  · rename_i ho
    cases e
    exact ⟨_, k _ _ ho, rfl⟩
  · cases e
theorem run_fnC {pins : List (Addr × Obj)} {σ : L2.St} {H : Hp} {s : Shared} {CX : CXT} {k : Nat} {f : Addr} {fd : FuncData} {ps : List Str} {sp : Sp} {E : XK} {Q : VK} {us ds : List Value} {vs dvs : List V} (F : FnOk X.prog X.w X.K X.mg X.base CX k f fd ps sp) (hr : Room k X.A) (hb : Binds X.K fd ps ds) (hd : Vals dvs ds)
    (hx : Passes CX X E) (I : Inv X pins σ H s) (r : Vals vs us) (h : sp (vs ++ dvs) H Q E) :
    codeAny (model X.prog X.w) X.A (.call (.ref f) ⟨us, []⟩) (fun r s' => match r with | .ok (.ret v) => EP X pins σ Q v s' | .ok _ => False | .error e => X.xe e s') s := by
  have r2 : Vals (vs ++ dvs) (us ++ ds) := r.append hd
  have hl : (us ++ ds).length = ps.length := r2.length.symm.trans (F.len _ _ _ _ h)
  refine codeAny_mono (F.run X.A X.stack s H ⟨us, []⟩ (us ++ ds) (vs ++ dvs) Q E hr I.env0 (hb s us I.kIn hl) r2 h) fun r s' hq => ?_
  match r, hq with
  | .error e, hq => exact hx pins σ H s e s' I hq
  | .ok (.ret u), hq => exact I.after hq
  | .ok .next, hq => exact hq.elim
  | .ok .brk, hq => exact hq.elim
  | .ok .cont, hq => exact hq.elim
theorem psa_super {f cd cc D f2 : Addr} {me m : Str} {body : List Stmt} {p0 p1 apos pos pos' : Pos} {e : Expr} {es : List Expr} {ta : TA} {CX : CXT} {k : Nat} {fd2 : FuncData} {ps : List Str} {sp : Sp} {ds : List Value} {dvs : List V} {E : XK} {pl : Sem Bool}
    (S : SupX X f cd cc D me) (hN : X.N[0]? = some me) (ha : PA X (e :: es) ta) (F : FnOk X.prog X.w X.K X.mg X.base CX k f2 fd2 ps sp) (hr : Room k X.A) (hb : Binds X.K fd2 ps ds) (hd : Vals dvs ds) (hx : Passes CX X E)
    (ht : typeIn X.K (.ref f2) = some (.type "function")) (hf2 : fnIn X.K f2 = true) (hm : (m == ("__class__" : Str)) = false)
    (hst : starEach (e :: es) X.env = (false, eval e X.env) :: starEach es X.env) (hpl : (backTo pos (starEach es X.env)).any (·.1) = false)
    (hev : eval (.Call (.Attribute (.Call (.Name "super" p0) [] [] p1) m apos) (e :: es) [] pos) X.env = (do
      let ov ← attributeBase (.Call (.Name "super" p0) [] [] p1) m X.env (eval (.Call (.Name "super" p0) [] [] p1) X.env)
      standAt apos.atName
      let (g, first) ← holding [ov] (getMethod ov m pl)
      callWith pos g first (backTo pos (starEach (e :: es) X.env)) []) )
    (hi : interactive X.env = false) (hs : swapsWith (.Call (.Attribute (.Call (.Name "super" p0) [] [] p1) m apos) (e :: es) [] pos) none pos'.line X.env = pure false) (h2 : PSa X (.func body X.env) rest u) :
    PSa X (.func body X.env) (.Expr (.Call (.Attribute (.Call (.Name "super" p0) [] [] p1) m apos) (e :: es) [] pos) pos' :: rest) (tSeq (tSup X.K D m f2 sp dvs E ta) u) := by
  refine ⟨fun pins s σ H Dn I h => ?_⟩
  obtain ⟨a, C, dx, fs, h0, hins, hmro, hsup, h⟩ := h
  obtain ⟨hh, gg, dd, tt, os⟩ := s
  have KX : X.K.In hh := I.kIn
  obtain ⟨o1, l1, d1, e1, ar, hp1, har⟩ := S.fd
  obtain ⟨o2, l2, vs2, e2, file, tf, hv2, hfile⟩ := S.cv
  obtain ⟨ca, cb, ce, lc⟩ := S.cc
  obtain ⟨cdD, hcd⟩ := S.cls
  obtain ⟨oD, hD1, hD2⟩ := cls_obj KX hcd
  obtain ⟨m0, hn0, hlook⟩ := I.loc
  obtain ⟨uv, ru, lk⟩ := hlook 0 me (.ref a) hN h0 (locK_vis S.ka)
  obtain rfl : uv = Value.ref a := ru
  obtain ⟨mb, hb1, hb2⟩ := I.mod.blt
  refine ks_wpAt_execs_cons (ks_wpAt_Expr_any (ks_wpAt_MethodCall ?_ hev) hi hs)
  refine ks_wpAt_super_base S.ks S.kc hm S.fn (KX _ _ l1) e1 hp1 S.co (KX _ _ l2) e2 hv2 hfile S.top ?_
  refine ks_loadName_global I.ok.kind S.ks (loadGlobal_builtin (by rw [I.ok.glob]; exact I.mod.glob.keeps I.bk) S.mg (by rw [I.ok.blt]; exact hb1.keeps I.bk) ((hb2 _ (by decide)).trans (by first | rfl | decide +kernel)) ⟨rfl, ?_⟩)
  refine wpAny_loadName_free I.ok.kind S.kc S.cl ⟨_, KX _ _ lc, rfl⟩ ?_
  rw [har]
  refine load_self I.ok.kind S.ka hn0 lk ?_
  refine ks_wpAny_isType_cls hD1 hD2 ⟨rfl, ?_⟩
  obtain ⟨mA, O, _, _, _, _⟩ := ins_get I.hok hins
  have xC : a ≠ C := fun e => by
    have h1 := O.obj
    obtain ⟨oC, c1, c2⟩ : ∃ oC, hh.get? C = some oC ∧ ∃ cd2, oC.data = .cls cd2 := by
      cases hc : clsIn X.K C with
      | none => unfold ks_superIn at hsup; rw [hc] at hsup; cases hsup
      | some cd2 => obtain ⟨oC, c1, c2⟩ := cls_obj KX hc; exact ⟨oC, c1, cd2, c2⟩
    obtain ⟨cd2, c2⟩ := c2
    rw [e, c1] at h1
    rw [Option.some.inj h1] at c2
    cases c2
  refine ks_wpAny_call_super hD1 hD2 O.obj rfl (fun c z => nomatch z) (looks_mroIn KX hmro) (fun h' hso hk' => ?_)
  have I1 : Inv X ((hh.objs.size, ks_superObj D a C) :: pins) σ H ⟨h', gg, dd, tt, os⟩ := pin_new (t' := tt) I hk' (Nat.le_refl _) hso (fun v z => nomatch z)
  have K1 : X.K.In h' := I1.kIn
  cases hc : clsIn X.K C with
  | none => unfold ks_superIn at hsup; rw [hc] at hsup; cases hsup
  | some cdC =>
    unfold ks_superIn at hsup
    rw [hc] at hsup
    obtain ⟨of, hof, hofc⟩ : ∃ of, h'.get? f2 = some of ∧ of.cls = .type "function" := by
      have ht' : (X.K.lookup f2).map (·.cls) = some (.type "function") := ht
      cases z : X.K.lookup f2 with
      | none => rw [z] at ht'; cases ht'
      | some of => rw [z] at ht'; exact ⟨of, K1 _ _ z, Option.some.inj ht'⟩
    refine ks_wpAny_getMethod_super hso (looks_opaque K1 S.st) (l₀ := cdC.mro) (fun A Q E s k q => wpAny_bind ((looks_clsIn K1 hc) A _ E s k (wpAny_pure q))) rfl K1 hsup hof hofc xC hm ?_
    have I2 : Inv X ((h'.objs.size, methodObj (.ref f2) (.ref a)) :: (hh.objs.size, ks_superObj D a C) :: pins) σ H { (⟨h', gg, dd, tt, os⟩ : Shared) with heap := h'.push (methodObj (.ref f2) (.ref a)), toks := tt + 1 } := met_new I1
    refine callwith_cm I2 (base_none I1 (Nat.le_refl _)) hf2 (thn (ha.run pos _ _ σ H _ I2 h) fun us s3 ⟨vs, H1, I3, r3, q3⟩ => ⟨⟨pin_at I3, I3.kIn⟩, ?_⟩) hst hpl
    refine wpAny_call (method_call (pin_at I3) (codeAny_mono (run_fnC (us := .ref a :: us) (vs := .ref a :: vs) F hr hb hd hx I3 (.cons rfl r3) q3) fun r s4 hq => ?_))
    match r, hq with
    | .ok (.ret _), ⟨_, H', I', _, q⟩ => exact h2.run pins s4 σ H' Dn (unpin (unpin I')) q
    | .ok .next, hq => exact hq
    | .ok .brk, hq => exact hq
    | .ok .cont, hq => exact hq
    | .error e, hq => exact hq
end
/-! ### super().__init__(..) of an exception over ValueError -/
section
open PySem.W PyProof.Rows PySem.Calls ClX
theorem mro_VE {K : PySem.W.Frag} {C : Addr} (T : OexC K C) {y : String} (hy : PySem.HandSPX.veTail.contains (.type y) = true) : mroIn K C (.type y) = some true := by
  obtain ⟨nm, q, N, bs, bm, sn, sub, ab, col, dd, k0, k1, k2, k3, k5, hC, hbm⟩ := T.cls
  have hcl : clsIn K C = some { name := nm, bases := bs, mro := .ref C :: bm, ns := N, qualname := q, hasDict := true, slotNames := sn, subclasses := sub, abstract := ab, collection := col, hasDel := false } := by
    unfold clsIn
    rw [hC] <;> rfl
  have e := PySem.HandSPX.refsVE_contains y bm hbm
  unfold mroIn
  rw [hcl, Option.bind_some]
  show (if (List.isEmpty (Value.ref C :: bm)) = true then _ else some ((Value.ref C :: bm).contains (.type y))) = some true
  rw [if_neg (by simp)]
  rw [List.contains_cons, e, hy, Bool.or_true]
section
variable {prog : Program} {w : World} {A : Around} {E : Value → Shared → Prop} {h : Heap} {g : Array GenState} {d : Drawn} {t : Nat} {os : OsState}
variable {nm q : Str} {C N : Addr} {bs bm : List Value} {hdct : Bool} {sn : List Str} {sub : List Value} {ab : Bool} {col : Option Bool} {dd : Option Addr} {k0 k1 k2 k3 k5 : Option Value}
theorem mw_run {u e t0 : Addr} {rest : List Value} {Q : Value → Shared → Prop} (hC : h.get? C = some (excClassObj nm q C N bs bm hdct sn sub ab col dd k0 k1 k2 k3 k5 "ValueError.__new__")) (he : h.get? e = some (PySem.HandSPX.excO C t0))
    (hu : h.get? u = some (kxs_mw "ValueError.__init__" e)) (hz : rest.length ≤ sizeLine) (hq : ∀ h' t1, (∀ b o, b ≠ e → h.get? b = some o → h'.get? b = some o) → h'.get? e = some (PySem.HandSPX.excO C t1) → Q .none ⟨h', g, d, t, os⟩) :
    wpAny (model prog w) A (call (.ref u) rest) Q E ⟨h, g, d, t, os⟩ := by
  refine wpAny_call (codeAny_of_tree ?_)
  show wpAny _ A.in1 (callAny (.ref u) ⟨rest, []⟩) _ _ _
  simp only [callAny]
  refine wpAny_bind (wpAny_load hu ?_)
  simp only [kxs_mw]
  refine KFB.if_so (by decide) ?_
  refine wpAny_bind (PySem.ESX.check_bound F.excBase_ValueError hC he rfl ?_)
  refine wpAny_bind (wpAny_pure (wpAny_pure ?_))
  refine ⟨Code.quiet_builtin _ (by decide +kernel), codeAny_builtin F.excBase_ValueError.initEntry ?_⟩
  rw [Around.under_plainId F.excBase_ValueError.init.plain _]
  wp_walk
  refine hq _ h.objs.size (fun b o hb ho => ?_) ?_
  · rw [Heap.get?_update_other _ _ (Ne.symm hb)]; exact Heap.get?_push_of_some _ ho
  · rw [Heap.get?_update_self _ (Heap.get?_push_of_some _ he) rfl]; rfl
end
/-- super().m(..) where self is an exception that is being made -/
def tSupX (K : PySem.W.Frag) (D : Addr) (m : Str) (ta : TA) : TS := fun Dn σ H => ∃ (a C : Addr), σ[0]? = some (some (.ref a)) ∧ H a = some (exo a C none) ∧ OexC K C ∧ mroIn K C (.ref D) = some true ∧
  ks_superIn K C D m = some (some (.builtin "ValueError.__init__")) ∧ ta σ H fun vs H1 => vs.length ≤ 1000 ∧ H1 a = some (exo a C none) ∧ Dn.nx σ H1
variable {X : Cx} {c : Code} {st : Stmt} {ss rest : List Stmt} {t u : TS}
theorem psa_superX {f cd cc D : Addr} {me m : Str} {body : List Stmt} {p0 p1 apos pos pos' : Pos} {e : Expr} {es : List Expr} {ta : TA} {pl : Sem Bool}
    (S : SupX X f cd cc D me) (hN : X.N[0]? = some me) (ha : PA X (e :: es) ta) (hm : (m == ("__class__" : Str)) = false)
    (hst : starEach (e :: es) X.env = (false, eval e X.env) :: starEach es X.env) (hpl : (backTo pos (starEach es X.env)).any (·.1) = false)
    (hev : eval (.Call (.Attribute (.Call (.Name "super" p0) [] [] p1) m apos) (e :: es) [] pos) X.env = (do
      let ov ← attributeBase (.Call (.Name "super" p0) [] [] p1) m X.env (eval (.Call (.Name "super" p0) [] [] p1) X.env)
      standAt apos.atName
      let (g, first) ← holding [ov] (getMethod ov m pl)
      callWith pos g first (backTo pos (starEach (e :: es) X.env)) []) )
    (hi : interactive X.env = false) (hs : swapsWith (.Call (.Attribute (.Call (.Name "super" p0) [] [] p1) m apos) (e :: es) [] pos) none pos'.line X.env = pure false) (h2 : PSa X (.func body X.env) rest u) :
    PSa X (.func body X.env) (.Expr (.Call (.Attribute (.Call (.Name "super" p0) [] [] p1) m apos) (e :: es) [] pos) pos' :: rest) (tSeq (tSupX X.K D m ta) u) := by
  refine ⟨fun pins s σ H Dn I h => ?_⟩
  obtain ⟨a, C, h0, hins, TC, hmro, hsup, h⟩ := h
  obtain ⟨hh, gg, dd, tt, os⟩ := s
  have KX : X.K.In hh := I.kIn
  obtain ⟨o1, l1, d1, e1, ar, hp1, har⟩ := S.fd
  obtain ⟨o2, l2, vs2, e2, file, tf, hv2, hfile⟩ := S.cv
  obtain ⟨ca, cb, ce, lc⟩ := S.cc
  obtain ⟨cdD, hcd⟩ := S.cls
  obtain ⟨oD, hD1, hD2⟩ := cls_obj KX hcd
  obtain ⟨m0, hn0, hlook⟩ := I.loc
  obtain ⟨uv, ru, lk⟩ := hlook 0 me (.ref a) hN h0 (locK_vis S.ka)
  obtain rfl : uv = Value.ref a := ru
  obtain ⟨mb, hb1, hb2⟩ := I.mod.blt
  refine ks_wpAt_execs_cons (ks_wpAt_Expr_any (ks_wpAt_MethodCall ?_ hev) hi hs)
  refine ks_wpAt_super_base S.ks S.kc hm S.fn (KX _ _ l1) e1 hp1 S.co (KX _ _ l2) e2 hv2 hfile S.top ?_
  refine ks_loadName_global I.ok.kind S.ks (loadGlobal_builtin (by rw [I.ok.glob]; exact I.mod.glob.keeps I.bk) S.mg (by rw [I.ok.blt]; exact hb1.keeps I.bk) ((hb2 _ (by decide)).trans (by first | rfl | decide +kernel)) ⟨rfl, ?_⟩)
  refine wpAny_loadName_free I.ok.kind S.kc S.cl ⟨_, KX _ _ lc, rfl⟩ ?_
  rw [har]
  refine load_self I.ok.kind S.ka hn0 lk ?_
  refine ks_wpAny_isType_cls hD1 hD2 ⟨rfl, ?_⟩
  obtain ⟨nm, q, N, bs, bm, sn, sub, ab, col, dd0, k0, k1, k2, k3, k5, hC, hbm⟩ := id TC.cls
  obtain ⟨t1, ho⟩ := exo_at I.hok hins
  have hcl : clsIn X.K C = some { name := nm, bases := bs, mro := .ref C :: bm, ns := N, qualname := q, hasDict := true, slotNames := sn, subclasses := sub, abstract := ab, collection := col, hasDel := false } := by
    unfold clsIn
    rw [hC] <;> rfl
  have xC : a ≠ C := fun e => by
    have c1 := KX _ _ hC
    rw [← e, ho] at c1
    have c2 := congrArg Obj.data (Option.some.inj c1)
    cases c2
  refine ks_wpAny_call_super hD1 hD2 ho rfl (fun c z => nomatch z) (looks_mroIn KX hmro) (fun h' hso hk' => ?_)
  have I1 : Inv X ((hh.objs.size, ks_superObj D a C) :: pins) σ H ⟨h', gg, dd, tt, os⟩ := pin_new (t' := tt) I hk' (Nat.le_refl _) hso (fun v z => nomatch z)
  have K1 : X.K.In h' := I1.kIn
  obtain ⟨t2, ho2⟩ := exo_at I1.hok hins
  have J1 : InstAt h' a { cls := .ref C, dict := none, data := .fields #[.ref t2, .none, .none, .none, .bool false, .none] } C none := ⟨ho2, rfl, rfl, trivial⟩
  have isVE : Looks (model X.prog X.w) h' (isInstance (.ref a) (.type "ValueError")) true := J1.type.andThen (looks_mroIn K1 (mro_VE TC (by decide +kernel)))
  unfold ks_superIn at hsup
  rw [hcl] at hsup
  refine kxs_getMethod kxs_ValueError hso (looks_opaque K1 S.st) (l₀ := .ref C :: bm) (fun A Q E s k q => wpAny_bind ((looks_clsIn K1 hcl) A _ E s k (wpAny_pure q))) rfl K1 hsup isVE xC hm ?_
  have I2 : Inv X ((h'.objs.size, kxs_mw "ValueError.__init__" a) :: (hh.objs.size, ks_superObj D a C) :: pins) σ H { (⟨h', gg, dd, tt, os⟩ : Shared) with heap := h'.push (kxs_mw "ValueError.__init__" a), toks := tt + 1 } :=
    pin_new I1 (fun _ _ z => Heap.get?_push_of_some _ z) (Nat.le_refl _) (Heap.get?_push_size h' rfl) (fun v z => nomatch z)
  have hL : h'.objs.size ≠ X.env.locals := (I2.pin (h'.objs.size, kxs_mw "ValueError.__init__" a) (List.mem_append_right _ List.mem_cons_self)).2.2.1
  refine kxs_callWith1 (news_at hL (base_none I1 (Nat.le_refl _)) (pin_at I2)) List.mem_cons_self (thn (ha.run pos _ _ σ H _ I2 h) fun us s3 ⟨vs, H1, I3, r3, hl3, e3, q3⟩ => ⟨pin_at I3, ?_⟩) hst hpl
  obtain ⟨t3, ho3⟩ := exo_at I3.hok e3
  have hmw := pin_at I3
  obtain ⟨h3, g3, d3, k3', os3⟩ := s3
  have hlen : us.length ≤ sizeLine := by rw [← r3.length, sizeLine_eq]; omega
  refine mw_run (I3.kIn _ _ hC) ho3 hmw hlen (fun h4 t4 kk hx4 => ?_)
  have J := I3.write (t' := k3') (x := a) (e := a) (o := exo a C none) (by rw [e3]; exact True.intro) (.inl rfl) kk ⟨_, hx4⟩ (exo_ok hx4)
  have eu : upd H1 a (exo a C none) = H1 := by
    funext b
    by_cases hb : b = a
    · rw [hb, upd_same, e3]
    · rw [upd_ne hb]
  rw [eu] at J
  exact h2.run pins _ σ H1 Dn (unpin (unpin J)) q3
end
/-! ### the entry of a def with cells of its own and the class's cell -/
section
open PySem.W PyProof.Rows PySem.Calls
variable {M : Model} {A : Around} {E : Value → Shared → Prop} {s0 s : Shared} {m cm : Str → Option Value} {env : Env} {cs : List (Str × Addr)}
theorem stS_loc {n : Str} {v : Value} {Q : Unit → Shared → Prop} (x : InCallC s0 env.locals m cs cm s) (hk : env.scope.kind = .function) (hl : env.kindOf n = some .local)
    (h : ∀ s', InCallC s0 env.locals (fun y => if y = n then some v else m y) cs cm s' → Q () s') : wpAny M A (storeName env n v) Q E s := by
  refine wpAny_storeName_local hl x.toInCall.ns (fun h' hn' hs' => h _ ?_) (by rw [hk]; rfl)
  have le : ∀ b o, s0.heap.get? b = some o → b ≠ env.locals := fun b o e => Nat.ne_of_lt (Nat.lt_of_lt_of_le (Heap.lt_size e) x.toInCall.fresh)
  obtain ⟨h₁, tk, es⟩ := x.toInCall.same
  exact ⟨⟨⟨h', _, by rw [es]⟩, hn', fun b o e => hs'.extBut b o (le b o e) (x.toInCall.keep b o e), x.toInCall.fresh⟩,
    fun k c hc => (x.cell k c hc).sameBut hs' (Nat.ne_of_gt (x.above k c (PySem.mem_of_lookup hc))), x.apart, x.above⟩
theorem stS_cell {n : Str} {c : Addr} {v : Value} {Q : Unit → Shared → Prop} (x : InCallC s0 env.locals m cs cm s) (hk : env.scope.kind = .function) (hl : env.kindOf n = some .cell) (he : env.cells.lookup n = some c) (hc : cs.lookup n = some c)
    (h : ∀ s', InCallC s0 env.locals m cs (fun y => if y = n then some v else cm y) s' → Q () s') : wpAny M A (storeName env n v) Q E s := by
  have up := x.above n c (PySem.mem_of_lookup hc)
  refine wpAny_storeName_cell hk hl he (x.cell n c hc) fun h' hc' hs' => h _ ?_
  have le : ∀ b o, s0.heap.get? b = some o → b ≠ c := fun b o e => Nat.ne_of_lt (Nat.lt_trans (Nat.lt_of_lt_of_le (Heap.lt_size e) x.toInCall.fresh) up)
  obtain ⟨h₁, tk, es⟩ := x.toInCall.same
  refine ⟨⟨⟨h', _, by rw [es]⟩, x.toInCall.ns.sameBut hs' (Nat.ne_of_lt up), fun b o e => hs'.extBut b o (le b o e) (x.toInCall.keep b o e), x.toInCall.fresh⟩, fun k c' hk' => ?_, x.apart, x.above⟩
  by_cases hkn : k = n
  · subst hkn
    rw [hc] at hk'
    cases hk'
    simpa using hc'
  · rw [if_neg hkn]
    exact (x.cell k c' hk').sameBut hs' fun e => hkn (name_of_addr x.apart (PySem.mem_of_lookup hk') (e ▸ PySem.mem_of_lookup hc))
theorem bindS (f : Str × Value → PUnit → Sem (ForInStep PUnit)) (hf : ∀ n v u, f (n, v) u = (do storeName env n v; pure (.yield ⟨⟩))) (hk : env.scope.kind = .function) :
    ∀ (binds : List (Str × Value)) (m cm : Str → Option Value) (s : Shared) (Q : PUnit → Shared → Prop), InCallC s0 env.locals m cs cm s →
      (∀ y ∈ binds, env.kindOf y.1 = some .local ∨ (env.kindOf y.1 = some .cell ∧ ∃ c, cs.lookup y.1 = some c ∧ env.cells.lookup y.1 = some c)) →
      (∀ s', InCallC s0 env.locals (bindL env.kindOf binds m) cs (bindC env.kindOf binds cm) s' → Q ⟨⟩ s') → wpAny M A (forIn binds ⟨⟩ f) Q E s
  | [], m, cm, s, Q, x, _, h => by rw [List.forIn_nil]; exact wpAny_pure (h s x)
  | (n, v) :: r, m, cm, s, Q, x, hy, h => by
    have hr := fun y (q : y ∈ r) => hy y (.tail _ q)
    rw [List.forIn_cons, hf]
    rcases hy (n, v) (.head _) with hl | ⟨hl, c, hc, he⟩
    · refine wpAny_bind (wpAny_bind (stS_loc x hk hl fun s' x' => wpAny_pure (bindS f hf hk r _ _ s' Q x' hr fun s2 x2 => h s2 ?_)))
      show InCallC s0 env.locals (bindL env.kindOf r (if env.kindOf n = some .local then _ else m)) cs (bindC env.kindOf r (if env.kindOf n = some .local then cm else _)) s2
      rw [if_pos hl, if_pos hl]; exact x2
    · have hnl : ¬ env.kindOf n = some .local := by rw [hl]; decide
      refine wpAny_bind (wpAny_bind (stS_cell x hk hl he hc fun s' x' => wpAny_pure (bindS f hf hk r _ _ s' Q x' hr fun s2 x2 => h s2 ?_)))
      show InCallC s0 env.locals (bindL env.kindOf r (if env.kindOf n = some .local then _ else m)) cs (bindC env.kindOf r (if env.kindOf n = some .local then cm else _)) s2
      rw [if_neg hnl, if_neg hnl]; exact x2
theorem cells_app : ∀ (names : List (Str × NameKind)) (n : Nat) (acc cl : List (Str × Addr)), cellsFrom n names (acc ++ cl) = cellsFrom n names acc ++ cl
  | [], _, _, _ => rfl
  | (x, k) :: r, n, acc, cl => by
    unfold cellsFrom
    split
    · exact cells_app r (n + 1) ((x, n) :: acc) cl
    · exact cells_app r n acc cl
theorem newEnvS {scope : Scope} {globals : Addr} {cl : List (Str × Addr)} {binds : List (Str × Value)} {qual : Str} {func : Option Addr} {code : Value} {builtins : Addr} {Q : Env → Shared → Prop} (hk : scope.kind = .function)
    (hkind : ∀ y ∈ binds, scope.names.lookup y.1 = some .local ∨ (scope.names.lookup y.1 = some .cell ∧ ∃ c, (cellsFrom (s.heap.objs.size + 1) scope.names []).lookup y.1 = some c ∧ (cellsFrom (s.heap.objs.size + 1) scope.names [] ++ cl).lookup y.1 = some c))
    (hQ : ∀ env, env = newEnv scope s.heap.objs.size globals (cellsFrom (s.heap.objs.size + 1) scope.names [] ++ cl) qual func code none builtins →
      ∀ s', InCallC s env.locals (bindL env.kindOf binds fun _ => none) (cellsFrom (s.heap.objs.size + 1) scope.names []) (bindC env.kindOf binds fun _ => none) s' → Q env s') :
    wpAny M A (newFunctionEnv scope globals cl binds qual func code none builtins) Q E s := by
  simp only [newFunctionEnv, Option.isSome_none, Bool.false_eq_true, if_false]
  refine wpAny_bind (wpAny_alloc ?_)
  refine wpAny_bind (wpAny_layCells _ (fun x kind cells => by cases hkc : kind == NameKind.cell <;> simp [hkc]) scope.names cl _ _ ?_)
  have sz : (s.heap.push { cls := .type "frame", data := .dict #[] }).objs.size = s.heap.objs.size + 1 := Heap.size_push ..
  have ok := cellsFrom_ok scope.names (s.heap.push { cls := .type "frame", data := .dict #[] }) (s.heap.objs.size + 1) [] ⟨fun _ _ hm => (nomatch hm), List.Pairwise.nil⟩ (by rw [sz]; exact Nat.le_refl _)
  rw [sz] at ok
  have ec := cells_app scope.names (s.heap.objs.size + 1) [] cl
  rw [List.nil_append] at ec
  show wpAny M A _ Q E _
  rw [show ({ s with heap := s.heap.push { cls := .type "frame", data := .dict #[] } } : Shared).heap.objs.size = s.heap.objs.size + 1 from sz, ec]
  refine wpAny_bind (bindS (s0 := s) (cs := cellsFrom (s.heap.objs.size + 1) scope.names []) (env := newEnv scope s.heap.objs.size globals (cellsFrom (s.heap.objs.size + 1) scope.names [] ++ cl) qual func code none builtins)
    _ (fun _ _ _ => rfl) hk binds (fun _ => none) (fun _ => none) _ _ ?_ hkind fun s' x => wpAny_pure (hQ _ rfl s' x))
  exact ⟨⟨⟨_, _, rfl⟩, (Heap.Ns.new s.heap (.type "frame")).keeps (pushCells_keeps _ _), fun b o e => pushCells_keeps _ _ b o (Heap.get?_push_of_some _ e), Nat.le_refl _⟩,
    fun n c hc => (ok.empty n c (PySem.mem_of_lookup hc)).1, ok.apart, fun n c hm => (ok.empty n c hm).2⟩
end
section
open PySem.W PyProof.Rows PySem.Calls
/-- the frame: its own cells, and the class's -/
abbrev envK (qual : Str) (scope : Scope) (L f : Addr) (cd : Value) (cc : Addr) : Env := envX qual scope L f cd (cellsFrom (L + 1) scope.names [] ++ [((("__class__" : Str)), cc)])
def cxK (CX : CXT) (P : Program) (w : World) (K : PySem.W.Frag) (mg : Str → Option Value) (base : Heap) (N : List Str) (qual : Str) (scope : Scope) (f : Addr) (cd : Value) (cc : Addr) (A : Around) (outer : List Env) (s : Shared) (H : Hp) (E : XK) : Cx where
  prog := P
  w := w
  K := K
  mg := mg
  base := base
  A := A.deeper (envK qual scope s.heap.objs.size f cd cc)
  N := N
  s_0 := s
  H_0 := H
  env := envK qual scope s.heap.objs.size f cd cc
  outer := outer
  stack := envK qual scope s.heap.objs.size f cd cc :: outer
  ex := []
  calm := true
  fn := fun x => x != "__class__"
  pn := []
  xe := fun e s' => wpAny (model P w) (A.deeper (envK qual scope s.heap.objs.size f cd cc)) (leaving (envK qual scope s.heap.objs.size f cd cc) e) (fun _ s'' => CX outer H s E e s'') (fun e' s'' => CX outer H s E e' s'') s'
structure FnScopeK (N ps : List Str) (sc : Scope) : Prop where
  kind : sc.kind = .function
  co : sc.isCoroutine = false
  gen : sc.isGenerator = false
  nd : N.Nodup
  pre : N.take ps.length = ps
  par : ∀ x ∈ ps, (sc.names.lookup x = some .local ∨ sc.names.lookup x = some .cell)
  noC : ∀ y ∈ sc.names, y.2 = .cell → y.1 ≠ "__class__"
  free : ∀ y ∈ sc.names, y.2 = .free → y.1 = "__class__"
theorem cells_mem {x : Str} {c : Addr} : ∀ {names : List (Str × NameKind)} {n : Nat} {acc : List (Str × Addr)}, (x, c) ∈ cellsFrom n names acc → (x, c) ∈ acc ∨ (x, NameKind.cell) ∈ names
  | [], _, _, h => .inl h
  | (y, k) :: r, n, acc, h => by
    unfold cellsFrom at h
    split at h
    · rename_i hk
      rcases cells_mem h with h | h
      · rcases List.mem_cons.mp h with h | h
        · have ek : k = NameKind.cell := eq_of_beq hk
          cases h
          exact .inr (by rw [ek]; exact .head _)
        · exact .inl h
      · exact .inr (.tail _ h)
    · rcases cells_mem h with h | h
      · exact .inl h
      · exact .inr (.tail _ h)
theorem look_app {cs : List (Str × Addr)} {x : Str} {c cc : Addr} (h : (cs ++ [((("__class__" : Str)), cc)]).lookup x = some c) : cs.lookup x = some c ∨ (x = "__class__" ∧ c = cc) := by
  rw [List.lookup_append] at h
  cases e : cs.lookup x with
  | some d => rw [e] at h; exact .inl h
  | none =>
    rw [e] at h
    exact .inr (lookup_class (by simpa using h))
theorem look_own {cs : List (Str × Addr)} {x : Str} {c cc : Addr} (h : cs.lookup x = some c) : (cs ++ [((("__class__" : Str)), cc)]).lookup x = some c := by
  rw [List.lookup_append, h]; rfl
theorem look_class {cs : List (Str × Addr)} {cc : Addr} (h : cs.lookup (("__class__" : Str)) = none) : (cs ++ [((("__class__" : Str)), cc)]).lookup (("__class__" : Str)) = some cc := by
  rw [List.lookup_append, h]
  show ([("__class__", cc)] : List (Str × Addr)).lookup (("__class__" : Str)) = some cc
  simp [List.lookup]
theorem no_class {N ps : List Str} {sc : Scope} (S : FnScopeK N ps sc) (n : Nat) : (cellsFrom n sc.names []).lookup (("__class__" : Str)) = none := by
  cases e : (cellsFrom n sc.names []).lookup (("__class__" : Str)) with
  | none => rfl
  | some c =>
    rcases cells_mem (PySem.mem_of_lookup e) with h | h
    · cases h
    · exact absurd rfl (S.noC _ h rfl)
theorem inv_startK {CX : CXT} {P : Program} {w : World} {K : PySem.W.Frag} {mg : Str → Option Value} {base : Heap} {N ps : List Str} {qual : Str} {scope : Scope} {f cc : Addr} {cd : Value} {A : Around} {outer : List Env} {s s1 : Shared} {H : Hp} {E : XK} {us : List Value} {vs : List V}
    {ccl : Value} {cld : Option Addr} {cv : Value} {csl : Array (Option Value)}
    (S : FnScopeK N ps scope) (hd : A.handled = none) (e0 : Env0 P w K mg base A outer s H) (hl : vs.length = ps.length) (r : Vals vs us) (hcc : K.lookup cc = some ⟨ccl, cld, .cell (some cv), csl⟩)
    (x : InCallC s s.heap.objs.size (bindL (envK qual scope s.heap.objs.size f cd cc).kindOf (ps.zip us) fun _ => none) (cellsFrom (s.heap.objs.size + 1) scope.names []) (bindC (envK qual scope s.heap.objs.size f cd cc).kindOf (ps.zip us) fun _ => none) s1) :
    Inv (cxK CX P w K mg base N qual scope f cd cc A outer s H E) [] (L2.start N vs) H s1 := by
  have hpl : ps.length ≤ N.length := by have := congrArg List.length S.pre; rw [List.length_take] at this; omega
  have cb : base.get? cc = some ⟨ccl, cld, .cell (some cv), csl⟩ := e0.mod.kin _ _ hcc
  have sb := e0.bs _ _ cb
  have cl : cc < s.heap.objs.size := Heap.lt_size sb.1
  obtain ⟨h1, tk, es, hk⟩ := x.done
  subst es
  have noA : ∀ b : Addr, b ∉ (cxK CX P w K mg base N qual scope f cd cc A outer s H E).ex := fun b z => absurd (show b ∈ ([] : List Addr) from z) (by simp)
  have lk : ∀ {y : Str} {c : Addr}, (cxK CX P w K mg base N qual scope f cd cc A outer s H E).env.cells.lookup y = some c → (cellsFrom (s.heap.objs.size + 1) scope.names []).lookup y = some c ∨ (y = "__class__" ∧ c = cc) := fun h => look_app h
  have ab : ∀ {y : Str} {c : Addr}, (cellsFrom (s.heap.objs.size + 1) scope.names []).lookup y = some c → s.heap.objs.size < c := fun h => x.above _ _ (PySem.mem_of_lookup h)
  refine ⟨⟨e0.mod, S.kind, rfl, rfl, Nat.le_refl _, fun y z c h1 h2 => ?_, fun y hy => ?_, fun y c hf h => ?_, fun _ => hd, Around.frames_deeper e0.frames, .inr ⟨rfl, rfl⟩, fun b z => absurd z (noA b), e0.bs, e0.bsz, fun b _ _ => noA b, fun b z => absurd z (noA b), e0.funs, e0.frf⟩,
    rfl, e0.bare, Un.kept hk, ⟨_, x.toInCall.ns, fun i y v h1 h2 h3 => ?_⟩, fun y c h => ?_, e0.hok.fresh (Nat.le_refl _), fun y c h => ?_, fun p hp => absurd (show p ∈ ([] : List (Addr × Obj)) from hp) (by simp), e0.hok.kept hk, ?_⟩
  · rcases lk h1 with a | ⟨a, b⟩ <;> rcases lk h2 with a' | ⟨a', b'⟩
    · exact name_of_addr x.apart (PySem.mem_of_lookup a) (PySem.mem_of_lookup a')
    · have q := ab a; rw [b'] at q; exact absurd cl (Nat.lt_asymm q)
    · have q := ab a'; rw [b] at q; exact absurd cl (Nat.lt_asymm q)
    · exact a.trans a'.symm
  · have hy : scope.names.lookup y = some .cell ∨ scope.names.lookup y = some .free := hy
    rcases hy with hy | hy
    · obtain ⟨c, e⟩ := cell_has (n := s.heap.objs.size + 1) hy
      exact ⟨c, look_own e⟩
    · have ey : y = "__class__" := S.free _ (PySem.mem_of_lookup hy) rfl
      subst ey
      exact ⟨cc, look_class (no_class S _)⟩
  · rcases lk h with a | ⟨a, _⟩
    · exact Nat.le_of_lt (ab a)
    · subst a
      have : (("__class__" : Str) != "__class__") = true := hf
      simp at this
  · have ha := start_get h2
    obtain ⟨u, hu, rv⟩ := r.get ha
    have il : i < ps.length := hl ▸ (List.getElem?_eq_some_iff.mp ha).1
    have hp : ps[i]? = some y := (congrArg (·[i]?) S.pre).symm.trans ((List.getElem?_take_of_lt il).trans h1)
    have ndP : ps.Nodup := S.pre ▸ S.nd.sublist (List.take_sublist _ _)
    refine ⟨u, rv, ?_⟩
    rcases S.par y (List.mem_of_getElem? hp) with k | k
    · exact .inl ⟨k, bindL_get ndP hp hu k⟩
    · obtain ⟨c, e⟩ := cell_has (n := s.heap.objs.size + 1) k
      have q := x.cell y c e
      rw [bindC_get ndP hp hu (by show scope.names.lookup y ≠ _; rw [k]; decide)] at q
      exact .inr ⟨.inl k, c, look_own e, q⟩
  · rcases lk h with a | ⟨_, rfl⟩
    · exact ⟨_, x.cell y c a⟩
    · exact ⟨_, _, hk _ _ sb.1, rfl⟩
  · rcases lk h with a | ⟨_, rfl⟩
    · exact e0.hok.fresh (Nat.le_of_lt (ab a))
    · exact sb.2
  · show (L2.start N vs).length = N.length
    simp only [L2.start, List.length_append, List.length_map, List.length_replicate]
    omega
/-- a def that says super(), by its body -/
theorem fnK_of {CX : CXT} {P : Program} {w : World} {K : PySem.W.Frag} {mg : Str → Option Value} {base : Heap} {k : Nat} {f cc : Addr} {name qual : Str} {params : Arguments} {body : List Stmt} {scope : Scope} {dV kV doc pm cdv ct oc : Value} {an od : Option Addr}
    {osl : Array (Option Value)} {N ps : List Str} {sp : Sp} {ccl : Value} {cld : Option Addr} {cv : Value} {csl : Array (Option Value)} (lk : K.lookup f = some ⟨oc, od, .func (ksFn name qual params body scope dV kV doc pm an cdv ct cc), osl⟩)
    (hcc : K.lookup cc = some ⟨ccl, cld, .cell (some cv), csl⟩) (hcd : PySem.W.codeIn K cdv qual = true) (S : FnScopeK N ps scope) (len : ∀ vs H Q E, sp vs H Q E → vs.length = ps.length)
    (hbody : ∀ (A : Around) (outer : List Env) (s : Shared) (H : Hp) (vs : List V) (Q : VK) (E : XK), Room k (A.deeper (envK qual scope s.heap.objs.size f cdv cc)) → sp vs H Q E →
      ∃ t, PSa (cxK CX P w K mg base N qual scope f cdv cc A outer s H E) (.func body (envK qual scope s.heap.objs.size f cdv cc)) body t ∧ t { nx := fun _ H' => Q .non H', rt := Q } (L2.start N vs) H) :
    FnOk P w K mg base CX (k + 1) f (ksFn name qual params body scope dV kV doc pm an cdv ct cc) ps sp := by
  refine ⟨len, fun A outer s H args us vs Q E hr e0 hb r hsp => ?_⟩
  have hl := len _ _ _ _ hsp
  have KX : K.In s.heap := e0.mod.kin.keeps fun b o e => (e0.bs b o e).1
  have lim : s.heap.NoLimit := e0.mod.nolimit.keeps fun b o e => (e0.bs b o e).1
  obtain ⟨t, ht, hq⟩ := hbody A outer s H vs Q E (hr.deeper _) hsp
  have hkind : ∀ y ∈ ps.zip us, scope.names.lookup y.1 = some .local ∨ (scope.names.lookup y.1 = some .cell ∧ ∃ c, (cellsFrom (s.heap.objs.size + 1) scope.names []).lookup y.1 = some c ∧ (cellsFrom (s.heap.objs.size + 1) scope.names [] ++ [((("__class__" : Str)), cc)]).lookup y.1 = some c) := fun y hy => by
    rcases S.par y.1 (List.of_mem_zip (a := y.1) (b := y.2) hy).1 with q | q
    · exact .inl q
    · obtain ⟨c, e⟩ := cell_has (n := s.heap.objs.size + 1) q
      exact .inr ⟨q, c, e, look_own e⟩
  refine codeAny_call_function hr.depth (KX _ _ lk) rfl S.co S.gen rfl (codeRec_of KX hcd) (hb _ _ _ _ ?_)
  refine newEnvS S.kind hkind fun env he s1 x => ?_
  subst he
  refine ⟨lim.keeps x.toInCall.keep, ks_codeAny_funcAt ?_⟩
  have I : Inv (cxK CX P w K mg base N qual scope f cdv cc A outer s H E) [] (L2.start N vs) H s1 := inv_startK S hr.hd e0 hl r hcc x
  refine ks_wpAt_mono (ht.run [] _ (L2.start N vs) H _ I hq) (fun fl s' hs => ?_) fun e s' hs => hs
  have fin : ∀ {σ' : L2.St} {H' : Hp} {v : V} {u : Value}, Inv (cxK CX P w K mg base N qual scope f cdv cc A outer s H E) [] σ' H' s' → RelV v u → Q v H' → CE outer P w H s Q u s' :=
    fun {σ' H' v u} J rv q => ⟨v, H', J.os, J.bare, J.base, J.hok, rv, q⟩
  match fl, hs with
  | .ret u, ⟨v, σ', H', J, rv, q⟩ => exact fin J rv q
  | .next, ⟨σ', H', J, q⟩ => exact fin (v := V.non) (u := Value.none) J rfl q
  | .brk, ⟨_, _, _, q⟩ => exact q.elim
  | .cont, ⟨_, _, _, q⟩ => exact q.elim
end
section
/-- a def of the text that says super(): its record, its cell, its code's file -/
structure FunK (K : PySem.W.Frag) (PL : Program) (x qual : Str) (st : Stmt) (f : Addr) (fd : FuncData) (D : Addr) : Prop where
  ex : ∃ (oc : Value) (od : Option Addr) (kV doc pm : Value) (an : Option Addr) (cda : Addr) (ct : Value) (osl : Array (Option Value)) (cc : Addr), fd = PySem.W.ksFn x qual (defArgs st) (defBody st) (defScope st) .none kV doc pm an (.ref cda) ct cc ∧
    K.lookup f = some ⟨oc, od, .func fd, osl⟩ ∧ PySem.W.codeIn K (.ref cda) qual = true ∧ (∃ a b e, K.lookup cc = some ⟨a, b, .cell (some (.ref D)), e⟩) ∧
    ∃ o : Obj, K.lookup cda = some o ∧ ∃ vs, o.data = .fields vs ∧ ∃ (file : Str) (tf : Tok), vs[2]? = some (.str file tf) ∧ ((PL.main.file : Str) == file) = true
  kp : PySem.W.keepIn K (.ref f) = true
theorem funK_mk {K : PySem.W.Frag} {PL : Program} {x qual : Str} {st : Stmt} {f D cda cc : Addr} {oc : Value} {od an vb cb : Option Addr} {osl ve ce : Array (Option Value)} {kV doc pm ct va ca : Value} {vs : Array Value} {fl : Str} {tf : Tok}
    (l : K.lookup f = some ⟨oc, od, .func (PySem.W.ksFn x qual (defArgs st) (defBody st) (defScope st) .none kV doc pm an (.ref cda) ct cc), osl⟩) (c : PySem.W.codeIn K (.ref cda) qual = true) (k : PySem.W.keepIn K (.ref f) = true)
    (q : K.lookup cc = some ⟨ca, cb, .cell (some (.ref D)), ce⟩) (v : K.lookup cda = some ⟨va, vb, .fields vs, ve⟩) (vf : vs[2]? = some (.str fl tf)) (vg : ((PL.main.file : Str) == fl) = true) :
    FunK K PL x qual st f (PySem.W.ksFn x qual (defArgs st) (defBody st) (defScope st) .none kV doc pm an (.ref cda) ct cc) D :=
  ⟨⟨oc, od, kV, doc, pm, an, cda, ct, osl, cc, rfl, l, c, ⟨_, _, _, q⟩, _, v, vs, rfl, fl, tf, vf, vg⟩, k⟩
theorem FunK.binds {K : PySem.W.Frag} {PL : Program} {x qual : Str} {st : Stmt} {f D : Addr} {fd : FuncData} {ps : List Str} (F : FunK K PL x qual st f fd D)
    (h : ∀ (kV doc pm : Value) (an : Option Addr) (cdv ct : Value) (cc : Addr) (us : List Value), us.length = ps.length → bindArgs (PySem.W.ksFn x qual (defArgs st) (defBody st) (defScope st) .none kV doc pm an cdv ct cc) ⟨us, []⟩ = pure (ps.zip us)) : Binds K fd ps [] := by
  obtain ⟨oc, od, kV, doc, pm, an, cda, ct, osl, cc, rfl, _⟩ := F.ex
  exact .all (h kV doc pm an (.ref cda) ct cc)
end
section
/-- a def of the text with defaults (their tuple at t) -/
structure FunD (K : PySem.W.Frag) (x qual : Str) (st : Stmt) (f : Addr) (fd : FuncData) (t : Addr) : Prop where
  ex : ∃ (oc : Value) (od : Option Addr) (kV doc pm : Value) (an : Option Addr) (cdv ct : Value) (osl : Array (Option Value)),
    fd = PySem.W.fnOf x qual (defArgs st) (defBody st) (defScope st) (.ref t) kV doc pm an cdv ct ∧ K.lookup f = some ⟨oc, od, .func fd, osl⟩ ∧ PySem.W.codeIn K cdv qual = true
  kp : PySem.W.keepIn K (.ref f) = true
theorem FunD.ok {P : Program} {w : World} {K : PySem.W.Frag} {mg : Str → Option Value} {base : Heap} {x qual : Str} {st : Stmt} {f t0 : Addr} {fd : FuncData} {N ps : List Str} {k : Nat} {sp : Sp} (F : FunD K x qual st f fd t0) (S : FnScope N ps (defScope st))
    (len : ∀ vs H Q E, sp vs H Q E → vs.length = ps.length)
    (hbody : ∀ (cdv : Value) (A : Around) (outer : List Env) (s : Shared) (H : Hp) (vs : List V) (Q : VK) (E : XK), Room k (A.deeper (PyProof.Rows.envOfC qual (defScope st) s.heap.objs.size f cdv)) → sp vs H Q E →
      ∃ t, PSs (cxOf CX0 P w K mg base N qual (defScope st) f cdv A outer s H E).nox (defBody st) t ∧ t { nx := fun _ H' => Q .non H', rt := Q } (L2.start N vs) H) : FnOk P w K mg base CX0 (k + 1) f fd ps sp := by
  obtain ⟨oc, od, kV, doc, pm, an, cdv, ct, osl, rfl, lk, hcd⟩ := F.ex
  refine fn_of lk hcd S len fun A outer s H vs Q E hr hsp => ?_
  obtain ⟨t, h, q⟩ := hbody cdv A outer s H vs Q E hr hsp
  exact ⟨t, h.nox, q⟩
end
section
open PySem.W PyProof.Rows
/-- what the frame of such a def knows of itself -/
theorem supK {CX : CXT} {P PL : Program} {w : World} {K : PySem.W.Frag} {mg : Str → Option Value} {base : Heap} {N ps : List Str} {qual : Str} {st : Stmt} {f cda cc D : Addr} {me : Str} {A : Around} {outer : List Env} {s : Shared} {H : Hp} {E : XK}
    {x : Str} {oc kV doc pm ct : Value} {od an : Option Addr} {osl : Array (Option Value)} (hP : P = PL)
    (l : K.lookup f = some ⟨oc, od, .func (PySem.W.ksFn x qual (defArgs st) (defBody st) (defScope st) .none kV doc pm an (.ref cda) ct cc), osl⟩) (q : ∃ a b e, K.lookup cc = some ⟨a, b, .cell (some (.ref D)), e⟩)
    (v : ∃ o : Obj, K.lookup cda = some o ∧ ∃ vs, o.data = .fields vs ∧ ∃ (file : Str) (tf : Tok), vs[2]? = some (.str file tf) ∧ ((PL.main.file : Str) == file) = true)
    (S : FnScopeK N ps (defScope st)) (ks : (defScope st).names.lookup ("super" : Str) = some .globalImplicit) (kc : (defScope st).names.lookup ("__class__" : Str) = some .free) (ka : locK (defScope st) me = true)
    (ar : ∃ ar : Arg, ((defArgs st).posonlyargs ++ (defArgs st).args).head? = some ar ∧ ar.arg = me) (top : (P.main.scope.names.lookup ("super" : Str)).isSome = false) (cls : ∃ cd, clsIn K D = some cd) (hm : mg "super" = none) (sa : nsIn K cStatics "thirdparty.any" = some none) :
    SupX (cxK CX P w K mg base N qual (defScope st) f (.ref cda) cc A outer s H E) f cda cc D me := by
  subst hP
  exact ⟨ks, kc, ka, rfl, ⟨_, l, _, rfl, ar⟩, rfl, v, top, look_class (no_class S _), q, cls, hm, sa⟩
/-- THE RULE for a def that says super(): the program is PL itself -/
theorem FunK.ok {CX : CXT} {PL : Program} {w : World} {K : PySem.W.Frag} {mg : Str → Option Value} {base : Heap} {x qual : Str} {st : Stmt} {f D : Addr} {fd : FuncData} {N ps : List Str} {k : Nat} {sp : Sp} {me : Str} (F : FunK K PL x qual st f fd D) (S : FnScopeK N ps (defScope st))
    (ks : (defScope st).names.lookup ("super" : Str) = some .globalImplicit) (kc : (defScope st).names.lookup ("__class__" : Str) = some .free) (ka : locK (defScope st) me = true)
    (ar : ∃ ar : Arg, ((defArgs st).posonlyargs ++ (defArgs st).args).head? = some ar ∧ ar.arg = me) (top : (PL.main.scope.names.lookup ("super" : Str)).isSome = false) (cls : ∃ cd, clsIn K D = some cd) (hm : mg "super" = none) (sa : nsIn K cStatics "thirdparty.any" = some none)
    (len : ∀ vs H Q E, sp vs H Q E → vs.length = ps.length)
    (hbody : ∀ (cda cc : Addr) (A : Around) (outer : List Env) (s : Shared) (H : Hp) (vs : List V) (Q : VK) (E : XK), Room k (A.deeper (envK qual (defScope st) s.heap.objs.size f (.ref cda) cc)) → SupX (cxK CX PL w K mg base N qual (defScope st) f (.ref cda) cc A outer s H E) f cda cc D me → sp vs H Q E →
      ∃ t, PSa (cxK CX PL w K mg base N qual (defScope st) f (.ref cda) cc A outer s H E) (.func (defBody st) (envK qual (defScope st) s.heap.objs.size f (.ref cda) cc)) (defBody st) t ∧ t { nx := fun _ H' => Q .non H', rt := Q } (L2.start N vs) H) :
    FnOk PL w K mg base CX (k + 1) f fd ps sp := by
  obtain ⟨oc, od, kV, doc, pm, an, cda, ct, osl, cc, rfl, lk, hcd, ⟨a, b, e, lc⟩, v⟩ := F.ex
  exact fnK_of lk lc hcd S len fun A outer s H vs Q E hr hsp => hbody cda cc A outer s H vs Q E hr (supK rfl lk ⟨a, b, e, lc⟩ v S ks kc ka ar top cls hm sa) hsp
end
/-! ### exceptions over any built-in base: made by a walked __init__, super().__init__ within it -/
section
open PySem.W PyProof.Rows PySem.Calls ClX Builtin Builtin.ObjectAttr
/-- what is known of the built-in base -/
structure XB (B nw ini : String) (bl : List Value) : Prop where
  F : ExcBaseFacts B nw ini bl
  S : StoreFacts B bl "object.__setattr__" "object"
  Z : KxsFacts B ini
  qi : ini.startsWith "lifetime." = false
theorem xb_VE : XB "ValueError" "ValueError.__new__" "ValueError.__init__" [.type "ValueError", .type "Exception", .type "BaseException", .type "object"] := ⟨F.excBase_ValueError, F.store_ValueError, kxs_ValueError, by decide +kernel⟩
theorem xb_LE : XB "LookupError" "LookupError.__new__" "LookupError.__init__" [.type "LookupError", .type "Exception", .type "BaseException", .type "object"] := ⟨F.excBase_LookupError, F.store_LookupError, kxs_LookupError, by decide +kernel⟩
/-- own classes, then the base's row -/
inductive Ov (bl : List Value) : List Value → Prop where
  | nil : Ov bl bl
  | cons {c : Addr} {l : List Value} : Ov bl l → Ov bl (.ref c :: l)
theorem Ov.pass {B nw ini : String} {bl : List Value} (X : XB B nw ini bl) (self : Value) : ∀ {l : List Value}, Ov bl l → refuseLoop self "__setattr__" l = pure ()
  | _, .nil => X.S.passes self
  | _, .cons h => by rw [refuseLoop_ref]; exact h.pass X self
theorem Ov.has {bl : List Value} (x : String) : ∀ {l : List Value}, Ov bl l → l.contains (.type x) = bl.contains (.type x)
  | _, .nil => rfl
  | _, .cons h => by rw [List.contains_cons, h.has x]; rfl
theorem Ov.ne {B nw ini : String} {bl l : List Value} (X : XB B nw ini bl) (h : Ov bl l) : l.isEmpty = false := by
  cases h with
  | nil => exact List.isEmpty_eq_false_iff.mpr (fun z => by have := X.F.hasB; rw [z] at this; cases this)
  | cons _ => rfl
structure OexG (nw : String) (bl : List Value) (K : PySem.W.Frag) (C : Addr) : Prop where
  cls : ∃ nm q N bs bm sn sub ab col dd k0 k1 k2 k3 k5, K.lookup C = some (excClassObj nm q C N bs bm true sn sub ab col dd k0 k1 k2 k3 k5 nw) ∧ Ov bl bm
  sa : findIn K (.ref C) "__setattr__" = some (some (.builtin "object.__setattr__"))
  exC : subIn K (.ref C) (.type "BaseException") = some true
  tyC : typeIn K (.ref C) = some (.type "type")
  kC : keepIn K (.ref C) = true
theorem OexG.mro {B nw ini : String} {bl : List Value} (X : XB B nw ini bl) {K : PySem.W.Frag} {C : Addr} (T : OexG nw bl K C) {y : String} (hy : bl.contains (.type y) = true) : mroIn K C (.type y) = some true := by
  obtain ⟨nm, q, N, bs, bm, sn, sub, ab, col, dd, k0, k1, k2, k3, k5, hC, hb⟩ := T.cls
  have hcl : clsIn K C = some { name := nm, bases := bs, mro := .ref C :: bm, ns := N, qualname := q, hasDict := true, slotNames := sn, subclasses := sub, abstract := ab, collection := col, hasDel := false } := by
    unfold clsIn; rw [hC] <;> rfl
  unfold mroIn
  rw [hcl, Option.bind_some, if_neg (by simp), List.contains_cons, hb.has, hy, Bool.or_true]
section
variable {prog : Program} {w : World} {A : Around} {R : Result → Shared → Prop} {hp : Heap} {g : Array GenState} {d : Drawn} {t : Nat} {os : OsState} {B nw ini : String} {bl : List Value}
/-- self.x = v, the first one -/
theorem exg_osa (XX : XB B nw ini bl) {K : W.Frag} {name : Str} {tk : Tok} {v : Value} {x C : Addr} {fv : Array Value} {cd : ClassData} {row : List Value}
    (X : K.In hp) (hx : hp.get? x = some { cls := .ref C, data := .fields fv }) (hcd : clsIn K C = some cd) (hm : cd.mro = .ref C :: row) (ho : Ov bl row) (hh : cd.hasDict = true) (hno : findIn K (.ref C) name = some none)
    (hq : ∀ h' tk' dx, (∀ b o, b ≠ x → hp.get? b = some o → h'.get? b = some o) → hp.objs.size ≤ dx → dx ≠ x → h'.get? x = some { cls := .ref C, dict := some dx, data := .fields fv } →
      h'.Ns1 dx (fun y => if y = name then some v else none) → R (.ok (.ret .none)) ⟨h', g, d, tk', os⟩) :
    codeAny (model prog w) A (.call (.builtin "object.__setattr__") ⟨[.ref x, .str name tk, v], []⟩) R ⟨hp, g, d, t, os⟩ := by
  have J : InstAt hp x { cls := .ref C, data := .fields fv } C none := ⟨hx, rfl, rfl, trivial⟩
  have G := F.store_object
  have hob : cd.mro.contains (.type "object") = true := by rw [hm, List.contains_cons, ho.has]; exact (by rw [XX.S.hasOwner, Bool.or_true])
  have hne : cd.mro.isEmpty = false := by rw [hm]; rfl
  have hxs : x ≠ hp.objs.size := Nat.ne_of_lt (Heap.lt_size hx)
  have sub : Looks (model prog w) hp (isInstance (.ref x) (.type "object")) true := J.type.andThen (looks_mroIn X (by unfold mroIn; rw [hcd, Option.bind_some, if_neg (by rw [hne]; decide), hob]))
  refine codeAny_call_builtin G.slot.plain G.entry (@check_slot (model prog w) _ _ ⟨hp, g, d, t, os⟩ "object.__setattr__" "object" "__setattr__" (.ref x) [.str name tk, v] [] _ G.kind G.split sub (G.args (.ref x) (.str name tk) v) ?_)
  have l1 : Looks (model prog w) hp (mroOf (.ref C)) cd.mro := (looks_clsIn X hcd).andThen .now
  have l2 : Looks (model prog w) hp (storeTaker? none) none := .now
  have l3 : Looks (model prog w) hp (classData C) cd := looks_clsIn X hcd
  have pass : refuseLoop (.ref x) "__setattr__" cd.mro = pure () := by rw [hm, refuseLoop_ref]; exact ho.pass XX _
  rw [osa_eq, refuse_eq]
  refine wpAny_bind (wpAny_bind (J.type.at (wpAny_bind (l1.at ?_))))
  rw [pass]
  refine wpAny_pure (wpAny_bind (J.type.at (wpAny_bind ((looks_findIn X hno).at (wpAny_bind (l2.at ?_))))))
  show wpAny _ _ (storeInOwnDict (.ref x) (.ref C) (.str name tk) name v false) _ _ _
  obtain ⟨nm, bs, mro, ns, qn, hd, sn, sb, ab, col, del⟩ := cd
  dsimp only at hh
  subst hh
  unfold storeInOwnDict ownDictForStores
  repeat (first | with_reducible refine HandSPX.store_in_new ?_ ?_ | with_reducible refine wpAny_loadPart_at hx ?_ | with_reducible refine l3.at ?_ | wp_step)
  · exact ⟨_, #[], _, (Heap.get?_update_ne _ _ _ _ hxs.symm).trans (Heap.get?_push_at rfl rfl), rfl, fun e he => absurd he (by simp), fun _ => rfl⟩
  · intro h' tk' hn' hs
    have hy : (hp.push { cls := .type "dict", data := .dict #[] }).get? x = some { cls := .ref C, data := .fields fv } := Heap.get?_push_of_some _ hx
    refine hq h' tk' hp.objs.size (fun b o hb ho => ?_) (Nat.le_refl _) hxs.symm ?_ hn'
    · exact (hs.2 b (Nat.ne_of_lt (Heap.lt_size ho))).trans ((Heap.get?_update_ne _ _ _ _ hb).trans (Heap.get?_push_of_some _ ho))
    · exact (hs.2 x hxs).trans (Heap.get?_update_self _ hy rfl)
end
section
variable {X : Cx} {pins : List (Addr × Obj)} {σ : L2.St} {H : Hp} {s : Shared} {a C dx : Addr} {f : Str} {y : V} {u : Value} {B nw ini : String} {bl : List Value}
theorem exg_set (XX : XB B nw ini bl) {Q : Unit → Shared → Prop} {E : Value → Shared → Prop} {A : Around} (T : OexG nw bl X.K C) (I : Inv X pins σ H s) (e : H a = some (exo a C none)) (hno : findIn X.K (.ref C) f = some none) (ry : RelV y u)
    (h : ∀ dx s', H dx = none → dx ≠ a → Inv X pins σ (upd (upd H dx (exd dx [(f, y)])) a (exo a C (some dx))) s' → Q () s') : wpAny (model X.prog X.w) A (setAttr (.ref a) f u) Q E s := by
  obtain ⟨nm, q, N, bs, bm, sn, sub, ab, col, dd, k0, k1, k2, k3, k5, hC, hbm⟩ := T.cls
  have hcl : clsIn X.K C = some { name := nm, bases := bs, mro := .ref C :: bm, ns := N, qualname := q, hasDict := true, slotNames := sn, subclasses := sub, abstract := ab, collection := col, hasDel := false } := by
    unfold clsIn; rw [hC] <;> rfl
  obtain ⟨t1, ho⟩ := exo_at I.hok e
  obtain ⟨hp, gg, dd', tt, os⟩ := s
  refine set_plain I.kIn (ox := { cls := .ref C, dict := none, data := .fields #[.ref t1, .none, .none, .none, .bool false, .none] }) (od := none) ⟨ho, rfl, rfl, trivial⟩ T.sa ?_
  refine exg_osa XX I.kIn ho hcl rfl hbm rfl hno (fun h' tk' dx k dn dne hx hn => ?_)
  have hnd : H dx = none := I.hok.fresh dn
  have nd : ∀ {b : Addr} {o : Obj}, hp.get? b = some o → b ≠ dx := fun {b o} q => Nat.ne_of_lt (Nat.lt_of_lt_of_le (Heap.lt_size q) dn)
  have na : ∀ {b : Addr}, H b = none → b ≠ a := fun {b} n z => by rw [z, e] at n; cases n
  have U : Un X.fs [] H (upd (upd H dx (exd dx [(f, y)])) a (exo a C (some dx))) hp h' := {
    keep := fun b o q n _ _ => k b o (na n) q
    slot := fun b o q n _ _ => ⟨o.slots, k b o (na n) q⟩
    free := fun b o q n _ => by rw [upd_ne (na n), upd_ne (nd q)]; exact n
    there := fun b o q _ => by
      by_cases hb : b = a
      · exact ⟨_, by rw [hb]; exact hx⟩
      · exact ⟨o, k b o hb q⟩
    tups := fun b xs q => by rw [upd_ne (at_ne e q exo_tup), upd_ne (ne_of_none q hnd)]; exact q
    frzs := fun b o v q => by rw [upd_ne (at_ne e q exo_frz), upd_ne (ne_of_none q hnd)]; exact q
    tbls := fun b ps q => ⟨#[], by rw [upd_ne (at_ne e q exo_tbl), upd_ne (ne_of_none q hnd), q]; simp⟩ }
  refine h dx _ hnd dne (I.un (t' := tk') U fun b o q => ?_)
  by_cases hb : b = a
  · subst hb
    rw [upd_same] at q
    cases q
    exact exo_ok hx
  rw [upd_ne hb] at q
  by_cases hd : b = dx
  · subst hd
    rw [upd_same] at q
    cases q
    exact exd_ok hn (relO_put (fs := []) ry fun g => True.intro)
  rw [upd_ne hd] at q
  refine (I.hok b o q).stay (fun c v hc z => k c v ?_ z) (fun c hc => ?_) (fun c xs hc => ?_)
  · rcases hc with hc | hc
    · rw [hc]; exact hb
    · exact at_ne e hc exo_own
  · rw [upd_ne (at_ne e hc exo_own), upd_ne (ne_of_none hc hnd)]; exact hc
  · rw [upd_ne (at_ne e hc exo_tup), upd_ne (ne_of_none hc hnd)]; exact hc
end
/-- self.f = e, self an exception without a dict -/
def tSetG (nw : String) (bl : List Value) (K : PySem.W.Frag) (f : Str) (to te : TE) : TS := fun D σ H => te σ H fun y H1 => to σ H1 fun x H2 => ∃ a C : Addr, x = .ref a ∧ OexG nw bl K C ∧ findIn K (.ref C) f = some none ∧
  H2 a = some (exo a C none) ∧ ∀ dx, H2 dx = none → dx ≠ a → D.nx σ (upd (upd H2 dx (exd dx [(f, y)])) a (exo a C (some dx)))
theorem ps_setG {B nw ini : String} {bl : List Value} (XX : XB B nw ini bl) {X : Cx} {o e : Expr} {to te : TE} {f : Str} {p' pos : Pos} (ho : PE X o to) (he : PE X e te) (hs : swapsWith e (some (.Attribute o f p')) pos.line X.env = pure false := by rfl) :
    PS X (.Assign [.Attribute o f p'] e pos) (tSetG nw bl X.K f to te) := by
  refine ⟨fun pins s σ H D I h => ?_⟩
  refine plainObj_wpAny_Assign_Attribute (thn (he.run pins s σ H _ I h) fun v s1 ⟨y, H1, I1, r1, q1⟩ => thn (ho.run pins s1 σ H1 _ I1 q1) fun u s2 ⟨x, H2, I2, r2, a, C, ex, T, hno, ea, q⟩ => ?_) hs
  subst ex
  obtain rfl : u = Value.ref a := r2
  exact exg_set XX T I2 ea hno r1 fun dx s' n ne J => ⟨σ, _, J, q dx n ne⟩
/-- the body of C(e, ..) -/
theorem run_mkG {B nw ini : String} {bl : List Value} (XX : XB B nw ini bl) {X : Cx} {pins : List (Addr × Obj)} {σ : L2.St} {H1 : Hp} {s1 : Shared} {us : List Value} {vs : List V} {C fI : Addr} {k : Nat} {fd : FuncData} {CX : CXT} {ps : List Str} {sp : Sp} {ds : List Value} {dvs : List V} {Qp : Addr → V → Hp → Prop} {R : Value → Shared → Prop}
    (T : OexG nw bl X.K C) (iC : findIn X.K (.ref C) "__init__" = some (some (.ref fI))) (tI : typeIn X.K (.ref fI) = some (.type "function"))
    (F1 : FnOk X.prog X.w X.K X.mg X.base CX k fI fd ps sp) (hr : Room (k + 1) X.A) (hb : Binds X.K fd ps ds) (hd : Vals dvs ds) (hx : Passes CX X (fun _ _ _ => False)) (I1 : Inv X pins σ H1 s1) (r1 : Vals vs us) (hz : vs.length ≤ 1000)
    (hq : ∀ a, H1 a = none → sp (.ref a :: (vs ++ dvs)) (upd H1 a (exo a C none)) (Qp a) (fun _ _ _ => False))
    (out : ∀ (s' : Shared) (v : V) (u : Value) (a : Addr), H1 a = none → s1.heap.objs.size ≤ a → (∀ (H2 : Hp), s'.os = s1.os → AllBare s'.gens →
        Un (frs X.stack) [] (upd H1 a (exo a C none)) H2 ((s1.heap.push (kdv_tup us)).push (HandSPX.excO C s1.heap.objs.size)) s'.heap → HOk X.prog X.w H2 s'.heap → (∀ b o, s1.heap.get? b = some o → ((s1.heap.push (kdv_tup us)).push (HandSPX.excO C s1.heap.objs.size)).get? b = some o) →
        a = s1.heap.objs.size + 1 → Inv X pins σ (upd H1 a (exo a C none)) { s1 with heap := (s1.heap.push (kdv_tup us)).push (HandSPX.excO C s1.heap.objs.size) } → RelV v u → Qp a v H2 → u = .none ∧ R (.ref a) s')) :
    wpAny (model X.prog X.w) X.A (call (.ref C) us) R X.xe s1 := by
  obtain ⟨nm, q, N, bs, bm, sn, sub, ab, col, dd, k0, k1, k2, k3, k5, hC, hbm⟩ := T.cls
  obtain ⟨hp, g, dr, tk, os⟩ := s1
  have hsz : hp.objs.size ≤ hp.objs.size + 1 := Nat.le_succ _
  have hn : H1 (hp.objs.size + 1) = none := I1.hok.fresh hsz
  have hq := hq (hp.objs.size + 1) hn
  have kk : ∀ b o, hp.get? b = some o → ((hp.push (kdv_tup us)).push (HandSPX.excO C hp.objs.size)).get? b = some o := fun b o e => Heap.get?_push_of_some _ (Heap.get?_push_of_some _ e)
  have hget : ((hp.push (kdv_tup us)).push (HandSPX.excO C hp.objs.size)).get? (hp.objs.size + 1) = some (HandSPX.excO C hp.objs.size) := by heap_get
  have I2 : Inv X pins σ (upd H1 (hp.objs.size + 1) (exo (hp.objs.size + 1) C none)) ⟨(hp.push (kdv_tup us)).push (HandSPX.excO C hp.objs.size), g, dr, tk, os⟩ :=
    I1.laid (t' := tk) (a := hp.objs.size + 1) (o := exo (hp.objs.size + 1) C none) (h' := (hp.push (kdv_tup us)).push (HandSPX.excO C hp.objs.size)) kk hsz (exo_ok hget)
  have r2 : Vals (V.ref (hp.objs.size + 1) :: (vs ++ dvs)) (Value.ref (hp.objs.size + 1) :: (us ++ ds)) := .cons rfl (r1.append hd)
  have hl : (Value.ref (hp.objs.size + 1) :: us ++ ds).length = ps.length := by
    have e := r2.length
    rw [F1.len _ _ _ _ hq] at e
    exact e.symm
  have hus : us.length ≤ sizeLine := by rw [← Paired.length r1, sizeLine_eq]; omega
  refine wpAny_call (HandSPX.call_own XX.F (fun Y => hbm.has Y) (I1.kIn _ _ hC) (looks_findIn I1.kIn iC) (fun self => bind_fn I1.kIn self tI) hus
    (codeAny_mono (F1.run _ X.stack _ _ ⟨Value.ref (hp.objs.size + 1) :: us, []⟩ (Value.ref (hp.objs.size + 1) :: (us ++ ds)) _ _ (fun _ _ _ => False) (hr.make C us []) (I2.env0.make C us []) (hb _ (Value.ref (hp.objs.size + 1) :: us) I2.kIn hl) r2 hq) fun r s' hq' => ?_))
  match r, hq' with
  | .error er, hq' => exact hx pins σ _ _ er s' I2 hq'
  | .ok .next, hq' => exact hq'.elim
  | .ok .brk, hq' => exact hq'.elim
  | .ok .cont, hq' => exact hq'.elim
  | .ok (.ret u), ⟨v, H2, os2, bare2, un2, hok2, rv, q2⟩ =>
    obtain ⟨rfl, z⟩ := out s' v u _ hn hsz H2 os2 bare2 un2 hok2 kk rfl I2 rv q2
    exact ⟨rfl, z⟩
/-- raise C(e, ..), C's own __init__ keeping sp -/
theorem pmk_G {B nw ini : String} {bl : List Value} (XX : XB B nw ini bl) {X : Cx} {e : Expr} {es : List Expr} {ta : TA} {p pos : Pos} {CX : CXT} {x : Str} {C fI : Addr} {k : Nat} {fd : FuncData} {ps : List Str} {sp : Sp} {ds : List Value} {dvs : List V} (T : OexG nw bl X.K C) (iC : findIn X.K (.ref C) "__init__" = some (some (.ref fI))) (tI : typeIn X.K (.ref fI) = some (.type "function"))
    (F1 : FnOk X.prog X.w X.K X.mg X.base CX k fI fd ps sp) (hr : Room (k + 1) X.A) (hb : Binds X.K fd ps ds) (hd : Vals dvs ds) (hx : Passes CX X (fun _ _ _ => False)) (hg : Gl X x) (hm : X.mg x = some (.ref C)) (ha : PA X (e :: es) ta)
    (hdb : (x == ("__debug__" : Str)) = false := by decide) (he : starEach (e :: es) X.env = (false, eval e X.env) :: starEach es X.env := by rfl) (hpl : (backTo pos (starEach es X.env)).any (·.1) = false := by rfl) :
    PMk X (.Call (.Name x p) (e :: es) [] pos) (tMkO C sp dvs ta) := by
  intro pins s σ H Q I h
  refine wpAny_Call_Name_kw (ld_glob I hg hm ?_ hdb)
  refine callWith_K (h₀ := X.base) I.ok.mod.kin T.kC (thn (ha.run pos pins s σ H _ I h) fun us s1 ⟨vs, H1, I1, r1, hz, q1⟩ => ⟨I1.kIn, ?_⟩) he hpl
  refine run_mkG (Qp := fun a v H2 => v = .non ∧ ∃ (d : Addr) (fs : List (Str × V)), H2 a = some (exo a C (some d)) ∧ H2 d = some (exd d fs) ∧ H1 d = none ∧ Q (.ref C) (some d) (upd (del H2 a) d (.xd fs))) XX T iC tI F1 hr hb hd hx I1 r1 hz q1 fun s' v u a hn hsz H2 os2 bare2 un2 hok2 kk ea0 I2 rv q2 => ?_
  obtain ⟨ev, d, fs, ea, ed, hd1, q2⟩ := q2
  subst ev
  obtain ⟨h2, g2, d2, t2, os'⟩ := s'
  obtain ⟨hp, g, dr, tk, os⟩ := s1
  exact ⟨rv, mk_end (raises_own T.exC T.tyC) I1 hsz kk un2 hok2 os2 bare2 ea ed hd1 q2⟩
/-- C(e, ..) as a value: the exception stands at a -/
def tMkV (C : Addr) (sp : Sp) (dvs : List V) (ta : TA) : TE := fun σ H Q => ta σ H fun vs H1 => vs.length ≤ 1000 ∧ ∀ a, H1 a = none → sp (.ref a :: (vs ++ dvs)) (upd H1 a (exo a C none))
  (fun v H2 => v = .non ∧ Q (.ref a) H2) (fun _ _ _ => False)
theorem pe_mkV {B nw ini : String} {bl : List Value} (XX : XB B nw ini bl) {X : Cx} {e : Expr} {es : List Expr} {ta : TA} {p pos : Pos} {CX : CXT} {x : Str} {C fI : Addr} {k : Nat} {fd : FuncData} {ps : List Str} {sp : Sp} {ds : List Value} {dvs : List V} (T : OexG nw bl X.K C) (iC : findIn X.K (.ref C) "__init__" = some (some (.ref fI))) (tI : typeIn X.K (.ref fI) = some (.type "function"))
    (F1 : FnOk X.prog X.w X.K X.mg X.base CX k fI fd ps sp) (hr : Room (k + 1) X.A) (hb : Binds X.K fd ps ds) (hd : Vals dvs ds) (hx : Passes CX X (fun _ _ _ => False)) (hg : Gl X x) (hm : X.mg x = some (.ref C)) (ha : PA X (e :: es) ta)
    (hdb : (x == ("__debug__" : Str)) = false := by decide) (he : starEach (e :: es) X.env = (false, eval e X.env) :: starEach es X.env := by rfl) (hpl : (backTo pos (starEach es X.env)).any (·.1) = false := by rfl) :
    PE X (.Call (.Name x p) (e :: es) [] pos) (tMkV C sp dvs ta) := by
  refine ⟨fun pins s σ H Q I h => ?_⟩
  refine wpAny_Call_Name_kw (ld_glob I hg hm ?_ hdb)
  refine callWith_K (h₀ := X.base) I.ok.mod.kin T.kC (thn (ha.run pos pins s σ H _ I h) fun us s1 ⟨vs, H1, I1, r1, hz, q1⟩ => ⟨I1.kIn, ?_⟩) he hpl
  refine run_mkG (Qp := fun a v H2 => v = .non ∧ Q (.ref a) H2) XX T iC tI F1 hr hb hd hx I1 r1 hz q1 fun s' v u a hn hsz H2 os2 bare2 un2 hok2 kk ea I2 rv q2 => ?_
  obtain ⟨ev, q2⟩ := q2
  subst ev
  obtain ⟨h2, g2, d2, t2, os'⟩ := s'
  refine ⟨rv, .ref a, H2, I2.call' (ch := []) os2 ?_ hok2 bare2 (fun b z => absurd z (by simp)), rfl, q2⟩
  exact un2
end
section
open PySem.W PyProof.Rows PySem.Calls ClX
section
variable {prog : Program} {w : World} {A : Around} {E : Value → Shared → Prop} {h : Heap} {g : Array GenState} {d : Drawn} {t : Nat} {os : OsState} {B nw ini : String} {bl : List Value}
variable {nm q : Str} {C N : Addr} {bs bm : List Value} {hdct : Bool} {sn : List Str} {sub : List Value} {ab : Bool} {col : Option Bool} {dd : Option Addr} {k0 k1 k2 k3 k5 : Option Value}
theorem run_mwG (XX : XB B nw ini bl) {u e t0 : Addr} {rest : List Value} {Q : Value → Shared → Prop} (hC : h.get? C = some (excClassObj nm q C N bs bm hdct sn sub ab col dd k0 k1 k2 k3 k5 nw)) (he : h.get? e = some (HandSPX.excO C t0))
    (hu : h.get? u = some (kxs_mw ini e)) (hz : rest.length ≤ sizeLine) (hq : ∀ h' t1, (∀ b o, b ≠ e → h.get? b = some o → h'.get? b = some o) → h'.get? e = some (HandSPX.excO C t1) → Q .none ⟨h', g, d, t, os⟩) :
    wpAny (model prog w) A (call (.ref u) rest) Q E ⟨h, g, d, t, os⟩ := by
  refine wpAny_call (codeAny_of_tree ?_)
  show wpAny _ A.in1 (callAny (.ref u) ⟨rest, []⟩) _ _ _
  simp only [callAny]
  refine wpAny_bind (wpAny_load hu ?_)
  simp only [kxs_mw]
  refine KFB.if_so (by decide) ?_
  refine wpAny_bind (ESX.check_bound XX.F hC he rfl ?_)
  refine wpAny_bind (wpAny_pure (wpAny_pure ?_))
  refine ⟨Code.quiet_builtin _ XX.qi, codeAny_builtin XX.F.initEntry ?_⟩
  rw [Around.under_plainId XX.F.init.plain _]
  wp_walk
  refine hq _ h.objs.size (fun b o hb ho => ?_) ?_
  · rw [Heap.get?_update_other _ _ (Ne.symm hb)]; exact Heap.get?_push_of_some _ ho
  · rw [Heap.get?_update_self _ (Heap.get?_push_of_some _ he) rfl]; rfl
end
/-- super().m(..) where self is an exception that is being made -/
def tSupG (nw ini : String) (bl : List Value) (K : PySem.W.Frag) (D : Addr) (m : Str) (ta : TA) : TS := fun Dn σ H => ∃ (a C : Addr), σ[0]? = some (some (.ref a)) ∧ H a = some (exo a C none) ∧ OexG nw bl K C ∧ mroIn K C (.ref D) = some true ∧
  ks_superIn K C D m = some (some (.builtin ini)) ∧ ta σ H fun vs H1 => vs.length ≤ 1000 ∧ H1 a = some (exo a C none) ∧ Dn.nx σ H1
variable {X : Cx} {c : Code} {st : Stmt} {ss rest : List Stmt} {t u : TS} {B nw ini : String} {bl : List Value}
theorem psa_superG (XX : XB B nw ini bl) {f cd cc D : Addr} {me m : Str} {body : List Stmt} {p0 p1 apos pos pos' : Pos} {e : Expr} {es : List Expr} {ta : TA} {pl : Sem Bool}
    (S : SupX X f cd cc D me) (hN : X.N[0]? = some me) (ha : PA X (e :: es) ta) (hm : (m == ("__class__" : Str)) = false)
    (hst : starEach (e :: es) X.env = (false, eval e X.env) :: starEach es X.env) (hpl : (backTo pos (starEach es X.env)).any (·.1) = false)
    (hev : eval (.Call (.Attribute (.Call (.Name "super" p0) [] [] p1) m apos) (e :: es) [] pos) X.env = (do
      let ov ← attributeBase (.Call (.Name "super" p0) [] [] p1) m X.env (eval (.Call (.Name "super" p0) [] [] p1) X.env)
      standAt apos.atName
      let (g, first) ← holding [ov] (getMethod ov m pl)
      callWith pos g first (backTo pos (starEach (e :: es) X.env)) []) )
    (hi : interactive X.env = false) (hs : swapsWith (.Call (.Attribute (.Call (.Name "super" p0) [] [] p1) m apos) (e :: es) [] pos) none pos'.line X.env = pure false) (h2 : PSa X (.func body X.env) rest u) :
    PSa X (.func body X.env) (.Expr (.Call (.Attribute (.Call (.Name "super" p0) [] [] p1) m apos) (e :: es) [] pos) pos' :: rest) (tSeq (tSupG nw ini bl X.K D m ta) u) := by
  refine ⟨fun pins s σ H Dn I h => ?_⟩
  obtain ⟨a, C, h0, hins, TC, hmro, hsup, h⟩ := h
  obtain ⟨hh, gg, dd, tt, os⟩ := s
  have KX : X.K.In hh := I.kIn
  obtain ⟨o1, l1, d1, e1, ar, hp1, har⟩ := S.fd
  obtain ⟨o2, l2, vs2, e2, file, tf, hv2, hfile⟩ := S.cv
  obtain ⟨ca, cb, ce, lc⟩ := S.cc
  obtain ⟨cdD, hcd⟩ := S.cls
  obtain ⟨oD, hD1, hD2⟩ := cls_obj KX hcd
  obtain ⟨m0, hn0, hlook⟩ := I.loc
  obtain ⟨uv, ru, lk⟩ := hlook 0 me (.ref a) hN h0 (locK_vis S.ka)
  obtain rfl : uv = Value.ref a := ru
  obtain ⟨mb, hb1, hb2⟩ := I.mod.blt
  refine ks_wpAt_execs_cons (ks_wpAt_Expr_any (ks_wpAt_MethodCall ?_ hev) hi hs)
  refine ks_wpAt_super_base S.ks S.kc hm S.fn (KX _ _ l1) e1 hp1 S.co (KX _ _ l2) e2 hv2 hfile S.top ?_
  refine ks_loadName_global I.ok.kind S.ks (loadGlobal_builtin (by rw [I.ok.glob]; exact I.mod.glob.keeps I.bk) S.mg (by rw [I.ok.blt]; exact hb1.keeps I.bk) ((hb2 _ (by decide)).trans (by first | rfl | decide +kernel)) ⟨rfl, ?_⟩)
  refine wpAny_loadName_free I.ok.kind S.kc S.cl ⟨_, KX _ _ lc, rfl⟩ ?_
  rw [har]
  refine load_self I.ok.kind S.ka hn0 lk ?_
  refine ks_wpAny_isType_cls hD1 hD2 ⟨rfl, ?_⟩
  obtain ⟨nm, q, N, bs, bm, sn, sub, ab, col, dd0, k0, k1, k2, k3, k5, hC, hbm⟩ := id TC.cls
  obtain ⟨t1, ho⟩ := exo_at I.hok hins
  have hcl : clsIn X.K C = some { name := nm, bases := bs, mro := .ref C :: bm, ns := N, qualname := q, hasDict := true, slotNames := sn, subclasses := sub, abstract := ab, collection := col, hasDel := false } := by
    unfold clsIn
    rw [hC] <;> rfl
  have xC : a ≠ C := fun e => by
    have c1 := KX _ _ hC
    rw [← e, ho] at c1
    have c2 := congrArg Obj.data (Option.some.inj c1)
    cases c2
  refine ks_wpAny_call_super hD1 hD2 ho rfl (fun c z => nomatch z) (looks_mroIn KX hmro) (fun h' hso hk' => ?_)
  have I1 : Inv X ((hh.objs.size, ks_superObj D a C) :: pins) σ H ⟨h', gg, dd, tt, os⟩ := pin_new (t' := tt) I hk' (Nat.le_refl _) hso (fun v z => nomatch z)
  have K1 : X.K.In h' := I1.kIn
  obtain ⟨t2, ho2⟩ := exo_at I1.hok hins
  have J1 : InstAt h' a { cls := .ref C, dict := none, data := .fields #[.ref t2, .none, .none, .none, .bool false, .none] } C none := ⟨ho2, rfl, rfl, trivial⟩
  have isB : Looks (model X.prog X.w) h' (isInstance (.ref a) (.type B)) true := J1.type.andThen (looks_mroIn K1 (TC.mro XX XX.F.hasB))
  unfold ks_superIn at hsup
  rw [hcl] at hsup
  refine kxs_getMethod XX.Z hso (looks_opaque K1 S.st) (l₀ := .ref C :: bm) (fun A Q E s k q => wpAny_bind ((looks_clsIn K1 hcl) A _ E s k (wpAny_pure q))) rfl K1 hsup isB xC hm ?_
  have I2 : Inv X ((h'.objs.size, kxs_mw ini a) :: (hh.objs.size, ks_superObj D a C) :: pins) σ H { (⟨h', gg, dd, tt, os⟩ : Shared) with heap := h'.push (kxs_mw ini a), toks := tt + 1 } :=
    pin_new I1 (fun _ _ z => Heap.get?_push_of_some _ z) (Nat.le_refl _) (Heap.get?_push_size h' rfl) (fun v z => nomatch z)
  have hL : h'.objs.size ≠ X.env.locals := (I2.pin (h'.objs.size, kxs_mw ini a) (List.mem_append_right _ List.mem_cons_self)).2.2.1
  refine kxs_callWith1 (news_at hL (base_none I1 (Nat.le_refl _)) (pin_at I2)) List.mem_cons_self (thn (ha.run pos _ _ σ H _ I2 h) fun us s3 ⟨vs, H1, I3, r3, hl3, e3, q3⟩ => ⟨pin_at I3, ?_⟩) hst hpl
  obtain ⟨t3, ho3⟩ := exo_at I3.hok e3
  have hmw := pin_at I3
  obtain ⟨h3, g3, d3, k3', os3⟩ := s3
  have hlen : us.length ≤ sizeLine := by rw [← r3.length, sizeLine_eq]; omega
  refine run_mwG XX (I3.kIn _ _ hC) ho3 hmw hlen (fun h4 t4 kk hx4 => ?_)
  have J := I3.write (t' := k3') (x := a) (e := a) (o := exo a C none) (by rw [e3]; exact True.intro) (.inl rfl) kk ⟨_, hx4⟩ (exo_ok hx4)
  have eu : upd H1 a (exo a C none) = H1 := by
    funext b
    by_cases hb : b = a
    · rw [hb, upd_same, e3]
    · rw [upd_ne hb]
  rw [eu] at J
  exact h2.run pins _ σ H1 Dn (unpin (unpin J)) q3
end
/-! ### rules for lattices: methods of an object of one of several classes, tuple.index of flat items, defaults -/
section
open PySem.Spec PyProof.Rows
variable {X : Cx}
/-- o.m(e, ..): the class is found when it is asked; the method is one def -/
def tMethG (K : PySem.W.Frag) (m : Str) (f : Addr) (sp : Sp) (dvs : List V) (E : XK) (ta : TE) (t : TA) : TE := fun σ H Q => ta σ H fun x H1 => ∃ a C dx fs, x = .ref a ∧ H1 a = some (.ins C dx fs) ∧ Cls K C ∧ Meth K C m f ∧ fs.lookup m = none ∧
  t σ H1 fun vs H2 => sp (x :: (vs ++ dvs)) H2 Q E
section
variable {o e : Expr} {es : List Expr} {ta : TE} {t : TA} {m : Str} {apos pos : Pos} {CX : CXT} {k : Nat} {f : Addr} {fd : FuncData} {ps : List Str} {sp : Sp} {ds : List Value} {dvs : List V} {E : XK}
theorem pe_methG {pl : Sem Bool} (he : PE X o ta) (F : FnOk X.prog X.w X.K X.mg X.base CX k f fd ps sp) (hr : Room k X.A) (hb : Binds X.K fd ps ds) (hd : Vals dvs ds) (hx : Passes CX X E) (ha : PA X (e :: es) t)
    (hst : starEach (e :: es) X.env = (false, eval e X.env) :: starEach es X.env := by rfl) (hpl : (backTo pos (starEach es X.env)).any (·.1) = false := by rfl)
    (ht : eval (.Call (.Attribute o m apos) (e :: es) [] pos) X.env = (do
      let ov ← eval o X.env
      standAt apos.atName
      let (g, first) ← holding [ov] (getMethod ov m pl)
      callWith pos g first (backTo pos (starEach (e :: es) X.env)) (backToKw pos (keywordEach [] X.env))) := by rfl) :
    PE X (.Call (.Attribute o m apos) (e :: es) [] pos) (tMethG X.K m f sp dvs E ta t) := by
  refine ⟨fun pins s σ H Q I h => ?_⟩
  refine PySem.W.methodCall_KW (pl := pl) (thn (he.run pins s σ H _ I h) fun u s1 ⟨x, H1, I1, rx, a, C, dx, fs, ex, ea, c, hm, l, q⟩ => ?_) ht
  subst ex
  obtain rfl : u = Value.ref a := rx
  refine getmeth_ok I1 ea c hm l (PySem.W.callWith_K (first := [.ref a]) (h₀ := X.base) I.ok.mod.kin hm.kp (thn (ha.run pos pins s1 σ H1 _ I1 q) fun us s2 ⟨vs, H2, I2, r, q2⟩ => ⟨I2.kIn, ?_⟩) hst hpl)
  exact run_fn (us := .ref a :: us) (vs := .ref a :: vs) F hr hb hd hx I2 (.cons rfl r) q2
theorem pe_methG0 {pl : Sem Bool} (he : PE X o ta) (F : FnOk X.prog X.w X.K X.mg X.base CX k f fd ps sp) (hr : Room k X.A) (hb : Binds X.K fd ps ds) (hd : Vals dvs ds) (hx : Passes CX X E)
    (ht : eval (.Call (.Attribute o m apos) [] [] pos) X.env = (do
      let ov ← eval o X.env
      standAt apos.atName
      let (g, first) ← holding [ov] (getMethod ov m pl)
      callWith pos g first (backTo pos (starEach [] X.env)) (backToKw pos (keywordEach [] X.env))) := by rfl) :
    PE X (.Call (.Attribute o m apos) [] [] pos) (tMethG X.K m f sp dvs E ta tNil) := by
  refine ⟨fun pins s σ H Q I h => ?_⟩
  refine PySem.W.methodCall_KW (pl := pl) (thn (he.run pins s σ H _ I h) fun u s1 ⟨x, H1, I1, rx, a, C, dx, fs, ex, ea, c, hm, l, q⟩ => ?_) ht
  subst ex
  obtain rfl : u = Value.ref a := rx
  refine getmeth_ok I1 ea c hm l (PySem.W.callWith_K0 (first := [.ref a]) I1.kIn hm.kp ?_)
  exact run_fn (us := [.ref a]) (vs := [.ref a]) F hr hb hd hx I1 (.cons rfl .nil) q
end
/-- t.index(x), flat items -/
def rTupIx (K : PySem.W.Frag) : V → List V → Hp → VK → Prop := fun x xs H Q => ∃ (a : Addr) (ys : List V) (y : V) (j : Nat) (z : V), x = V.ref a ∧ xs = [y] ∧ SqT K H a ys ∧ flatV y = true ∧ ys.all flatV = true ∧ ys[j]? = some z ∧ eqV z y = true ∧
  (∀ (m : Nat) (z' : V), m < j → ys[m]? = some z' → eqV z' y = false) ∧ Q (.int (j : Nat)) H
theorem mt_tindexF : MtR X "tuple.index" (rTupIx X.K) := by
  intro pins s σ H x xs v us Q I rx rxs h
  obtain ⟨a, ys, y, j, z, rfl, rfl, hs, fy, fys, hz, hzj, hno, q⟩ := h
  cases rx
  obtain ⟨uy, rfl, ry⟩ := rxs.one
  obtain ⟨its, rv, ⟨⟨cls, dd, dt, sl⟩, ho, hc, n, hd⟩, hlen⟩ := I.tuple hs
  simp only at hc hd
  subst hc hd
  have hsz : its.toArray.size = ys.length := by rw [List.size_toArray, ← rv.length]
  have each : ∀ (m : Nat) (hm : m < its.toArray.size) (y' : V), ys[m]? = some y' → eqU y its.toArray[m] = eqV y' y := fun m hm y' hy' => by
    obtain ⟨u2, hu2, ru2⟩ := rv.get hy'
    have e1 : its.toArray[m] = u2 := by simpa using (List.getElem?_eq_some_iff.mp hu2).2
    rw [e1, eqU_of ru2 (flat_at fys hy')]
  have hjl := (List.getElem?_eq_some_iff.mp hz).1
  refine call_meets PySem.F.slot_tuple_index ⟨_, ho, rfl⟩ PySem.F.entry_tuple_index (PySem.F.args_tuple_index_2 _ _) (TI.tuple_indexAt a its.toArray n dd sl uy (eqU y) j (by omega) ?_ ?_)
    ⟨ho, fun w hw => mem_eqAt ry fy rv fys w (by simpa using hw), ⟨.int (j : Nat), H, I.tok _, ⟨_, rfl⟩, q⟩⟩
  · rw [each j _ _ hz, hzj]
  · intro m hm hmj
    have hy' : ys[m]? = some ys[m] := List.getElem?_eq_getElem (by omega)
    rw [each m hm _ hy', hno m _ hmj hy']
/-- the tuple at p has no dict of its own (so its methods may be asked) -/
def NdT (K : PySem.W.Frag) (H : Hp) (p : Addr) : Prop := (∃ (o : Obj) (xs : List V), H p = some (.frz o (.tup xs)) ∧ o.dict = none) ∨ ∃ o : Obj, K.lookup p = some o ∧ o.dict = none
theorem NdT.get {pins : List (Addr × Obj)} {σ : L2.St} {H : Hp} {s : Shared} {p : Addr} (h : NdT X.K H p) (I : Inv X pins σ H s) : ∃ o, s.heap.get? p = some o ∧ o.dict = none := by
  rcases h with ⟨o, xs, h, d⟩ | ⟨o, h, d⟩
  · have x : ObjOk X.prog X.w H s.heap p (.frz o (.tup xs)) := I.hok p _ h
    exact ⟨o, x.1, d⟩
  · exact ⟨o, I.kIn _ _ h, d⟩
/-- t.m(e, ..), t a tuple without a dict -/
def tTM (K : PySem.W.Frag) (r : V → List V → Hp → VK → Prop) (to : TE) (t : TA) : TE := fun σ H Q => to σ H fun x H1 => ∃ (p : Addr) (ys : List V), x = .ref p ∧ NdT K H1 p ∧ SqT K H1 p ys ∧ t σ H1 fun xs H2 => r x xs H2 Q
theorem pe_tbm {o e : Expr} {es : List Expr} {to : TE} {t : TA} {name : Str} {apos cpos : Pos} {id : String} {r : V → List V → Hp → VK → Prop} (pa : PlainAttrs "tuple") (slot : Slot "tuple" name id) (hty : typeOf (.builtin id) = pure (.type "method_descriptor")) (hm : MtR X id r) (ho : PE X o to) (ha : PA X (e :: es) t)
    (hbase : attributeBase o name X.env (eval o X.env) = eval o X.env := by rfl)
    (hfew : ((backTo cpos (starEach (e :: es) X.env)).all (fun x => !x.1) && (backToKw cpos (keywordEach [] X.env)).all (fun x => x.1.isSome)
      && decide ((e :: es).length + ([] : List Keyword).length + (if ([] : List Keyword).isEmpty then 0 else 1) < 30)) = true := by rfl)
    (hline : (apos.endLine == cpos.line) = true := by rfl) (hs : starEach (e :: es) X.env = (false, eval e X.env) :: starEach es X.env := by rfl) (hpl : (backTo cpos (starEach es X.env)).any (·.1) = false := by rfl) :
    PE X (.Call (.Attribute o name apos) (e :: es) [] cpos) (tTM X.K r to t) := by
  refine ⟨fun pins s σ H Q I h => ?_⟩
  refine wpAny_Call_method_late hbase hfew hline rfl (thn (ho.run pins s σ H _ I h) fun v s1 ⟨x, H1, I1, r1, p, ys, ex, nd, hq, q1⟩ => ?_)
  subst ex
  obtain rfl : v = Value.ref p := r1
  obtain ⟨its, _, ⟨o1, ho1, hc1, _⟩, _⟩ := I1.tuple hq
  refine ⟨"tuple", id, pa, slot, hty, ⟨o1, ho1, hc1⟩, fun a ea => by cases ea; exact nd.get I1, ?_⟩
  have hA := ha.run cpos pins s1 σ H1 _ I1 q1
  rw [hs] at hA ⊢
  refine Calls.callWith_builtin (by show (false || (backTo cpos (starEach es X.env)).any (·.1)) = false; rw [hpl] <;> rfl) (Calls.evalArgs_plain ?_)
  exact thn hA fun us s2 ⟨vs, H2, I2, r2, q2⟩ => hm pins s2 σ H2 (V.ref p) vs (Value.ref p) us Q I2 rfl r2 q2
/-- tuple(xs): a list's items in a new tuple without a dict, or the tuple itself -/
theorem call_tupleN : CallR X (.type "tuple") (fun xs H Q => ∃ p ys, xs = [.ref p] ∧ ((SqL X.K H p ys ∧ ∀ (l : Addr) (o : Obj), H l = none → o.dict = none → Q (.ref l) (upd H l (.frz o (.tup ys)))) ∨ (SqT X.K H p ys ∧ Q (.ref p) H))) := by
  intro pins s σ H xs us Q I r h
  obtain ⟨p, ys, rfl, h⟩ := h
  obtain ⟨u, rfl, rx⟩ := r.one
  cases rx
  rcases h with ⟨hq, q⟩ | ⟨hq, q⟩
  · obtain ⟨its, r', pl, hz⟩ := I.list hq
    have hlen := r'.length
    refine call_tuple_list pl.isList (fun h' kp => ?_) (by simp only [List.size_toArray] <;> omega)
    have J : Inv X pins σ H { s with heap := h' } := I.kept (t' := s.toks) kp
    have hg : (h'.push { cls := .type "tuple", data := .seq its.toArray }).get? h'.objs.size = some ({ cls := .type "tuple", data := .seq its.toArray } : Obj) := Heap.get?_push_size _ rfl
    have J2 : Inv X pins σ (upd H h'.objs.size (.frz { cls := .type "tuple", data := .seq its.toArray } (.tup ys))) { s with heap := h'.push { cls := .type "tuple", data := .seq its.toArray } } :=
      J.laid (t' := s.toks) (fun b o e => Heap.get?_push_of_some _ e) (Nat.le_refl _) (show ObjOk X.prog X.w _ _ _ (.frz _ (.tup ys)) from ⟨hg, hz, its, r', IsTup.new _ _⟩)
    exact ⟨.ref h'.objs.size, _, J2, rfl, q _ _ (J.hok.fresh (Nat.le_refl _)) rfl⟩
  · obtain ⟨its, r', pl, hz⟩ := I.tuple hq
    exact call_tuple_same pl ⟨.ref p, H, I, rfl, q⟩
theorem kx_pi_list {X : Cx} (K : PySem.W.Frag) {tg l : Expr} {tl : TE} (p : PI X tg l (iList X.K tl)) (h : X.K = K := by rfl) : PI X tg l (iList K tl) := h ▸ p
theorem kx_pi_enum {X : Cx} (K : PySem.W.Frag) {tg l : Expr} {ta : TA} (p : PI X tg l (iEnum X.K ta)) (h : X.K = K := by rfl) : PI X tg l (iEnum K ta) := h ▸ p
theorem kx_pe_fld {X : Cx} (K : PySem.W.Frag) {e : Expr} {ta : TE} {f : Str} (p : PE X e (tFld X.K ta f)) (h : X.K = K := by rfl) : PE X e (tFld K ta f) := h ▸ p
theorem kx_tbm {X : Cx} (K : PySem.W.Frag) {e : Expr} {r : V → List V → Hp → VK → Prop} {to : TE} {t : TA} (p : PE X e (tTM X.K r to t)) (h : X.K = K := by rfl) : PE X e (tTM K r to t) := h ▸ p
theorem kx_ix_seq {X : Cx} (K : PySem.W.Frag) (h : X.K = K := by rfl) : IxR X (rIx K) := h ▸ ix_seq
theorem kx_methG {X : Cx} (K : PySem.W.Frag) {e : Expr} {ta : TE} {t : TA} {m : Str} {f : Addr} {sp : Sp} {dvs : List V} {E : XK} (p : PE X e (tMethG X.K m f sp dvs E ta t)) (h : X.K = K := by rfl) : PE X e (tMethG K m f sp dvs E ta t) := h ▸ p
/-- how a def with defaults binds: n values are written, the defaults behind the first j fill up -/
theorem FunD.bindsD {K : PySem.W.Frag} {x qual : Str} {st : Stmt} {f t0 : Addr} {fd : FuncData} {ps : List Str} (F : FunD K x qual st f fd t0) {its : List Value} {m : Nat} (lt : K.lookup t0 = some (⟨.type "tuple", none, .seq its.toArray m, #[]⟩ : Obj)) (n j : Nat)
    (hn : n + (its.length - j) = ps.length)
    (h : ∀ (kV doc pm : Value) (an : Option Addr) (cdv ct : Value) (us : List Value), us.length = n →
      ∃ k, bindArgs (PySem.W.fnOf x qual (defArgs st) (defBody st) (defScope st) (.ref t0) kV doc pm an cdv ct) ⟨us, []⟩ = seqItems? (.ref t0) >>= k ∧ k (some its.toArray) = pure (ps.zip (us ++ its.drop j))) : Binds K fd ps (its.drop j) := by
  obtain ⟨oc, od, kV, doc, pm, an, cdv, ct, osl, rfl, lk, hcd⟩ := F.ex
  refine fun s us X hlen => ?_
  have l2 : us.length = n := by rw [List.length_append, List.length_drop] at hlen; omega
  obtain ⟨k, e1, e2⟩ := h kV doc pm an cdv ct us l2
  refine BindsTo.of_looks fun M => ?_
  rw [e1]
  exact looks_items X lt rfl (.of_pure e2)
end
/-- sep.join(xs) within a block -/
def rJoinK (K : PySem.W.Frag) : V → List V → Hp → VK → Prop := fun x xs H Q => ∃ a p, ∃ ys : List Str, x = .str a ∧ xs = [.ref p] ∧ (SqL K H p (ys.map V.str) ∨ SqT K H p (ys.map V.str)) ∧
    (ys.map (·.length)).sum + ys.length * a.length ≤ 16777216 ∧ Q (.str (PySem.Txt.join a ys)) H
theorem kx_pe_join {X : Cx} (K : PySem.W.Frag) {e : Expr} {to tx : TE} (p : PE X e (tM1 (rJoinK X.K) to tx)) (h : X.K = K := by rfl) : PE X e (tM1 (rJoinK K) to tx) := h ▸ p
/-- f'..' of several parts -/
def tJoin (ts : List TE) : TE := fun σ H Q => tJs ts Str.empty σ H fun out H1 => Q (.str out) H1
theorem pe_joinedT {X : Cx} {v1 v2 : Expr} {rest : List Expr} {ts : List TE} {pos : Pos} (h : PJ X (v1 :: v2 :: rest) ts) : PE X (.JoinedStr (v1 :: v2 :: rest) pos) (tJoin ts) := pe_joined h
/-! ### what stays in the heap; folds of comprehensions; readings cut off -/
/-- tuples (and what is locked) stay -/
structure Keeps (H H' : Hp) : Prop where
  tup : ∀ a xs, H a = some (.tup xs) → H' a = some (.tup xs)
  frz : ∀ a o xs, H a = some (.frz o (.tup xs)) → H' a = some (.frz o (.tup xs))
theorem Keeps.refl (H : Hp) : Keeps H H := ⟨fun _ _ h => h, fun _ _ _ h => h⟩
theorem Keeps.trans {H H1 H2 : Hp} (a : Keeps H H1) (b : Keeps H1 H2) : Keeps H H2 := ⟨fun c xs h => b.tup c xs (a.tup c xs h), fun c o u h => b.frz c o u (a.frz c o u h)⟩
theorem _root_.L2.Same.keeps {H H' : Hp} (s : Same H H') : Keeps H H' := ⟨fun a xs h => s a _ h, fun a o u h => s a _ h⟩
theorem Keeps.mut {H H' : Hp} {D : Addr} {o o' : HO} (k : Keeps H H') (h : H' D = some o) (m : Mut (some o)) : Keeps H (upd H' D o') := by
  refine ⟨fun a xs q => ?_, fun a ob u q => ?_⟩
  · have q' := k.tup a xs q
    rw [upd_ne (ne_of q' h (by intro e; subst e; exact m))]; exact q'
  · have q' := k.frz a ob u q
    rw [upd_ne (ne_of q' h (by intro e; subst e; exact m))]; exact q'
theorem But.keeps {H H' : Hp} {D : Addr} {o : HO} (b : But D H H') (h : H D = some o) (m : Mut (some o)) : Keeps H H' :=
  ⟨fun a xs q => b a _ (ne_of q h (by intro e; subst e; exact m)) q, fun a ob u q => b a _ (ne_of q h (by intro e; subst e; exact m)) q⟩
theorem Keeps.sqT {K : PySem.W.Frag} {H H' : Hp} {a : Addr} {xs : List V} (k : Keeps H H') (h : SqT K H a xs) : SqT K H' a xs := by
  rcases h with (h | ⟨o, h⟩) | h
  · exact .inl (.inl (k.tup _ _ h))
  · exact .inl (.inr ⟨o, k.frz _ _ _ h⟩)
  · exact .inr h
theorem lc_fold {J : It} {n : Nat} {G : Hp → Prop} {Yw : Nat → Hp → V → Hp → Prop} (w : Walk J n G Yw) {g : TG} {tt : TT} {te : TE} {vs : List Nat} {σ : L2.St} {H1 : Hp} {D : Addr} {Qd : Hp → Prop} (hD : H1 D = none)
    (R : Nat → Hp → List V → Prop) (r0 : ∀ H, R 0 H []) (mono : ∀ i H H' xs, Keeps H H' → R i H xs → R i H' xs) (len : ∀ i H ys, R i H ys → ys.length ≤ 1000000) (hG : ∀ H, Same H1 H → G H)
    (hs : ∀ i x H H' ys (Nx : V → Hp → Prop) (Ex : Hp → Prop), i < n → Same H1 H → R i H ys → Yw i H x H' →
      (∀ y H2, Same H H2 → R (i + 1) H2 (ys ++ [y]) → Nx y H2) → (∀ H2, Same H H2 → R (i + 1) H2 ys → Ex H2) →
      g x (wipe σ vs) H' fun σ2 H2 => wipe σ2 vs = wipe σ vs ∧ tt σ2 H2 fun b H3 => if b = true then te σ2 H3 Nx else Ex H3)
    (hd : ∀ H ys, Same H1 H → H D = some (.lst ys) → R n H ys → Qd H) :
    ∃ W : Nat → Nat → Hp → Prop, (∃ m, W 0 m (upd H1 D (.lst []))) ∧ ∀ i m H, W i m H →
      (J.stop i H ∧ Qd H) ∨ (J.go i H ∧ ∃ Nx : Hp → Prop, (∀ H', Nx H' → ∃ m', m' < m ∧ W (i + 1) m' H') ∧ ∀ x H', J.yld i H x H' → g x (wipe σ vs) H' fun σ2 H2 => wipe σ2 vs = wipe σ vs ∧ tt σ2 H2 fun b H3 =>
        if b = true then te σ2 H3 fun y H4 => ∃ acc, H4 D = some (.lst acc) ∧ acc.length < sizeLine ∧ Nx (upd H4 D (.lst (acc ++ [y]))) else Nx H3) :=
  lc_foldF w (Same H1) R (Same.new hD _) (fun H ys zs s _ => s.mut hD _) (r0 _) (fun i H ys zs xs r h => mono _ _ _ _ ((Keeps.refl H).mut h trivial) r) len hG
    (fun i x H H' ys Nx Ex hi s hy r y k1 k2 => hs i x H H' ys Nx Ex hi s r y (fun z H2 s2 r2 => k1 z H2 (s.trans s2) (s2 _ _ hy) r2) (fun H2 s2 r2 => k2 H2 (s.trans s2) (s2 _ _ hy) r2)) hd
/-- a dict comprehension over any walk, as lc_it -/
theorem dc_it {J : It} {n : Nat} {G : Hp → Prop} {Y : Nat → Hp → V → Hp → Prop} (w : Walk J n G Y) {g : TG} {tt : TT} {tk tv : TE} {vs : List Nat} {σ : L2.St} {H1 : Hp} {D : Addr} {Qd : Hp → Prop} (Pv : Nat → Hp → Prop) (h0 : Pv 0 (upd H1 D (.dK []))) (hG : ∀ i H, i ≤ n → Pv i H → G H)
    (hs : ∀ i x H H', i < n → Pv i H → Y i H x H' → g x (wipe σ vs) H' fun σ2 H2 => wipe σ2 vs = wipe σ vs ∧ tt σ2 H2 fun b H3 =>
      if b = true then tk σ2 H3 fun y H4 => tv σ2 H4 fun z H5 => ∃ kvs k, y = kV k ∧ H5 D = some (.dK kvs) ∧ kvs.length < sizeLine ∧ Pv (i + 1) (upd H5 D (.dK (putK kvs k z))) else Pv (i + 1) H3) (hd : ∀ H, Pv n H → Qd H) :
    ∃ W : Nat → Nat → Hp → Prop, (∃ m, W 0 m (upd H1 D (.dK []))) ∧ ∀ i m H, W i m H →
      (J.stop i H ∧ Qd H) ∨ (J.go i H ∧ ∃ Nx : Hp → Prop, (∀ H', Nx H' → ∃ m', m' < m ∧ W (i + 1) m' H') ∧ ∀ x H', J.yld i H x H' → g x (wipe σ vs) H' fun σ2 H2 => wipe σ2 vs = wipe σ vs ∧ tt σ2 H2 fun b H3 =>
        if b = true then tk σ2 H3 fun y H4 => tv σ2 H4 fun z H5 => ∃ kvs k, y = kV k ∧ H5 D = some (.dK kvs) ∧ kvs.length < sizeLine ∧ Nx (upd H5 D (.dK (putK kvs k z))) else Nx H3) := by
  refine ⟨fun i m H => m = n - i ∧ i ≤ n ∧ Pv i H, ⟨n, rfl, Nat.zero_le _, h0⟩, fun i m H ⟨em, hi, p⟩ => ?_⟩
  subst em
  have q := hG i H hi p
  rcases Nat.lt_or_ge i n with hlt | hge
  · exact .inr ⟨w.goes i H hlt q, Pv (i + 1), fun H' p' => ⟨n - (i + 1), by omega, rfl, hlt, p'⟩, fun x H' y => hs i x H H' hlt p (w.yields i H x H' hlt q y)⟩
  · have e : i = n := by omega
    subst e
    exact .inl ⟨w.stops H q, hd H p⟩
/-- R i H kvs: what is known of the dict made so far -/
theorem dc_fold {J : It} {n : Nat} {G : Hp → Prop} {Yw : Nat → Hp → V → Hp → Prop} (w : Walk J n G Yw) {g : TG} {tt : TT} {tk tv : TE} {vs : List Nat} {σ : L2.St} {H1 : Hp} {D : Addr} {Qd : Hp → Prop} (hD : H1 D = none)
    (R : Nat → Hp → List (Key × V) → Prop) (r0 : ∀ H, R 0 H []) (mono : ∀ i H H' xs, Keeps H H' → R i H xs → R i H' xs) (len : ∀ i H ys, R i H ys → ys.length ≤ 1000000) (hG : ∀ H, Same H1 H → G H)
    (hs : ∀ i x H H' ys (Nx : V → V → Hp → Prop) (Ex : Hp → Prop), i < n → Same H1 H → R i H ys → Yw i H x H' →
      (∀ k z H2, Same H H2 → R (i + 1) H2 (putK ys k z) → Nx (kV k) z H2) → (∀ H2, Same H H2 → R (i + 1) H2 ys → Ex H2) →
      g x (wipe σ vs) H' fun σ2 H2 => wipe σ2 vs = wipe σ vs ∧ tt σ2 H2 fun b H3 => if b = true then tk σ2 H3 fun y H4 => tv σ2 H4 fun z H5 => Nx y z H5 else Ex H3)
    (hd : ∀ H ys, Same H1 H → H D = some (.dK ys) → R n H ys → Qd H) :
    ∃ W : Nat → Nat → Hp → Prop, (∃ m, W 0 m (upd H1 D (.dK []))) ∧ ∀ i m H, W i m H →
      (J.stop i H ∧ Qd H) ∨ (J.go i H ∧ ∃ Nx : Hp → Prop, (∀ H', Nx H' → ∃ m', m' < m ∧ W (i + 1) m' H') ∧ ∀ x H', J.yld i H x H' → g x (wipe σ vs) H' fun σ2 H2 => wipe σ2 vs = wipe σ vs ∧ tt σ2 H2 fun b H3 =>
        if b = true then tk σ2 H3 fun y H4 => tv σ2 H4 fun z H5 => ∃ kvs k, y = kV k ∧ H5 D = some (.dK kvs) ∧ kvs.length < sizeLine ∧ Nx (upd H5 D (.dK (putK kvs k z))) else Nx H3) := by
  refine dc_it w (fun i H => Same H1 H ∧ ∃ ys, H D = some (.dK ys) ∧ R i H ys) ⟨Same.new hD _, [], upd_same, r0 _⟩ (fun i H _ h => hG H h.1) ?_ ?_
  · rintro i x H H' hi ⟨s, ys, hy, r⟩ y
    refine hs i x H H' ys (fun y z H5 => ∃ kvs k, y = kV k ∧ H5 D = some (.dK kvs) ∧ kvs.length < sizeLine ∧ (Same H1 (upd H5 D (.dK (putK kvs k z))) ∧ ∃ ys, (upd H5 D (.dK (putK kvs k z))) D = some (.dK ys) ∧ R (i + 1) (upd H5 D (.dK (putK kvs k z))) ys)) _ hi s r y (fun k z H2 s2 r2 => ?_) (fun H2 s2 r2 => ⟨s.trans s2, ys, s2 _ _ hy, r2⟩)
    have h2 := s2 _ _ hy
    exact ⟨ys, k, rfl, h2, smallM (len i H ys r), (s.trans s2).mut hD _, _, upd_same, mono _ _ _ _ ((Keeps.refl H2).mut h2 trivial) r2⟩
  · rintro H ⟨s, ys, hy, r⟩
    exact hd H ys s hy r
section
variable {K : PySem.W.Frag}
theorem Src.keeps {H H' : Hp} {p ce : Addr} (s : Src K ce H p) (b : But p H H') : Keeps H H' := by
  obtain ⟨cs, i, l, m, S⟩ := s
  exact b.keeps S.at_ trivial
theorem Src.same {H H' : Hp} {p ce : Addr} (s : Src K ce H p) (e : Same H H') : Src K ce H' p := by
  obtain ⟨cs, i, l, m, S⟩ := s
  exact ⟨cs, i, l, m, ⟨e.at S.at_, (e.but p).seq S.ne S.cel, S.ne, S.hi, S.hl, S.hc, S.m0, S.m1⟩⟩
theorem Src.here {H : Hp} {p ce : Addr} (s : Src K ce H p) : ∃ o, H p = some o := by
  obtain ⟨cs, i, l, m, S⟩ := s
  exact ⟨_, S.at_⟩
theorem Src.ne {H : Hp} {p l ce : Addr} (s : Src K ce H p) (h : H l = none) : l ≠ p := fun e => by
  obtain ⟨o, q⟩ := s.here
  rw [e, q] at h; cases h
theorem Src.upd {H : Hp} {p ce D : Addr} (s : Src K ce H p) (h1 : D ≠ p) (h2 : D ≠ ce) (o : HO) : Src K ce (upd H D o) p := by
  obtain ⟨cs, i, l, m, S⟩ := s
  exact ⟨cs, i, l, m, ⟨by rw [upd_ne h1.symm]; exact S.at_, ((But.refl D H).upd o).seq h2.symm S.cel, S.ne, S.hi, S.hl, S.hc, S.m0, S.m1⟩⟩
end
theorem nx_run {D : Ends} {σ : L2.St} {H : Hp} (h : D.nx σ H) : tNext D σ H := h
theorem set_run {te : TE} {g : TG} {u : TS} {D : Ends} {σ : L2.St} {H : Hp} (Pv : V → Hp → Prop) (h : ∀ Q' : V → Hp → Prop, (∀ v H', Pv v H' → Q' v H') → te σ H Q') (q : ∀ v H', Pv v H' → g v σ H' (u D)) : tSeq (tAsg te g) u D σ H :=
  h _ fun v H' p => q v H' p
theorem if_run {c : TT} {t u v : TS} {D : Ends} {σ : L2.St} {H : Hp} (Pv : Bool → Hp → Prop) (h : ∀ Q' : Bool → Hp → Prop, (∀ b H', Pv b H' → Q' b H') → c σ H Q')
    (q : ∀ b H', Pv b H' → if b = true then t { D with nx := v D } σ H' else u { D with nx := v D } σ H') : tSeq (tIfS c t u) v D σ H := h _ fun b H' p => q b H' p
theorem val_run {t : TE} {σ : L2.St} {H : Hp} {Q : V → Hp → Prop} (Pv : V → Prop) (h : ∀ Q' : V → Hp → Prop, (∀ v, Pv v → Q' v H) → t σ H Q') (q : ∀ v, Pv v → Q v H) : t σ H Q := h Q q
theorem inV_strs (x : Str) : ∀ xs : List Str, inV (.str x) (xs.map V.str) = decide (x ∈ xs)
  | [] => rfl
  | y :: ys => by
    show ((y == x) || inV (.str x) (ys.map V.str)) = _
    rw [inV_strs x ys]
    by_cases h : y = x
    · subst h; simp
    · have : ¬ x = y := fun e => h e.symm
      simp [h, this]
theorem flat_strs : ∀ xs : List Str, (xs.map V.str).all flatV = true
  | [] => rfl
  | _ :: ys => flat_strs ys
theorem inV_trues : ∀ n : Nat, inV (.bl false) (List.replicate n (V.bl true)) = false
  | 0 => rfl
  | n + 1 => inV_trues n
theorem flat_trues : ∀ n : Nat, (List.replicate n (V.bl true)).all flatV = true
  | 0 => rfl
  | n + 1 => flat_trues n
/-- what is never reached -/
theorem ps_dead {X : Cx} {st : Stmt} : PS X st (fun _ _ _ => False) := ⟨fun _ _ _ _ _ _ h => h.elim⟩
/-- o.f = e: what is known of e's value behind it -/
theorem fld_run {K : PySem.W.Frag} {ta tv : TE} {f : Str} {u : TS} {D : Ends} {σ : L2.St} {H : Hp} (Pv : V → Hp → Prop) (h : ∀ Q' : V → Hp → Prop, (∀ v H', Pv v H' → Q' v H') → tv σ H Q')
    (q : ∀ v H', Pv v H' → ta σ H' fun x H2 => ∃ a C dx fs, x = .ref a ∧ H2 a = some (.ins C dx fs) ∧ Cls K C ∧ NoAttr K C f ∧ fs.length < 1000 ∧ u D σ (upd H2 a (.ins C dx (putF f v fs)))) : tSeq (sFld K ta tv f) u D σ H :=
  h _ fun v H' p => q v H' p
/-! ### lattices in the heap -/
def downsV (L : Lt) : List V := (List.range L.n).map fun b => V.int (L.down b : Nat)
def upsV (L : Lt) : List V := (List.range L.n).map fun a => V.int (L.up a : Nat)
def latAttrs : List Str := ["label", "size", "depth", "value_names", "downs", "ups", "bottom_at", "top_at"]
/-- a class of lattices, its methods mm -/
structure LatC (K : PySem.W.Frag) (mm : List (Str × Addr)) (C : Addr) : Prop where
  cl : Cls K C
  na : ∀ f ∈ latAttrs, NoAttr K C f
  me : ∀ q ∈ mm, Meth K C q.1 q.2
structure LatAt (K : PySem.W.Frag) (mm : List (Str × Addr)) (H : Hp) (p : Addr) (L : Lt) (C dx : Addr) (fs : List (Str × V)) (tn td tu : Addr) : Prop where
  at_ : H p = some (.ins C dx fs)
  c : LatC K mm C
  no : ∀ q ∈ mm, fs.lookup q.1 = none
  label : fs.lookup ("label" : Str) = some (.str L.label)
  size : fs.lookup ("size" : Str) = some (.int (L.n : Nat))
  depth : fs.lookup ("depth" : Str) = some (.int (L.depth : Nat))
  names : fs.lookup ("value_names" : Str) = some (.ref tn)
  downs : fs.lookup ("downs" : Str) = some (.ref td)
  ups : fs.lookup ("ups" : Str) = some (.ref tu)
  bot : fs.lookup ("bottom_at" : Str) = some (optV L.bot)
  top : fs.lookup ("top_at" : Str) = some (optV L.top)
  tn : NdT K H tn ∧ SqT K H tn (L.names.map V.str)
  td : NdT K H td ∧ SqT K H td (downsV L)
  tu : NdT K H tu ∧ SqT K H tu (upsV L)
def IsLat (K : PySem.W.Frag) (mm : List (Str × Addr)) (H : Hp) (p : Addr) (L : Lt) : Prop := ∃ C dx fs tn td tu, LatAt K mm H p L C dx fs tn td tu
theorem NdT.keep {K : PySem.W.Frag} {H H' : Hp} {p : Addr} (h : NdT K H p) (k : Keeps H H') : NdT K H' p := by
  rcases h with ⟨o, xs, h, d⟩ | h
  · exact .inl ⟨o, xs, k.frz _ _ _ h, d⟩
  · exact .inr h
theorem LatAt.to {K : PySem.W.Frag} {mm : List (Str × Addr)} {H H' : Hp} {p : Addr} {L : Lt} {C dx : Addr} {fs : List (Str × V)} {tn td tu : Addr} (A : LatAt K mm H p L C dx fs tn td tu) (k : Keeps H H') (e : H' p = some (.ins C dx fs)) : LatAt K mm H' p L C dx fs tn td tu :=
  ⟨e, A.c, A.no, A.label, A.size, A.depth, A.names, A.downs, A.ups, A.bot, A.top, ⟨A.tn.1.keep k, k.sqT A.tn.2⟩, ⟨A.td.1.keep k, k.sqT A.td.2⟩, ⟨A.tu.1.keep k, k.sqT A.tu.2⟩⟩
theorem LatAt.same {K : PySem.W.Frag} {mm : List (Str × Addr)} {H H' : Hp} {p : Addr} {L : Lt} {C dx : Addr} {fs : List (Str × V)} {tn td tu : Addr} (A : LatAt K mm H p L C dx fs tn td tu) (s : Same H H') : LatAt K mm H' p L C dx fs tn td tu := A.to s.keeps (s _ _ A.at_)
theorem IsLat.same {K : PySem.W.Frag} {mm : List (Str × Addr)} {H H' : Hp} {p : Addr} {L : Lt} (h : IsLat K mm H p L) (s : Same H H') : IsLat K mm H' p L := by
  obtain ⟨C, dx, fs, tn, td, tu, A⟩ := h
  exact ⟨C, dx, fs, tn, td, tu, A.same s⟩
/-- all but what stands at q, a list | an instance, is as it was -/
theorem IsLat.but {K : PySem.W.Frag} {mm : List (Str × Addr)} {H H' : Hp} {p q : Addr} {L : Lt} {o : HO} (h : IsLat K mm H p L) (b : But q H H') (hq : H q = some o) (m : Mut (some o)) (ne : p ≠ q) : IsLat K mm H' p L := by
  obtain ⟨C, dx, fs, tn, td, tu, A⟩ := h
  exact ⟨C, dx, fs, tn, td, tu, A.to (b.keeps hq m) (b _ _ ne A.at_)⟩
/-- a draw leaves it -/
theorem IsLat.drawn {K : PySem.W.Frag} {mm : List (Str × Addr)} {H H' : Hp} {p q ce : Addr} {L : Lt} (h : IsLat K mm H p L) (s : Src K ce H q) (b : But q H H') : IsLat K mm H' p L := by
  obtain ⟨cs, i, l, m, S⟩ := s
  refine h.but b S.at_ trivial fun e => ?_
  obtain ⟨C, dx, fs, tn, td, tu, A⟩ := h
  have := A.at_
  rw [e, S.at_] at this
  cases this
theorem flat_ints (l : List Nat) (f : Nat → Nat) : (l.map fun i => V.int (f i : Nat)).all flatV = true := by
  rw [List.all_map]
  exact List.all_eq_true.mpr fun _ _ => rfl
theorem at_map {n i : Nat} {f : Nat → V} (h : i < n) : ((List.range n).map f)[i]? = some (f i) := by
  rw [List.getElem?_map, List.getElem?_range h]; rfl
theorem at_map' {n i : Nat} {f : Nat → V} {x : V} (h : ((List.range n).map f)[i]? = some x) : i < n ∧ x = f i := by
  have hl := (List.getElem?_eq_some_iff.mp h).1
  rw [List.length_map, List.length_range] at hl
  rw [at_map hl] at h
  exact ⟨hl, (Option.some.inj h).symm⟩
theorem eqV_nat (a b : Nat) : eqV (.int (a : Nat)) (.int (b : Nat)) = (a == b) := by
  show ((a : Int) == (b : Int)) = (a == b)
  by_cases h : a = b
  · subst h; simp
  · have : ¬ (a : Int) = (b : Int) := by omega
    rw [beq_eq_false_iff_ne.mpr h, beq_eq_false_iff_ne.mpr this]
theorem inV_map (m n : Nat) (f : Nat → Nat) : inV (.int (m : Nat)) ((List.range n).map fun i => V.int (f i : Nat)) = (first n fun k => f k == m).isSome := by
  cases e : first n fun k => f k == m with
  | none =>
    show List.any _ _ = false
    rw [List.any_map, List.any_eq_false]
    intro i hi
    have := first_none e i (List.mem_range.mp hi)
    simp only [Function.comp, eqV_nat]
    rw [this]; decide
  | some k =>
    obtain ⟨h1, h2, _⟩ := first_some e
    show List.any _ _ = true
    rw [List.any_map, List.any_eq_true]
    exact ⟨k, List.mem_range.mpr h1, by simp only [Function.comp, eqV_nat]; exact h2⟩
theorem dec_bl {p : Prop} [Decidable p] : V.bl (decide p) = V.bl (decide p) := rfl
theorem int_ext {a b : Nat} : decide (V.int (a : Nat) = V.int (b : Nat)) = (a == b) := by
  by_cases h : a = b
  · subst h; simp
  · have : ¬ V.int (a : Nat) = V.int (b : Nat) := fun z => h (by have := V.int.inj z; omega)
    rw [decide_eq_false this, beq_eq_false_iff_ne.mpr h]
theorem dec_int {a b : Int} : decide (V.int a = V.int b) = decide (a = b) := by
  by_cases h : a = b
  · subst h; simp
  · have : ¬ V.int a = V.int b := fun z => h (V.int.inj z)
    rw [decide_eq_false this, decide_eq_false h]
theorem any_first (n : Nat) (p : Nat → Bool) : (List.range n).any p = (first n p).isSome := by
  cases e : first n p with
  | none =>
    rw [List.any_eq_false.mpr fun i hi => by rw [first_none e i (List.mem_range.mp hi)]; decide]
    rfl
  | some k =>
    obtain ⟨h1, h2, _⟩ := first_some e
    rw [List.any_eq_true.mpr ⟨k, List.mem_range.mpr h1, h2⟩]
    rfl
theorem one_shl (i : Nat) : (1 : Int) * 2 ^ ((i : Int)).toNat = ((2 ^ i : Nat) : Int) := by
  rw [Int.one_mul, Int.toNat_natCast, Int.natCast_pow]
  rfl
theorem rg_nat (n : Nat) : rgV 0 (n : Int) = natV (List.range n) := by
  unfold rgV natV
  rw [Int.sub_zero, Int.toNat_natCast]
  refine List.map_congr_left fun i _ => ?_
  rw [Int.zero_add]
theorem natV_append (a b : List Nat) : natV (a ++ b) = natV a ++ natV b := List.map_append
theorem natV_length (a : List Nat) : (natV a).length = a.length := List.length_map _
theorem filter_snoc (p : Nat → Bool) (i : Nat) : (List.range (i + 1)).filter p = (List.range i).filter p ++ if p i then [i] else [] := by
  rw [List.range_succ, List.filter_append]
  cases h : p i <;> simp [List.filter, h]
theorem filter_le (p : Nat → Bool) (i : Nat) : ((List.range i).filter p).length ≤ i := Nat.le_trans (List.length_filter_le _ _) (by rw [List.length_range]; exact Nat.le_refl _)
theorem yfn0 {x : V} {i : Nat} (h : x = (fun i : Nat => V.int (0 + (i : Int))) i) : x = .int (i : Nat) := by
  rw [h]
  show V.int (0 + (i : Int)) = _
  rw [Int.zero_add]
theorem andnot_nat (a b : Nat) : Builtin.bitAnd (a : Int) (Builtin.bitNot (b : Int)) = ((a - (a &&& b) : Nat) : Int) := by
  have hneg : ¬ (0 ≤ Builtin.bitNot (b : Int)) := by show ¬ (0 ≤ -(b : Int) - 1); omega
  have hpos : (0 : Int) ≤ (a : Int) := Int.natCast_nonneg _
  have nn : Builtin.bitNot (Builtin.bitNot (b : Int)) = (b : Int) := by show -(-(b : Int) - 1) - 1 = _; omega
  have le : a &&& b ≤ a := Nat.and_le_left
  have e : Builtin.bitAnd (a : Int) (Builtin.bitNot (b : Int)) = (a : Int) - ((a &&& b : Nat) : Int) := by
    unfold Builtin.bitAnd
    rw [show decide ((0 : Int) ≤ (a : Int)) = true from decide_eq_true hpos, show decide ((0 : Int) ≤ Builtin.bitNot (b : Int)) = false from decide_eq_false hneg]
    show (a : Int) - (((a : Int).toNat &&& (Builtin.bitNot (Builtin.bitNot (b : Int))).toNat : Nat) : Int) = _
    rw [nn]
    rfl
  rw [e]
  omega
/-- a's digits are all in b -/
def part (a b : Nat) : Bool := (a &&& b) == a
theorem part_is (a b : Nat) : decide (V.int (Builtin.bitAnd (a : Int) (Builtin.bitNot (b : Int))) = V.int 0) = part a b := by
  rw [dec_int, andnot_nat]
  unfold part
  have le : a &&& b ≤ a := Nat.and_le_left
  by_cases h : a &&& b = a
  · rw [beq_iff_eq.mpr h, h, Nat.sub_self]; rfl
  · rw [beq_eq_false_iff_ne.mpr h]
    exact decide_eq_false (by omega)
theorem eqV_str' (a b : Str) : eqV (.str a) (.str b) = (a == b) := rfl
theorem nodup_at' {α : Type} {l : List α} (nd : l.Nodup) {i j : Nat} {x : α} (h1 : l[i]? = some x) (h2 : l[j]? = some x) : i = j := by
  obtain ⟨l1, e1⟩ := List.getElem?_eq_some_iff.mp h1
  obtain ⟨l2, e2⟩ := List.getElem?_eq_some_iff.mp h2
  rcases Nat.lt_trichotomy i j with c | c | c
  · exact absurd (e1.trans e2.symm) (List.pairwise_iff_getElem.mp nd i j l1 l2 c)
  · exact c
  · exact absurd (e2.trans e1.symm) (List.pairwise_iff_getElem.mp nd j i l2 l1 c)
/-! ### the plain law: chains and sets; small facts -/
section
theorem empty_app (x : Str) : Str.empty ++ x = x := by
  obtain ⟨a⟩ := x
  show (⟨#[] ++ a⟩ : Str) = ⟨a⟩
  rw [Array.empty_append]
theorem log_small {i : Nat} (h : i < 2 ^ 64) : ((i : Nat) : Int).natAbs.log2 < 1920 := by
  rw [Int.natAbs_natCast]
  rcases Nat.eq_zero_or_pos i with e | e
  · subst e; decide
  · exact Nat.lt_trans ((Nat.log2_lt (by omega)).mpr h) (by decide)
def natS (i : Nat) : Str := Str.ofString (toString ((i : Nat) : Int))
theorem mask_upto {n i : Nat} (h : i < n) : mask n (fun a => decide (a ≤ i)) = 2 ^ (i + 1) - 1 := by
  refine Nat.eq_of_testBit_eq fun j => ?_
  rw [mask_bit, Nat.testBit_two_pow_sub_one]
  by_cases c : j ≤ i
  · have : j < n := by omega
    have c2 : j < i + 1 := by omega
    simp [c, this, c2]
  · have c2 : ¬ j < i + 1 := by omega
    simp [c, c2]
theorem natS_len {i : Nat} (h : i ≤ 100) : (natS i).length ≤ 3 := by
  have q : ∀ j : Fin 101, (natS j.val).length ≤ 3 := by decide +kernel
  exact q ⟨i, by omega⟩
theorem small_line {n : Nat} (h : n ≤ 1000000) : n ≤ sizeLine := Nat.le_trans h (by decide)
def chainL (n : Nat) : Lt := { label := ("(chain " : Str) ++ natS n ++ (")" : Str), names := (List.range n).map natS, le := fun a b => decide (a ≤ b), depth := 1 }
theorem chainL_n (n : Nat) : (chainL n).n = n := by simp [chainL, Lt.n]
/-- one digit of a number, as a text -/
def digS (m k : Nat) : Str := if m.testBit k then ("1" : Str) else ("0" : Str)
theorem digS_is (m k : Nat) : (Str.ofString (toString (Builtin.bitAnd ((m : Int) / 2 ^ k) 1)) : Str) = digS m k := by
  rw [bit_int]
  unfold digS
  cases m.testBit k <;> rfl
theorem digS_log (m k : Nat) : (Builtin.bitAnd ((m : Int) / 2 ^ k) 1).natAbs.log2 < 1920 := by
  rw [bit_int]
  cases m.testBit k <;> decide
theorem digS_len (m k : Nat) : (digS m k).length = 1 := by
  unfold digS
  cases m.testBit k <;> rfl
def setDigs (c m : Nat) : List Str := (List.range c).map fun j => digS m (c - 1 - j)
def setName (c m : Nat) : Str := PySem.Txt.join (("" : Str)) (setDigs c m)
def setsL (c : Nat) : Lt := { label := ("(sets " : Str) ++ natS c ++ (")" : Str), names := (List.range (2 ^ c)).map (setName c), le := fun a b => part a b, depth := 1 }
theorem setsL_n (c : Nat) : (setsL c).n = 2 ^ c := by simp [setsL, Lt.n]
theorem setDigs_sum (c m : Nat) : ((setDigs c m).map (·.length)).sum = c := by
  unfold setDigs
  rw [List.map_map]
  have : ((fun x : Str => x.length) ∘ fun j => digS m (c - 1 - j)) = fun _ => 1 := by funext j; exact digS_len _ _
  rw [this, List.map_const']
  simp
end
/-! ### the plain law: joins and meets, chains and sets -/
namespace Lt
structure Ord (L : Lt) : Prop where
  refl : ∀ a, a < L.n → L.le a a = true
  anti : ∀ a b, a < L.n → b < L.n → L.le a b = true → L.le b a = true → a = b
theorem up_eq (L : Lt) (k : Nat) (p : Nat → Bool) : (L.up k == mask L.n p) = true ↔ ∀ i, i < L.n → L.le k i = p i := by
  rw [beq_iff_eq]; exact mask_eq
theorem down_eq (L : Lt) (k : Nat) (p : Nat → Bool) : (L.down k == mask L.n p) = true ↔ ∀ i, i < L.n → L.le i k = p i := by
  rw [beq_iff_eq]; exact mask_eq
theorem join_eq (L : Lt) (a b : Nat) : L.join a b = first L.n fun k => L.up k == mask L.n fun i => L.le a i && L.le b i := by
  unfold join
  rw [show L.up a &&& L.up b = mask L.n fun i => L.le a i && L.le b i from mask_and _ _ _]
theorem meet_eq (L : Lt) (a b : Nat) : L.meet a b = first L.n fun k => L.down k == mask L.n fun i => L.le i a && L.le i b := by
  unfold meet
  rw [show L.down a &&& L.down b = mask L.n fun i => L.le i a && L.le i b from mask_and _ _ _]
theorem Ord.ups {L : Lt} (o : L.Ord) {p : Nat → Bool} {k : Nat} (hk : k < L.n) (h : ∀ i, i < L.n → L.le k i = p i) : (first L.n fun k => L.up k == mask L.n p) = some k := by
  refine first_is hk ((up_eq L k p).mpr h) fun j hj => Bool.eq_false_iff.mpr fun z => ?_
  have z := (up_eq L j p).mp z
  have hj' : j < L.n := by omega
  have e := o.anti j k hj' hk (by rw [z k hk, ← h k hk]; exact o.refl k hk) (by rw [h j hj', ← z j hj']; exact o.refl j hj')
  omega
theorem Ord.downs {L : Lt} (o : L.Ord) {p : Nat → Bool} {k : Nat} (hk : k < L.n) (h : ∀ i, i < L.n → L.le i k = p i) : (first L.n fun k => L.down k == mask L.n p) = some k := by
  refine first_is hk ((down_eq L k p).mpr h) fun j hj => Bool.eq_false_iff.mpr fun z => ?_
  have z := (down_eq L j p).mp z
  have hj' : j < L.n := by omega
  have e := o.anti j k hj' hk (by rw [h j hj', ← z j hj']; exact o.refl j hj') (by rw [z k hk, ← h k hk]; exact o.refl k hk)
  omega
theorem Ord.join {L : Lt} (o : L.Ord) {a b k : Nat} (hk : k < L.n) (h : ∀ i, i < L.n → L.le k i = (L.le a i && L.le b i)) : L.join a b = some k := by rw [join_eq]; exact o.ups hk h
theorem Ord.meet {L : Lt} (o : L.Ord) {a b k : Nat} (hk : k < L.n) (h : ∀ i, i < L.n → L.le i k = (L.le i a && L.le i b)) : L.meet a b = some k := by rw [meet_eq]; exact o.downs hk h
theorem Ord.bot {L : Lt} (o : L.Ord) {k : Nat} (hk : k < L.n) (h : ∀ i, i < L.n → L.le k i = true) : L.bot = some k := by
  unfold Lt.bot
  rw [← mask_all]
  exact o.ups hk h
theorem Ord.top {L : Lt} (o : L.Ord) {k : Nat} (hk : k < L.n) (h : ∀ i, i < L.n → L.le i k = true) : L.top = some k := by
  unfold Lt.top
  rw [← mask_all]
  exact o.downs hk h
theorem irr_iff (L : Lt) (a : Nat) : L.irr a = true ↔ ∃ k, k < L.n ∧ ∀ i, i < L.n → L.le i k = (L.le i a && !(i == a)) := by
  unfold irr
  rw [List.any_eq_true]
  constructor
  · rintro ⟨k, hk, h⟩
    exact ⟨k, List.mem_range.mp hk, (down_eq L k _).mp h⟩
  · rintro ⟨k, hk, h⟩
    exact ⟨k, List.mem_range.mpr hk, (down_eq L k _).mpr h⟩
end Lt
theorem chain_ord (n : Nat) : (chainL n).Ord := ⟨fun a _ => by simp [chainL], fun a b _ _ h1 h2 => by simp [chainL] at h1 h2; omega⟩
theorem chain_join {n a b : Nat} (ha : a < n) (hb : b < n) : (chainL n).join a b = some (max a b) :=
  (chain_ord n).join (by rw [chainL_n]; omega) fun i _ => by
    show decide (max a b ≤ i) = (decide (a ≤ i) && decide (b ≤ i))
    rw [← Bool.decide_and]
    exact decide_eq_decide.mpr (by omega)
theorem chain_meet {n a b : Nat} (ha : a < n) (hb : b < n) : (chainL n).meet a b = some (min a b) :=
  (chain_ord n).meet (by rw [chainL_n]; omega) fun i _ => by
    show decide (i ≤ min a b) = (decide (i ≤ a) && decide (i ≤ b))
    rw [← Bool.decide_and]
    exact decide_eq_decide.mpr (by omega)
theorem chain_bot {n : Nat} (h : 1 ≤ n) : (chainL n).bot = some 0 := (chain_ord n).bot (by rw [chainL_n]; omega) fun i _ => by simp [chainL]
theorem chain_top {n : Nat} (h : 1 ≤ n) : (chainL n).top = some (n - 1) := (chain_ord n).top (by rw [chainL_n]; omega) fun i hi => by rw [chainL_n] at hi; simp [chainL]; omega
theorem chain_irr {n a : Nat} (ha : a < n) : (chainL n).irr a = decide (1 ≤ a) := by
  rw [Bool.eq_iff_iff, Lt.irr_iff, decide_eq_true_iff]
  rw [chainL_n]
  constructor
  · rintro ⟨k, hk, h⟩
    have := h k hk
    simp [chainL] at this
    omega
  · intro h
    refine ⟨a - 1, by omega, fun i hi => ?_⟩
    show decide (i ≤ a - 1) = (decide (i ≤ a) && !(i == a))
    rw [Bool.eq_iff_iff]
    simp
    omega
theorem range_pos : ∀ n : Nat, (List.range n).filter (fun a => decide (1 ≤ a)) = (List.range (n - 1)).map (· + 1)
  | 0 => rfl
  | 1 => rfl
  | n + 2 => by
    rw [List.range_succ, List.filter_append, range_pos (n + 1)]
    show _ = (List.range (n + 1)).map (· + 1)
    rw [List.range_succ (n := n), List.map_append]
    simp [List.filter]
theorem chain_irrs (n : Nat) : (chainL n).irrs = (List.range (n - 1)).map (· + 1) := by
  unfold Lt.irrs
  rw [chainL_n, ← range_pos]
  refine List.filter_congr fun a ha => ?_
  exact chain_irr (List.mem_range.mp ha)
theorem part_bits {a b : Nat} : part a b = true ↔ ∀ j, a.testBit j = true → b.testBit j = true := by
  unfold part
  rw [beq_iff_eq]
  constructor
  · intro h j hj
    have := congrArg (Nat.testBit · j) h
    simp only [Nat.testBit_and, hj, Bool.true_and] at this
    exact this
  · intro h
    refine Nat.eq_of_testBit_eq fun j => ?_
    rw [Nat.testBit_and]
    cases e : a.testBit j with
    | false => rfl
    | true => rw [h j e]; rfl
theorem part_refl (a : Nat) : part a a = true := part_bits.mpr fun _ h => h
theorem part_anti {a b : Nat} (h1 : part a b = true) (h2 : part b a = true) : a = b := by
  refine Nat.eq_of_testBit_eq fun j => ?_
  rw [Bool.eq_iff_iff]
  exact ⟨part_bits.mp h1 j, part_bits.mp h2 j⟩
theorem part_or (a b i : Nat) : part (a ||| b) i = (part a i && part b i) := by
  rw [Bool.eq_iff_iff, Bool.and_eq_true, part_bits, part_bits, part_bits]
  constructor
  · intro h
    exact ⟨fun j hj => h j (by rw [Nat.testBit_or, hj, Bool.true_or]), fun j hj => h j (by rw [Nat.testBit_or, hj, Bool.or_true])⟩
  · rintro ⟨h1, h2⟩ j hj
    rw [Nat.testBit_or, Bool.or_eq_true] at hj
    exact hj.elim (h1 j) (h2 j)
theorem part_and (a b i : Nat) : part i (a &&& b) = (part i a && part i b) := by
  rw [Bool.eq_iff_iff, Bool.and_eq_true, part_bits, part_bits, part_bits]
  constructor
  · intro h
    exact ⟨fun j hj => by have := h j hj; rw [Nat.testBit_and, Bool.and_eq_true] at this; exact this.1, fun j hj => by have := h j hj; rw [Nat.testBit_and, Bool.and_eq_true] at this; exact this.2⟩
  · rintro ⟨h1, h2⟩ j hj
    rw [Nat.testBit_and, h1 j hj, h2 j hj]; rfl
theorem sets_ord (c : Nat) : (setsL c).Ord := ⟨fun a _ => part_refl a, fun a b _ _ h1 h2 => part_anti h1 h2⟩
theorem sets_join {c a b : Nat} (ha : a < 2 ^ c) (hb : b < 2 ^ c) : (setsL c).join a b = some (a ||| b) :=
  (sets_ord c).join (by rw [setsL_n]; exact Nat.or_lt_two_pow ha hb) fun i _ => part_or a b i
theorem sets_meet {c a b : Nat} (ha : a < 2 ^ c) : (setsL c).meet a b = some (a &&& b) :=
  (sets_ord c).meet (by rw [setsL_n]; exact Nat.lt_of_le_of_lt Nat.and_le_left ha) fun i _ => part_and a b i
theorem sets_bot (c : Nat) : (setsL c).bot = some 0 := (sets_ord c).bot (by rw [setsL_n]; exact Nat.pow_pos (by decide)) fun i _ => part_bits.mpr fun j h => by simp at h
theorem sets_top (c : Nat) : (setsL c).top = some (2 ^ c - 1) := (sets_ord c).top (by rw [setsL_n]; have := Nat.pow_pos (n := c) (show 0 < 2 by decide); omega) fun i hi => by
  rw [setsL_n] at hi
  refine part_bits.mpr fun j h => ?_
  rw [Nat.testBit_two_pow_sub_one]
  refine decide_eq_true (Nat.lt_of_not_le fun z => ?_)
  rw [Nat.testBit_lt_two_pow (Nat.lt_of_lt_of_le hi (Nat.pow_le_pow_right (by decide) z))] at h
  cases h
theorem sets_irrs : ∀ c, c ≤ 6 → (setsL c).irrs = (List.range c).map (2 ^ ·) := by
  have q : ∀ c : Fin 7, (setsL c.val).irrs = (List.range c.val).map (2 ^ ·) := by decide +kernel
  exact fun c h => q ⟨c, by omega⟩
theorem sets_nodup : ∀ c, c ≤ 6 → (setsL c).names.Nodup := by
  have q : ∀ c : Fin 7, (setsL c.val).names.Nodup := by decide +kernel
  exact fun c h => q ⟨c, by omega⟩
theorem chain_nodup {n : Nat} (h : n ≤ 64) : (chainL n).names.Nodup := by
  have q : (chainL 64).names.Nodup := by decide +kernel
  have e : (chainL n).names = (chainL 64).names.take n := by
    show (List.range n).map natS = ((List.range 64).map natS).take n
    rw [← List.map_take, List.take_range, Nat.min_eq_left h]
  rw [e]
  exact q.sublist (List.take_sublist _ _)
section
/-- a statement: what is known behind it -/
theorem st_run {t u : TS} {D : Ends} {σ : L2.St} {H : Hp} (Pv : L2.St → Hp → Prop) (h : ∀ D' : Ends, D'.rt = D.rt → (∀ σ' H', Pv σ' H' → D'.nx σ' H') → t D' σ H) (q : ∀ σ' H', Pv σ' H' → u D σ' H') : tSeq t u D σ H := h _ rfl q
theorem rg_run {te : TE} {g : TG} {tb u : TS} {D : Ends} {σ : L2.St} {H : Hp} (Pv : Int → Hp → Prop) (h : ∀ Q' : V → Hp → Prop, (∀ n H', Pv n H' → Q' (.int n) H') → te σ H Q')
    (q : ∀ n H', Pv n H' → tSeq (tFor (iRng1 (tCons (tC (.int n)) tNil)) g tb) u D σ H') : tSeq (tFor (iRng1 (tCons te tNil)) g tb) u D σ H := h _ fun n H' p => q n H' p
/-- behind a new instance's __init__ -/
theorem made_same {H H' : Hp} {x dx : Addr} {o o2 : HO} (hx : H x = none) (hd : H dx = none) (b : But x (upd (upd H dx o) x o2) H') : Same H H' := fun c u hc => by
  have n1 := ne_of_none hc hx
  have n2 := ne_of_none hc hd
  exact b c u n1 (by rw [upd_ne n1, upd_ne n2]; exact hc)
theorem natV_int (l : List Nat) : natV l = (l.map fun i : Nat => (i : Int)).map V.int := by unfold natV; rw [List.map_map]; rfl
end
theorem str_at' {xs : List Str} {d : Int} (h0 : 0 ≤ d) (h1 : d < xs.length) : ∃ x, x ∈ xs ∧ atI (xs.map V.str) d = some (.str x) := by
  have hl : d.toNat < xs.length := by omega
  refine ⟨xs[d.toNat], List.getElem_mem hl, ?_⟩
  have e : d = (d.toNat : Int) := by omega
  have r : atI (xs.map V.str) (d.toNat : Int) = some (.str xs[d.toNat]) := atI_nat (by rw [List.getElem?_map, List.getElem?_eq_getElem hl]; rfl)
  rw [← e] at r
  exact r
/-! ### isinstance of a caught error that has a dict -/
section
open PySem.Spec PyProof.Rows
def rIsED (K : PySem.W.Frag) (D a dd : Addr) : List V → Hp → VK → Prop := fun xs H Q => ∃ (c : V) (cv : Value) (b : Bool) (fs : List (Str × V)), xs = [.ref a, c] ∧ (∀ u, RelV c u → u = cv) ∧ PySem.W.kitOne K (.ref D) cv = some b ∧ H dd = some (.xd fs) ∧ Q (.bl b) H
theorem call_isED' {X : Cx} {a D dd : Addr} {oe : Obj} {pn : List (Addr × Obj)} (C : ExcC X.K D) (hz : Zc (.ref D) (some dd) oe) (hf : ∃ vs, oe.data = .fields vs) : CallR (X.suite a ((a, oe) :: pn)) (.builtin "isinstance") (rIsED X.K D a dd) := by
  intro pins s σ H xs us Q I r h
  obtain ⟨c, cv, b, fs, rfl, hcv, e, hxd, q⟩ := h
  cases r with
  | cons rx rr =>
    cases rr with
    | cons rt rr =>
      cases rr
      cases rx
      have ec := hcv _ rt
      subst ec
      obtain ⟨hget, _⟩ := I.pin (a, oe) (List.mem_append.mpr (.inl List.mem_cons_self))
      obtain ⟨vs, hv⟩ := hf
      obtain ⟨mA, hn, _⟩ := I.hok dd _ hxd
      obtain ⟨ox, es, ep, ho, _⟩ := hn
      have J : PySem.W.InstAt s.heap a oe D (some ox) := by
        obtain ⟨oc, od, oda, osl⟩ := oe
        obtain ⟨h1, h2⟩ := hz
        dsimp only at h1 h2 hv
        subst h1 h2 hv
        exact ⟨hget, rfl, rfl, ho⟩
      have hcl : (PySem.W.clsIn X.K D).isSome = true := by
        obtain ⟨cd, hc, _⟩ := PySem.W.any_some C.hd
        rw [hc]; rfl
      exact PySem.W.kia_one (PySem.W.kitx_exc hcl C.hg C.hk C.hs C.ha C.hn C.ht C.hm) I.kIn J e (fun z => nomatch z) fun tk => ⟨.bl b, H, I.kept (t' := tk) fun _ _ z => z, rfl, q⟩
/-- the same, the class and the dict of the caught error left to the reading -/
def rIsX (K : PySem.W.Frag) (cls : Value) (d : Option Addr) (a : Addr) : List V → Hp → VK → Prop := fun xs H Q => ∃ D dd, cls = .ref D ∧ d = some dd ∧ ExcC K D ∧ rIsED K D a dd xs H Q
theorem call_isX {X : Cx} {a : Addr} {cls : Value} {d : Option Addr} {oe : Obj} {pn : List (Addr × Obj)} (hz : Zc cls d oe) (hf : ∃ vs, oe.data = .fields vs) : CallR (X.suite a ((a, oe) :: pn)) (.builtin "isinstance") (rIsX X.K cls d a) := by
  intro pins s σ H xs us Q I r h
  obtain ⟨D, dd, rfl, rfl, C, h⟩ := h
  exact call_isED' C hz hf pins s σ H xs us Q I r h
end
/-! ### errors without an own __init__; a def that may raise, where it does not -/
section
open PySem PySem.Spec PyProof.Rows
/-- a def's promise, and another one where it may raise -/
theorem _root_.L2.FnOk.or0 {P : Program} {w : World} {K : PySem.W.Frag} {mg : Str → Option Value} {base : Heap} {j k : Nat} {f : Addr} {fd : FuncData} {ps : List Str} {sp sp' : Sp} (F : FnOk P w K mg base CX0 j f fd ps sp) (G : FnOk P w K mg base (L2.CX P w) k f fd ps sp') (hjk : j ≤ k) : FnOk P w K mg base (L2.CX P w) k f fd ps (fun vs H Q E => sp vs H Q E ∨ sp' vs H Q E) := by
  refine ⟨fun vs H Q E q => q.elim (F.len vs H Q E) (G.len vs H Q E), fun A outer s H args us vs Q E hr e0 hb r q => ?_⟩
  rcases q with q | q
  · refine codeAny_mono (F.run A outer s H args us vs Q E (hr.mono hjk) e0 hb r q) fun x s' z => ?_
    cases x with
    | error e => exact z.elim
    | ok fl => cases fl <;> exact z
  · exact G.run A outer s H args us vs Q E hr e0 hb r q
theorem _root_.L2.FnOk.still {P : Program} {w : World} {K : PySem.W.Frag} {mg : Str → Option Value} {base : Heap} {k : Nat} {f : Addr} {fd : FuncData} {ps : List Str} {sp sp' : Sp} (F : FnOk P w K mg base (L2.CX P w) k f fd ps sp) (h : ∀ vs H Q E, sp' vs H Q E → sp vs H Q fun _ _ _ => False) : FnOk P w K mg base CX0 k f fd ps sp' := by
  refine ⟨fun vs H Q E q => F.len vs H Q _ (h vs H Q E q), fun A outer s H args us vs Q E hr e0 hb r q => ?_⟩
  refine codeAny_mono (F.run A outer s H args us vs Q (fun _ _ _ => False) hr e0 hb r (h vs H Q E q)) fun x s' z => ?_
  cases x with
  | error e =>
    obtain ⟨_, _, _, _, _, _, _, _, _, _, _, _, z⟩ := z
    exact z.elim
  | ok fl => cases fl <;> exact z
variable {X : Cx} {C : Addr} {bmB : List Value} {B newId initId : String}
theorem pmk_own0 {x : Str} {p pos : Pos} (F : ExcBaseFacts B newId initId bmB) (q : PySem.W.excIn X.K C bmB newId = true) (gC : X.mg x = some (.ref C)) (kC : PySem.W.keepIn X.K (.ref C) = true) (r : Raises X (.ref C)) (hg : Gl X x)
    (hdb : (x == ("__debug__" : Str)) = false := by decide) : PMk X (.Call (.Name x p) [] [] pos) (fun _ H Q => Q (.ref C) none H) := by
  intro pins s σ H Q I h
  refine wpAny_Call_Name_kw (ld_glob I hg gC ?_ hdb)
  refine PySem.W.callWith_K0 I.kIn kC ?_
  obtain ⟨bm, N, nm, qn, bs, hdct, sn, sub, ab, col, dd, k0, k1, k2, k3, k5, mN, hC, hN, hni, T⟩ := exc_obj I.kIn q
  refine wpAny_call_exc_subT F T hC hN hni (fun h' e hm => ?_) (Nat.zero_le _)
  exact mk_of I hm r h (I.hok.gone hm.new)
end
section
open PySem PySem.Spec PyProof.Rows
variable {X : Cx} {CX : CXT} {k : Nat} {f C : Addr} {fd : FuncData} {ps : List Str} {sp : Sp} {E : L2.St → XK} {x : Str} {p pos : Pos} {e : Expr} {es : List Expr} {t : TA}
theorem run_makeS {pins : List (Addr × Obj)} {σ : L2.St} {H : Hp} {s : Shared} {Q : VK} {us : List Value} {vs : List V} (M : Mk X.K C f) (F : FnOk X.prog X.w X.K X.mg X.base CX k f fd ps sp) (hr : Room (k + 1) X.A) (hb : Binds X.K fd ps []) (hx : PassesAt CX X σ (E σ)) (I : Inv X pins σ H s) (r : Vals vs us)
    (h : ∀ x dx, H x = none → H dx = none → dx ≠ x → sp (.ref x :: vs) (upd (upd H dx (.own x)) x (.ins C dx [])) (fun v H2 => v = .non ∧ Q (.ref x) H2) (E σ)) : wpAny (model X.prog X.w) X.A (call (.ref C) us) (EP X pins σ Q) X.xe s := by
  have hq := h (s.heap.objs.size + 1) s.heap.objs.size (I.hok.fresh (Nat.le_succ _)) (I.hok.fresh (Nat.le_refl _)) (Nat.ne_of_lt (Nat.lt_succ_self _))
  have J := Inv.made (C := C) I
  have r2 : Vals (V.ref (s.heap.objs.size + 1) :: vs) (Value.ref (s.heap.objs.size + 1) :: us) := .cons rfl r
  have hl : (Value.ref (s.heap.objs.size + 1) :: us).length = ps.length := by
    have z := r2.length
    rw [F.len _ _ _ _ hq] at z
    exact z.symm
  have bd := hb _ (Value.ref (s.heap.objs.size + 1) :: us) J.kIn (by rw [List.append_nil]; exact hl)
  rw [List.append_nil] at bd
  refine wpAny_call (make_map (f := f) I.kIn M.makes M.init (beq_iff_eq.mp M.fn) (codeAny_mono (F.run _ X.stack _ _ ⟨Value.ref (s.heap.objs.size + 1) :: us, []⟩ _ _ _ (E σ) (hr.make C us []) (J.env0.make C us []) bd r2 hq) fun r s' hq' => ?_))
  cases r with
  | error z => exact hx pins _ _ z s' J hq'
  | ok fl =>
    cases fl with
    | ret u =>
      obtain ⟨v, H', I3, rv, ev, q3⟩ := J.after hq'
      subst ev
      exact ⟨rv, ⟨V.ref (s.heap.objs.size + 1), H', I3, rfl, q3⟩⟩
    | next => exact False.elim hq'
    | brk => exact False.elim hq'
    | cont => exact False.elim hq'
def tMakeS (C : Addr) (sp : Sp) (E : L2.St → XK) (t : TA) : TE := fun σ H Q => t σ H fun vs H1 => ∀ x dx, H1 x = none → H1 dx = none → dx ≠ x → sp (.ref x :: vs) (upd (upd H1 dx (.own x)) x (.ins C dx [])) (fun v H2 => v = .non ∧ Q (.ref x) H2) (E σ)
/-- C(e, ..) of a class whose __init__ may raise -/
theorem pe_makeS (M : Mk X.K C f) (F : FnOk X.prog X.w X.K X.mg X.base CX k f fd ps sp) (hr : Room (k + 1) X.A) (hg : Gl X x) (hm : X.mg x = some (.ref C)) (hb : Binds X.K fd ps []) (hx : ∀ σ, PassesAt CX X σ (E σ))
    (ha : PA X (e :: es) t) (hdb : (x == ("__debug__" : Str)) = false := by decide) (he : starEach (e :: es) X.env = (false, eval e X.env) :: starEach es X.env := by rfl) (hpl : (backTo pos (starEach es X.env)).any (·.1) = false := by rfl) :
    PE X (.Call (.Name x p) (e :: es) [] pos) (tMakeS C sp E t) := by
  refine ⟨fun pins s σ H Q I h => ?_⟩
  refine wpAny_Call_Name_kw (ld_glob I hg hm ?_ hdb)
  refine PySem.W.callWith_K (h₀ := X.base) I.ok.mod.kin M.kp (thn (ha.run pos pins s σ H _ I h) fun us s1 ⟨vs, H1, I1, r, q⟩ => ⟨I1.kIn, ?_⟩) he hpl
  exact run_makeS M F hr hb (hx σ) I1 r q
end
section
open PySem.Spec PyProof.Rows
/-- isinstance of a caught error without a dict -/
def rIsN (K : PySem.W.Frag) (cls : Value) (d : Option Addr) (a : Addr) : List V → Hp → VK → Prop := fun xs H Q => ∃ D, cls = .ref D ∧ d = none ∧ ExcC K D ∧ rIsE K D a xs H Q
theorem call_isN {X : Cx} {a : Addr} {cls : Value} {d : Option Addr} {oe : Obj} {pn : List (Addr × Obj)} (hz : Zc cls d oe) (hf : ∃ vs, oe.data = .fields vs) : CallR (X.suite a ((a, oe) :: pn)) (.builtin "isinstance") (rIsN X.K cls d a) := by
  intro pins s σ H xs us Q I r h
  obtain ⟨D, rfl, rfl, C, h⟩ := h
  exact call_isE C hz hf pins s σ H xs us Q I r h
end
/-! ### errors held as values -/
section
open PySem PySem.Spec PyProof.Rows
/-- an error of the class C at a, with the fields fs or without a dict -/
def EObj (H : Hp) (a C : Addr) : Option (List (Str × V)) → Prop
  | none => H a = some (exo a C none)
  | some fs => ∃ d, H a = some (exo a C (some d)) ∧ H d = some (exd d fs)
theorem EObj.same {H H' : Hp} {a C : Addr} {fs : Option (List (Str × V))} (h : EObj H a C fs) (s : Same H H') : EObj H' a C fs := by
  cases fs with
  | none => exact s _ _ h
  | some fs => obtain ⟨d, h1, h2⟩ := h; exact ⟨d, s _ _ h1, s _ _ h2⟩
def rIsO (K : PySem.W.Frag) : List V → Hp → VK → Prop := fun xs H Q => ∃ (a C : Addr) (fs : Option (List (Str × V))) (c : V) (cv : Value) (b : Bool), xs = [.ref a, c] ∧ EObj H a C fs ∧ ExcC K C ∧ (∀ u, RelV c u → u = cv) ∧ PySem.W.kitOne K (.ref C) cv = some b ∧ Q (.bl b) H
theorem call_isO {X : Cx} : CallR X (.builtin "isinstance") (rIsO X.K) := by
  intro pins s σ H xs us Q I r h
  obtain ⟨a, D, fs, c, cv, b, rfl, ho, C, hcv, e, q⟩ := h
  cases r with
  | cons rx rr =>
    cases rr with
    | cons rt rr =>
      cases rr
      cases rx
      have ec := hcv _ rt
      subst ec
      cases fs with
      | none =>
        obtain ⟨t1, hg⟩ := exo_at I.hok ho
        have J : PySem.W.InstAt s.heap a _ D none := ⟨hg, rfl, rfl, trivial⟩
        exact PySem.W.kia_one (PySem.W.handS_kitx_exc C.hg C.hk C.hs C.hd C.ha C.hn C.ht C.hm) I.kIn J e (fun z => nomatch z) fun tk => ⟨.bl b, H, I.kept (t' := tk) fun _ _ z => z, rfl, q⟩
      | some fs =>
        obtain ⟨d, h1, h2⟩ := ho
        obtain ⟨t1, hg⟩ := exo_at I.hok h1
        obtain ⟨mA, ⟨ox, es, ep, hx, _⟩, _⟩ := exd_at I.hok h2
        have J : PySem.W.InstAt s.heap a _ D (some ox) := ⟨hg, rfl, rfl, hx⟩
        have hcl : (PySem.W.clsIn X.K D).isSome = true := by
          obtain ⟨cd, hc, _⟩ := PySem.W.any_some C.hd
          rw [hc]; rfl
        exact PySem.W.kia_one (PySem.W.kitx_exc hcl C.hg C.hk C.hs C.ha C.hn C.ht C.hm) I.kIn J e (fun z => nomatch z) fun tk => ⟨.bl b, H, I.kept (t' := tk) fun _ _ z => z, rfl, q⟩
/-- e.f of an error held as a value -/
def tXo (K : PySem.W.Frag) (f : Str) (te : TE) : TE := fun σ H Q => te σ H fun x H1 => ∃ (a C : Addr) (fs : List (Str × V)) (v : V), x = .ref a ∧ EObj H1 a C (some fs) ∧ XfC K C ∧ PySem.W.findIn K (.ref C) f = some none ∧ fs.lookup f = some v ∧ Q v H1
theorem pe_xo {X : Cx} {e : Expr} {te : TE} {pos : Pos} {n : Str} (he : PE X e te) (hb : attributeBase e n X.env (eval e X.env) = eval e X.env := by rfl) : PE X (.Attribute e n pos) (tXo X.K n te) := by
  refine ⟨fun pins s σ H Q I h => ?_⟩
  refine attr_of hb (thn (he.run pins s σ H _ I h) fun u s1 hh => ?_)
  obtain ⟨x, H1, I1, rx, a, C, fs, v, ex, ⟨d, h1, h2⟩, T, hno, l, q⟩ := hh
  subst ex
  obtain rfl : u = Value.ref a := rx
  obtain ⟨t1, hg⟩ := exo_at I1.hok h1
  obtain ⟨mA, hns, hr⟩ := exd_at I1.hok h2
  obtain ⟨od, ho, hl⟩ := lookIn_ns hns
  obtain ⟨u, hu, ru⟩ := RelO.some_of (v := v) (o := mA n) (by rw [← l]; exact hr n)
  have J : PySem.W.InstAt s1.heap a _ C (some od) := ⟨hg, rfl, rfl, ho⟩
  exact HandSPX.exc_get I1.kIn J T.ga T.gg T.exC (PySem.W.findObj_own T.hdC hno rfl (by rw [hl, hu])) (handed_of ru) ⟨v, H1, I1.tok _, ru, q⟩
/-- C() as a value, C without an own __init__ -/
def tMk0O (C : Addr) : TE := fun _ H Q => ∀ a, H a = none → Q (.ref a) (upd H a (exo a C none))
theorem pe_mk0O {X : Cx} {C : Addr} {bmB : List Value} {B newId initId : String} {x : Str} {p pos : Pos} (F : ExcBaseFacts B newId initId bmB) (q : PySem.W.excIn X.K C bmB newId = true) (hg : Gl X x) (gC : X.mg x = some (.ref C)) (kC : PySem.W.keepIn X.K (.ref C) = true)
    (hdb : (x == ("__debug__" : Str)) = false := by decide) : PE X (.Call (.Name x p) [] [] pos) (tMk0O C) := by
  refine ⟨fun pins s σ H Q I h => ?_⟩
  refine wpAny_Call_Name_kw (ld_glob I hg gC ?_ hdb)
  refine PySem.W.callWith_K0 I.kIn kC ?_
  obtain ⟨bm, N, nm, qn, bs, hdct, sn, sub, ab, col, dd, k0, k1, k2, k3, k5, mN, hC, hN, hni, T⟩ := exc_obj I.kIn q
  refine wpAny_call_exc_subT F T hC hN hni (fun h' e hm => ?_) (Nat.zero_le _)
  obtain ⟨t1, he, _, _⟩ := hm.there
  exact ⟨.ref e, _, I.laidN (t' := s.toks) hm.keeps hm.new (I.hok.gone hm.new) (exo_ok he), rfl, h e (I.hok.gone hm.new)⟩
end
def topS (i : Nat) : Stmt := PySem.Challenge.pw_latticewish_k91_errors.main.body.getD i (.Pass ⟨0, 0, 0, 0⟩)
abbrev St__law_cells : Stmt := topS 16
abbrev N__law_cells : List Str := ["script", "mixed", "cell"]
theorem sc__law_cells : FnScope N__law_cells ["script"] (defScope St__law_cells) := ⟨rfl, rfl, rfl, by decide +kernel, rfl, by decide +kernel, by decide +kernel⟩
abbrev St__law_pick : Stmt := topS 17
abbrev N__law_pick : List Str := ["source", "many", "digit", "number"]
theorem sc__law_pick : FnScope N__law_pick ["source", "many"] (defScope St__law_pick) := ⟨rfl, rfl, rfl, by decide +kernel, rfl, by decide +kernel, by decide +kernel⟩
abbrev St__law_classes : Stmt := topS 18
abbrev N__law_classes : List Str := ["e", "found"]
theorem sc__law_classes : FnScope N__law_classes ["e"] (defScope St__law_classes) := ⟨rfl, rfl, rfl, by decide +kernel, rfl, by decide +kernel, by decide +kernel⟩
abbrev St_law : Stmt := topS 19
abbrev N_law : List Str := ["script", "state", "word", "count", "errors", "k", "j", "bases", "words"]
theorem sc_law : FnScope N_law ["script"] (defScope St_law) := ⟨rfl, rfl, rfl, by decide +kernel, rfl, by decide +kernel, by decide +kernel⟩
abbrev St_BadText_init : Stmt := inClass (topS 4) 0
abbrev N_BadText_init : List Str := ["self", "at"]
theorem sc_BadText_init : FnScopeK N_BadText_init ["self", "at"] (defScope St_BadText_init) := ⟨rfl, rfl, rfl, by decide +kernel, rfl, by decide +kernel, by decide +kernel, by decide +kernel⟩
abbrev St_BadName_init : Stmt := inClass (topS 5) 0
abbrev N_BadName_init : List Str := ["self", "name"]
theorem sc_BadName_init : FnScopeK N_BadName_init ["self", "name"] (defScope St_BadName_init) := ⟨rfl, rfl, rfl, by decide +kernel, rfl, by decide +kernel, by decide +kernel, by decide +kernel⟩
abbrev St_TwiceTold_init : Stmt := inClass (topS 6) 0
abbrev N_TwiceTold_init : List Str := ["self", "name"]
theorem sc_TwiceTold_init : FnScopeK N_TwiceTold_init ["self", "name"] (defScope St_TwiceTold_init) := ⟨rfl, rfl, rfl, by decide +kernel, rfl, by decide +kernel, by decide +kernel, by decide +kernel⟩
abbrev St_NotIrreducible_init : Stmt := inClass (topS 7) 0
abbrev N_NotIrreducible_init : List Str := ["self", "name"]
theorem sc_NotIrreducible_init : FnScopeK N_NotIrreducible_init ["self", "name"] (defScope St_NotIrreducible_init) := ⟨rfl, rfl, rfl, by decide +kernel, rfl, by decide +kernel, by decide +kernel, by decide +kernel⟩
abbrev St_InUse_init : Stmt := inClass (topS 9) 0
abbrev N_InUse_init : List Str := ["self", "name"]
theorem sc_InUse_init : FnScopeK N_InUse_init ["self", "name"] (defScope St_InUse_init) := ⟨rfl, rfl, rfl, by decide +kernel, rfl, by decide +kernel, by decide +kernel, by decide +kernel⟩
abbrev St_UnknownValue_init : Stmt := inClass (topS 11) 0
abbrev N_UnknownValue_init : List Str := ["self", "name"]
theorem sc_UnknownValue_init : FnScopeK N_UnknownValue_init ["self", "name"] (defScope St_UnknownValue_init) := ⟨rfl, rfl, rfl, by decide +kernel, rfl, by decide +kernel, by decide +kernel, by decide +kernel⟩
abbrev St_UnknownState_init : Stmt := inClass (topS 12) 0
abbrev N_UnknownState_init : List Str := ["self", "name"]
theorem sc_UnknownState_init : FnScopeK N_UnknownState_init ["self", "name"] (defScope St_UnknownState_init) := ⟨rfl, rfl, rfl, by decide +kernel, rfl, by decide +kernel, by decide +kernel, by decide +kernel⟩
abbrev St_UnboundName_init : Stmt := inClass (topS 13) 0
abbrev N_UnboundName_init : List Str := ["self", "name"]
theorem sc_UnboundName_init : FnScopeK N_UnboundName_init ["self", "name"] (defScope St_UnboundName_init) := ⟨rfl, rfl, rfl, by decide +kernel, rfl, by decide +kernel, by decide +kernel, by decide +kernel⟩
abbrev St_UnknownFormula_init : Stmt := inClass (topS 14) 0
abbrev N_UnknownFormula_init : List Str := ["self", "name"]
theorem sc_UnknownFormula_init : FnScopeK N_UnknownFormula_init ["self", "name"] (defScope St_UnknownFormula_init) := ⟨rfl, rfl, rfl, by decide +kernel, rfl, by decide +kernel, by decide +kernel, by decide +kernel⟩
abbrev PL : Program := PySem.Challenge.pw_latticewish_k91_errors
structure Tx (K : PySem.W.Frag) (mg : Str → Option Value) (W_ : World) where
  n_IndexError : mg "IndexError" = none
  n_KeyError : mg "KeyError" = none
  n_LookupError : mg "LookupError" = none
  n_ValueError : mg "ValueError" = none
  n_abs : mg "abs" = none
  n_int : mg "int" = none
  n_isinstance : mg "isinstance" = none
  n_len : mg "len" = none
  n_range : mg "range" = none
  n_super : mg "super" = none
  a__law_cells : Addr
  d__law_cells : FuncData
  F__law_cells : Fun K "_law_cells" "_law_cells" St__law_cells a__law_cells d__law_cells
  b__law_cells : Binds K d__law_cells ["script"] []
  g__law_cells : mg "_law_cells" = some (.ref a__law_cells)
  a__law_pick : Addr
  d__law_pick : FuncData
  F__law_pick : Fun K "_law_pick" "_law_pick" St__law_pick a__law_pick d__law_pick
  b__law_pick : Binds K d__law_pick ["source", "many"] []
  g__law_pick : mg "_law_pick" = some (.ref a__law_pick)
  a__law_classes : Addr
  d__law_classes : FuncData
  F__law_classes : Fun K "_law_classes" "_law_classes" St__law_classes a__law_classes d__law_classes
  b__law_classes : Binds K d__law_classes ["e"] []
  g__law_classes : mg "_law_classes" = some (.ref a__law_classes)
  a_law : Addr
  d_law : FuncData
  F_law : Fun K "law" "law" St_law a_law d_law
  b_law : Binds K d_law ["script"] []
  g_law : mg "law" = some (.ref a_law)
  a_LatticeError : Addr
  g_LatticeError : mg "LatticeError" = some (.ref a_LatticeError)
  a_BadLattice : Addr
  g_BadLattice : mg "BadLattice" = some (.ref a_BadLattice)
  a_MixedLattices : Addr
  g_MixedLattices : mg "MixedLattices" = some (.ref a_MixedLattices)
  a_BadMap : Addr
  g_BadMap : mg "BadMap" = some (.ref a_BadMap)
  a_BadText : Addr
  g_BadText : mg "BadText" = some (.ref a_BadText)
  a_BadName : Addr
  g_BadName : mg "BadName" = some (.ref a_BadName)
  a_TwiceTold : Addr
  g_TwiceTold : mg "TwiceTold" = some (.ref a_TwiceTold)
  a_NotIrreducible : Addr
  g_NotIrreducible : mg "NotIrreducible" = some (.ref a_NotIrreducible)
  a_InUse : Addr
  g_InUse : mg "InUse" = some (.ref a_InUse)
  a_NameMissing : Addr
  g_NameMissing : mg "NameMissing" = some (.ref a_NameMissing)
  a_UnknownValue : Addr
  g_UnknownValue : mg "UnknownValue" = some (.ref a_UnknownValue)
  a_UnknownState : Addr
  g_UnknownState : mg "UnknownState" = some (.ref a_UnknownState)
  a_UnboundName : Addr
  g_UnboundName : mg "UnboundName" = some (.ref a_UnboundName)
  a_UnknownFormula : Addr
  g_UnknownFormula : mg "UnknownFormula" = some (.ref a_UnknownFormula)
  x_LatticeError : OexG "ValueError.__new__" [.type "ValueError", .type "Exception", .type "BaseException", .type "object"] K a_LatticeError
  f_LatticeError : XfC K a_LatticeError
  q_LatticeError : PySem.W.excIn K a_LatticeError [.type "ValueError", .type "Exception", .type "BaseException", .type "object"] "ValueError.__new__" = true
  r_LatticeError : PySem.W.subIn K (.ref a_LatticeError) (.type "BaseException") = some true ∧ PySem.W.typeIn K (.ref a_LatticeError) = some (.type "type") ∧ PySem.W.keepIn K (.ref a_LatticeError) = true
  x_BadLattice : OexG "ValueError.__new__" [.type "ValueError", .type "Exception", .type "BaseException", .type "object"] K a_BadLattice
  f_BadLattice : XfC K a_BadLattice
  q_BadLattice : PySem.W.excIn K a_BadLattice [.type "ValueError", .type "Exception", .type "BaseException", .type "object"] "ValueError.__new__" = true
  r_BadLattice : PySem.W.subIn K (.ref a_BadLattice) (.type "BaseException") = some true ∧ PySem.W.typeIn K (.ref a_BadLattice) = some (.type "type") ∧ PySem.W.keepIn K (.ref a_BadLattice) = true
  xc_BadLattice : ExcC K a_BadLattice
  kx_BadLattice_BadLattice : PySem.W.kitOne K (.ref a_BadLattice) (.ref a_BadLattice) = some true
  kx_BadLattice_MixedLattices : PySem.W.kitOne K (.ref a_BadLattice) (.ref a_MixedLattices) = some false
  kx_BadLattice_BadMap : PySem.W.kitOne K (.ref a_BadLattice) (.ref a_BadMap) = some false
  kx_BadLattice_BadText : PySem.W.kitOne K (.ref a_BadLattice) (.ref a_BadText) = some false
  kx_BadLattice_BadName : PySem.W.kitOne K (.ref a_BadLattice) (.ref a_BadName) = some false
  kx_BadLattice_TwiceTold : PySem.W.kitOne K (.ref a_BadLattice) (.ref a_TwiceTold) = some false
  kx_BadLattice_NotIrreducible : PySem.W.kitOne K (.ref a_BadLattice) (.ref a_NotIrreducible) = some false
  kx_BadLattice_InUse : PySem.W.kitOne K (.ref a_BadLattice) (.ref a_InUse) = some false
  kx_BadLattice_UnknownValue : PySem.W.kitOne K (.ref a_BadLattice) (.ref a_UnknownValue) = some false
  kx_BadLattice_UnknownState : PySem.W.kitOne K (.ref a_BadLattice) (.ref a_UnknownState) = some false
  kx_BadLattice_UnboundName : PySem.W.kitOne K (.ref a_BadLattice) (.ref a_UnboundName) = some false
  kx_BadLattice_UnknownFormula : PySem.W.kitOne K (.ref a_BadLattice) (.ref a_UnknownFormula) = some false
  kx_BadLattice_LatticeError : PySem.W.kitOne K (.ref a_BadLattice) (.ref a_LatticeError) = some true
  kx_BadLattice_ValueError : PySem.W.kitOne K (.ref a_BadLattice) (.type "ValueError") = some true
  kx_BadLattice_NameMissing : PySem.W.kitOne K (.ref a_BadLattice) (.ref a_NameMissing) = some false
  kx_BadLattice_LookupError : PySem.W.kitOne K (.ref a_BadLattice) (.type "LookupError") = some false
  kx_BadLattice_KeyError : PySem.W.kitOne K (.ref a_BadLattice) (.type "KeyError") = some false
  kx_BadLattice_IndexError : PySem.W.kitOne K (.ref a_BadLattice) (.type "IndexError") = some false
  x_MixedLattices : OexG "ValueError.__new__" [.type "ValueError", .type "Exception", .type "BaseException", .type "object"] K a_MixedLattices
  f_MixedLattices : XfC K a_MixedLattices
  q_MixedLattices : PySem.W.excIn K a_MixedLattices [.type "ValueError", .type "Exception", .type "BaseException", .type "object"] "ValueError.__new__" = true
  r_MixedLattices : PySem.W.subIn K (.ref a_MixedLattices) (.type "BaseException") = some true ∧ PySem.W.typeIn K (.ref a_MixedLattices) = some (.type "type") ∧ PySem.W.keepIn K (.ref a_MixedLattices) = true
  xc_MixedLattices : ExcC K a_MixedLattices
  kx_MixedLattices_BadLattice : PySem.W.kitOne K (.ref a_MixedLattices) (.ref a_BadLattice) = some false
  kx_MixedLattices_MixedLattices : PySem.W.kitOne K (.ref a_MixedLattices) (.ref a_MixedLattices) = some true
  kx_MixedLattices_BadMap : PySem.W.kitOne K (.ref a_MixedLattices) (.ref a_BadMap) = some false
  kx_MixedLattices_BadText : PySem.W.kitOne K (.ref a_MixedLattices) (.ref a_BadText) = some false
  kx_MixedLattices_BadName : PySem.W.kitOne K (.ref a_MixedLattices) (.ref a_BadName) = some false
  kx_MixedLattices_TwiceTold : PySem.W.kitOne K (.ref a_MixedLattices) (.ref a_TwiceTold) = some false
  kx_MixedLattices_NotIrreducible : PySem.W.kitOne K (.ref a_MixedLattices) (.ref a_NotIrreducible) = some false
  kx_MixedLattices_InUse : PySem.W.kitOne K (.ref a_MixedLattices) (.ref a_InUse) = some false
  kx_MixedLattices_UnknownValue : PySem.W.kitOne K (.ref a_MixedLattices) (.ref a_UnknownValue) = some false
  kx_MixedLattices_UnknownState : PySem.W.kitOne K (.ref a_MixedLattices) (.ref a_UnknownState) = some false
  kx_MixedLattices_UnboundName : PySem.W.kitOne K (.ref a_MixedLattices) (.ref a_UnboundName) = some false
  kx_MixedLattices_UnknownFormula : PySem.W.kitOne K (.ref a_MixedLattices) (.ref a_UnknownFormula) = some false
  kx_MixedLattices_LatticeError : PySem.W.kitOne K (.ref a_MixedLattices) (.ref a_LatticeError) = some true
  kx_MixedLattices_ValueError : PySem.W.kitOne K (.ref a_MixedLattices) (.type "ValueError") = some true
  kx_MixedLattices_NameMissing : PySem.W.kitOne K (.ref a_MixedLattices) (.ref a_NameMissing) = some false
  kx_MixedLattices_LookupError : PySem.W.kitOne K (.ref a_MixedLattices) (.type "LookupError") = some false
  kx_MixedLattices_KeyError : PySem.W.kitOne K (.ref a_MixedLattices) (.type "KeyError") = some false
  kx_MixedLattices_IndexError : PySem.W.kitOne K (.ref a_MixedLattices) (.type "IndexError") = some false
  x_BadMap : OexG "ValueError.__new__" [.type "ValueError", .type "Exception", .type "BaseException", .type "object"] K a_BadMap
  f_BadMap : XfC K a_BadMap
  q_BadMap : PySem.W.excIn K a_BadMap [.type "ValueError", .type "Exception", .type "BaseException", .type "object"] "ValueError.__new__" = true
  r_BadMap : PySem.W.subIn K (.ref a_BadMap) (.type "BaseException") = some true ∧ PySem.W.typeIn K (.ref a_BadMap) = some (.type "type") ∧ PySem.W.keepIn K (.ref a_BadMap) = true
  xc_BadMap : ExcC K a_BadMap
  kx_BadMap_BadLattice : PySem.W.kitOne K (.ref a_BadMap) (.ref a_BadLattice) = some false
  kx_BadMap_MixedLattices : PySem.W.kitOne K (.ref a_BadMap) (.ref a_MixedLattices) = some false
  kx_BadMap_BadMap : PySem.W.kitOne K (.ref a_BadMap) (.ref a_BadMap) = some true
  kx_BadMap_BadText : PySem.W.kitOne K (.ref a_BadMap) (.ref a_BadText) = some false
  kx_BadMap_BadName : PySem.W.kitOne K (.ref a_BadMap) (.ref a_BadName) = some false
  kx_BadMap_TwiceTold : PySem.W.kitOne K (.ref a_BadMap) (.ref a_TwiceTold) = some false
  kx_BadMap_NotIrreducible : PySem.W.kitOne K (.ref a_BadMap) (.ref a_NotIrreducible) = some false
  kx_BadMap_InUse : PySem.W.kitOne K (.ref a_BadMap) (.ref a_InUse) = some false
  kx_BadMap_UnknownValue : PySem.W.kitOne K (.ref a_BadMap) (.ref a_UnknownValue) = some false
  kx_BadMap_UnknownState : PySem.W.kitOne K (.ref a_BadMap) (.ref a_UnknownState) = some false
  kx_BadMap_UnboundName : PySem.W.kitOne K (.ref a_BadMap) (.ref a_UnboundName) = some false
  kx_BadMap_UnknownFormula : PySem.W.kitOne K (.ref a_BadMap) (.ref a_UnknownFormula) = some false
  kx_BadMap_LatticeError : PySem.W.kitOne K (.ref a_BadMap) (.ref a_LatticeError) = some true
  kx_BadMap_ValueError : PySem.W.kitOne K (.ref a_BadMap) (.type "ValueError") = some true
  kx_BadMap_NameMissing : PySem.W.kitOne K (.ref a_BadMap) (.ref a_NameMissing) = some false
  kx_BadMap_LookupError : PySem.W.kitOne K (.ref a_BadMap) (.type "LookupError") = some false
  kx_BadMap_KeyError : PySem.W.kitOne K (.ref a_BadMap) (.type "KeyError") = some false
  kx_BadMap_IndexError : PySem.W.kitOne K (.ref a_BadMap) (.type "IndexError") = some false
  x_BadText : OexG "ValueError.__new__" [.type "ValueError", .type "Exception", .type "BaseException", .type "object"] K a_BadText
  f_BadText : XfC K a_BadText
  xc_BadText : ExcC K a_BadText
  kx_BadText_BadLattice : PySem.W.kitOne K (.ref a_BadText) (.ref a_BadLattice) = some false
  kx_BadText_MixedLattices : PySem.W.kitOne K (.ref a_BadText) (.ref a_MixedLattices) = some false
  kx_BadText_BadMap : PySem.W.kitOne K (.ref a_BadText) (.ref a_BadMap) = some false
  kx_BadText_BadText : PySem.W.kitOne K (.ref a_BadText) (.ref a_BadText) = some true
  kx_BadText_BadName : PySem.W.kitOne K (.ref a_BadText) (.ref a_BadName) = some false
  kx_BadText_TwiceTold : PySem.W.kitOne K (.ref a_BadText) (.ref a_TwiceTold) = some false
  kx_BadText_NotIrreducible : PySem.W.kitOne K (.ref a_BadText) (.ref a_NotIrreducible) = some false
  kx_BadText_InUse : PySem.W.kitOne K (.ref a_BadText) (.ref a_InUse) = some false
  kx_BadText_UnknownValue : PySem.W.kitOne K (.ref a_BadText) (.ref a_UnknownValue) = some false
  kx_BadText_UnknownState : PySem.W.kitOne K (.ref a_BadText) (.ref a_UnknownState) = some false
  kx_BadText_UnboundName : PySem.W.kitOne K (.ref a_BadText) (.ref a_UnboundName) = some false
  kx_BadText_UnknownFormula : PySem.W.kitOne K (.ref a_BadText) (.ref a_UnknownFormula) = some false
  kx_BadText_LatticeError : PySem.W.kitOne K (.ref a_BadText) (.ref a_LatticeError) = some true
  kx_BadText_ValueError : PySem.W.kitOne K (.ref a_BadText) (.type "ValueError") = some true
  kx_BadText_NameMissing : PySem.W.kitOne K (.ref a_BadText) (.ref a_NameMissing) = some false
  kx_BadText_LookupError : PySem.W.kitOne K (.ref a_BadText) (.type "LookupError") = some false
  kx_BadText_KeyError : PySem.W.kitOne K (.ref a_BadText) (.type "KeyError") = some false
  kx_BadText_IndexError : PySem.W.kitOne K (.ref a_BadText) (.type "IndexError") = some false
  a_BadText_init : Addr
  d_BadText_init : FuncData
  F_BadText_init : FunK K PL "__init__" "BadText.__init__" St_BadText_init a_BadText_init d_BadText_init a_BadText
  b_BadText_init : Binds K d_BadText_init ["self", "at"] []
  i_BadText : PySem.W.findIn K (.ref a_BadText) "__init__" = some (some (.ref a_BadText_init))
  t_BadText : PySem.W.typeIn K (.ref a_BadText_init) = some (.type "function")
  mr_BadText : PySem.W.mroIn K a_BadText (.ref a_BadText) = some true
  su_BadText : PySem.W.ks_superIn K a_BadText a_BadText "__init__" = some (some (.builtin "ValueError.__init__"))
  ci_BadText : ∃ cd, PySem.W.clsIn K a_BadText = some cd
  na_BadText : PySem.W.findIn K (.ref a_BadText) "at" = some none
  x_BadName : OexG "ValueError.__new__" [.type "ValueError", .type "Exception", .type "BaseException", .type "object"] K a_BadName
  f_BadName : XfC K a_BadName
  xc_BadName : ExcC K a_BadName
  kx_BadName_BadLattice : PySem.W.kitOne K (.ref a_BadName) (.ref a_BadLattice) = some false
  kx_BadName_MixedLattices : PySem.W.kitOne K (.ref a_BadName) (.ref a_MixedLattices) = some false
  kx_BadName_BadMap : PySem.W.kitOne K (.ref a_BadName) (.ref a_BadMap) = some false
  kx_BadName_BadText : PySem.W.kitOne K (.ref a_BadName) (.ref a_BadText) = some false
  kx_BadName_BadName : PySem.W.kitOne K (.ref a_BadName) (.ref a_BadName) = some true
  kx_BadName_TwiceTold : PySem.W.kitOne K (.ref a_BadName) (.ref a_TwiceTold) = some false
  kx_BadName_NotIrreducible : PySem.W.kitOne K (.ref a_BadName) (.ref a_NotIrreducible) = some false
  kx_BadName_InUse : PySem.W.kitOne K (.ref a_BadName) (.ref a_InUse) = some false
  kx_BadName_UnknownValue : PySem.W.kitOne K (.ref a_BadName) (.ref a_UnknownValue) = some false
  kx_BadName_UnknownState : PySem.W.kitOne K (.ref a_BadName) (.ref a_UnknownState) = some false
  kx_BadName_UnboundName : PySem.W.kitOne K (.ref a_BadName) (.ref a_UnboundName) = some false
  kx_BadName_UnknownFormula : PySem.W.kitOne K (.ref a_BadName) (.ref a_UnknownFormula) = some false
  kx_BadName_LatticeError : PySem.W.kitOne K (.ref a_BadName) (.ref a_LatticeError) = some true
  kx_BadName_ValueError : PySem.W.kitOne K (.ref a_BadName) (.type "ValueError") = some true
  kx_BadName_NameMissing : PySem.W.kitOne K (.ref a_BadName) (.ref a_NameMissing) = some false
  kx_BadName_LookupError : PySem.W.kitOne K (.ref a_BadName) (.type "LookupError") = some false
  kx_BadName_KeyError : PySem.W.kitOne K (.ref a_BadName) (.type "KeyError") = some false
  kx_BadName_IndexError : PySem.W.kitOne K (.ref a_BadName) (.type "IndexError") = some false
  a_BadName_init : Addr
  d_BadName_init : FuncData
  F_BadName_init : FunK K PL "__init__" "BadName.__init__" St_BadName_init a_BadName_init d_BadName_init a_BadName
  b_BadName_init : Binds K d_BadName_init ["self", "name"] []
  i_BadName : PySem.W.findIn K (.ref a_BadName) "__init__" = some (some (.ref a_BadName_init))
  t_BadName : PySem.W.typeIn K (.ref a_BadName_init) = some (.type "function")
  mr_BadName : PySem.W.mroIn K a_BadName (.ref a_BadName) = some true
  su_BadName : PySem.W.ks_superIn K a_BadName a_BadName "__init__" = some (some (.builtin "ValueError.__init__"))
  ci_BadName : ∃ cd, PySem.W.clsIn K a_BadName = some cd
  na_BadName : PySem.W.findIn K (.ref a_BadName) "name" = some none
  x_TwiceTold : OexG "ValueError.__new__" [.type "ValueError", .type "Exception", .type "BaseException", .type "object"] K a_TwiceTold
  f_TwiceTold : XfC K a_TwiceTold
  xc_TwiceTold : ExcC K a_TwiceTold
  kx_TwiceTold_BadLattice : PySem.W.kitOne K (.ref a_TwiceTold) (.ref a_BadLattice) = some false
  kx_TwiceTold_MixedLattices : PySem.W.kitOne K (.ref a_TwiceTold) (.ref a_MixedLattices) = some false
  kx_TwiceTold_BadMap : PySem.W.kitOne K (.ref a_TwiceTold) (.ref a_BadMap) = some false
  kx_TwiceTold_BadText : PySem.W.kitOne K (.ref a_TwiceTold) (.ref a_BadText) = some false
  kx_TwiceTold_BadName : PySem.W.kitOne K (.ref a_TwiceTold) (.ref a_BadName) = some false
  kx_TwiceTold_TwiceTold : PySem.W.kitOne K (.ref a_TwiceTold) (.ref a_TwiceTold) = some true
  kx_TwiceTold_NotIrreducible : PySem.W.kitOne K (.ref a_TwiceTold) (.ref a_NotIrreducible) = some false
  kx_TwiceTold_InUse : PySem.W.kitOne K (.ref a_TwiceTold) (.ref a_InUse) = some false
  kx_TwiceTold_UnknownValue : PySem.W.kitOne K (.ref a_TwiceTold) (.ref a_UnknownValue) = some false
  kx_TwiceTold_UnknownState : PySem.W.kitOne K (.ref a_TwiceTold) (.ref a_UnknownState) = some false
  kx_TwiceTold_UnboundName : PySem.W.kitOne K (.ref a_TwiceTold) (.ref a_UnboundName) = some false
  kx_TwiceTold_UnknownFormula : PySem.W.kitOne K (.ref a_TwiceTold) (.ref a_UnknownFormula) = some false
  kx_TwiceTold_LatticeError : PySem.W.kitOne K (.ref a_TwiceTold) (.ref a_LatticeError) = some true
  kx_TwiceTold_ValueError : PySem.W.kitOne K (.ref a_TwiceTold) (.type "ValueError") = some true
  kx_TwiceTold_NameMissing : PySem.W.kitOne K (.ref a_TwiceTold) (.ref a_NameMissing) = some false
  kx_TwiceTold_LookupError : PySem.W.kitOne K (.ref a_TwiceTold) (.type "LookupError") = some false
  kx_TwiceTold_KeyError : PySem.W.kitOne K (.ref a_TwiceTold) (.type "KeyError") = some false
  kx_TwiceTold_IndexError : PySem.W.kitOne K (.ref a_TwiceTold) (.type "IndexError") = some false
  a_TwiceTold_init : Addr
  d_TwiceTold_init : FuncData
  F_TwiceTold_init : FunK K PL "__init__" "TwiceTold.__init__" St_TwiceTold_init a_TwiceTold_init d_TwiceTold_init a_TwiceTold
  b_TwiceTold_init : Binds K d_TwiceTold_init ["self", "name"] []
  i_TwiceTold : PySem.W.findIn K (.ref a_TwiceTold) "__init__" = some (some (.ref a_TwiceTold_init))
  t_TwiceTold : PySem.W.typeIn K (.ref a_TwiceTold_init) = some (.type "function")
  mr_TwiceTold : PySem.W.mroIn K a_TwiceTold (.ref a_TwiceTold) = some true
  su_TwiceTold : PySem.W.ks_superIn K a_TwiceTold a_TwiceTold "__init__" = some (some (.builtin "ValueError.__init__"))
  ci_TwiceTold : ∃ cd, PySem.W.clsIn K a_TwiceTold = some cd
  na_TwiceTold : PySem.W.findIn K (.ref a_TwiceTold) "name" = some none
  x_NotIrreducible : OexG "ValueError.__new__" [.type "ValueError", .type "Exception", .type "BaseException", .type "object"] K a_NotIrreducible
  f_NotIrreducible : XfC K a_NotIrreducible
  xc_NotIrreducible : ExcC K a_NotIrreducible
  kx_NotIrreducible_BadLattice : PySem.W.kitOne K (.ref a_NotIrreducible) (.ref a_BadLattice) = some false
  kx_NotIrreducible_MixedLattices : PySem.W.kitOne K (.ref a_NotIrreducible) (.ref a_MixedLattices) = some false
  kx_NotIrreducible_BadMap : PySem.W.kitOne K (.ref a_NotIrreducible) (.ref a_BadMap) = some false
  kx_NotIrreducible_BadText : PySem.W.kitOne K (.ref a_NotIrreducible) (.ref a_BadText) = some false
  kx_NotIrreducible_BadName : PySem.W.kitOne K (.ref a_NotIrreducible) (.ref a_BadName) = some false
  kx_NotIrreducible_TwiceTold : PySem.W.kitOne K (.ref a_NotIrreducible) (.ref a_TwiceTold) = some false
  kx_NotIrreducible_NotIrreducible : PySem.W.kitOne K (.ref a_NotIrreducible) (.ref a_NotIrreducible) = some true
  kx_NotIrreducible_InUse : PySem.W.kitOne K (.ref a_NotIrreducible) (.ref a_InUse) = some false
  kx_NotIrreducible_UnknownValue : PySem.W.kitOne K (.ref a_NotIrreducible) (.ref a_UnknownValue) = some false
  kx_NotIrreducible_UnknownState : PySem.W.kitOne K (.ref a_NotIrreducible) (.ref a_UnknownState) = some false
  kx_NotIrreducible_UnboundName : PySem.W.kitOne K (.ref a_NotIrreducible) (.ref a_UnboundName) = some false
  kx_NotIrreducible_UnknownFormula : PySem.W.kitOne K (.ref a_NotIrreducible) (.ref a_UnknownFormula) = some false
  kx_NotIrreducible_LatticeError : PySem.W.kitOne K (.ref a_NotIrreducible) (.ref a_LatticeError) = some true
  kx_NotIrreducible_ValueError : PySem.W.kitOne K (.ref a_NotIrreducible) (.type "ValueError") = some true
  kx_NotIrreducible_NameMissing : PySem.W.kitOne K (.ref a_NotIrreducible) (.ref a_NameMissing) = some false
  kx_NotIrreducible_LookupError : PySem.W.kitOne K (.ref a_NotIrreducible) (.type "LookupError") = some false
  kx_NotIrreducible_KeyError : PySem.W.kitOne K (.ref a_NotIrreducible) (.type "KeyError") = some false
  kx_NotIrreducible_IndexError : PySem.W.kitOne K (.ref a_NotIrreducible) (.type "IndexError") = some false
  a_NotIrreducible_init : Addr
  d_NotIrreducible_init : FuncData
  F_NotIrreducible_init : FunK K PL "__init__" "NotIrreducible.__init__" St_NotIrreducible_init a_NotIrreducible_init d_NotIrreducible_init a_NotIrreducible
  b_NotIrreducible_init : Binds K d_NotIrreducible_init ["self", "name"] []
  i_NotIrreducible : PySem.W.findIn K (.ref a_NotIrreducible) "__init__" = some (some (.ref a_NotIrreducible_init))
  t_NotIrreducible : PySem.W.typeIn K (.ref a_NotIrreducible_init) = some (.type "function")
  mr_NotIrreducible : PySem.W.mroIn K a_NotIrreducible (.ref a_NotIrreducible) = some true
  su_NotIrreducible : PySem.W.ks_superIn K a_NotIrreducible a_NotIrreducible "__init__" = some (some (.builtin "ValueError.__init__"))
  ci_NotIrreducible : ∃ cd, PySem.W.clsIn K a_NotIrreducible = some cd
  na_NotIrreducible : PySem.W.findIn K (.ref a_NotIrreducible) "name" = some none
  x_InUse : OexG "ValueError.__new__" [.type "ValueError", .type "Exception", .type "BaseException", .type "object"] K a_InUse
  f_InUse : XfC K a_InUse
  xc_InUse : ExcC K a_InUse
  kx_InUse_BadLattice : PySem.W.kitOne K (.ref a_InUse) (.ref a_BadLattice) = some false
  kx_InUse_MixedLattices : PySem.W.kitOne K (.ref a_InUse) (.ref a_MixedLattices) = some false
  kx_InUse_BadMap : PySem.W.kitOne K (.ref a_InUse) (.ref a_BadMap) = some false
  kx_InUse_BadText : PySem.W.kitOne K (.ref a_InUse) (.ref a_BadText) = some false
  kx_InUse_BadName : PySem.W.kitOne K (.ref a_InUse) (.ref a_BadName) = some false
  kx_InUse_TwiceTold : PySem.W.kitOne K (.ref a_InUse) (.ref a_TwiceTold) = some false
  kx_InUse_NotIrreducible : PySem.W.kitOne K (.ref a_InUse) (.ref a_NotIrreducible) = some false
  kx_InUse_InUse : PySem.W.kitOne K (.ref a_InUse) (.ref a_InUse) = some true
  kx_InUse_UnknownValue : PySem.W.kitOne K (.ref a_InUse) (.ref a_UnknownValue) = some false
  kx_InUse_UnknownState : PySem.W.kitOne K (.ref a_InUse) (.ref a_UnknownState) = some false
  kx_InUse_UnboundName : PySem.W.kitOne K (.ref a_InUse) (.ref a_UnboundName) = some false
  kx_InUse_UnknownFormula : PySem.W.kitOne K (.ref a_InUse) (.ref a_UnknownFormula) = some false
  kx_InUse_LatticeError : PySem.W.kitOne K (.ref a_InUse) (.ref a_LatticeError) = some true
  kx_InUse_ValueError : PySem.W.kitOne K (.ref a_InUse) (.type "ValueError") = some true
  kx_InUse_NameMissing : PySem.W.kitOne K (.ref a_InUse) (.ref a_NameMissing) = some false
  kx_InUse_LookupError : PySem.W.kitOne K (.ref a_InUse) (.type "LookupError") = some false
  kx_InUse_KeyError : PySem.W.kitOne K (.ref a_InUse) (.type "KeyError") = some false
  kx_InUse_IndexError : PySem.W.kitOne K (.ref a_InUse) (.type "IndexError") = some false
  a_InUse_init : Addr
  d_InUse_init : FuncData
  F_InUse_init : FunK K PL "__init__" "InUse.__init__" St_InUse_init a_InUse_init d_InUse_init a_InUse
  b_InUse_init : Binds K d_InUse_init ["self", "name"] []
  i_InUse : PySem.W.findIn K (.ref a_InUse) "__init__" = some (some (.ref a_InUse_init))
  t_InUse : PySem.W.typeIn K (.ref a_InUse_init) = some (.type "function")
  mr_InUse : PySem.W.mroIn K a_InUse (.ref a_InUse) = some true
  su_InUse : PySem.W.ks_superIn K a_InUse a_InUse "__init__" = some (some (.builtin "ValueError.__init__"))
  ci_InUse : ∃ cd, PySem.W.clsIn K a_InUse = some cd
  na_InUse : PySem.W.findIn K (.ref a_InUse) "name" = some none
  x_NameMissing : OexG "LookupError.__new__" [.type "LookupError", .type "Exception", .type "BaseException", .type "object"] K a_NameMissing
  f_NameMissing : XfC K a_NameMissing
  q_NameMissing : PySem.W.excIn K a_NameMissing [.type "LookupError", .type "Exception", .type "BaseException", .type "object"] "LookupError.__new__" = true
  r_NameMissing : PySem.W.subIn K (.ref a_NameMissing) (.type "BaseException") = some true ∧ PySem.W.typeIn K (.ref a_NameMissing) = some (.type "type") ∧ PySem.W.keepIn K (.ref a_NameMissing) = true
  x_UnknownValue : OexG "LookupError.__new__" [.type "LookupError", .type "Exception", .type "BaseException", .type "object"] K a_UnknownValue
  f_UnknownValue : XfC K a_UnknownValue
  xc_UnknownValue : ExcC K a_UnknownValue
  kx_UnknownValue_BadLattice : PySem.W.kitOne K (.ref a_UnknownValue) (.ref a_BadLattice) = some false
  kx_UnknownValue_MixedLattices : PySem.W.kitOne K (.ref a_UnknownValue) (.ref a_MixedLattices) = some false
  kx_UnknownValue_BadMap : PySem.W.kitOne K (.ref a_UnknownValue) (.ref a_BadMap) = some false
  kx_UnknownValue_BadText : PySem.W.kitOne K (.ref a_UnknownValue) (.ref a_BadText) = some false
  kx_UnknownValue_BadName : PySem.W.kitOne K (.ref a_UnknownValue) (.ref a_BadName) = some false
  kx_UnknownValue_TwiceTold : PySem.W.kitOne K (.ref a_UnknownValue) (.ref a_TwiceTold) = some false
  kx_UnknownValue_NotIrreducible : PySem.W.kitOne K (.ref a_UnknownValue) (.ref a_NotIrreducible) = some false
  kx_UnknownValue_InUse : PySem.W.kitOne K (.ref a_UnknownValue) (.ref a_InUse) = some false
  kx_UnknownValue_UnknownValue : PySem.W.kitOne K (.ref a_UnknownValue) (.ref a_UnknownValue) = some true
  kx_UnknownValue_UnknownState : PySem.W.kitOne K (.ref a_UnknownValue) (.ref a_UnknownState) = some false
  kx_UnknownValue_UnboundName : PySem.W.kitOne K (.ref a_UnknownValue) (.ref a_UnboundName) = some false
  kx_UnknownValue_UnknownFormula : PySem.W.kitOne K (.ref a_UnknownValue) (.ref a_UnknownFormula) = some false
  kx_UnknownValue_LatticeError : PySem.W.kitOne K (.ref a_UnknownValue) (.ref a_LatticeError) = some false
  kx_UnknownValue_ValueError : PySem.W.kitOne K (.ref a_UnknownValue) (.type "ValueError") = some false
  kx_UnknownValue_NameMissing : PySem.W.kitOne K (.ref a_UnknownValue) (.ref a_NameMissing) = some true
  kx_UnknownValue_LookupError : PySem.W.kitOne K (.ref a_UnknownValue) (.type "LookupError") = some true
  kx_UnknownValue_KeyError : PySem.W.kitOne K (.ref a_UnknownValue) (.type "KeyError") = some false
  kx_UnknownValue_IndexError : PySem.W.kitOne K (.ref a_UnknownValue) (.type "IndexError") = some false
  a_UnknownValue_init : Addr
  d_UnknownValue_init : FuncData
  F_UnknownValue_init : FunK K PL "__init__" "UnknownValue.__init__" St_UnknownValue_init a_UnknownValue_init d_UnknownValue_init a_UnknownValue
  b_UnknownValue_init : Binds K d_UnknownValue_init ["self", "name"] []
  i_UnknownValue : PySem.W.findIn K (.ref a_UnknownValue) "__init__" = some (some (.ref a_UnknownValue_init))
  t_UnknownValue : PySem.W.typeIn K (.ref a_UnknownValue_init) = some (.type "function")
  mr_UnknownValue : PySem.W.mroIn K a_UnknownValue (.ref a_UnknownValue) = some true
  su_UnknownValue : PySem.W.ks_superIn K a_UnknownValue a_UnknownValue "__init__" = some (some (.builtin "LookupError.__init__"))
  ci_UnknownValue : ∃ cd, PySem.W.clsIn K a_UnknownValue = some cd
  na_UnknownValue : PySem.W.findIn K (.ref a_UnknownValue) "name" = some none
  x_UnknownState : OexG "LookupError.__new__" [.type "LookupError", .type "Exception", .type "BaseException", .type "object"] K a_UnknownState
  f_UnknownState : XfC K a_UnknownState
  xc_UnknownState : ExcC K a_UnknownState
  kx_UnknownState_BadLattice : PySem.W.kitOne K (.ref a_UnknownState) (.ref a_BadLattice) = some false
  kx_UnknownState_MixedLattices : PySem.W.kitOne K (.ref a_UnknownState) (.ref a_MixedLattices) = some false
  kx_UnknownState_BadMap : PySem.W.kitOne K (.ref a_UnknownState) (.ref a_BadMap) = some false
  kx_UnknownState_BadText : PySem.W.kitOne K (.ref a_UnknownState) (.ref a_BadText) = some false
  kx_UnknownState_BadName : PySem.W.kitOne K (.ref a_UnknownState) (.ref a_BadName) = some false
  kx_UnknownState_TwiceTold : PySem.W.kitOne K (.ref a_UnknownState) (.ref a_TwiceTold) = some false
  kx_UnknownState_NotIrreducible : PySem.W.kitOne K (.ref a_UnknownState) (.ref a_NotIrreducible) = some false
  kx_UnknownState_InUse : PySem.W.kitOne K (.ref a_UnknownState) (.ref a_InUse) = some false
  kx_UnknownState_UnknownValue : PySem.W.kitOne K (.ref a_UnknownState) (.ref a_UnknownValue) = some false
  kx_UnknownState_UnknownState : PySem.W.kitOne K (.ref a_UnknownState) (.ref a_UnknownState) = some true
  kx_UnknownState_UnboundName : PySem.W.kitOne K (.ref a_UnknownState) (.ref a_UnboundName) = some false
  kx_UnknownState_UnknownFormula : PySem.W.kitOne K (.ref a_UnknownState) (.ref a_UnknownFormula) = some false
  kx_UnknownState_LatticeError : PySem.W.kitOne K (.ref a_UnknownState) (.ref a_LatticeError) = some false
  kx_UnknownState_ValueError : PySem.W.kitOne K (.ref a_UnknownState) (.type "ValueError") = some false
  kx_UnknownState_NameMissing : PySem.W.kitOne K (.ref a_UnknownState) (.ref a_NameMissing) = some true
  kx_UnknownState_LookupError : PySem.W.kitOne K (.ref a_UnknownState) (.type "LookupError") = some true
  kx_UnknownState_KeyError : PySem.W.kitOne K (.ref a_UnknownState) (.type "KeyError") = some false
  kx_UnknownState_IndexError : PySem.W.kitOne K (.ref a_UnknownState) (.type "IndexError") = some false
  a_UnknownState_init : Addr
  d_UnknownState_init : FuncData
  F_UnknownState_init : FunK K PL "__init__" "UnknownState.__init__" St_UnknownState_init a_UnknownState_init d_UnknownState_init a_UnknownState
  b_UnknownState_init : Binds K d_UnknownState_init ["self", "name"] []
  i_UnknownState : PySem.W.findIn K (.ref a_UnknownState) "__init__" = some (some (.ref a_UnknownState_init))
  t_UnknownState : PySem.W.typeIn K (.ref a_UnknownState_init) = some (.type "function")
  mr_UnknownState : PySem.W.mroIn K a_UnknownState (.ref a_UnknownState) = some true
  su_UnknownState : PySem.W.ks_superIn K a_UnknownState a_UnknownState "__init__" = some (some (.builtin "LookupError.__init__"))
  ci_UnknownState : ∃ cd, PySem.W.clsIn K a_UnknownState = some cd
  na_UnknownState : PySem.W.findIn K (.ref a_UnknownState) "name" = some none
  x_UnboundName : OexG "LookupError.__new__" [.type "LookupError", .type "Exception", .type "BaseException", .type "object"] K a_UnboundName
  f_UnboundName : XfC K a_UnboundName
  xc_UnboundName : ExcC K a_UnboundName
  kx_UnboundName_BadLattice : PySem.W.kitOne K (.ref a_UnboundName) (.ref a_BadLattice) = some false
  kx_UnboundName_MixedLattices : PySem.W.kitOne K (.ref a_UnboundName) (.ref a_MixedLattices) = some false
  kx_UnboundName_BadMap : PySem.W.kitOne K (.ref a_UnboundName) (.ref a_BadMap) = some false
  kx_UnboundName_BadText : PySem.W.kitOne K (.ref a_UnboundName) (.ref a_BadText) = some false
  kx_UnboundName_BadName : PySem.W.kitOne K (.ref a_UnboundName) (.ref a_BadName) = some false
  kx_UnboundName_TwiceTold : PySem.W.kitOne K (.ref a_UnboundName) (.ref a_TwiceTold) = some false
  kx_UnboundName_NotIrreducible : PySem.W.kitOne K (.ref a_UnboundName) (.ref a_NotIrreducible) = some false
  kx_UnboundName_InUse : PySem.W.kitOne K (.ref a_UnboundName) (.ref a_InUse) = some false
  kx_UnboundName_UnknownValue : PySem.W.kitOne K (.ref a_UnboundName) (.ref a_UnknownValue) = some false
  kx_UnboundName_UnknownState : PySem.W.kitOne K (.ref a_UnboundName) (.ref a_UnknownState) = some false
  kx_UnboundName_UnboundName : PySem.W.kitOne K (.ref a_UnboundName) (.ref a_UnboundName) = some true
  kx_UnboundName_UnknownFormula : PySem.W.kitOne K (.ref a_UnboundName) (.ref a_UnknownFormula) = some false
  kx_UnboundName_LatticeError : PySem.W.kitOne K (.ref a_UnboundName) (.ref a_LatticeError) = some false
  kx_UnboundName_ValueError : PySem.W.kitOne K (.ref a_UnboundName) (.type "ValueError") = some false
  kx_UnboundName_NameMissing : PySem.W.kitOne K (.ref a_UnboundName) (.ref a_NameMissing) = some true
  kx_UnboundName_LookupError : PySem.W.kitOne K (.ref a_UnboundName) (.type "LookupError") = some true
  kx_UnboundName_KeyError : PySem.W.kitOne K (.ref a_UnboundName) (.type "KeyError") = some false
  kx_UnboundName_IndexError : PySem.W.kitOne K (.ref a_UnboundName) (.type "IndexError") = some false
  a_UnboundName_init : Addr
  d_UnboundName_init : FuncData
  F_UnboundName_init : FunK K PL "__init__" "UnboundName.__init__" St_UnboundName_init a_UnboundName_init d_UnboundName_init a_UnboundName
  b_UnboundName_init : Binds K d_UnboundName_init ["self", "name"] []
  i_UnboundName : PySem.W.findIn K (.ref a_UnboundName) "__init__" = some (some (.ref a_UnboundName_init))
  t_UnboundName : PySem.W.typeIn K (.ref a_UnboundName_init) = some (.type "function")
  mr_UnboundName : PySem.W.mroIn K a_UnboundName (.ref a_UnboundName) = some true
  su_UnboundName : PySem.W.ks_superIn K a_UnboundName a_UnboundName "__init__" = some (some (.builtin "LookupError.__init__"))
  ci_UnboundName : ∃ cd, PySem.W.clsIn K a_UnboundName = some cd
  na_UnboundName : PySem.W.findIn K (.ref a_UnboundName) "name" = some none
  x_UnknownFormula : OexG "LookupError.__new__" [.type "LookupError", .type "Exception", .type "BaseException", .type "object"] K a_UnknownFormula
  f_UnknownFormula : XfC K a_UnknownFormula
  xc_UnknownFormula : ExcC K a_UnknownFormula
  kx_UnknownFormula_BadLattice : PySem.W.kitOne K (.ref a_UnknownFormula) (.ref a_BadLattice) = some false
  kx_UnknownFormula_MixedLattices : PySem.W.kitOne K (.ref a_UnknownFormula) (.ref a_MixedLattices) = some false
  kx_UnknownFormula_BadMap : PySem.W.kitOne K (.ref a_UnknownFormula) (.ref a_BadMap) = some false
  kx_UnknownFormula_BadText : PySem.W.kitOne K (.ref a_UnknownFormula) (.ref a_BadText) = some false
  kx_UnknownFormula_BadName : PySem.W.kitOne K (.ref a_UnknownFormula) (.ref a_BadName) = some false
  kx_UnknownFormula_TwiceTold : PySem.W.kitOne K (.ref a_UnknownFormula) (.ref a_TwiceTold) = some false
  kx_UnknownFormula_NotIrreducible : PySem.W.kitOne K (.ref a_UnknownFormula) (.ref a_NotIrreducible) = some false
  kx_UnknownFormula_InUse : PySem.W.kitOne K (.ref a_UnknownFormula) (.ref a_InUse) = some false
  kx_UnknownFormula_UnknownValue : PySem.W.kitOne K (.ref a_UnknownFormula) (.ref a_UnknownValue) = some false
  kx_UnknownFormula_UnknownState : PySem.W.kitOne K (.ref a_UnknownFormula) (.ref a_UnknownState) = some false
  kx_UnknownFormula_UnboundName : PySem.W.kitOne K (.ref a_UnknownFormula) (.ref a_UnboundName) = some false
  kx_UnknownFormula_UnknownFormula : PySem.W.kitOne K (.ref a_UnknownFormula) (.ref a_UnknownFormula) = some true
  kx_UnknownFormula_LatticeError : PySem.W.kitOne K (.ref a_UnknownFormula) (.ref a_LatticeError) = some false
  kx_UnknownFormula_ValueError : PySem.W.kitOne K (.ref a_UnknownFormula) (.type "ValueError") = some false
  kx_UnknownFormula_NameMissing : PySem.W.kitOne K (.ref a_UnknownFormula) (.ref a_NameMissing) = some true
  kx_UnknownFormula_LookupError : PySem.W.kitOne K (.ref a_UnknownFormula) (.type "LookupError") = some true
  kx_UnknownFormula_KeyError : PySem.W.kitOne K (.ref a_UnknownFormula) (.type "KeyError") = some false
  kx_UnknownFormula_IndexError : PySem.W.kitOne K (.ref a_UnknownFormula) (.type "IndexError") = some false
  a_UnknownFormula_init : Addr
  d_UnknownFormula_init : FuncData
  F_UnknownFormula_init : FunK K PL "__init__" "UnknownFormula.__init__" St_UnknownFormula_init a_UnknownFormula_init d_UnknownFormula_init a_UnknownFormula
  b_UnknownFormula_init : Binds K d_UnknownFormula_init ["self", "name"] []
  i_UnknownFormula : PySem.W.findIn K (.ref a_UnknownFormula) "__init__" = some (some (.ref a_UnknownFormula_init))
  t_UnknownFormula : PySem.W.typeIn K (.ref a_UnknownFormula_init) = some (.type "function")
  mr_UnknownFormula : PySem.W.mroIn K a_UnknownFormula (.ref a_UnknownFormula) = some true
  su_UnknownFormula : PySem.W.ks_superIn K a_UnknownFormula a_UnknownFormula "__init__" = some (some (.builtin "LookupError.__init__"))
  ci_UnknownFormula : ∃ cd, PySem.W.clsIn K a_UnknownFormula = some cd
  na_UnknownFormula : PySem.W.findIn K (.ref a_UnknownFormula) "name" = some none
  st_any : PySem.W.nsIn K PySem.cStatics "thirdparty.any" = some none
def spLaw (K : PySem.W.Frag) : Sp := fun vs H Q _ => ∃ (a : Addr) (ns : List Int), vs = [.ref a] ∧ SqL K H a (ns.map V.int) ∧ ns.length ≤ 63 ∧ ∀ H', Q (.bl true) H'
theorem all_mk {l : PySem.W.OpenLaw} {W_ : World} {K : PySem.W.Frag} {h : Heap} {mg : Str → Option Value} {fa : Addr} (X : K.In h) (G : h.Ns mainGlobals mg) (hfa : mg "law" = some (.ref fa)) (F : ∀ (T : Tx K mg W_) (base : Heap), FnOk PL W_ K mg base L2.CX0 40 T.a_law T.d_law ["script"] (spLaw K))
    {f__law_cells f__law_pick f__law_classes f_law f_LatticeError f_BadLattice f_MixedLattices f_BadMap f_BadText f_BadName f_TwiceTold f_NotIrreducible f_InUse f_NameMissing f_UnknownValue f_UnknownState f_UnboundName f_UnknownFormula f_BadText_init cda_BadText_init cc_BadText_init f_BadName_init cda_BadName_init cc_BadName_init f_TwiceTold_init cda_TwiceTold_init cc_TwiceTold_init f_NotIrreducible_init cda_NotIrreducible_init cc_NotIrreducible_init f_InUse_init cda_InUse_init cc_InUse_init f_UnknownValue_init cda_UnknownValue_init cc_UnknownValue_init f_UnknownState_init cda_UnknownState_init cc_UnknownState_init f_UnboundName_init cda_UnboundName_init cc_UnboundName_init f_UnknownFormula_init cda_UnknownFormula_init cc_UnknownFormula_init : Addr}
    {od__law_cells an__law_cells : Option Addr} {sl__law_cells : Array (Option Value)} {oc__law_cells kV__law_cells dc__law_cells pm__law_cells cd__law_cells ct__law_cells : Value} {od__law_pick an__law_pick : Option Addr} {sl__law_pick : Array (Option Value)} {oc__law_pick kV__law_pick dc__law_pick pm__law_pick cd__law_pick ct__law_pick : Value} {od__law_classes an__law_classes : Option Addr} {sl__law_classes : Array (Option Value)} {oc__law_classes kV__law_classes dc__law_classes pm__law_classes cd__law_classes ct__law_classes : Value} {od_law an_law : Option Addr} {sl_law : Array (Option Value)} {oc_law kV_law dc_law pm_law cd_law ct_law : Value} {nm_LatticeError qn_LatticeError : Str} {ns_LatticeError : Addr} {bs_LatticeError sub_LatticeError : List Value} {sn_LatticeError : List Str} {ab_LatticeError : Bool} {col_LatticeError : Option Bool} {ddc_LatticeError : Option Addr} {k0_LatticeError k1_LatticeError k2_LatticeError k3_LatticeError k5_LatticeError : Option Value} {nm_BadLattice qn_BadLattice : Str} {ns_BadLattice : Addr} {bs_BadLattice sub_BadLattice : List Value} {sn_BadLattice : List Str} {ab_BadLattice : Bool} {col_BadLattice : Option Bool} {ddc_BadLattice : Option Addr} {k0_BadLattice k1_BadLattice k2_BadLattice k3_BadLattice k5_BadLattice : Option Value} {nm_MixedLattices qn_MixedLattices : Str} {ns_MixedLattices : Addr} {bs_MixedLattices sub_MixedLattices : List Value} {sn_MixedLattices : List Str} {ab_MixedLattices : Bool} {col_MixedLattices : Option Bool} {ddc_MixedLattices : Option Addr} {k0_MixedLattices k1_MixedLattices k2_MixedLattices k3_MixedLattices k5_MixedLattices : Option Value} {nm_BadMap qn_BadMap : Str} {ns_BadMap : Addr} {bs_BadMap sub_BadMap : List Value} {sn_BadMap : List Str} {ab_BadMap : Bool} {col_BadMap : Option Bool} {ddc_BadMap : Option Addr} {k0_BadMap k1_BadMap k2_BadMap k3_BadMap k5_BadMap : Option Value} {nm_BadText qn_BadText : Str} {ns_BadText : Addr} {bs_BadText sub_BadText : List Value} {sn_BadText : List Str} {ab_BadText : Bool} {col_BadText : Option Bool} {ddc_BadText : Option Addr} {k0_BadText k1_BadText k2_BadText k3_BadText k5_BadText : Option Value} {od_BadText_init an_BadText_init vb_BadText_init cb_BadText_init : Option Addr} {sl_BadText_init ve_BadText_init ce_BadText_init : Array (Option Value)} {vs_BadText_init : Array Value} {fl_BadText_init : Str} {tf_BadText_init : Tok} {oc_BadText_init kV_BadText_init dc_BadText_init pm_BadText_init ct_BadText_init va_BadText_init ca_BadText_init : Value} {cd_BadText : ClassData} {nm_BadName qn_BadName : Str} {ns_BadName : Addr} {bs_BadName sub_BadName : List Value} {sn_BadName : List Str} {ab_BadName : Bool} {col_BadName : Option Bool} {ddc_BadName : Option Addr} {k0_BadName k1_BadName k2_BadName k3_BadName k5_BadName : Option Value} {od_BadName_init an_BadName_init vb_BadName_init cb_BadName_init : Option Addr} {sl_BadName_init ve_BadName_init ce_BadName_init : Array (Option Value)} {vs_BadName_init : Array Value} {fl_BadName_init : Str} {tf_BadName_init : Tok} {oc_BadName_init kV_BadName_init dc_BadName_init pm_BadName_init ct_BadName_init va_BadName_init ca_BadName_init : Value} {cd_BadName : ClassData} {nm_TwiceTold qn_TwiceTold : Str} {ns_TwiceTold : Addr} {bs_TwiceTold sub_TwiceTold : List Value} {sn_TwiceTold : List Str} {ab_TwiceTold : Bool} {col_TwiceTold : Option Bool} {ddc_TwiceTold : Option Addr} {k0_TwiceTold k1_TwiceTold k2_TwiceTold k3_TwiceTold k5_TwiceTold : Option Value} {od_TwiceTold_init an_TwiceTold_init vb_TwiceTold_init cb_TwiceTold_init : Option Addr} {sl_TwiceTold_init ve_TwiceTold_init ce_TwiceTold_init : Array (Option Value)} {vs_TwiceTold_init : Array Value} {fl_TwiceTold_init : Str} {tf_TwiceTold_init : Tok} {oc_TwiceTold_init kV_TwiceTold_init dc_TwiceTold_init pm_TwiceTold_init ct_TwiceTold_init va_TwiceTold_init ca_TwiceTold_init : Value} {cd_TwiceTold : ClassData} {nm_NotIrreducible qn_NotIrreducible : Str} {ns_NotIrreducible : Addr} {bs_NotIrreducible sub_NotIrreducible : List Value} {sn_NotIrreducible : List Str} {ab_NotIrreducible : Bool} {col_NotIrreducible : Option Bool} {ddc_NotIrreducible : Option Addr} {k0_NotIrreducible k1_NotIrreducible k2_NotIrreducible k3_NotIrreducible k5_NotIrreducible : Option Value} {od_NotIrreducible_init an_NotIrreducible_init vb_NotIrreducible_init cb_NotIrreducible_init : Option Addr} {sl_NotIrreducible_init ve_NotIrreducible_init ce_NotIrreducible_init : Array (Option Value)} {vs_NotIrreducible_init : Array Value} {fl_NotIrreducible_init : Str} {tf_NotIrreducible_init : Tok} {oc_NotIrreducible_init kV_NotIrreducible_init dc_NotIrreducible_init pm_NotIrreducible_init ct_NotIrreducible_init va_NotIrreducible_init ca_NotIrreducible_init : Value} {cd_NotIrreducible : ClassData} {nm_InUse qn_InUse : Str} {ns_InUse : Addr} {bs_InUse sub_InUse : List Value} {sn_InUse : List Str} {ab_InUse : Bool} {col_InUse : Option Bool} {ddc_InUse : Option Addr} {k0_InUse k1_InUse k2_InUse k3_InUse k5_InUse : Option Value} {od_InUse_init an_InUse_init vb_InUse_init cb_InUse_init : Option Addr} {sl_InUse_init ve_InUse_init ce_InUse_init : Array (Option Value)} {vs_InUse_init : Array Value} {fl_InUse_init : Str} {tf_InUse_init : Tok} {oc_InUse_init kV_InUse_init dc_InUse_init pm_InUse_init ct_InUse_init va_InUse_init ca_InUse_init : Value} {cd_InUse : ClassData} {nm_NameMissing qn_NameMissing : Str} {ns_NameMissing : Addr} {bs_NameMissing sub_NameMissing : List Value} {sn_NameMissing : List Str} {ab_NameMissing : Bool} {col_NameMissing : Option Bool} {ddc_NameMissing : Option Addr} {k0_NameMissing k1_NameMissing k2_NameMissing k3_NameMissing k5_NameMissing : Option Value} {nm_UnknownValue qn_UnknownValue : Str} {ns_UnknownValue : Addr} {bs_UnknownValue sub_UnknownValue : List Value} {sn_UnknownValue : List Str} {ab_UnknownValue : Bool} {col_UnknownValue : Option Bool} {ddc_UnknownValue : Option Addr} {k0_UnknownValue k1_UnknownValue k2_UnknownValue k3_UnknownValue k5_UnknownValue : Option Value} {od_UnknownValue_init an_UnknownValue_init vb_UnknownValue_init cb_UnknownValue_init : Option Addr} {sl_UnknownValue_init ve_UnknownValue_init ce_UnknownValue_init : Array (Option Value)} {vs_UnknownValue_init : Array Value} {fl_UnknownValue_init : Str} {tf_UnknownValue_init : Tok} {oc_UnknownValue_init kV_UnknownValue_init dc_UnknownValue_init pm_UnknownValue_init ct_UnknownValue_init va_UnknownValue_init ca_UnknownValue_init : Value} {cd_UnknownValue : ClassData} {nm_UnknownState qn_UnknownState : Str} {ns_UnknownState : Addr} {bs_UnknownState sub_UnknownState : List Value} {sn_UnknownState : List Str} {ab_UnknownState : Bool} {col_UnknownState : Option Bool} {ddc_UnknownState : Option Addr} {k0_UnknownState k1_UnknownState k2_UnknownState k3_UnknownState k5_UnknownState : Option Value} {od_UnknownState_init an_UnknownState_init vb_UnknownState_init cb_UnknownState_init : Option Addr} {sl_UnknownState_init ve_UnknownState_init ce_UnknownState_init : Array (Option Value)} {vs_UnknownState_init : Array Value} {fl_UnknownState_init : Str} {tf_UnknownState_init : Tok} {oc_UnknownState_init kV_UnknownState_init dc_UnknownState_init pm_UnknownState_init ct_UnknownState_init va_UnknownState_init ca_UnknownState_init : Value} {cd_UnknownState : ClassData} {nm_UnboundName qn_UnboundName : Str} {ns_UnboundName : Addr} {bs_UnboundName sub_UnboundName : List Value} {sn_UnboundName : List Str} {ab_UnboundName : Bool} {col_UnboundName : Option Bool} {ddc_UnboundName : Option Addr} {k0_UnboundName k1_UnboundName k2_UnboundName k3_UnboundName k5_UnboundName : Option Value} {od_UnboundName_init an_UnboundName_init vb_UnboundName_init cb_UnboundName_init : Option Addr} {sl_UnboundName_init ve_UnboundName_init ce_UnboundName_init : Array (Option Value)} {vs_UnboundName_init : Array Value} {fl_UnboundName_init : Str} {tf_UnboundName_init : Tok} {oc_UnboundName_init kV_UnboundName_init dc_UnboundName_init pm_UnboundName_init ct_UnboundName_init va_UnboundName_init ca_UnboundName_init : Value} {cd_UnboundName : ClassData} {nm_UnknownFormula qn_UnknownFormula : Str} {ns_UnknownFormula : Addr} {bs_UnknownFormula sub_UnknownFormula : List Value} {sn_UnknownFormula : List Str} {ab_UnknownFormula : Bool} {col_UnknownFormula : Option Bool} {ddc_UnknownFormula : Option Addr} {k0_UnknownFormula k1_UnknownFormula k2_UnknownFormula k3_UnknownFormula k5_UnknownFormula : Option Value} {od_UnknownFormula_init an_UnknownFormula_init vb_UnknownFormula_init cb_UnknownFormula_init : Option Addr} {sl_UnknownFormula_init ve_UnknownFormula_init ce_UnknownFormula_init : Array (Option Value)} {vs_UnknownFormula_init : Array Value} {fl_UnknownFormula_init : Str} {tf_UnknownFormula_init : Tok} {oc_UnknownFormula_init kV_UnknownFormula_init dc_UnknownFormula_init pm_UnknownFormula_init ct_UnknownFormula_init va_UnknownFormula_init ca_UnknownFormula_init : Value} {cd_UnknownFormula : ClassData}
    (z_IndexError : PySem.W.nsIn K mainGlobals "IndexError" = some none)
    (z_KeyError : PySem.W.nsIn K mainGlobals "KeyError" = some none)
    (z_LookupError : PySem.W.nsIn K mainGlobals "LookupError" = some none)
    (z_ValueError : PySem.W.nsIn K mainGlobals "ValueError" = some none)
    (z_abs : PySem.W.nsIn K mainGlobals "abs" = some none)
    (z_int : PySem.W.nsIn K mainGlobals "int" = some none)
    (z_isinstance : PySem.W.nsIn K mainGlobals "isinstance" = some none)
    (z_len : PySem.W.nsIn K mainGlobals "len" = some none)
    (z_range : PySem.W.nsIn K mainGlobals "range" = some none)
    (z_super : PySem.W.nsIn K mainGlobals "super" = some none)
    (g__law_cells : PySem.W.nsIn K mainGlobals "_law_cells" = some (some (.ref f__law_cells)))
    (l__law_cells : K.lookup f__law_cells = some ⟨oc__law_cells, od__law_cells, .func (PySem.W.fnOf "_law_cells" "_law_cells" (defArgs St__law_cells) (defBody St__law_cells) (defScope St__law_cells) .none kV__law_cells dc__law_cells pm__law_cells an__law_cells cd__law_cells ct__law_cells), sl__law_cells⟩)
    (c__law_cells : PySem.W.codeIn K cd__law_cells "_law_cells" = true)
    (k__law_cells : PySem.W.keepIn K (.ref f__law_cells) = true)
    (g__law_pick : PySem.W.nsIn K mainGlobals "_law_pick" = some (some (.ref f__law_pick)))
    (l__law_pick : K.lookup f__law_pick = some ⟨oc__law_pick, od__law_pick, .func (PySem.W.fnOf "_law_pick" "_law_pick" (defArgs St__law_pick) (defBody St__law_pick) (defScope St__law_pick) .none kV__law_pick dc__law_pick pm__law_pick an__law_pick cd__law_pick ct__law_pick), sl__law_pick⟩)
    (c__law_pick : PySem.W.codeIn K cd__law_pick "_law_pick" = true)
    (k__law_pick : PySem.W.keepIn K (.ref f__law_pick) = true)
    (g__law_classes : PySem.W.nsIn K mainGlobals "_law_classes" = some (some (.ref f__law_classes)))
    (l__law_classes : K.lookup f__law_classes = some ⟨oc__law_classes, od__law_classes, .func (PySem.W.fnOf "_law_classes" "_law_classes" (defArgs St__law_classes) (defBody St__law_classes) (defScope St__law_classes) .none kV__law_classes dc__law_classes pm__law_classes an__law_classes cd__law_classes ct__law_classes), sl__law_classes⟩)
    (c__law_classes : PySem.W.codeIn K cd__law_classes "_law_classes" = true)
    (k__law_classes : PySem.W.keepIn K (.ref f__law_classes) = true)
    (g_law : PySem.W.nsIn K mainGlobals "law" = some (some (.ref f_law)))
    (l_law : K.lookup f_law = some ⟨oc_law, od_law, .func (PySem.W.fnOf "law" "law" (defArgs St_law) (defBody St_law) (defScope St_law) .none kV_law dc_law pm_law an_law cd_law ct_law), sl_law⟩)
    (c_law : PySem.W.codeIn K cd_law "law" = true)
    (k_law : PySem.W.keepIn K (.ref f_law) = true)
    (g_LatticeError : PySem.W.nsIn K mainGlobals "LatticeError" = some (some (.ref f_LatticeError)))
    (g_BadLattice : PySem.W.nsIn K mainGlobals "BadLattice" = some (some (.ref f_BadLattice)))
    (g_MixedLattices : PySem.W.nsIn K mainGlobals "MixedLattices" = some (some (.ref f_MixedLattices)))
    (g_BadMap : PySem.W.nsIn K mainGlobals "BadMap" = some (some (.ref f_BadMap)))
    (g_BadText : PySem.W.nsIn K mainGlobals "BadText" = some (some (.ref f_BadText)))
    (g_BadName : PySem.W.nsIn K mainGlobals "BadName" = some (some (.ref f_BadName)))
    (g_TwiceTold : PySem.W.nsIn K mainGlobals "TwiceTold" = some (some (.ref f_TwiceTold)))
    (g_NotIrreducible : PySem.W.nsIn K mainGlobals "NotIrreducible" = some (some (.ref f_NotIrreducible)))
    (g_InUse : PySem.W.nsIn K mainGlobals "InUse" = some (some (.ref f_InUse)))
    (g_NameMissing : PySem.W.nsIn K mainGlobals "NameMissing" = some (some (.ref f_NameMissing)))
    (g_UnknownValue : PySem.W.nsIn K mainGlobals "UnknownValue" = some (some (.ref f_UnknownValue)))
    (g_UnknownState : PySem.W.nsIn K mainGlobals "UnknownState" = some (some (.ref f_UnknownState)))
    (g_UnboundName : PySem.W.nsIn K mainGlobals "UnboundName" = some (some (.ref f_UnboundName)))
    (g_UnknownFormula : PySem.W.nsIn K mainGlobals "UnknownFormula" = some (some (.ref f_UnknownFormula)))
    (xl_LatticeError : K.lookup f_LatticeError = some (excClassObj nm_LatticeError qn_LatticeError f_LatticeError ns_LatticeError bs_LatticeError [.type "ValueError", .type "Exception", .type "BaseException", .type "object"] true sn_LatticeError sub_LatticeError ab_LatticeError col_LatticeError ddc_LatticeError k0_LatticeError k1_LatticeError k2_LatticeError k3_LatticeError k5_LatticeError "ValueError.__new__"))
    (xsa_LatticeError : PySem.W.findIn K (.ref f_LatticeError) "__setattr__" = some (some (.builtin "object.__setattr__")))
    (xex_LatticeError : PySem.W.subIn K (.ref f_LatticeError) (.type "BaseException") = some true)
    (xty_LatticeError : PySem.W.typeIn K (.ref f_LatticeError) = some (.type "type"))
    (xkc_LatticeError : PySem.W.keepIn K (.ref f_LatticeError) = true)
    (xga_LatticeError : PySem.W.findIn K (.ref f_LatticeError) "__getattribute__" = some (some (.builtin "BaseException.__getattribute__")))
    (xgg_LatticeError : PySem.W.findIn K (.ref f_LatticeError) "__getattr__" = some none)
    (xhd_LatticeError : PySem.W.hasDictIn K f_LatticeError = true)
    (xq_LatticeError : PySem.W.excIn K f_LatticeError [.type "ValueError", .type "Exception", .type "BaseException", .type "object"] "ValueError.__new__" = true)
    (xl_BadLattice : K.lookup f_BadLattice = some (excClassObj nm_BadLattice qn_BadLattice f_BadLattice ns_BadLattice bs_BadLattice [.ref f_LatticeError, .type "ValueError", .type "Exception", .type "BaseException", .type "object"] true sn_BadLattice sub_BadLattice ab_BadLattice col_BadLattice ddc_BadLattice k0_BadLattice k1_BadLattice k2_BadLattice k3_BadLattice k5_BadLattice "ValueError.__new__"))
    (xsa_BadLattice : PySem.W.findIn K (.ref f_BadLattice) "__setattr__" = some (some (.builtin "object.__setattr__")))
    (xex_BadLattice : PySem.W.subIn K (.ref f_BadLattice) (.type "BaseException") = some true)
    (xty_BadLattice : PySem.W.typeIn K (.ref f_BadLattice) = some (.type "type"))
    (xkc_BadLattice : PySem.W.keepIn K (.ref f_BadLattice) = true)
    (xga_BadLattice : PySem.W.findIn K (.ref f_BadLattice) "__getattribute__" = some (some (.builtin "BaseException.__getattribute__")))
    (xgg_BadLattice : PySem.W.findIn K (.ref f_BadLattice) "__getattr__" = some none)
    (xhd_BadLattice : PySem.W.hasDictIn K f_BadLattice = true)
    (xq_BadLattice : PySem.W.excIn K f_BadLattice [.type "ValueError", .type "Exception", .type "BaseException", .type "object"] "ValueError.__new__" = true)
    (xcl_BadLattice : PySem.W.findIn K (.ref f_BadLattice) "__class__" = some (some (.builtin "object.__class__")))
    (xcg_BadLattice : PySem.W.specialIn K (.builtin "object.__class__") "__get__" = some (some (.builtin "getset_descriptor.__get__")))
    (xct_BadLattice : PySem.W.takesIn K (.builtin "object.__class__") = some true)
    (xcm_BadLattice : PySem.W.mroIn K f_BadLattice (.type "object") = some true)
    (kt_BadLattice_BadLattice : PySem.W.kitOne K (.ref f_BadLattice) (.ref f_BadLattice) = some true)
    (kt_BadLattice_MixedLattices : PySem.W.kitOne K (.ref f_BadLattice) (.ref f_MixedLattices) = some false)
    (kt_BadLattice_BadMap : PySem.W.kitOne K (.ref f_BadLattice) (.ref f_BadMap) = some false)
    (kt_BadLattice_BadText : PySem.W.kitOne K (.ref f_BadLattice) (.ref f_BadText) = some false)
    (kt_BadLattice_BadName : PySem.W.kitOne K (.ref f_BadLattice) (.ref f_BadName) = some false)
    (kt_BadLattice_TwiceTold : PySem.W.kitOne K (.ref f_BadLattice) (.ref f_TwiceTold) = some false)
    (kt_BadLattice_NotIrreducible : PySem.W.kitOne K (.ref f_BadLattice) (.ref f_NotIrreducible) = some false)
    (kt_BadLattice_InUse : PySem.W.kitOne K (.ref f_BadLattice) (.ref f_InUse) = some false)
    (kt_BadLattice_UnknownValue : PySem.W.kitOne K (.ref f_BadLattice) (.ref f_UnknownValue) = some false)
    (kt_BadLattice_UnknownState : PySem.W.kitOne K (.ref f_BadLattice) (.ref f_UnknownState) = some false)
    (kt_BadLattice_UnboundName : PySem.W.kitOne K (.ref f_BadLattice) (.ref f_UnboundName) = some false)
    (kt_BadLattice_UnknownFormula : PySem.W.kitOne K (.ref f_BadLattice) (.ref f_UnknownFormula) = some false)
    (kt_BadLattice_LatticeError : PySem.W.kitOne K (.ref f_BadLattice) (.ref f_LatticeError) = some true)
    (kt_BadLattice_ValueError : PySem.W.kitOne K (.ref f_BadLattice) (.type "ValueError") = some true)
    (kt_BadLattice_NameMissing : PySem.W.kitOne K (.ref f_BadLattice) (.ref f_NameMissing) = some false)
    (kt_BadLattice_LookupError : PySem.W.kitOne K (.ref f_BadLattice) (.type "LookupError") = some false)
    (kt_BadLattice_KeyError : PySem.W.kitOne K (.ref f_BadLattice) (.type "KeyError") = some false)
    (kt_BadLattice_IndexError : PySem.W.kitOne K (.ref f_BadLattice) (.type "IndexError") = some false)
    (xl_MixedLattices : K.lookup f_MixedLattices = some (excClassObj nm_MixedLattices qn_MixedLattices f_MixedLattices ns_MixedLattices bs_MixedLattices [.ref f_LatticeError, .type "ValueError", .type "Exception", .type "BaseException", .type "object"] true sn_MixedLattices sub_MixedLattices ab_MixedLattices col_MixedLattices ddc_MixedLattices k0_MixedLattices k1_MixedLattices k2_MixedLattices k3_MixedLattices k5_MixedLattices "ValueError.__new__"))
    (xsa_MixedLattices : PySem.W.findIn K (.ref f_MixedLattices) "__setattr__" = some (some (.builtin "object.__setattr__")))
    (xex_MixedLattices : PySem.W.subIn K (.ref f_MixedLattices) (.type "BaseException") = some true)
    (xty_MixedLattices : PySem.W.typeIn K (.ref f_MixedLattices) = some (.type "type"))
    (xkc_MixedLattices : PySem.W.keepIn K (.ref f_MixedLattices) = true)
    (xga_MixedLattices : PySem.W.findIn K (.ref f_MixedLattices) "__getattribute__" = some (some (.builtin "BaseException.__getattribute__")))
    (xgg_MixedLattices : PySem.W.findIn K (.ref f_MixedLattices) "__getattr__" = some none)
    (xhd_MixedLattices : PySem.W.hasDictIn K f_MixedLattices = true)
    (xq_MixedLattices : PySem.W.excIn K f_MixedLattices [.type "ValueError", .type "Exception", .type "BaseException", .type "object"] "ValueError.__new__" = true)
    (xcl_MixedLattices : PySem.W.findIn K (.ref f_MixedLattices) "__class__" = some (some (.builtin "object.__class__")))
    (xcg_MixedLattices : PySem.W.specialIn K (.builtin "object.__class__") "__get__" = some (some (.builtin "getset_descriptor.__get__")))
    (xct_MixedLattices : PySem.W.takesIn K (.builtin "object.__class__") = some true)
    (xcm_MixedLattices : PySem.W.mroIn K f_MixedLattices (.type "object") = some true)
    (kt_MixedLattices_BadLattice : PySem.W.kitOne K (.ref f_MixedLattices) (.ref f_BadLattice) = some false)
    (kt_MixedLattices_MixedLattices : PySem.W.kitOne K (.ref f_MixedLattices) (.ref f_MixedLattices) = some true)
    (kt_MixedLattices_BadMap : PySem.W.kitOne K (.ref f_MixedLattices) (.ref f_BadMap) = some false)
    (kt_MixedLattices_BadText : PySem.W.kitOne K (.ref f_MixedLattices) (.ref f_BadText) = some false)
    (kt_MixedLattices_BadName : PySem.W.kitOne K (.ref f_MixedLattices) (.ref f_BadName) = some false)
    (kt_MixedLattices_TwiceTold : PySem.W.kitOne K (.ref f_MixedLattices) (.ref f_TwiceTold) = some false)
    (kt_MixedLattices_NotIrreducible : PySem.W.kitOne K (.ref f_MixedLattices) (.ref f_NotIrreducible) = some false)
    (kt_MixedLattices_InUse : PySem.W.kitOne K (.ref f_MixedLattices) (.ref f_InUse) = some false)
    (kt_MixedLattices_UnknownValue : PySem.W.kitOne K (.ref f_MixedLattices) (.ref f_UnknownValue) = some false)
    (kt_MixedLattices_UnknownState : PySem.W.kitOne K (.ref f_MixedLattices) (.ref f_UnknownState) = some false)
    (kt_MixedLattices_UnboundName : PySem.W.kitOne K (.ref f_MixedLattices) (.ref f_UnboundName) = some false)
    (kt_MixedLattices_UnknownFormula : PySem.W.kitOne K (.ref f_MixedLattices) (.ref f_UnknownFormula) = some false)
    (kt_MixedLattices_LatticeError : PySem.W.kitOne K (.ref f_MixedLattices) (.ref f_LatticeError) = some true)
    (kt_MixedLattices_ValueError : PySem.W.kitOne K (.ref f_MixedLattices) (.type "ValueError") = some true)
    (kt_MixedLattices_NameMissing : PySem.W.kitOne K (.ref f_MixedLattices) (.ref f_NameMissing) = some false)
    (kt_MixedLattices_LookupError : PySem.W.kitOne K (.ref f_MixedLattices) (.type "LookupError") = some false)
    (kt_MixedLattices_KeyError : PySem.W.kitOne K (.ref f_MixedLattices) (.type "KeyError") = some false)
    (kt_MixedLattices_IndexError : PySem.W.kitOne K (.ref f_MixedLattices) (.type "IndexError") = some false)
    (xl_BadMap : K.lookup f_BadMap = some (excClassObj nm_BadMap qn_BadMap f_BadMap ns_BadMap bs_BadMap [.ref f_LatticeError, .type "ValueError", .type "Exception", .type "BaseException", .type "object"] true sn_BadMap sub_BadMap ab_BadMap col_BadMap ddc_BadMap k0_BadMap k1_BadMap k2_BadMap k3_BadMap k5_BadMap "ValueError.__new__"))
    (xsa_BadMap : PySem.W.findIn K (.ref f_BadMap) "__setattr__" = some (some (.builtin "object.__setattr__")))
    (xex_BadMap : PySem.W.subIn K (.ref f_BadMap) (.type "BaseException") = some true)
    (xty_BadMap : PySem.W.typeIn K (.ref f_BadMap) = some (.type "type"))
    (xkc_BadMap : PySem.W.keepIn K (.ref f_BadMap) = true)
    (xga_BadMap : PySem.W.findIn K (.ref f_BadMap) "__getattribute__" = some (some (.builtin "BaseException.__getattribute__")))
    (xgg_BadMap : PySem.W.findIn K (.ref f_BadMap) "__getattr__" = some none)
    (xhd_BadMap : PySem.W.hasDictIn K f_BadMap = true)
    (xq_BadMap : PySem.W.excIn K f_BadMap [.type "ValueError", .type "Exception", .type "BaseException", .type "object"] "ValueError.__new__" = true)
    (xcl_BadMap : PySem.W.findIn K (.ref f_BadMap) "__class__" = some (some (.builtin "object.__class__")))
    (xcg_BadMap : PySem.W.specialIn K (.builtin "object.__class__") "__get__" = some (some (.builtin "getset_descriptor.__get__")))
    (xct_BadMap : PySem.W.takesIn K (.builtin "object.__class__") = some true)
    (xcm_BadMap : PySem.W.mroIn K f_BadMap (.type "object") = some true)
    (kt_BadMap_BadLattice : PySem.W.kitOne K (.ref f_BadMap) (.ref f_BadLattice) = some false)
    (kt_BadMap_MixedLattices : PySem.W.kitOne K (.ref f_BadMap) (.ref f_MixedLattices) = some false)
    (kt_BadMap_BadMap : PySem.W.kitOne K (.ref f_BadMap) (.ref f_BadMap) = some true)
    (kt_BadMap_BadText : PySem.W.kitOne K (.ref f_BadMap) (.ref f_BadText) = some false)
    (kt_BadMap_BadName : PySem.W.kitOne K (.ref f_BadMap) (.ref f_BadName) = some false)
    (kt_BadMap_TwiceTold : PySem.W.kitOne K (.ref f_BadMap) (.ref f_TwiceTold) = some false)
    (kt_BadMap_NotIrreducible : PySem.W.kitOne K (.ref f_BadMap) (.ref f_NotIrreducible) = some false)
    (kt_BadMap_InUse : PySem.W.kitOne K (.ref f_BadMap) (.ref f_InUse) = some false)
    (kt_BadMap_UnknownValue : PySem.W.kitOne K (.ref f_BadMap) (.ref f_UnknownValue) = some false)
    (kt_BadMap_UnknownState : PySem.W.kitOne K (.ref f_BadMap) (.ref f_UnknownState) = some false)
    (kt_BadMap_UnboundName : PySem.W.kitOne K (.ref f_BadMap) (.ref f_UnboundName) = some false)
    (kt_BadMap_UnknownFormula : PySem.W.kitOne K (.ref f_BadMap) (.ref f_UnknownFormula) = some false)
    (kt_BadMap_LatticeError : PySem.W.kitOne K (.ref f_BadMap) (.ref f_LatticeError) = some true)
    (kt_BadMap_ValueError : PySem.W.kitOne K (.ref f_BadMap) (.type "ValueError") = some true)
    (kt_BadMap_NameMissing : PySem.W.kitOne K (.ref f_BadMap) (.ref f_NameMissing) = some false)
    (kt_BadMap_LookupError : PySem.W.kitOne K (.ref f_BadMap) (.type "LookupError") = some false)
    (kt_BadMap_KeyError : PySem.W.kitOne K (.ref f_BadMap) (.type "KeyError") = some false)
    (kt_BadMap_IndexError : PySem.W.kitOne K (.ref f_BadMap) (.type "IndexError") = some false)
    (xl_BadText : K.lookup f_BadText = some (excClassObj nm_BadText qn_BadText f_BadText ns_BadText bs_BadText [.ref f_LatticeError, .type "ValueError", .type "Exception", .type "BaseException", .type "object"] true sn_BadText sub_BadText ab_BadText col_BadText ddc_BadText k0_BadText k1_BadText k2_BadText k3_BadText k5_BadText "ValueError.__new__"))
    (xsa_BadText : PySem.W.findIn K (.ref f_BadText) "__setattr__" = some (some (.builtin "object.__setattr__")))
    (xex_BadText : PySem.W.subIn K (.ref f_BadText) (.type "BaseException") = some true)
    (xty_BadText : PySem.W.typeIn K (.ref f_BadText) = some (.type "type"))
    (xkc_BadText : PySem.W.keepIn K (.ref f_BadText) = true)
    (xga_BadText : PySem.W.findIn K (.ref f_BadText) "__getattribute__" = some (some (.builtin "BaseException.__getattribute__")))
    (xgg_BadText : PySem.W.findIn K (.ref f_BadText) "__getattr__" = some none)
    (xhd_BadText : PySem.W.hasDictIn K f_BadText = true)
    (xcl_BadText : PySem.W.findIn K (.ref f_BadText) "__class__" = some (some (.builtin "object.__class__")))
    (xcg_BadText : PySem.W.specialIn K (.builtin "object.__class__") "__get__" = some (some (.builtin "getset_descriptor.__get__")))
    (xct_BadText : PySem.W.takesIn K (.builtin "object.__class__") = some true)
    (xcm_BadText : PySem.W.mroIn K f_BadText (.type "object") = some true)
    (kt_BadText_BadLattice : PySem.W.kitOne K (.ref f_BadText) (.ref f_BadLattice) = some false)
    (kt_BadText_MixedLattices : PySem.W.kitOne K (.ref f_BadText) (.ref f_MixedLattices) = some false)
    (kt_BadText_BadMap : PySem.W.kitOne K (.ref f_BadText) (.ref f_BadMap) = some false)
    (kt_BadText_BadText : PySem.W.kitOne K (.ref f_BadText) (.ref f_BadText) = some true)
    (kt_BadText_BadName : PySem.W.kitOne K (.ref f_BadText) (.ref f_BadName) = some false)
    (kt_BadText_TwiceTold : PySem.W.kitOne K (.ref f_BadText) (.ref f_TwiceTold) = some false)
    (kt_BadText_NotIrreducible : PySem.W.kitOne K (.ref f_BadText) (.ref f_NotIrreducible) = some false)
    (kt_BadText_InUse : PySem.W.kitOne K (.ref f_BadText) (.ref f_InUse) = some false)
    (kt_BadText_UnknownValue : PySem.W.kitOne K (.ref f_BadText) (.ref f_UnknownValue) = some false)
    (kt_BadText_UnknownState : PySem.W.kitOne K (.ref f_BadText) (.ref f_UnknownState) = some false)
    (kt_BadText_UnboundName : PySem.W.kitOne K (.ref f_BadText) (.ref f_UnboundName) = some false)
    (kt_BadText_UnknownFormula : PySem.W.kitOne K (.ref f_BadText) (.ref f_UnknownFormula) = some false)
    (kt_BadText_LatticeError : PySem.W.kitOne K (.ref f_BadText) (.ref f_LatticeError) = some true)
    (kt_BadText_ValueError : PySem.W.kitOne K (.ref f_BadText) (.type "ValueError") = some true)
    (kt_BadText_NameMissing : PySem.W.kitOne K (.ref f_BadText) (.ref f_NameMissing) = some false)
    (kt_BadText_LookupError : PySem.W.kitOne K (.ref f_BadText) (.type "LookupError") = some false)
    (kt_BadText_KeyError : PySem.W.kitOne K (.ref f_BadText) (.type "KeyError") = some false)
    (kt_BadText_IndexError : PySem.W.kitOne K (.ref f_BadText) (.type "IndexError") = some false)
    (h_BadText_init : PySem.W.findIn K (.ref f_BadText) "__init__" = some (some (.ref f_BadText_init)))
    (l_BadText_init : K.lookup f_BadText_init = some ⟨oc_BadText_init, od_BadText_init, .func (PySem.W.ksFn "__init__" "BadText.__init__" (defArgs St_BadText_init) (defBody St_BadText_init) (defScope St_BadText_init) .none kV_BadText_init dc_BadText_init pm_BadText_init an_BadText_init (.ref cda_BadText_init) ct_BadText_init cc_BadText_init), sl_BadText_init⟩)
    (c_BadText_init : PySem.W.codeIn K (.ref cda_BadText_init) "BadText.__init__" = true)
    (k_BadText_init : PySem.W.keepIn K (.ref f_BadText_init) = true)
    (q_BadText_init : K.lookup cc_BadText_init = some ⟨ca_BadText_init, cb_BadText_init, .cell (some (.ref f_BadText)), ce_BadText_init⟩)
    (v_BadText_init : K.lookup cda_BadText_init = some ⟨va_BadText_init, vb_BadText_init, .fields vs_BadText_init, ve_BadText_init⟩)
    (vf_BadText_init : vs_BadText_init[2]? = some (.str fl_BadText_init tf_BadText_init))
    (vg_BadText_init : ((PL.main.file : Str) == fl_BadText_init) = true)
    (xt_BadText : PySem.W.typeIn K (.ref f_BadText_init) = some (.type "function"))
    (mr_BadText : PySem.W.mroIn K f_BadText (.ref f_BadText) = some true)
    (su_BadText : PySem.W.ks_superIn K f_BadText f_BadText "__init__" = some (some (.builtin "ValueError.__init__")))
    (ci_BadText : PySem.W.clsIn K f_BadText = some cd_BadText)
    (na_BadText : PySem.W.findIn K (.ref f_BadText) "at" = some none)
    (xl_BadName : K.lookup f_BadName = some (excClassObj nm_BadName qn_BadName f_BadName ns_BadName bs_BadName [.ref f_LatticeError, .type "ValueError", .type "Exception", .type "BaseException", .type "object"] true sn_BadName sub_BadName ab_BadName col_BadName ddc_BadName k0_BadName k1_BadName k2_BadName k3_BadName k5_BadName "ValueError.__new__"))
    (xsa_BadName : PySem.W.findIn K (.ref f_BadName) "__setattr__" = some (some (.builtin "object.__setattr__")))
    (xex_BadName : PySem.W.subIn K (.ref f_BadName) (.type "BaseException") = some true)
    (xty_BadName : PySem.W.typeIn K (.ref f_BadName) = some (.type "type"))
    (xkc_BadName : PySem.W.keepIn K (.ref f_BadName) = true)
    (xga_BadName : PySem.W.findIn K (.ref f_BadName) "__getattribute__" = some (some (.builtin "BaseException.__getattribute__")))
    (xgg_BadName : PySem.W.findIn K (.ref f_BadName) "__getattr__" = some none)
    (xhd_BadName : PySem.W.hasDictIn K f_BadName = true)
    (xcl_BadName : PySem.W.findIn K (.ref f_BadName) "__class__" = some (some (.builtin "object.__class__")))
    (xcg_BadName : PySem.W.specialIn K (.builtin "object.__class__") "__get__" = some (some (.builtin "getset_descriptor.__get__")))
    (xct_BadName : PySem.W.takesIn K (.builtin "object.__class__") = some true)
    (xcm_BadName : PySem.W.mroIn K f_BadName (.type "object") = some true)
    (kt_BadName_BadLattice : PySem.W.kitOne K (.ref f_BadName) (.ref f_BadLattice) = some false)
    (kt_BadName_MixedLattices : PySem.W.kitOne K (.ref f_BadName) (.ref f_MixedLattices) = some false)
    (kt_BadName_BadMap : PySem.W.kitOne K (.ref f_BadName) (.ref f_BadMap) = some false)
    (kt_BadName_BadText : PySem.W.kitOne K (.ref f_BadName) (.ref f_BadText) = some false)
    (kt_BadName_BadName : PySem.W.kitOne K (.ref f_BadName) (.ref f_BadName) = some true)
    (kt_BadName_TwiceTold : PySem.W.kitOne K (.ref f_BadName) (.ref f_TwiceTold) = some false)
    (kt_BadName_NotIrreducible : PySem.W.kitOne K (.ref f_BadName) (.ref f_NotIrreducible) = some false)
    (kt_BadName_InUse : PySem.W.kitOne K (.ref f_BadName) (.ref f_InUse) = some false)
    (kt_BadName_UnknownValue : PySem.W.kitOne K (.ref f_BadName) (.ref f_UnknownValue) = some false)
    (kt_BadName_UnknownState : PySem.W.kitOne K (.ref f_BadName) (.ref f_UnknownState) = some false)
    (kt_BadName_UnboundName : PySem.W.kitOne K (.ref f_BadName) (.ref f_UnboundName) = some false)
    (kt_BadName_UnknownFormula : PySem.W.kitOne K (.ref f_BadName) (.ref f_UnknownFormula) = some false)
    (kt_BadName_LatticeError : PySem.W.kitOne K (.ref f_BadName) (.ref f_LatticeError) = some true)
    (kt_BadName_ValueError : PySem.W.kitOne K (.ref f_BadName) (.type "ValueError") = some true)
    (kt_BadName_NameMissing : PySem.W.kitOne K (.ref f_BadName) (.ref f_NameMissing) = some false)
    (kt_BadName_LookupError : PySem.W.kitOne K (.ref f_BadName) (.type "LookupError") = some false)
    (kt_BadName_KeyError : PySem.W.kitOne K (.ref f_BadName) (.type "KeyError") = some false)
    (kt_BadName_IndexError : PySem.W.kitOne K (.ref f_BadName) (.type "IndexError") = some false)
    (h_BadName_init : PySem.W.findIn K (.ref f_BadName) "__init__" = some (some (.ref f_BadName_init)))
    (l_BadName_init : K.lookup f_BadName_init = some ⟨oc_BadName_init, od_BadName_init, .func (PySem.W.ksFn "__init__" "BadName.__init__" (defArgs St_BadName_init) (defBody St_BadName_init) (defScope St_BadName_init) .none kV_BadName_init dc_BadName_init pm_BadName_init an_BadName_init (.ref cda_BadName_init) ct_BadName_init cc_BadName_init), sl_BadName_init⟩)
    (c_BadName_init : PySem.W.codeIn K (.ref cda_BadName_init) "BadName.__init__" = true)
    (k_BadName_init : PySem.W.keepIn K (.ref f_BadName_init) = true)
    (q_BadName_init : K.lookup cc_BadName_init = some ⟨ca_BadName_init, cb_BadName_init, .cell (some (.ref f_BadName)), ce_BadName_init⟩)
    (v_BadName_init : K.lookup cda_BadName_init = some ⟨va_BadName_init, vb_BadName_init, .fields vs_BadName_init, ve_BadName_init⟩)
    (vf_BadName_init : vs_BadName_init[2]? = some (.str fl_BadName_init tf_BadName_init))
    (vg_BadName_init : ((PL.main.file : Str) == fl_BadName_init) = true)
    (xt_BadName : PySem.W.typeIn K (.ref f_BadName_init) = some (.type "function"))
    (mr_BadName : PySem.W.mroIn K f_BadName (.ref f_BadName) = some true)
    (su_BadName : PySem.W.ks_superIn K f_BadName f_BadName "__init__" = some (some (.builtin "ValueError.__init__")))
    (ci_BadName : PySem.W.clsIn K f_BadName = some cd_BadName)
    (na_BadName : PySem.W.findIn K (.ref f_BadName) "name" = some none)
    (xl_TwiceTold : K.lookup f_TwiceTold = some (excClassObj nm_TwiceTold qn_TwiceTold f_TwiceTold ns_TwiceTold bs_TwiceTold [.ref f_LatticeError, .type "ValueError", .type "Exception", .type "BaseException", .type "object"] true sn_TwiceTold sub_TwiceTold ab_TwiceTold col_TwiceTold ddc_TwiceTold k0_TwiceTold k1_TwiceTold k2_TwiceTold k3_TwiceTold k5_TwiceTold "ValueError.__new__"))
    (xsa_TwiceTold : PySem.W.findIn K (.ref f_TwiceTold) "__setattr__" = some (some (.builtin "object.__setattr__")))
    (xex_TwiceTold : PySem.W.subIn K (.ref f_TwiceTold) (.type "BaseException") = some true)
    (xty_TwiceTold : PySem.W.typeIn K (.ref f_TwiceTold) = some (.type "type"))
    (xkc_TwiceTold : PySem.W.keepIn K (.ref f_TwiceTold) = true)
    (xga_TwiceTold : PySem.W.findIn K (.ref f_TwiceTold) "__getattribute__" = some (some (.builtin "BaseException.__getattribute__")))
    (xgg_TwiceTold : PySem.W.findIn K (.ref f_TwiceTold) "__getattr__" = some none)
    (xhd_TwiceTold : PySem.W.hasDictIn K f_TwiceTold = true)
    (xcl_TwiceTold : PySem.W.findIn K (.ref f_TwiceTold) "__class__" = some (some (.builtin "object.__class__")))
    (xcg_TwiceTold : PySem.W.specialIn K (.builtin "object.__class__") "__get__" = some (some (.builtin "getset_descriptor.__get__")))
    (xct_TwiceTold : PySem.W.takesIn K (.builtin "object.__class__") = some true)
    (xcm_TwiceTold : PySem.W.mroIn K f_TwiceTold (.type "object") = some true)
    (kt_TwiceTold_BadLattice : PySem.W.kitOne K (.ref f_TwiceTold) (.ref f_BadLattice) = some false)
    (kt_TwiceTold_MixedLattices : PySem.W.kitOne K (.ref f_TwiceTold) (.ref f_MixedLattices) = some false)
    (kt_TwiceTold_BadMap : PySem.W.kitOne K (.ref f_TwiceTold) (.ref f_BadMap) = some false)
    (kt_TwiceTold_BadText : PySem.W.kitOne K (.ref f_TwiceTold) (.ref f_BadText) = some false)
    (kt_TwiceTold_BadName : PySem.W.kitOne K (.ref f_TwiceTold) (.ref f_BadName) = some false)
    (kt_TwiceTold_TwiceTold : PySem.W.kitOne K (.ref f_TwiceTold) (.ref f_TwiceTold) = some true)
    (kt_TwiceTold_NotIrreducible : PySem.W.kitOne K (.ref f_TwiceTold) (.ref f_NotIrreducible) = some false)
    (kt_TwiceTold_InUse : PySem.W.kitOne K (.ref f_TwiceTold) (.ref f_InUse) = some false)
    (kt_TwiceTold_UnknownValue : PySem.W.kitOne K (.ref f_TwiceTold) (.ref f_UnknownValue) = some false)
    (kt_TwiceTold_UnknownState : PySem.W.kitOne K (.ref f_TwiceTold) (.ref f_UnknownState) = some false)
    (kt_TwiceTold_UnboundName : PySem.W.kitOne K (.ref f_TwiceTold) (.ref f_UnboundName) = some false)
    (kt_TwiceTold_UnknownFormula : PySem.W.kitOne K (.ref f_TwiceTold) (.ref f_UnknownFormula) = some false)
    (kt_TwiceTold_LatticeError : PySem.W.kitOne K (.ref f_TwiceTold) (.ref f_LatticeError) = some true)
    (kt_TwiceTold_ValueError : PySem.W.kitOne K (.ref f_TwiceTold) (.type "ValueError") = some true)
    (kt_TwiceTold_NameMissing : PySem.W.kitOne K (.ref f_TwiceTold) (.ref f_NameMissing) = some false)
    (kt_TwiceTold_LookupError : PySem.W.kitOne K (.ref f_TwiceTold) (.type "LookupError") = some false)
    (kt_TwiceTold_KeyError : PySem.W.kitOne K (.ref f_TwiceTold) (.type "KeyError") = some false)
    (kt_TwiceTold_IndexError : PySem.W.kitOne K (.ref f_TwiceTold) (.type "IndexError") = some false)
    (h_TwiceTold_init : PySem.W.findIn K (.ref f_TwiceTold) "__init__" = some (some (.ref f_TwiceTold_init)))
    (l_TwiceTold_init : K.lookup f_TwiceTold_init = some ⟨oc_TwiceTold_init, od_TwiceTold_init, .func (PySem.W.ksFn "__init__" "TwiceTold.__init__" (defArgs St_TwiceTold_init) (defBody St_TwiceTold_init) (defScope St_TwiceTold_init) .none kV_TwiceTold_init dc_TwiceTold_init pm_TwiceTold_init an_TwiceTold_init (.ref cda_TwiceTold_init) ct_TwiceTold_init cc_TwiceTold_init), sl_TwiceTold_init⟩)
    (c_TwiceTold_init : PySem.W.codeIn K (.ref cda_TwiceTold_init) "TwiceTold.__init__" = true)
    (k_TwiceTold_init : PySem.W.keepIn K (.ref f_TwiceTold_init) = true)
    (q_TwiceTold_init : K.lookup cc_TwiceTold_init = some ⟨ca_TwiceTold_init, cb_TwiceTold_init, .cell (some (.ref f_TwiceTold)), ce_TwiceTold_init⟩)
    (v_TwiceTold_init : K.lookup cda_TwiceTold_init = some ⟨va_TwiceTold_init, vb_TwiceTold_init, .fields vs_TwiceTold_init, ve_TwiceTold_init⟩)
    (vf_TwiceTold_init : vs_TwiceTold_init[2]? = some (.str fl_TwiceTold_init tf_TwiceTold_init))
    (vg_TwiceTold_init : ((PL.main.file : Str) == fl_TwiceTold_init) = true)
    (xt_TwiceTold : PySem.W.typeIn K (.ref f_TwiceTold_init) = some (.type "function"))
    (mr_TwiceTold : PySem.W.mroIn K f_TwiceTold (.ref f_TwiceTold) = some true)
    (su_TwiceTold : PySem.W.ks_superIn K f_TwiceTold f_TwiceTold "__init__" = some (some (.builtin "ValueError.__init__")))
    (ci_TwiceTold : PySem.W.clsIn K f_TwiceTold = some cd_TwiceTold)
    (na_TwiceTold : PySem.W.findIn K (.ref f_TwiceTold) "name" = some none)
    (xl_NotIrreducible : K.lookup f_NotIrreducible = some (excClassObj nm_NotIrreducible qn_NotIrreducible f_NotIrreducible ns_NotIrreducible bs_NotIrreducible [.ref f_LatticeError, .type "ValueError", .type "Exception", .type "BaseException", .type "object"] true sn_NotIrreducible sub_NotIrreducible ab_NotIrreducible col_NotIrreducible ddc_NotIrreducible k0_NotIrreducible k1_NotIrreducible k2_NotIrreducible k3_NotIrreducible k5_NotIrreducible "ValueError.__new__"))
    (xsa_NotIrreducible : PySem.W.findIn K (.ref f_NotIrreducible) "__setattr__" = some (some (.builtin "object.__setattr__")))
    (xex_NotIrreducible : PySem.W.subIn K (.ref f_NotIrreducible) (.type "BaseException") = some true)
    (xty_NotIrreducible : PySem.W.typeIn K (.ref f_NotIrreducible) = some (.type "type"))
    (xkc_NotIrreducible : PySem.W.keepIn K (.ref f_NotIrreducible) = true)
    (xga_NotIrreducible : PySem.W.findIn K (.ref f_NotIrreducible) "__getattribute__" = some (some (.builtin "BaseException.__getattribute__")))
    (xgg_NotIrreducible : PySem.W.findIn K (.ref f_NotIrreducible) "__getattr__" = some none)
    (xhd_NotIrreducible : PySem.W.hasDictIn K f_NotIrreducible = true)
    (xcl_NotIrreducible : PySem.W.findIn K (.ref f_NotIrreducible) "__class__" = some (some (.builtin "object.__class__")))
    (xcg_NotIrreducible : PySem.W.specialIn K (.builtin "object.__class__") "__get__" = some (some (.builtin "getset_descriptor.__get__")))
    (xct_NotIrreducible : PySem.W.takesIn K (.builtin "object.__class__") = some true)
    (xcm_NotIrreducible : PySem.W.mroIn K f_NotIrreducible (.type "object") = some true)
    (kt_NotIrreducible_BadLattice : PySem.W.kitOne K (.ref f_NotIrreducible) (.ref f_BadLattice) = some false)
    (kt_NotIrreducible_MixedLattices : PySem.W.kitOne K (.ref f_NotIrreducible) (.ref f_MixedLattices) = some false)
    (kt_NotIrreducible_BadMap : PySem.W.kitOne K (.ref f_NotIrreducible) (.ref f_BadMap) = some false)
    (kt_NotIrreducible_BadText : PySem.W.kitOne K (.ref f_NotIrreducible) (.ref f_BadText) = some false)
    (kt_NotIrreducible_BadName : PySem.W.kitOne K (.ref f_NotIrreducible) (.ref f_BadName) = some false)
    (kt_NotIrreducible_TwiceTold : PySem.W.kitOne K (.ref f_NotIrreducible) (.ref f_TwiceTold) = some false)
    (kt_NotIrreducible_NotIrreducible : PySem.W.kitOne K (.ref f_NotIrreducible) (.ref f_NotIrreducible) = some true)
    (kt_NotIrreducible_InUse : PySem.W.kitOne K (.ref f_NotIrreducible) (.ref f_InUse) = some false)
    (kt_NotIrreducible_UnknownValue : PySem.W.kitOne K (.ref f_NotIrreducible) (.ref f_UnknownValue) = some false)
    (kt_NotIrreducible_UnknownState : PySem.W.kitOne K (.ref f_NotIrreducible) (.ref f_UnknownState) = some false)
    (kt_NotIrreducible_UnboundName : PySem.W.kitOne K (.ref f_NotIrreducible) (.ref f_UnboundName) = some false)
    (kt_NotIrreducible_UnknownFormula : PySem.W.kitOne K (.ref f_NotIrreducible) (.ref f_UnknownFormula) = some false)
    (kt_NotIrreducible_LatticeError : PySem.W.kitOne K (.ref f_NotIrreducible) (.ref f_LatticeError) = some true)
    (kt_NotIrreducible_ValueError : PySem.W.kitOne K (.ref f_NotIrreducible) (.type "ValueError") = some true)
    (kt_NotIrreducible_NameMissing : PySem.W.kitOne K (.ref f_NotIrreducible) (.ref f_NameMissing) = some false)
    (kt_NotIrreducible_LookupError : PySem.W.kitOne K (.ref f_NotIrreducible) (.type "LookupError") = some false)
    (kt_NotIrreducible_KeyError : PySem.W.kitOne K (.ref f_NotIrreducible) (.type "KeyError") = some false)
    (kt_NotIrreducible_IndexError : PySem.W.kitOne K (.ref f_NotIrreducible) (.type "IndexError") = some false)
    (h_NotIrreducible_init : PySem.W.findIn K (.ref f_NotIrreducible) "__init__" = some (some (.ref f_NotIrreducible_init)))
    (l_NotIrreducible_init : K.lookup f_NotIrreducible_init = some ⟨oc_NotIrreducible_init, od_NotIrreducible_init, .func (PySem.W.ksFn "__init__" "NotIrreducible.__init__" (defArgs St_NotIrreducible_init) (defBody St_NotIrreducible_init) (defScope St_NotIrreducible_init) .none kV_NotIrreducible_init dc_NotIrreducible_init pm_NotIrreducible_init an_NotIrreducible_init (.ref cda_NotIrreducible_init) ct_NotIrreducible_init cc_NotIrreducible_init), sl_NotIrreducible_init⟩)
    (c_NotIrreducible_init : PySem.W.codeIn K (.ref cda_NotIrreducible_init) "NotIrreducible.__init__" = true)
    (k_NotIrreducible_init : PySem.W.keepIn K (.ref f_NotIrreducible_init) = true)
    (q_NotIrreducible_init : K.lookup cc_NotIrreducible_init = some ⟨ca_NotIrreducible_init, cb_NotIrreducible_init, .cell (some (.ref f_NotIrreducible)), ce_NotIrreducible_init⟩)
    (v_NotIrreducible_init : K.lookup cda_NotIrreducible_init = some ⟨va_NotIrreducible_init, vb_NotIrreducible_init, .fields vs_NotIrreducible_init, ve_NotIrreducible_init⟩)
    (vf_NotIrreducible_init : vs_NotIrreducible_init[2]? = some (.str fl_NotIrreducible_init tf_NotIrreducible_init))
    (vg_NotIrreducible_init : ((PL.main.file : Str) == fl_NotIrreducible_init) = true)
    (xt_NotIrreducible : PySem.W.typeIn K (.ref f_NotIrreducible_init) = some (.type "function"))
    (mr_NotIrreducible : PySem.W.mroIn K f_NotIrreducible (.ref f_NotIrreducible) = some true)
    (su_NotIrreducible : PySem.W.ks_superIn K f_NotIrreducible f_NotIrreducible "__init__" = some (some (.builtin "ValueError.__init__")))
    (ci_NotIrreducible : PySem.W.clsIn K f_NotIrreducible = some cd_NotIrreducible)
    (na_NotIrreducible : PySem.W.findIn K (.ref f_NotIrreducible) "name" = some none)
    (xl_InUse : K.lookup f_InUse = some (excClassObj nm_InUse qn_InUse f_InUse ns_InUse bs_InUse [.ref f_LatticeError, .type "ValueError", .type "Exception", .type "BaseException", .type "object"] true sn_InUse sub_InUse ab_InUse col_InUse ddc_InUse k0_InUse k1_InUse k2_InUse k3_InUse k5_InUse "ValueError.__new__"))
    (xsa_InUse : PySem.W.findIn K (.ref f_InUse) "__setattr__" = some (some (.builtin "object.__setattr__")))
    (xex_InUse : PySem.W.subIn K (.ref f_InUse) (.type "BaseException") = some true)
    (xty_InUse : PySem.W.typeIn K (.ref f_InUse) = some (.type "type"))
    (xkc_InUse : PySem.W.keepIn K (.ref f_InUse) = true)
    (xga_InUse : PySem.W.findIn K (.ref f_InUse) "__getattribute__" = some (some (.builtin "BaseException.__getattribute__")))
    (xgg_InUse : PySem.W.findIn K (.ref f_InUse) "__getattr__" = some none)
    (xhd_InUse : PySem.W.hasDictIn K f_InUse = true)
    (xcl_InUse : PySem.W.findIn K (.ref f_InUse) "__class__" = some (some (.builtin "object.__class__")))
    (xcg_InUse : PySem.W.specialIn K (.builtin "object.__class__") "__get__" = some (some (.builtin "getset_descriptor.__get__")))
    (xct_InUse : PySem.W.takesIn K (.builtin "object.__class__") = some true)
    (xcm_InUse : PySem.W.mroIn K f_InUse (.type "object") = some true)
    (kt_InUse_BadLattice : PySem.W.kitOne K (.ref f_InUse) (.ref f_BadLattice) = some false)
    (kt_InUse_MixedLattices : PySem.W.kitOne K (.ref f_InUse) (.ref f_MixedLattices) = some false)
    (kt_InUse_BadMap : PySem.W.kitOne K (.ref f_InUse) (.ref f_BadMap) = some false)
    (kt_InUse_BadText : PySem.W.kitOne K (.ref f_InUse) (.ref f_BadText) = some false)
    (kt_InUse_BadName : PySem.W.kitOne K (.ref f_InUse) (.ref f_BadName) = some false)
    (kt_InUse_TwiceTold : PySem.W.kitOne K (.ref f_InUse) (.ref f_TwiceTold) = some false)
    (kt_InUse_NotIrreducible : PySem.W.kitOne K (.ref f_InUse) (.ref f_NotIrreducible) = some false)
    (kt_InUse_InUse : PySem.W.kitOne K (.ref f_InUse) (.ref f_InUse) = some true)
    (kt_InUse_UnknownValue : PySem.W.kitOne K (.ref f_InUse) (.ref f_UnknownValue) = some false)
    (kt_InUse_UnknownState : PySem.W.kitOne K (.ref f_InUse) (.ref f_UnknownState) = some false)
    (kt_InUse_UnboundName : PySem.W.kitOne K (.ref f_InUse) (.ref f_UnboundName) = some false)
    (kt_InUse_UnknownFormula : PySem.W.kitOne K (.ref f_InUse) (.ref f_UnknownFormula) = some false)
    (kt_InUse_LatticeError : PySem.W.kitOne K (.ref f_InUse) (.ref f_LatticeError) = some true)
    (kt_InUse_ValueError : PySem.W.kitOne K (.ref f_InUse) (.type "ValueError") = some true)
    (kt_InUse_NameMissing : PySem.W.kitOne K (.ref f_InUse) (.ref f_NameMissing) = some false)
    (kt_InUse_LookupError : PySem.W.kitOne K (.ref f_InUse) (.type "LookupError") = some false)
    (kt_InUse_KeyError : PySem.W.kitOne K (.ref f_InUse) (.type "KeyError") = some false)
    (kt_InUse_IndexError : PySem.W.kitOne K (.ref f_InUse) (.type "IndexError") = some false)
    (h_InUse_init : PySem.W.findIn K (.ref f_InUse) "__init__" = some (some (.ref f_InUse_init)))
    (l_InUse_init : K.lookup f_InUse_init = some ⟨oc_InUse_init, od_InUse_init, .func (PySem.W.ksFn "__init__" "InUse.__init__" (defArgs St_InUse_init) (defBody St_InUse_init) (defScope St_InUse_init) .none kV_InUse_init dc_InUse_init pm_InUse_init an_InUse_init (.ref cda_InUse_init) ct_InUse_init cc_InUse_init), sl_InUse_init⟩)
    (c_InUse_init : PySem.W.codeIn K (.ref cda_InUse_init) "InUse.__init__" = true)
    (k_InUse_init : PySem.W.keepIn K (.ref f_InUse_init) = true)
    (q_InUse_init : K.lookup cc_InUse_init = some ⟨ca_InUse_init, cb_InUse_init, .cell (some (.ref f_InUse)), ce_InUse_init⟩)
    (v_InUse_init : K.lookup cda_InUse_init = some ⟨va_InUse_init, vb_InUse_init, .fields vs_InUse_init, ve_InUse_init⟩)
    (vf_InUse_init : vs_InUse_init[2]? = some (.str fl_InUse_init tf_InUse_init))
    (vg_InUse_init : ((PL.main.file : Str) == fl_InUse_init) = true)
    (xt_InUse : PySem.W.typeIn K (.ref f_InUse_init) = some (.type "function"))
    (mr_InUse : PySem.W.mroIn K f_InUse (.ref f_InUse) = some true)
    (su_InUse : PySem.W.ks_superIn K f_InUse f_InUse "__init__" = some (some (.builtin "ValueError.__init__")))
    (ci_InUse : PySem.W.clsIn K f_InUse = some cd_InUse)
    (na_InUse : PySem.W.findIn K (.ref f_InUse) "name" = some none)
    (xl_NameMissing : K.lookup f_NameMissing = some (excClassObj nm_NameMissing qn_NameMissing f_NameMissing ns_NameMissing bs_NameMissing [.type "LookupError", .type "Exception", .type "BaseException", .type "object"] true sn_NameMissing sub_NameMissing ab_NameMissing col_NameMissing ddc_NameMissing k0_NameMissing k1_NameMissing k2_NameMissing k3_NameMissing k5_NameMissing "LookupError.__new__"))
    (xsa_NameMissing : PySem.W.findIn K (.ref f_NameMissing) "__setattr__" = some (some (.builtin "object.__setattr__")))
    (xex_NameMissing : PySem.W.subIn K (.ref f_NameMissing) (.type "BaseException") = some true)
    (xty_NameMissing : PySem.W.typeIn K (.ref f_NameMissing) = some (.type "type"))
    (xkc_NameMissing : PySem.W.keepIn K (.ref f_NameMissing) = true)
    (xga_NameMissing : PySem.W.findIn K (.ref f_NameMissing) "__getattribute__" = some (some (.builtin "BaseException.__getattribute__")))
    (xgg_NameMissing : PySem.W.findIn K (.ref f_NameMissing) "__getattr__" = some none)
    (xhd_NameMissing : PySem.W.hasDictIn K f_NameMissing = true)
    (xq_NameMissing : PySem.W.excIn K f_NameMissing [.type "LookupError", .type "Exception", .type "BaseException", .type "object"] "LookupError.__new__" = true)
    (xl_UnknownValue : K.lookup f_UnknownValue = some (excClassObj nm_UnknownValue qn_UnknownValue f_UnknownValue ns_UnknownValue bs_UnknownValue [.ref f_NameMissing, .type "LookupError", .type "Exception", .type "BaseException", .type "object"] true sn_UnknownValue sub_UnknownValue ab_UnknownValue col_UnknownValue ddc_UnknownValue k0_UnknownValue k1_UnknownValue k2_UnknownValue k3_UnknownValue k5_UnknownValue "LookupError.__new__"))
    (xsa_UnknownValue : PySem.W.findIn K (.ref f_UnknownValue) "__setattr__" = some (some (.builtin "object.__setattr__")))
    (xex_UnknownValue : PySem.W.subIn K (.ref f_UnknownValue) (.type "BaseException") = some true)
    (xty_UnknownValue : PySem.W.typeIn K (.ref f_UnknownValue) = some (.type "type"))
    (xkc_UnknownValue : PySem.W.keepIn K (.ref f_UnknownValue) = true)
    (xga_UnknownValue : PySem.W.findIn K (.ref f_UnknownValue) "__getattribute__" = some (some (.builtin "BaseException.__getattribute__")))
    (xgg_UnknownValue : PySem.W.findIn K (.ref f_UnknownValue) "__getattr__" = some none)
    (xhd_UnknownValue : PySem.W.hasDictIn K f_UnknownValue = true)
    (xcl_UnknownValue : PySem.W.findIn K (.ref f_UnknownValue) "__class__" = some (some (.builtin "object.__class__")))
    (xcg_UnknownValue : PySem.W.specialIn K (.builtin "object.__class__") "__get__" = some (some (.builtin "getset_descriptor.__get__")))
    (xct_UnknownValue : PySem.W.takesIn K (.builtin "object.__class__") = some true)
    (xcm_UnknownValue : PySem.W.mroIn K f_UnknownValue (.type "object") = some true)
    (kt_UnknownValue_BadLattice : PySem.W.kitOne K (.ref f_UnknownValue) (.ref f_BadLattice) = some false)
    (kt_UnknownValue_MixedLattices : PySem.W.kitOne K (.ref f_UnknownValue) (.ref f_MixedLattices) = some false)
    (kt_UnknownValue_BadMap : PySem.W.kitOne K (.ref f_UnknownValue) (.ref f_BadMap) = some false)
    (kt_UnknownValue_BadText : PySem.W.kitOne K (.ref f_UnknownValue) (.ref f_BadText) = some false)
    (kt_UnknownValue_BadName : PySem.W.kitOne K (.ref f_UnknownValue) (.ref f_BadName) = some false)
    (kt_UnknownValue_TwiceTold : PySem.W.kitOne K (.ref f_UnknownValue) (.ref f_TwiceTold) = some false)
    (kt_UnknownValue_NotIrreducible : PySem.W.kitOne K (.ref f_UnknownValue) (.ref f_NotIrreducible) = some false)
    (kt_UnknownValue_InUse : PySem.W.kitOne K (.ref f_UnknownValue) (.ref f_InUse) = some false)
    (kt_UnknownValue_UnknownValue : PySem.W.kitOne K (.ref f_UnknownValue) (.ref f_UnknownValue) = some true)
    (kt_UnknownValue_UnknownState : PySem.W.kitOne K (.ref f_UnknownValue) (.ref f_UnknownState) = some false)
    (kt_UnknownValue_UnboundName : PySem.W.kitOne K (.ref f_UnknownValue) (.ref f_UnboundName) = some false)
    (kt_UnknownValue_UnknownFormula : PySem.W.kitOne K (.ref f_UnknownValue) (.ref f_UnknownFormula) = some false)
    (kt_UnknownValue_LatticeError : PySem.W.kitOne K (.ref f_UnknownValue) (.ref f_LatticeError) = some false)
    (kt_UnknownValue_ValueError : PySem.W.kitOne K (.ref f_UnknownValue) (.type "ValueError") = some false)
    (kt_UnknownValue_NameMissing : PySem.W.kitOne K (.ref f_UnknownValue) (.ref f_NameMissing) = some true)
    (kt_UnknownValue_LookupError : PySem.W.kitOne K (.ref f_UnknownValue) (.type "LookupError") = some true)
    (kt_UnknownValue_KeyError : PySem.W.kitOne K (.ref f_UnknownValue) (.type "KeyError") = some false)
    (kt_UnknownValue_IndexError : PySem.W.kitOne K (.ref f_UnknownValue) (.type "IndexError") = some false)
    (h_UnknownValue_init : PySem.W.findIn K (.ref f_UnknownValue) "__init__" = some (some (.ref f_UnknownValue_init)))
    (l_UnknownValue_init : K.lookup f_UnknownValue_init = some ⟨oc_UnknownValue_init, od_UnknownValue_init, .func (PySem.W.ksFn "__init__" "UnknownValue.__init__" (defArgs St_UnknownValue_init) (defBody St_UnknownValue_init) (defScope St_UnknownValue_init) .none kV_UnknownValue_init dc_UnknownValue_init pm_UnknownValue_init an_UnknownValue_init (.ref cda_UnknownValue_init) ct_UnknownValue_init cc_UnknownValue_init), sl_UnknownValue_init⟩)
    (c_UnknownValue_init : PySem.W.codeIn K (.ref cda_UnknownValue_init) "UnknownValue.__init__" = true)
    (k_UnknownValue_init : PySem.W.keepIn K (.ref f_UnknownValue_init) = true)
    (q_UnknownValue_init : K.lookup cc_UnknownValue_init = some ⟨ca_UnknownValue_init, cb_UnknownValue_init, .cell (some (.ref f_UnknownValue)), ce_UnknownValue_init⟩)
    (v_UnknownValue_init : K.lookup cda_UnknownValue_init = some ⟨va_UnknownValue_init, vb_UnknownValue_init, .fields vs_UnknownValue_init, ve_UnknownValue_init⟩)
    (vf_UnknownValue_init : vs_UnknownValue_init[2]? = some (.str fl_UnknownValue_init tf_UnknownValue_init))
    (vg_UnknownValue_init : ((PL.main.file : Str) == fl_UnknownValue_init) = true)
    (xt_UnknownValue : PySem.W.typeIn K (.ref f_UnknownValue_init) = some (.type "function"))
    (mr_UnknownValue : PySem.W.mroIn K f_UnknownValue (.ref f_UnknownValue) = some true)
    (su_UnknownValue : PySem.W.ks_superIn K f_UnknownValue f_UnknownValue "__init__" = some (some (.builtin "LookupError.__init__")))
    (ci_UnknownValue : PySem.W.clsIn K f_UnknownValue = some cd_UnknownValue)
    (na_UnknownValue : PySem.W.findIn K (.ref f_UnknownValue) "name" = some none)
    (xl_UnknownState : K.lookup f_UnknownState = some (excClassObj nm_UnknownState qn_UnknownState f_UnknownState ns_UnknownState bs_UnknownState [.ref f_NameMissing, .type "LookupError", .type "Exception", .type "BaseException", .type "object"] true sn_UnknownState sub_UnknownState ab_UnknownState col_UnknownState ddc_UnknownState k0_UnknownState k1_UnknownState k2_UnknownState k3_UnknownState k5_UnknownState "LookupError.__new__"))
    (xsa_UnknownState : PySem.W.findIn K (.ref f_UnknownState) "__setattr__" = some (some (.builtin "object.__setattr__")))
    (xex_UnknownState : PySem.W.subIn K (.ref f_UnknownState) (.type "BaseException") = some true)
    (xty_UnknownState : PySem.W.typeIn K (.ref f_UnknownState) = some (.type "type"))
    (xkc_UnknownState : PySem.W.keepIn K (.ref f_UnknownState) = true)
    (xga_UnknownState : PySem.W.findIn K (.ref f_UnknownState) "__getattribute__" = some (some (.builtin "BaseException.__getattribute__")))
    (xgg_UnknownState : PySem.W.findIn K (.ref f_UnknownState) "__getattr__" = some none)
    (xhd_UnknownState : PySem.W.hasDictIn K f_UnknownState = true)
    (xcl_UnknownState : PySem.W.findIn K (.ref f_UnknownState) "__class__" = some (some (.builtin "object.__class__")))
    (xcg_UnknownState : PySem.W.specialIn K (.builtin "object.__class__") "__get__" = some (some (.builtin "getset_descriptor.__get__")))
    (xct_UnknownState : PySem.W.takesIn K (.builtin "object.__class__") = some true)
    (xcm_UnknownState : PySem.W.mroIn K f_UnknownState (.type "object") = some true)
    (kt_UnknownState_BadLattice : PySem.W.kitOne K (.ref f_UnknownState) (.ref f_BadLattice) = some false)
    (kt_UnknownState_MixedLattices : PySem.W.kitOne K (.ref f_UnknownState) (.ref f_MixedLattices) = some false)
    (kt_UnknownState_BadMap : PySem.W.kitOne K (.ref f_UnknownState) (.ref f_BadMap) = some false)
    (kt_UnknownState_BadText : PySem.W.kitOne K (.ref f_UnknownState) (.ref f_BadText) = some false)
    (kt_UnknownState_BadName : PySem.W.kitOne K (.ref f_UnknownState) (.ref f_BadName) = some false)
    (kt_UnknownState_TwiceTold : PySem.W.kitOne K (.ref f_UnknownState) (.ref f_TwiceTold) = some false)
    (kt_UnknownState_NotIrreducible : PySem.W.kitOne K (.ref f_UnknownState) (.ref f_NotIrreducible) = some false)
    (kt_UnknownState_InUse : PySem.W.kitOne K (.ref f_UnknownState) (.ref f_InUse) = some false)
    (kt_UnknownState_UnknownValue : PySem.W.kitOne K (.ref f_UnknownState) (.ref f_UnknownValue) = some false)
    (kt_UnknownState_UnknownState : PySem.W.kitOne K (.ref f_UnknownState) (.ref f_UnknownState) = some true)
    (kt_UnknownState_UnboundName : PySem.W.kitOne K (.ref f_UnknownState) (.ref f_UnboundName) = some false)
    (kt_UnknownState_UnknownFormula : PySem.W.kitOne K (.ref f_UnknownState) (.ref f_UnknownFormula) = some false)
    (kt_UnknownState_LatticeError : PySem.W.kitOne K (.ref f_UnknownState) (.ref f_LatticeError) = some false)
    (kt_UnknownState_ValueError : PySem.W.kitOne K (.ref f_UnknownState) (.type "ValueError") = some false)
    (kt_UnknownState_NameMissing : PySem.W.kitOne K (.ref f_UnknownState) (.ref f_NameMissing) = some true)
    (kt_UnknownState_LookupError : PySem.W.kitOne K (.ref f_UnknownState) (.type "LookupError") = some true)
    (kt_UnknownState_KeyError : PySem.W.kitOne K (.ref f_UnknownState) (.type "KeyError") = some false)
    (kt_UnknownState_IndexError : PySem.W.kitOne K (.ref f_UnknownState) (.type "IndexError") = some false)
    (h_UnknownState_init : PySem.W.findIn K (.ref f_UnknownState) "__init__" = some (some (.ref f_UnknownState_init)))
    (l_UnknownState_init : K.lookup f_UnknownState_init = some ⟨oc_UnknownState_init, od_UnknownState_init, .func (PySem.W.ksFn "__init__" "UnknownState.__init__" (defArgs St_UnknownState_init) (defBody St_UnknownState_init) (defScope St_UnknownState_init) .none kV_UnknownState_init dc_UnknownState_init pm_UnknownState_init an_UnknownState_init (.ref cda_UnknownState_init) ct_UnknownState_init cc_UnknownState_init), sl_UnknownState_init⟩)
    (c_UnknownState_init : PySem.W.codeIn K (.ref cda_UnknownState_init) "UnknownState.__init__" = true)
    (k_UnknownState_init : PySem.W.keepIn K (.ref f_UnknownState_init) = true)
    (q_UnknownState_init : K.lookup cc_UnknownState_init = some ⟨ca_UnknownState_init, cb_UnknownState_init, .cell (some (.ref f_UnknownState)), ce_UnknownState_init⟩)
    (v_UnknownState_init : K.lookup cda_UnknownState_init = some ⟨va_UnknownState_init, vb_UnknownState_init, .fields vs_UnknownState_init, ve_UnknownState_init⟩)
    (vf_UnknownState_init : vs_UnknownState_init[2]? = some (.str fl_UnknownState_init tf_UnknownState_init))
    (vg_UnknownState_init : ((PL.main.file : Str) == fl_UnknownState_init) = true)
    (xt_UnknownState : PySem.W.typeIn K (.ref f_UnknownState_init) = some (.type "function"))
    (mr_UnknownState : PySem.W.mroIn K f_UnknownState (.ref f_UnknownState) = some true)
    (su_UnknownState : PySem.W.ks_superIn K f_UnknownState f_UnknownState "__init__" = some (some (.builtin "LookupError.__init__")))
    (ci_UnknownState : PySem.W.clsIn K f_UnknownState = some cd_UnknownState)
    (na_UnknownState : PySem.W.findIn K (.ref f_UnknownState) "name" = some none)
    (xl_UnboundName : K.lookup f_UnboundName = some (excClassObj nm_UnboundName qn_UnboundName f_UnboundName ns_UnboundName bs_UnboundName [.ref f_NameMissing, .type "LookupError", .type "Exception", .type "BaseException", .type "object"] true sn_UnboundName sub_UnboundName ab_UnboundName col_UnboundName ddc_UnboundName k0_UnboundName k1_UnboundName k2_UnboundName k3_UnboundName k5_UnboundName "LookupError.__new__"))
    (xsa_UnboundName : PySem.W.findIn K (.ref f_UnboundName) "__setattr__" = some (some (.builtin "object.__setattr__")))
    (xex_UnboundName : PySem.W.subIn K (.ref f_UnboundName) (.type "BaseException") = some true)
    (xty_UnboundName : PySem.W.typeIn K (.ref f_UnboundName) = some (.type "type"))
    (xkc_UnboundName : PySem.W.keepIn K (.ref f_UnboundName) = true)
    (xga_UnboundName : PySem.W.findIn K (.ref f_UnboundName) "__getattribute__" = some (some (.builtin "BaseException.__getattribute__")))
    (xgg_UnboundName : PySem.W.findIn K (.ref f_UnboundName) "__getattr__" = some none)
    (xhd_UnboundName : PySem.W.hasDictIn K f_UnboundName = true)
    (xcl_UnboundName : PySem.W.findIn K (.ref f_UnboundName) "__class__" = some (some (.builtin "object.__class__")))
    (xcg_UnboundName : PySem.W.specialIn K (.builtin "object.__class__") "__get__" = some (some (.builtin "getset_descriptor.__get__")))
    (xct_UnboundName : PySem.W.takesIn K (.builtin "object.__class__") = some true)
    (xcm_UnboundName : PySem.W.mroIn K f_UnboundName (.type "object") = some true)
    (kt_UnboundName_BadLattice : PySem.W.kitOne K (.ref f_UnboundName) (.ref f_BadLattice) = some false)
    (kt_UnboundName_MixedLattices : PySem.W.kitOne K (.ref f_UnboundName) (.ref f_MixedLattices) = some false)
    (kt_UnboundName_BadMap : PySem.W.kitOne K (.ref f_UnboundName) (.ref f_BadMap) = some false)
    (kt_UnboundName_BadText : PySem.W.kitOne K (.ref f_UnboundName) (.ref f_BadText) = some false)
    (kt_UnboundName_BadName : PySem.W.kitOne K (.ref f_UnboundName) (.ref f_BadName) = some false)
    (kt_UnboundName_TwiceTold : PySem.W.kitOne K (.ref f_UnboundName) (.ref f_TwiceTold) = some false)
    (kt_UnboundName_NotIrreducible : PySem.W.kitOne K (.ref f_UnboundName) (.ref f_NotIrreducible) = some false)
    (kt_UnboundName_InUse : PySem.W.kitOne K (.ref f_UnboundName) (.ref f_InUse) = some false)
    (kt_UnboundName_UnknownValue : PySem.W.kitOne K (.ref f_UnboundName) (.ref f_UnknownValue) = some false)
    (kt_UnboundName_UnknownState : PySem.W.kitOne K (.ref f_UnboundName) (.ref f_UnknownState) = some false)
    (kt_UnboundName_UnboundName : PySem.W.kitOne K (.ref f_UnboundName) (.ref f_UnboundName) = some true)
    (kt_UnboundName_UnknownFormula : PySem.W.kitOne K (.ref f_UnboundName) (.ref f_UnknownFormula) = some false)
    (kt_UnboundName_LatticeError : PySem.W.kitOne K (.ref f_UnboundName) (.ref f_LatticeError) = some false)
    (kt_UnboundName_ValueError : PySem.W.kitOne K (.ref f_UnboundName) (.type "ValueError") = some false)
    (kt_UnboundName_NameMissing : PySem.W.kitOne K (.ref f_UnboundName) (.ref f_NameMissing) = some true)
    (kt_UnboundName_LookupError : PySem.W.kitOne K (.ref f_UnboundName) (.type "LookupError") = some true)
    (kt_UnboundName_KeyError : PySem.W.kitOne K (.ref f_UnboundName) (.type "KeyError") = some false)
    (kt_UnboundName_IndexError : PySem.W.kitOne K (.ref f_UnboundName) (.type "IndexError") = some false)
    (h_UnboundName_init : PySem.W.findIn K (.ref f_UnboundName) "__init__" = some (some (.ref f_UnboundName_init)))
    (l_UnboundName_init : K.lookup f_UnboundName_init = some ⟨oc_UnboundName_init, od_UnboundName_init, .func (PySem.W.ksFn "__init__" "UnboundName.__init__" (defArgs St_UnboundName_init) (defBody St_UnboundName_init) (defScope St_UnboundName_init) .none kV_UnboundName_init dc_UnboundName_init pm_UnboundName_init an_UnboundName_init (.ref cda_UnboundName_init) ct_UnboundName_init cc_UnboundName_init), sl_UnboundName_init⟩)
    (c_UnboundName_init : PySem.W.codeIn K (.ref cda_UnboundName_init) "UnboundName.__init__" = true)
    (k_UnboundName_init : PySem.W.keepIn K (.ref f_UnboundName_init) = true)
    (q_UnboundName_init : K.lookup cc_UnboundName_init = some ⟨ca_UnboundName_init, cb_UnboundName_init, .cell (some (.ref f_UnboundName)), ce_UnboundName_init⟩)
    (v_UnboundName_init : K.lookup cda_UnboundName_init = some ⟨va_UnboundName_init, vb_UnboundName_init, .fields vs_UnboundName_init, ve_UnboundName_init⟩)
    (vf_UnboundName_init : vs_UnboundName_init[2]? = some (.str fl_UnboundName_init tf_UnboundName_init))
    (vg_UnboundName_init : ((PL.main.file : Str) == fl_UnboundName_init) = true)
    (xt_UnboundName : PySem.W.typeIn K (.ref f_UnboundName_init) = some (.type "function"))
    (mr_UnboundName : PySem.W.mroIn K f_UnboundName (.ref f_UnboundName) = some true)
    (su_UnboundName : PySem.W.ks_superIn K f_UnboundName f_UnboundName "__init__" = some (some (.builtin "LookupError.__init__")))
    (ci_UnboundName : PySem.W.clsIn K f_UnboundName = some cd_UnboundName)
    (na_UnboundName : PySem.W.findIn K (.ref f_UnboundName) "name" = some none)
    (xl_UnknownFormula : K.lookup f_UnknownFormula = some (excClassObj nm_UnknownFormula qn_UnknownFormula f_UnknownFormula ns_UnknownFormula bs_UnknownFormula [.ref f_NameMissing, .type "LookupError", .type "Exception", .type "BaseException", .type "object"] true sn_UnknownFormula sub_UnknownFormula ab_UnknownFormula col_UnknownFormula ddc_UnknownFormula k0_UnknownFormula k1_UnknownFormula k2_UnknownFormula k3_UnknownFormula k5_UnknownFormula "LookupError.__new__"))
    (xsa_UnknownFormula : PySem.W.findIn K (.ref f_UnknownFormula) "__setattr__" = some (some (.builtin "object.__setattr__")))
    (xex_UnknownFormula : PySem.W.subIn K (.ref f_UnknownFormula) (.type "BaseException") = some true)
    (xty_UnknownFormula : PySem.W.typeIn K (.ref f_UnknownFormula) = some (.type "type"))
    (xkc_UnknownFormula : PySem.W.keepIn K (.ref f_UnknownFormula) = true)
    (xga_UnknownFormula : PySem.W.findIn K (.ref f_UnknownFormula) "__getattribute__" = some (some (.builtin "BaseException.__getattribute__")))
    (xgg_UnknownFormula : PySem.W.findIn K (.ref f_UnknownFormula) "__getattr__" = some none)
    (xhd_UnknownFormula : PySem.W.hasDictIn K f_UnknownFormula = true)
    (xcl_UnknownFormula : PySem.W.findIn K (.ref f_UnknownFormula) "__class__" = some (some (.builtin "object.__class__")))
    (xcg_UnknownFormula : PySem.W.specialIn K (.builtin "object.__class__") "__get__" = some (some (.builtin "getset_descriptor.__get__")))
    (xct_UnknownFormula : PySem.W.takesIn K (.builtin "object.__class__") = some true)
    (xcm_UnknownFormula : PySem.W.mroIn K f_UnknownFormula (.type "object") = some true)
    (kt_UnknownFormula_BadLattice : PySem.W.kitOne K (.ref f_UnknownFormula) (.ref f_BadLattice) = some false)
    (kt_UnknownFormula_MixedLattices : PySem.W.kitOne K (.ref f_UnknownFormula) (.ref f_MixedLattices) = some false)
    (kt_UnknownFormula_BadMap : PySem.W.kitOne K (.ref f_UnknownFormula) (.ref f_BadMap) = some false)
    (kt_UnknownFormula_BadText : PySem.W.kitOne K (.ref f_UnknownFormula) (.ref f_BadText) = some false)
    (kt_UnknownFormula_BadName : PySem.W.kitOne K (.ref f_UnknownFormula) (.ref f_BadName) = some false)
    (kt_UnknownFormula_TwiceTold : PySem.W.kitOne K (.ref f_UnknownFormula) (.ref f_TwiceTold) = some false)
    (kt_UnknownFormula_NotIrreducible : PySem.W.kitOne K (.ref f_UnknownFormula) (.ref f_NotIrreducible) = some false)
    (kt_UnknownFormula_InUse : PySem.W.kitOne K (.ref f_UnknownFormula) (.ref f_InUse) = some false)
    (kt_UnknownFormula_UnknownValue : PySem.W.kitOne K (.ref f_UnknownFormula) (.ref f_UnknownValue) = some false)
    (kt_UnknownFormula_UnknownState : PySem.W.kitOne K (.ref f_UnknownFormula) (.ref f_UnknownState) = some false)
    (kt_UnknownFormula_UnboundName : PySem.W.kitOne K (.ref f_UnknownFormula) (.ref f_UnboundName) = some false)
    (kt_UnknownFormula_UnknownFormula : PySem.W.kitOne K (.ref f_UnknownFormula) (.ref f_UnknownFormula) = some true)
    (kt_UnknownFormula_LatticeError : PySem.W.kitOne K (.ref f_UnknownFormula) (.ref f_LatticeError) = some false)
    (kt_UnknownFormula_ValueError : PySem.W.kitOne K (.ref f_UnknownFormula) (.type "ValueError") = some false)
    (kt_UnknownFormula_NameMissing : PySem.W.kitOne K (.ref f_UnknownFormula) (.ref f_NameMissing) = some true)
    (kt_UnknownFormula_LookupError : PySem.W.kitOne K (.ref f_UnknownFormula) (.type "LookupError") = some true)
    (kt_UnknownFormula_KeyError : PySem.W.kitOne K (.ref f_UnknownFormula) (.type "KeyError") = some false)
    (kt_UnknownFormula_IndexError : PySem.W.kitOne K (.ref f_UnknownFormula) (.type "IndexError") = some false)
    (h_UnknownFormula_init : PySem.W.findIn K (.ref f_UnknownFormula) "__init__" = some (some (.ref f_UnknownFormula_init)))
    (l_UnknownFormula_init : K.lookup f_UnknownFormula_init = some ⟨oc_UnknownFormula_init, od_UnknownFormula_init, .func (PySem.W.ksFn "__init__" "UnknownFormula.__init__" (defArgs St_UnknownFormula_init) (defBody St_UnknownFormula_init) (defScope St_UnknownFormula_init) .none kV_UnknownFormula_init dc_UnknownFormula_init pm_UnknownFormula_init an_UnknownFormula_init (.ref cda_UnknownFormula_init) ct_UnknownFormula_init cc_UnknownFormula_init), sl_UnknownFormula_init⟩)
    (c_UnknownFormula_init : PySem.W.codeIn K (.ref cda_UnknownFormula_init) "UnknownFormula.__init__" = true)
    (k_UnknownFormula_init : PySem.W.keepIn K (.ref f_UnknownFormula_init) = true)
    (q_UnknownFormula_init : K.lookup cc_UnknownFormula_init = some ⟨ca_UnknownFormula_init, cb_UnknownFormula_init, .cell (some (.ref f_UnknownFormula)), ce_UnknownFormula_init⟩)
    (v_UnknownFormula_init : K.lookup cda_UnknownFormula_init = some ⟨va_UnknownFormula_init, vb_UnknownFormula_init, .fields vs_UnknownFormula_init, ve_UnknownFormula_init⟩)
    (vf_UnknownFormula_init : vs_UnknownFormula_init[2]? = some (.str fl_UnknownFormula_init tf_UnknownFormula_init))
    (vg_UnknownFormula_init : ((PL.main.file : Str) == fl_UnknownFormula_init) = true)
    (xt_UnknownFormula : PySem.W.typeIn K (.ref f_UnknownFormula_init) = some (.type "function"))
    (mr_UnknownFormula : PySem.W.mroIn K f_UnknownFormula (.ref f_UnknownFormula) = some true)
    (su_UnknownFormula : PySem.W.ks_superIn K f_UnknownFormula f_UnknownFormula "__init__" = some (some (.builtin "LookupError.__init__")))
    (ci_UnknownFormula : PySem.W.clsIn K f_UnknownFormula = some cd_UnknownFormula)
    (na_UnknownFormula : PySem.W.findIn K (.ref f_UnknownFormula) "name" = some none)
    (st_any : PySem.W.nsIn K PySem.cStatics "thirdparty.any" = some none)
    : ∃ fd : FuncData, (∀ (s : Shared) (v : Value), BindsTo s fd ⟨[v], []⟩ [("script", v)]) ∧ ∀ base : Heap, K.In base → base.Ns mainGlobals mg → FnOk PL W_ K mg base L2.CX0 40 fa fd ["script"] (spLaw K) := by
  have e := hfa.symm.trans (PySem.W.mg_of X G g_law)
  cases e
  have F__law_cells := fun_mk (st := St__law_cells) l__law_cells c__law_cells k__law_cells
  have b__law_cells := F__law_cells.binds (ps := ["script"]) fun _ _ _ _ _ _ us hl => match us, hl with | [_], _ => rfl
  have F__law_pick := fun_mk (st := St__law_pick) l__law_pick c__law_pick k__law_pick
  have b__law_pick := F__law_pick.binds (ps := ["source", "many"]) fun _ _ _ _ _ _ us hl => match us, hl with | [_, _], _ => rfl
  have F__law_classes := fun_mk (st := St__law_classes) l__law_classes c__law_classes k__law_classes
  have b__law_classes := F__law_classes.binds (ps := ["e"]) fun _ _ _ _ _ _ us hl => match us, hl with | [_], _ => rfl
  have F_law := fun_mk (st := St_law) l_law c_law k_law
  have b_law := F_law.binds (ps := ["script"]) fun _ _ _ _ _ _ us hl => match us, hl with | [_], _ => rfl
  have F_BadText_init := funK_mk (st := St_BadText_init) (PL := PL) l_BadText_init c_BadText_init k_BadText_init q_BadText_init v_BadText_init vf_BadText_init vg_BadText_init
  have b_BadText_init := F_BadText_init.binds (ps := ["self", "at"]) fun _ _ _ _ _ _ _ us hl => match us, hl with | [_, _], _ => rfl
  have F_BadName_init := funK_mk (st := St_BadName_init) (PL := PL) l_BadName_init c_BadName_init k_BadName_init q_BadName_init v_BadName_init vf_BadName_init vg_BadName_init
  have b_BadName_init := F_BadName_init.binds (ps := ["self", "name"]) fun _ _ _ _ _ _ _ us hl => match us, hl with | [_, _], _ => rfl
  have F_TwiceTold_init := funK_mk (st := St_TwiceTold_init) (PL := PL) l_TwiceTold_init c_TwiceTold_init k_TwiceTold_init q_TwiceTold_init v_TwiceTold_init vf_TwiceTold_init vg_TwiceTold_init
  have b_TwiceTold_init := F_TwiceTold_init.binds (ps := ["self", "name"]) fun _ _ _ _ _ _ _ us hl => match us, hl with | [_, _], _ => rfl
  have F_NotIrreducible_init := funK_mk (st := St_NotIrreducible_init) (PL := PL) l_NotIrreducible_init c_NotIrreducible_init k_NotIrreducible_init q_NotIrreducible_init v_NotIrreducible_init vf_NotIrreducible_init vg_NotIrreducible_init
  have b_NotIrreducible_init := F_NotIrreducible_init.binds (ps := ["self", "name"]) fun _ _ _ _ _ _ _ us hl => match us, hl with | [_, _], _ => rfl
  have F_InUse_init := funK_mk (st := St_InUse_init) (PL := PL) l_InUse_init c_InUse_init k_InUse_init q_InUse_init v_InUse_init vf_InUse_init vg_InUse_init
  have b_InUse_init := F_InUse_init.binds (ps := ["self", "name"]) fun _ _ _ _ _ _ _ us hl => match us, hl with | [_, _], _ => rfl
  have F_UnknownValue_init := funK_mk (st := St_UnknownValue_init) (PL := PL) l_UnknownValue_init c_UnknownValue_init k_UnknownValue_init q_UnknownValue_init v_UnknownValue_init vf_UnknownValue_init vg_UnknownValue_init
  have b_UnknownValue_init := F_UnknownValue_init.binds (ps := ["self", "name"]) fun _ _ _ _ _ _ _ us hl => match us, hl with | [_, _], _ => rfl
  have F_UnknownState_init := funK_mk (st := St_UnknownState_init) (PL := PL) l_UnknownState_init c_UnknownState_init k_UnknownState_init q_UnknownState_init v_UnknownState_init vf_UnknownState_init vg_UnknownState_init
  have b_UnknownState_init := F_UnknownState_init.binds (ps := ["self", "name"]) fun _ _ _ _ _ _ _ us hl => match us, hl with | [_, _], _ => rfl
  have F_UnboundName_init := funK_mk (st := St_UnboundName_init) (PL := PL) l_UnboundName_init c_UnboundName_init k_UnboundName_init q_UnboundName_init v_UnboundName_init vf_UnboundName_init vg_UnboundName_init
  have b_UnboundName_init := F_UnboundName_init.binds (ps := ["self", "name"]) fun _ _ _ _ _ _ _ us hl => match us, hl with | [_, _], _ => rfl
  have F_UnknownFormula_init := funK_mk (st := St_UnknownFormula_init) (PL := PL) l_UnknownFormula_init c_UnknownFormula_init k_UnknownFormula_init q_UnknownFormula_init v_UnknownFormula_init vf_UnknownFormula_init vg_UnknownFormula_init
  have b_UnknownFormula_init := F_UnknownFormula_init.binds (ps := ["self", "name"]) fun _ _ _ _ _ _ _ us hl => match us, hl with | [_, _], _ => rfl
  let T : Tx K mg W_ := { n_IndexError := PySem.W.mg_none_of X G z_IndexError, n_KeyError := PySem.W.mg_none_of X G z_KeyError, n_LookupError := PySem.W.mg_none_of X G z_LookupError, n_ValueError := PySem.W.mg_none_of X G z_ValueError, n_abs := PySem.W.mg_none_of X G z_abs, n_int := PySem.W.mg_none_of X G z_int, n_isinstance := PySem.W.mg_none_of X G z_isinstance, n_len := PySem.W.mg_none_of X G z_len, n_range := PySem.W.mg_none_of X G z_range, n_super := PySem.W.mg_none_of X G z_super, a__law_cells := f__law_cells, d__law_cells := _, F__law_cells := F__law_cells, b__law_cells := b__law_cells, g__law_cells := PySem.W.mg_of X G g__law_cells, a__law_pick := f__law_pick, d__law_pick := _, F__law_pick := F__law_pick, b__law_pick := b__law_pick, g__law_pick := PySem.W.mg_of X G g__law_pick, a__law_classes := f__law_classes, d__law_classes := _, F__law_classes := F__law_classes, b__law_classes := b__law_classes, g__law_classes := PySem.W.mg_of X G g__law_classes, a_law := fa, d_law := _, F_law := F_law, b_law := b_law, g_law := PySem.W.mg_of X G g_law, a_LatticeError := f_LatticeError, g_LatticeError := PySem.W.mg_of X G g_LatticeError, a_BadLattice := f_BadLattice, g_BadLattice := PySem.W.mg_of X G g_BadLattice, a_MixedLattices := f_MixedLattices, g_MixedLattices := PySem.W.mg_of X G g_MixedLattices, a_BadMap := f_BadMap, g_BadMap := PySem.W.mg_of X G g_BadMap, a_BadText := f_BadText, g_BadText := PySem.W.mg_of X G g_BadText, a_BadName := f_BadName, g_BadName := PySem.W.mg_of X G g_BadName, a_TwiceTold := f_TwiceTold, g_TwiceTold := PySem.W.mg_of X G g_TwiceTold, a_NotIrreducible := f_NotIrreducible, g_NotIrreducible := PySem.W.mg_of X G g_NotIrreducible, a_InUse := f_InUse, g_InUse := PySem.W.mg_of X G g_InUse, a_NameMissing := f_NameMissing, g_NameMissing := PySem.W.mg_of X G g_NameMissing, a_UnknownValue := f_UnknownValue, g_UnknownValue := PySem.W.mg_of X G g_UnknownValue, a_UnknownState := f_UnknownState, g_UnknownState := PySem.W.mg_of X G g_UnknownState, a_UnboundName := f_UnboundName, g_UnboundName := PySem.W.mg_of X G g_UnboundName, a_UnknownFormula := f_UnknownFormula, g_UnknownFormula := PySem.W.mg_of X G g_UnknownFormula, x_LatticeError := ⟨⟨_, _, _, _, _, _, _, _, _, _, _, _, _, _, _, xl_LatticeError, .nil⟩, xsa_LatticeError, xex_LatticeError, xty_LatticeError, xkc_LatticeError⟩, f_LatticeError := ⟨xga_LatticeError, xgg_LatticeError, xex_LatticeError, xhd_LatticeError⟩, q_LatticeError := xq_LatticeError, r_LatticeError := ⟨xex_LatticeError, xty_LatticeError, xkc_LatticeError⟩, x_BadLattice := ⟨⟨_, _, _, _, _, _, _, _, _, _, _, _, _, _, _, xl_BadLattice, (.cons .nil)⟩, xsa_BadLattice, xex_BadLattice, xty_BadLattice, xkc_BadLattice⟩, f_BadLattice := ⟨xga_BadLattice, xgg_BadLattice, xex_BadLattice, xhd_BadLattice⟩, q_BadLattice := xq_BadLattice, r_BadLattice := ⟨xex_BadLattice, xty_BadLattice, xkc_BadLattice⟩, xc_BadLattice := ⟨xga_BadLattice, xgg_BadLattice, xex_BadLattice, xhd_BadLattice, xcl_BadLattice, xcg_BadLattice, xct_BadLattice, xcm_BadLattice⟩, kx_BadLattice_BadLattice := kt_BadLattice_BadLattice, kx_BadLattice_MixedLattices := kt_BadLattice_MixedLattices, kx_BadLattice_BadMap := kt_BadLattice_BadMap, kx_BadLattice_BadText := kt_BadLattice_BadText, kx_BadLattice_BadName := kt_BadLattice_BadName, kx_BadLattice_TwiceTold := kt_BadLattice_TwiceTold, kx_BadLattice_NotIrreducible := kt_BadLattice_NotIrreducible, kx_BadLattice_InUse := kt_BadLattice_InUse, kx_BadLattice_UnknownValue := kt_BadLattice_UnknownValue, kx_BadLattice_UnknownState := kt_BadLattice_UnknownState, kx_BadLattice_UnboundName := kt_BadLattice_UnboundName, kx_BadLattice_UnknownFormula := kt_BadLattice_UnknownFormula, kx_BadLattice_LatticeError := kt_BadLattice_LatticeError, kx_BadLattice_ValueError := kt_BadLattice_ValueError, kx_BadLattice_NameMissing := kt_BadLattice_NameMissing, kx_BadLattice_LookupError := kt_BadLattice_LookupError, kx_BadLattice_KeyError := kt_BadLattice_KeyError, kx_BadLattice_IndexError := kt_BadLattice_IndexError, x_MixedLattices := ⟨⟨_, _, _, _, _, _, _, _, _, _, _, _, _, _, _, xl_MixedLattices, (.cons .nil)⟩, xsa_MixedLattices, xex_MixedLattices, xty_MixedLattices, xkc_MixedLattices⟩, f_MixedLattices := ⟨xga_MixedLattices, xgg_MixedLattices, xex_MixedLattices, xhd_MixedLattices⟩, q_MixedLattices := xq_MixedLattices, r_MixedLattices := ⟨xex_MixedLattices, xty_MixedLattices, xkc_MixedLattices⟩, xc_MixedLattices := ⟨xga_MixedLattices, xgg_MixedLattices, xex_MixedLattices, xhd_MixedLattices, xcl_MixedLattices, xcg_MixedLattices, xct_MixedLattices, xcm_MixedLattices⟩, kx_MixedLattices_BadLattice := kt_MixedLattices_BadLattice, kx_MixedLattices_MixedLattices := kt_MixedLattices_MixedLattices, kx_MixedLattices_BadMap := kt_MixedLattices_BadMap, kx_MixedLattices_BadText := kt_MixedLattices_BadText, kx_MixedLattices_BadName := kt_MixedLattices_BadName, kx_MixedLattices_TwiceTold := kt_MixedLattices_TwiceTold, kx_MixedLattices_NotIrreducible := kt_MixedLattices_NotIrreducible, kx_MixedLattices_InUse := kt_MixedLattices_InUse, kx_MixedLattices_UnknownValue := kt_MixedLattices_UnknownValue, kx_MixedLattices_UnknownState := kt_MixedLattices_UnknownState, kx_MixedLattices_UnboundName := kt_MixedLattices_UnboundName, kx_MixedLattices_UnknownFormula := kt_MixedLattices_UnknownFormula, kx_MixedLattices_LatticeError := kt_MixedLattices_LatticeError, kx_MixedLattices_ValueError := kt_MixedLattices_ValueError, kx_MixedLattices_NameMissing := kt_MixedLattices_NameMissing, kx_MixedLattices_LookupError := kt_MixedLattices_LookupError, kx_MixedLattices_KeyError := kt_MixedLattices_KeyError, kx_MixedLattices_IndexError := kt_MixedLattices_IndexError, x_BadMap := ⟨⟨_, _, _, _, _, _, _, _, _, _, _, _, _, _, _, xl_BadMap, (.cons .nil)⟩, xsa_BadMap, xex_BadMap, xty_BadMap, xkc_BadMap⟩, f_BadMap := ⟨xga_BadMap, xgg_BadMap, xex_BadMap, xhd_BadMap⟩, q_BadMap := xq_BadMap, r_BadMap := ⟨xex_BadMap, xty_BadMap, xkc_BadMap⟩, xc_BadMap := ⟨xga_BadMap, xgg_BadMap, xex_BadMap, xhd_BadMap, xcl_BadMap, xcg_BadMap, xct_BadMap, xcm_BadMap⟩, kx_BadMap_BadLattice := kt_BadMap_BadLattice, kx_BadMap_MixedLattices := kt_BadMap_MixedLattices, kx_BadMap_BadMap := kt_BadMap_BadMap, kx_BadMap_BadText := kt_BadMap_BadText, kx_BadMap_BadName := kt_BadMap_BadName, kx_BadMap_TwiceTold := kt_BadMap_TwiceTold, kx_BadMap_NotIrreducible := kt_BadMap_NotIrreducible, kx_BadMap_InUse := kt_BadMap_InUse, kx_BadMap_UnknownValue := kt_BadMap_UnknownValue, kx_BadMap_UnknownState := kt_BadMap_UnknownState, kx_BadMap_UnboundName := kt_BadMap_UnboundName, kx_BadMap_UnknownFormula := kt_BadMap_UnknownFormula, kx_BadMap_LatticeError := kt_BadMap_LatticeError, kx_BadMap_ValueError := kt_BadMap_ValueError, kx_BadMap_NameMissing := kt_BadMap_NameMissing, kx_BadMap_LookupError := kt_BadMap_LookupError, kx_BadMap_KeyError := kt_BadMap_KeyError, kx_BadMap_IndexError := kt_BadMap_IndexError, x_BadText := ⟨⟨_, _, _, _, _, _, _, _, _, _, _, _, _, _, _, xl_BadText, (.cons .nil)⟩, xsa_BadText, xex_BadText, xty_BadText, xkc_BadText⟩, f_BadText := ⟨xga_BadText, xgg_BadText, xex_BadText, xhd_BadText⟩, xc_BadText := ⟨xga_BadText, xgg_BadText, xex_BadText, xhd_BadText, xcl_BadText, xcg_BadText, xct_BadText, xcm_BadText⟩, kx_BadText_BadLattice := kt_BadText_BadLattice, kx_BadText_MixedLattices := kt_BadText_MixedLattices, kx_BadText_BadMap := kt_BadText_BadMap, kx_BadText_BadText := kt_BadText_BadText, kx_BadText_BadName := kt_BadText_BadName, kx_BadText_TwiceTold := kt_BadText_TwiceTold, kx_BadText_NotIrreducible := kt_BadText_NotIrreducible, kx_BadText_InUse := kt_BadText_InUse, kx_BadText_UnknownValue := kt_BadText_UnknownValue, kx_BadText_UnknownState := kt_BadText_UnknownState, kx_BadText_UnboundName := kt_BadText_UnboundName, kx_BadText_UnknownFormula := kt_BadText_UnknownFormula, kx_BadText_LatticeError := kt_BadText_LatticeError, kx_BadText_ValueError := kt_BadText_ValueError, kx_BadText_NameMissing := kt_BadText_NameMissing, kx_BadText_LookupError := kt_BadText_LookupError, kx_BadText_KeyError := kt_BadText_KeyError, kx_BadText_IndexError := kt_BadText_IndexError, a_BadText_init := f_BadText_init, d_BadText_init := _, F_BadText_init := F_BadText_init, b_BadText_init := b_BadText_init, i_BadText := h_BadText_init, t_BadText := xt_BadText, mr_BadText := mr_BadText, su_BadText := su_BadText, ci_BadText := ⟨_, ci_BadText⟩, na_BadText := na_BadText, x_BadName := ⟨⟨_, _, _, _, _, _, _, _, _, _, _, _, _, _, _, xl_BadName, (.cons .nil)⟩, xsa_BadName, xex_BadName, xty_BadName, xkc_BadName⟩, f_BadName := ⟨xga_BadName, xgg_BadName, xex_BadName, xhd_BadName⟩, xc_BadName := ⟨xga_BadName, xgg_BadName, xex_BadName, xhd_BadName, xcl_BadName, xcg_BadName, xct_BadName, xcm_BadName⟩, kx_BadName_BadLattice := kt_BadName_BadLattice, kx_BadName_MixedLattices := kt_BadName_MixedLattices, kx_BadName_BadMap := kt_BadName_BadMap, kx_BadName_BadText := kt_BadName_BadText, kx_BadName_BadName := kt_BadName_BadName, kx_BadName_TwiceTold := kt_BadName_TwiceTold, kx_BadName_NotIrreducible := kt_BadName_NotIrreducible, kx_BadName_InUse := kt_BadName_InUse, kx_BadName_UnknownValue := kt_BadName_UnknownValue, kx_BadName_UnknownState := kt_BadName_UnknownState, kx_BadName_UnboundName := kt_BadName_UnboundName, kx_BadName_UnknownFormula := kt_BadName_UnknownFormula, kx_BadName_LatticeError := kt_BadName_LatticeError, kx_BadName_ValueError := kt_BadName_ValueError, kx_BadName_NameMissing := kt_BadName_NameMissing, kx_BadName_LookupError := kt_BadName_LookupError, kx_BadName_KeyError := kt_BadName_KeyError, kx_BadName_IndexError := kt_BadName_IndexError, a_BadName_init := f_BadName_init, d_BadName_init := _, F_BadName_init := F_BadName_init, b_BadName_init := b_BadName_init, i_BadName := h_BadName_init, t_BadName := xt_BadName, mr_BadName := mr_BadName, su_BadName := su_BadName, ci_BadName := ⟨_, ci_BadName⟩, na_BadName := na_BadName, x_TwiceTold := ⟨⟨_, _, _, _, _, _, _, _, _, _, _, _, _, _, _, xl_TwiceTold, (.cons .nil)⟩, xsa_TwiceTold, xex_TwiceTold, xty_TwiceTold, xkc_TwiceTold⟩, f_TwiceTold := ⟨xga_TwiceTold, xgg_TwiceTold, xex_TwiceTold, xhd_TwiceTold⟩, xc_TwiceTold := ⟨xga_TwiceTold, xgg_TwiceTold, xex_TwiceTold, xhd_TwiceTold, xcl_TwiceTold, xcg_TwiceTold, xct_TwiceTold, xcm_TwiceTold⟩, kx_TwiceTold_BadLattice := kt_TwiceTold_BadLattice, kx_TwiceTold_MixedLattices := kt_TwiceTold_MixedLattices, kx_TwiceTold_BadMap := kt_TwiceTold_BadMap, kx_TwiceTold_BadText := kt_TwiceTold_BadText, kx_TwiceTold_BadName := kt_TwiceTold_BadName, kx_TwiceTold_TwiceTold := kt_TwiceTold_TwiceTold, kx_TwiceTold_NotIrreducible := kt_TwiceTold_NotIrreducible, kx_TwiceTold_InUse := kt_TwiceTold_InUse, kx_TwiceTold_UnknownValue := kt_TwiceTold_UnknownValue, kx_TwiceTold_UnknownState := kt_TwiceTold_UnknownState, kx_TwiceTold_UnboundName := kt_TwiceTold_UnboundName, kx_TwiceTold_UnknownFormula := kt_TwiceTold_UnknownFormula, kx_TwiceTold_LatticeError := kt_TwiceTold_LatticeError, kx_TwiceTold_ValueError := kt_TwiceTold_ValueError, kx_TwiceTold_NameMissing := kt_TwiceTold_NameMissing, kx_TwiceTold_LookupError := kt_TwiceTold_LookupError, kx_TwiceTold_KeyError := kt_TwiceTold_KeyError, kx_TwiceTold_IndexError := kt_TwiceTold_IndexError, a_TwiceTold_init := f_TwiceTold_init, d_TwiceTold_init := _, F_TwiceTold_init := F_TwiceTold_init, b_TwiceTold_init := b_TwiceTold_init, i_TwiceTold := h_TwiceTold_init, t_TwiceTold := xt_TwiceTold, mr_TwiceTold := mr_TwiceTold, su_TwiceTold := su_TwiceTold, ci_TwiceTold := ⟨_, ci_TwiceTold⟩, na_TwiceTold := na_TwiceTold, x_NotIrreducible := ⟨⟨_, _, _, _, _, _, _, _, _, _, _, _, _, _, _, xl_NotIrreducible, (.cons .nil)⟩, xsa_NotIrreducible, xex_NotIrreducible, xty_NotIrreducible, xkc_NotIrreducible⟩, f_NotIrreducible := ⟨xga_NotIrreducible, xgg_NotIrreducible, xex_NotIrreducible, xhd_NotIrreducible⟩, xc_NotIrreducible := ⟨xga_NotIrreducible, xgg_NotIrreducible, xex_NotIrreducible, xhd_NotIrreducible, xcl_NotIrreducible, xcg_NotIrreducible, xct_NotIrreducible, xcm_NotIrreducible⟩, kx_NotIrreducible_BadLattice := kt_NotIrreducible_BadLattice, kx_NotIrreducible_MixedLattices := kt_NotIrreducible_MixedLattices, kx_NotIrreducible_BadMap := kt_NotIrreducible_BadMap, kx_NotIrreducible_BadText := kt_NotIrreducible_BadText, kx_NotIrreducible_BadName := kt_NotIrreducible_BadName, kx_NotIrreducible_TwiceTold := kt_NotIrreducible_TwiceTold, kx_NotIrreducible_NotIrreducible := kt_NotIrreducible_NotIrreducible, kx_NotIrreducible_InUse := kt_NotIrreducible_InUse, kx_NotIrreducible_UnknownValue := kt_NotIrreducible_UnknownValue, kx_NotIrreducible_UnknownState := kt_NotIrreducible_UnknownState, kx_NotIrreducible_UnboundName := kt_NotIrreducible_UnboundName, kx_NotIrreducible_UnknownFormula := kt_NotIrreducible_UnknownFormula, kx_NotIrreducible_LatticeError := kt_NotIrreducible_LatticeError, kx_NotIrreducible_ValueError := kt_NotIrreducible_ValueError, kx_NotIrreducible_NameMissing := kt_NotIrreducible_NameMissing, kx_NotIrreducible_LookupError := kt_NotIrreducible_LookupError, kx_NotIrreducible_KeyError := kt_NotIrreducible_KeyError, kx_NotIrreducible_IndexError := kt_NotIrreducible_IndexError, a_NotIrreducible_init := f_NotIrreducible_init, d_NotIrreducible_init := _, F_NotIrreducible_init := F_NotIrreducible_init, b_NotIrreducible_init := b_NotIrreducible_init, i_NotIrreducible := h_NotIrreducible_init, t_NotIrreducible := xt_NotIrreducible, mr_NotIrreducible := mr_NotIrreducible, su_NotIrreducible := su_NotIrreducible, ci_NotIrreducible := ⟨_, ci_NotIrreducible⟩, na_NotIrreducible := na_NotIrreducible, x_InUse := ⟨⟨_, _, _, _, _, _, _, _, _, _, _, _, _, _, _, xl_InUse, (.cons .nil)⟩, xsa_InUse, xex_InUse, xty_InUse, xkc_InUse⟩, f_InUse := ⟨xga_InUse, xgg_InUse, xex_InUse, xhd_InUse⟩, xc_InUse := ⟨xga_InUse, xgg_InUse, xex_InUse, xhd_InUse, xcl_InUse, xcg_InUse, xct_InUse, xcm_InUse⟩, kx_InUse_BadLattice := kt_InUse_BadLattice, kx_InUse_MixedLattices := kt_InUse_MixedLattices, kx_InUse_BadMap := kt_InUse_BadMap, kx_InUse_BadText := kt_InUse_BadText, kx_InUse_BadName := kt_InUse_BadName, kx_InUse_TwiceTold := kt_InUse_TwiceTold, kx_InUse_NotIrreducible := kt_InUse_NotIrreducible, kx_InUse_InUse := kt_InUse_InUse, kx_InUse_UnknownValue := kt_InUse_UnknownValue, kx_InUse_UnknownState := kt_InUse_UnknownState, kx_InUse_UnboundName := kt_InUse_UnboundName, kx_InUse_UnknownFormula := kt_InUse_UnknownFormula, kx_InUse_LatticeError := kt_InUse_LatticeError, kx_InUse_ValueError := kt_InUse_ValueError, kx_InUse_NameMissing := kt_InUse_NameMissing, kx_InUse_LookupError := kt_InUse_LookupError, kx_InUse_KeyError := kt_InUse_KeyError, kx_InUse_IndexError := kt_InUse_IndexError, a_InUse_init := f_InUse_init, d_InUse_init := _, F_InUse_init := F_InUse_init, b_InUse_init := b_InUse_init, i_InUse := h_InUse_init, t_InUse := xt_InUse, mr_InUse := mr_InUse, su_InUse := su_InUse, ci_InUse := ⟨_, ci_InUse⟩, na_InUse := na_InUse, x_NameMissing := ⟨⟨_, _, _, _, _, _, _, _, _, _, _, _, _, _, _, xl_NameMissing, .nil⟩, xsa_NameMissing, xex_NameMissing, xty_NameMissing, xkc_NameMissing⟩, f_NameMissing := ⟨xga_NameMissing, xgg_NameMissing, xex_NameMissing, xhd_NameMissing⟩, q_NameMissing := xq_NameMissing, r_NameMissing := ⟨xex_NameMissing, xty_NameMissing, xkc_NameMissing⟩, x_UnknownValue := ⟨⟨_, _, _, _, _, _, _, _, _, _, _, _, _, _, _, xl_UnknownValue, (.cons .nil)⟩, xsa_UnknownValue, xex_UnknownValue, xty_UnknownValue, xkc_UnknownValue⟩, f_UnknownValue := ⟨xga_UnknownValue, xgg_UnknownValue, xex_UnknownValue, xhd_UnknownValue⟩, xc_UnknownValue := ⟨xga_UnknownValue, xgg_UnknownValue, xex_UnknownValue, xhd_UnknownValue, xcl_UnknownValue, xcg_UnknownValue, xct_UnknownValue, xcm_UnknownValue⟩, kx_UnknownValue_BadLattice := kt_UnknownValue_BadLattice, kx_UnknownValue_MixedLattices := kt_UnknownValue_MixedLattices, kx_UnknownValue_BadMap := kt_UnknownValue_BadMap, kx_UnknownValue_BadText := kt_UnknownValue_BadText, kx_UnknownValue_BadName := kt_UnknownValue_BadName, kx_UnknownValue_TwiceTold := kt_UnknownValue_TwiceTold, kx_UnknownValue_NotIrreducible := kt_UnknownValue_NotIrreducible, kx_UnknownValue_InUse := kt_UnknownValue_InUse, kx_UnknownValue_UnknownValue := kt_UnknownValue_UnknownValue, kx_UnknownValue_UnknownState := kt_UnknownValue_UnknownState, kx_UnknownValue_UnboundName := kt_UnknownValue_UnboundName, kx_UnknownValue_UnknownFormula := kt_UnknownValue_UnknownFormula, kx_UnknownValue_LatticeError := kt_UnknownValue_LatticeError, kx_UnknownValue_ValueError := kt_UnknownValue_ValueError, kx_UnknownValue_NameMissing := kt_UnknownValue_NameMissing, kx_UnknownValue_LookupError := kt_UnknownValue_LookupError, kx_UnknownValue_KeyError := kt_UnknownValue_KeyError, kx_UnknownValue_IndexError := kt_UnknownValue_IndexError, a_UnknownValue_init := f_UnknownValue_init, d_UnknownValue_init := _, F_UnknownValue_init := F_UnknownValue_init, b_UnknownValue_init := b_UnknownValue_init, i_UnknownValue := h_UnknownValue_init, t_UnknownValue := xt_UnknownValue, mr_UnknownValue := mr_UnknownValue, su_UnknownValue := su_UnknownValue, ci_UnknownValue := ⟨_, ci_UnknownValue⟩, na_UnknownValue := na_UnknownValue, x_UnknownState := ⟨⟨_, _, _, _, _, _, _, _, _, _, _, _, _, _, _, xl_UnknownState, (.cons .nil)⟩, xsa_UnknownState, xex_UnknownState, xty_UnknownState, xkc_UnknownState⟩, f_UnknownState := ⟨xga_UnknownState, xgg_UnknownState, xex_UnknownState, xhd_UnknownState⟩, xc_UnknownState := ⟨xga_UnknownState, xgg_UnknownState, xex_UnknownState, xhd_UnknownState, xcl_UnknownState, xcg_UnknownState, xct_UnknownState, xcm_UnknownState⟩, kx_UnknownState_BadLattice := kt_UnknownState_BadLattice, kx_UnknownState_MixedLattices := kt_UnknownState_MixedLattices, kx_UnknownState_BadMap := kt_UnknownState_BadMap, kx_UnknownState_BadText := kt_UnknownState_BadText, kx_UnknownState_BadName := kt_UnknownState_BadName, kx_UnknownState_TwiceTold := kt_UnknownState_TwiceTold, kx_UnknownState_NotIrreducible := kt_UnknownState_NotIrreducible, kx_UnknownState_InUse := kt_UnknownState_InUse, kx_UnknownState_UnknownValue := kt_UnknownState_UnknownValue, kx_UnknownState_UnknownState := kt_UnknownState_UnknownState, kx_UnknownState_UnboundName := kt_UnknownState_UnboundName, kx_UnknownState_UnknownFormula := kt_UnknownState_UnknownFormula, kx_UnknownState_LatticeError := kt_UnknownState_LatticeError, kx_UnknownState_ValueError := kt_UnknownState_ValueError, kx_UnknownState_NameMissing := kt_UnknownState_NameMissing, kx_UnknownState_LookupError := kt_UnknownState_LookupError, kx_UnknownState_KeyError := kt_UnknownState_KeyError, kx_UnknownState_IndexError := kt_UnknownState_IndexError, a_UnknownState_init := f_UnknownState_init, d_UnknownState_init := _, F_UnknownState_init := F_UnknownState_init, b_UnknownState_init := b_UnknownState_init, i_UnknownState := h_UnknownState_init, t_UnknownState := xt_UnknownState, mr_UnknownState := mr_UnknownState, su_UnknownState := su_UnknownState, ci_UnknownState := ⟨_, ci_UnknownState⟩, na_UnknownState := na_UnknownState, x_UnboundName := ⟨⟨_, _, _, _, _, _, _, _, _, _, _, _, _, _, _, xl_UnboundName, (.cons .nil)⟩, xsa_UnboundName, xex_UnboundName, xty_UnboundName, xkc_UnboundName⟩, f_UnboundName := ⟨xga_UnboundName, xgg_UnboundName, xex_UnboundName, xhd_UnboundName⟩, xc_UnboundName := ⟨xga_UnboundName, xgg_UnboundName, xex_UnboundName, xhd_UnboundName, xcl_UnboundName, xcg_UnboundName, xct_UnboundName, xcm_UnboundName⟩, kx_UnboundName_BadLattice := kt_UnboundName_BadLattice, kx_UnboundName_MixedLattices := kt_UnboundName_MixedLattices, kx_UnboundName_BadMap := kt_UnboundName_BadMap, kx_UnboundName_BadText := kt_UnboundName_BadText, kx_UnboundName_BadName := kt_UnboundName_BadName, kx_UnboundName_TwiceTold := kt_UnboundName_TwiceTold, kx_UnboundName_NotIrreducible := kt_UnboundName_NotIrreducible, kx_UnboundName_InUse := kt_UnboundName_InUse, kx_UnboundName_UnknownValue := kt_UnboundName_UnknownValue, kx_UnboundName_UnknownState := kt_UnboundName_UnknownState, kx_UnboundName_UnboundName := kt_UnboundName_UnboundName, kx_UnboundName_UnknownFormula := kt_UnboundName_UnknownFormula, kx_UnboundName_LatticeError := kt_UnboundName_LatticeError, kx_UnboundName_ValueError := kt_UnboundName_ValueError, kx_UnboundName_NameMissing := kt_UnboundName_NameMissing, kx_UnboundName_LookupError := kt_UnboundName_LookupError, kx_UnboundName_KeyError := kt_UnboundName_KeyError, kx_UnboundName_IndexError := kt_UnboundName_IndexError, a_UnboundName_init := f_UnboundName_init, d_UnboundName_init := _, F_UnboundName_init := F_UnboundName_init, b_UnboundName_init := b_UnboundName_init, i_UnboundName := h_UnboundName_init, t_UnboundName := xt_UnboundName, mr_UnboundName := mr_UnboundName, su_UnboundName := su_UnboundName, ci_UnboundName := ⟨_, ci_UnboundName⟩, na_UnboundName := na_UnboundName, x_UnknownFormula := ⟨⟨_, _, _, _, _, _, _, _, _, _, _, _, _, _, _, xl_UnknownFormula, (.cons .nil)⟩, xsa_UnknownFormula, xex_UnknownFormula, xty_UnknownFormula, xkc_UnknownFormula⟩, f_UnknownFormula := ⟨xga_UnknownFormula, xgg_UnknownFormula, xex_UnknownFormula, xhd_UnknownFormula⟩, xc_UnknownFormula := ⟨xga_UnknownFormula, xgg_UnknownFormula, xex_UnknownFormula, xhd_UnknownFormula, xcl_UnknownFormula, xcg_UnknownFormula, xct_UnknownFormula, xcm_UnknownFormula⟩, kx_UnknownFormula_BadLattice := kt_UnknownFormula_BadLattice, kx_UnknownFormula_MixedLattices := kt_UnknownFormula_MixedLattices, kx_UnknownFormula_BadMap := kt_UnknownFormula_BadMap, kx_UnknownFormula_BadText := kt_UnknownFormula_BadText, kx_UnknownFormula_BadName := kt_UnknownFormula_BadName, kx_UnknownFormula_TwiceTold := kt_UnknownFormula_TwiceTold, kx_UnknownFormula_NotIrreducible := kt_UnknownFormula_NotIrreducible, kx_UnknownFormula_InUse := kt_UnknownFormula_InUse, kx_UnknownFormula_UnknownValue := kt_UnknownFormula_UnknownValue, kx_UnknownFormula_UnknownState := kt_UnknownFormula_UnknownState, kx_UnknownFormula_UnboundName := kt_UnknownFormula_UnboundName, kx_UnknownFormula_UnknownFormula := kt_UnknownFormula_UnknownFormula, kx_UnknownFormula_LatticeError := kt_UnknownFormula_LatticeError, kx_UnknownFormula_ValueError := kt_UnknownFormula_ValueError, kx_UnknownFormula_NameMissing := kt_UnknownFormula_NameMissing, kx_UnknownFormula_LookupError := kt_UnknownFormula_LookupError, kx_UnknownFormula_KeyError := kt_UnknownFormula_KeyError, kx_UnknownFormula_IndexError := kt_UnknownFormula_IndexError, a_UnknownFormula_init := f_UnknownFormula_init, d_UnknownFormula_init := _, F_UnknownFormula_init := F_UnknownFormula_init, b_UnknownFormula_init := b_UnknownFormula_init, i_UnknownFormula := h_UnknownFormula_init, t_UnknownFormula := xt_UnknownFormula, mr_UnknownFormula := mr_UnknownFormula, su_UnknownFormula := su_UnknownFormula, ci_UnknownFormula := ⟨_, ci_UnknownFormula⟩, na_UnknownFormula := na_UnknownFormula, st_any := st_any }
  exact ⟨T.d_law, fun s v => .of_eq rfl, fun base _ _ => F T base⟩
def lo0 : List PySem.Str := ["LatticeError", "BadLattice", "MixedLattices", "BadText", "BadName", "TwiceTold", "NotIrreducible", "BadMap", "InUse", "NameMissing", "UnknownValue", "UnknownState", "UnboundName", "UnknownFormula", "_law_cells", "_law_pick", "_law_classes"]
def lo : List PySem.Str := lo0
abbrev qv : Program := PySem.W.view PySem.Challenge.pw_latticewish_k91_errors [19]
end Lw
section
open PySem PySem.W PyProof.Rows
set_option hygiene false in
local macro_rules | `(tactic| o_headL $H:term) => `(tactic| exact h.elim)
set_option maxRecDepth 100000 in
set_option maxHeartbeats 0 in
theorem Lw.t0 (h : False) : PySem.Challenge.rw_latticewish_k91_errors.Holds := by
  w_on; o_law; k_headL
def Lw.asL : List Addr := [2, 3, 15, 22, 23, 24, 25, 28, 35, 36, 37, 40, 47, 48, 49, 52, 55, 60, 61, 63, 64, 66, 67, 68, 69, 70, 73, 76, 81, 82, 84, 85, 87, 88, 89, 90, 91, 94, 97, 102, 103, 105, 106, 108, 109, 110, 111, 112, 115, 118, 123, 124, 126, 127, 129, 130, 131, 132, 133, 136, 143, 144, 145, 148, 151, 156, 157, 159, 160, 162, 163, 164, 165, 166, 169, 176, 177, 178, 179, 182, 185, 190, 191, 193, 194, 196, 197, 198, 199, 200, 203, 206, 211, 212, 214, 215, 217, 218, 219, 220, 221, 224, 227, 232, 233, 235, 236, 238, 239, 240, 241, 242, 245, 248, 253, 254, 256, 257, 259, 260, 261, 262, 263, 266, 269, 270, 271, 273, 274, 276, 277, 278, 280, 281, 283, 284, 285, 288, 289]
def Lw.RunE (w : World) : Prop := ∀ os : OsState, (HeadRun.endF (HeadRun.stepQ (HeadRun.denQ HeadRun.tabQ) (PySem.W.OpenLaw.row PySem.Challenge.rw_latticewish_k91_errors).prog w) 20000 (PySem.W.OpenLaw.row PySem.Challenge.rw_latticewish_k91_errors).prog w os).map (fun s => (HeadRun.looksF (PySem.W.OpenLaw.row PySem.Challenge.rw_latticewish_k91_errors).prog (boot_heap w.params) s.abs, HeadRun.seenQ Lw.qv Lw.lo (importedModules (PySem.W.OpenLaw.row PySem.Challenge.rw_latticewish_k91_errors).prog.main.body) (fun s => PySem.W.xlAt Lw.qv [] s && PySem.W.recOk (PySem.W.RowW.records (PySem.W.OpenRow.toRowW (PySem.W.OpenLaw.row PySem.Challenge.rw_latticewish_k91_errors))) s) s.abs, Lw.asL.map (HeadRun.getT s))) = some (true, openGood Lw.qv Lw.lo, (Lw.t0.heap_39 w.params).map fun x => some x.2)
set_option maxRecDepth 100000 in
theorem Lw.runF (w : World) : Lw.RunE (w.withFollow "special-get-raises" false) := by
  intro os
  kernel_rfl
set_option maxRecDepth 100000 in
theorem Lw.runT (w : World) : Lw.RunE (w.withFollow "special-get-raises" true) := by
  intro os
  kernel_rfl
theorem Lw.run (w : World) : Lw.RunE w := PySem.W.byRow2 "special-get-raises" Lw.runF Lw.runT w
set_option maxRecDepth 100000 in
set_option maxHeartbeats 0 in
theorem Lw.pre (F : ∀ (K : PySem.W.Frag) (mg : Str → Option Value) (w : World) (T : Lw.Tx K mg w) (base : Heap), L2.FnOk Lw.PL w K mg base L2.CX0 40 T.a_law T.d_law ["script"] (Lw.spLaw K)) : PySem.Challenge.rw_latticewish_k91_errors.Holds := by
  w_on; o_law
  refine PySem.W.holds_open (r := PySem.W.OpenLaw.row PySem.Challenge.rw_latticewish_k91_errors) (q := Lw.qv) (loose := Lw.lo) (Xt := (fun s => PySem.W.xlAt Lw.qv [] s && PySem.W.recOk (PySem.W.RowW.records (PySem.W.OpenRow.toRowW (PySem.W.OpenLaw.row PySem.Challenge.rw_latticewish_k91_errors))) s)) (XP := PySem.W.XL Lw.qv []) (Yf := PySem.W.Hook.obs (kHook Lw.t0.heap_39 Lw.asL (fun _ => by kernel_rfl))) (Ya := PySem.W.Hook.val (kHook Lw.t0.heap_39 Lw.asL (fun _ => by kernel_rfl))) (YP := PySem.W.Hook.says (kHook Lw.t0.heap_39 Lw.asL (fun _ => by kernel_rfl))) (N := 21000) ?hl (PySem.W.Hook.of (kHook Lw.t0.heap_39 Lw.asL (fun _ => by kernel_rfl))) (PySem.W.Hook.keeps (kHook Lw.t0.heap_39 Lw.asL (fun _ => by kernel_rfl))) (fun s e => PySem.W.xl_of s (Bool.and_eq_true_iff.mp e).1) PySem.W.XL.keeps (by rfl) (by rfl) (by rfl) (fun s e => PySem.W.recFacts_of (Bool.and_eq_true_iff.mp e).2) (by rfl) (by first | assumption | decide +kernel) (by decide +kernel) ⟨rfl, rfl, rfl, rfl, rfl, by decide +kernel⟩ ?hw ?hc
  case hl => exact HeadRun.left_oneK (M := 20000) (by kernel_rfl) (by rfl) (fun s => by kernel_rfl) (by rfl) (fun w os => Lw.run w os)
  case hw => ((try (rename_i sd; clear sd)); w_witness2)
  try (rename_i sd; clear sd)
  k_fill
  refine L2.walk_of (n := 63) (k := 40) (x := "script") (CX := fun w => L2.CX0) (sp := fun w => Lw.spLaw _) rfl (by decide) rfl ⟨rfl, by decide, by decide⟩ (fun w h Y => PySem.W.kIn_of Y) ?F (fun _ _ a ns hl _ hS => ⟨a, ns, rfl, hS, hl, fun _ => rfl⟩) fun _ _ _ _ _ z => z
  case F =>
    intro w mg fa h KX G hmg
    refine' Lw.all_mk (l := PySem.Challenge.rw_latticewish_k91_errors) KX G hmg (fun T base => F _ _ _ T base) ?z_IndexError ?z_KeyError ?z_LookupError ?z_ValueError ?z_abs ?z_int ?z_isinstance ?z_len ?z_range ?z_super ?g__law_cells ?l__law_cells ?c__law_cells ?k__law_cells ?g__law_pick ?l__law_pick ?c__law_pick ?k__law_pick ?g__law_classes ?l__law_classes ?c__law_classes ?k__law_classes ?g_law ?l_law ?c_law ?k_law ?g_LatticeError ?g_BadLattice ?g_MixedLattices ?g_BadMap ?g_BadText ?g_BadName ?g_TwiceTold ?g_NotIrreducible ?g_InUse ?g_NameMissing ?g_UnknownValue ?g_UnknownState ?g_UnboundName ?g_UnknownFormula ?xl_LatticeError ?xsa_LatticeError ?xex_LatticeError ?xty_LatticeError ?xkc_LatticeError ?xga_LatticeError ?xgg_LatticeError ?xhd_LatticeError ?xq_LatticeError ?xl_BadLattice ?xsa_BadLattice ?xex_BadLattice ?xty_BadLattice ?xkc_BadLattice ?xga_BadLattice ?xgg_BadLattice ?xhd_BadLattice ?xq_BadLattice ?xcl_BadLattice ?xcg_BadLattice ?xct_BadLattice ?xcm_BadLattice ?kt_BadLattice_BadLattice ?kt_BadLattice_MixedLattices ?kt_BadLattice_BadMap ?kt_BadLattice_BadText ?kt_BadLattice_BadName ?kt_BadLattice_TwiceTold ?kt_BadLattice_NotIrreducible ?kt_BadLattice_InUse ?kt_BadLattice_UnknownValue ?kt_BadLattice_UnknownState ?kt_BadLattice_UnboundName ?kt_BadLattice_UnknownFormula ?kt_BadLattice_LatticeError ?kt_BadLattice_ValueError ?kt_BadLattice_NameMissing ?kt_BadLattice_LookupError ?kt_BadLattice_KeyError ?kt_BadLattice_IndexError ?xl_MixedLattices ?xsa_MixedLattices ?xex_MixedLattices ?xty_MixedLattices ?xkc_MixedLattices ?xga_MixedLattices ?xgg_MixedLattices ?xhd_MixedLattices ?xq_MixedLattices ?xcl_MixedLattices ?xcg_MixedLattices ?xct_MixedLattices ?xcm_MixedLattices ?kt_MixedLattices_BadLattice ?kt_MixedLattices_MixedLattices ?kt_MixedLattices_BadMap ?kt_MixedLattices_BadText ?kt_MixedLattices_BadName ?kt_MixedLattices_TwiceTold ?kt_MixedLattices_NotIrreducible ?kt_MixedLattices_InUse ?kt_MixedLattices_UnknownValue ?kt_MixedLattices_UnknownState ?kt_MixedLattices_UnboundName ?kt_MixedLattices_UnknownFormula ?kt_MixedLattices_LatticeError ?kt_MixedLattices_ValueError ?kt_MixedLattices_NameMissing ?kt_MixedLattices_LookupError ?kt_MixedLattices_KeyError ?kt_MixedLattices_IndexError ?xl_BadMap ?xsa_BadMap ?xex_BadMap ?xty_BadMap ?xkc_BadMap ?xga_BadMap ?xgg_BadMap ?xhd_BadMap ?xq_BadMap ?xcl_BadMap ?xcg_BadMap ?xct_BadMap ?xcm_BadMap ?kt_BadMap_BadLattice ?kt_BadMap_MixedLattices ?kt_BadMap_BadMap ?kt_BadMap_BadText ?kt_BadMap_BadName ?kt_BadMap_TwiceTold ?kt_BadMap_NotIrreducible ?kt_BadMap_InUse ?kt_BadMap_UnknownValue ?kt_BadMap_UnknownState ?kt_BadMap_UnboundName ?kt_BadMap_UnknownFormula ?kt_BadMap_LatticeError ?kt_BadMap_ValueError ?kt_BadMap_NameMissing ?kt_BadMap_LookupError ?kt_BadMap_KeyError ?kt_BadMap_IndexError ?xl_BadText ?xsa_BadText ?xex_BadText ?xty_BadText ?xkc_BadText ?xga_BadText ?xgg_BadText ?xhd_BadText ?xcl_BadText ?xcg_BadText ?xct_BadText ?xcm_BadText ?kt_BadText_BadLattice ?kt_BadText_MixedLattices ?kt_BadText_BadMap ?kt_BadText_BadText ?kt_BadText_BadName ?kt_BadText_TwiceTold ?kt_BadText_NotIrreducible ?kt_BadText_InUse ?kt_BadText_UnknownValue ?kt_BadText_UnknownState ?kt_BadText_UnboundName ?kt_BadText_UnknownFormula ?kt_BadText_LatticeError ?kt_BadText_ValueError ?kt_BadText_NameMissing ?kt_BadText_LookupError ?kt_BadText_KeyError ?kt_BadText_IndexError ?h_BadText_init ?l_BadText_init ?c_BadText_init ?k_BadText_init ?q_BadText_init ?v_BadText_init ?vf_BadText_init ?vg_BadText_init ?xt_BadText ?mr_BadText ?su_BadText ?ci_BadText ?na_BadText ?xl_BadName ?xsa_BadName ?xex_BadName ?xty_BadName ?xkc_BadName ?xga_BadName ?xgg_BadName ?xhd_BadName ?xcl_BadName ?xcg_BadName ?xct_BadName ?xcm_BadName ?kt_BadName_BadLattice ?kt_BadName_MixedLattices ?kt_BadName_BadMap ?kt_BadName_BadText ?kt_BadName_BadName ?kt_BadName_TwiceTold ?kt_BadName_NotIrreducible ?kt_BadName_InUse ?kt_BadName_UnknownValue ?kt_BadName_UnknownState ?kt_BadName_UnboundName ?kt_BadName_UnknownFormula ?kt_BadName_LatticeError ?kt_BadName_ValueError ?kt_BadName_NameMissing ?kt_BadName_LookupError ?kt_BadName_KeyError ?kt_BadName_IndexError ?h_BadName_init ?l_BadName_init ?c_BadName_init ?k_BadName_init ?q_BadName_init ?v_BadName_init ?vf_BadName_init ?vg_BadName_init ?xt_BadName ?mr_BadName ?su_BadName ?ci_BadName ?na_BadName ?xl_TwiceTold ?xsa_TwiceTold ?xex_TwiceTold ?xty_TwiceTold ?xkc_TwiceTold ?xga_TwiceTold ?xgg_TwiceTold ?xhd_TwiceTold ?xcl_TwiceTold ?xcg_TwiceTold ?xct_TwiceTold ?xcm_TwiceTold ?kt_TwiceTold_BadLattice ?kt_TwiceTold_MixedLattices ?kt_TwiceTold_BadMap ?kt_TwiceTold_BadText ?kt_TwiceTold_BadName ?kt_TwiceTold_TwiceTold ?kt_TwiceTold_NotIrreducible ?kt_TwiceTold_InUse ?kt_TwiceTold_UnknownValue ?kt_TwiceTold_UnknownState ?kt_TwiceTold_UnboundName ?kt_TwiceTold_UnknownFormula ?kt_TwiceTold_LatticeError ?kt_TwiceTold_ValueError ?kt_TwiceTold_NameMissing ?kt_TwiceTold_LookupError ?kt_TwiceTold_KeyError ?kt_TwiceTold_IndexError ?h_TwiceTold_init ?l_TwiceTold_init ?c_TwiceTold_init ?k_TwiceTold_init ?q_TwiceTold_init ?v_TwiceTold_init ?vf_TwiceTold_init ?vg_TwiceTold_init ?xt_TwiceTold ?mr_TwiceTold ?su_TwiceTold ?ci_TwiceTold ?na_TwiceTold ?xl_NotIrreducible ?xsa_NotIrreducible ?xex_NotIrreducible ?xty_NotIrreducible ?xkc_NotIrreducible ?xga_NotIrreducible ?xgg_NotIrreducible ?xhd_NotIrreducible ?xcl_NotIrreducible ?xcg_NotIrreducible ?xct_NotIrreducible ?xcm_NotIrreducible ?kt_NotIrreducible_BadLattice ?kt_NotIrreducible_MixedLattices ?kt_NotIrreducible_BadMap ?kt_NotIrreducible_BadText ?kt_NotIrreducible_BadName ?kt_NotIrreducible_TwiceTold ?kt_NotIrreducible_NotIrreducible ?kt_NotIrreducible_InUse ?kt_NotIrreducible_UnknownValue ?kt_NotIrreducible_UnknownState ?kt_NotIrreducible_UnboundName ?kt_NotIrreducible_UnknownFormula ?kt_NotIrreducible_LatticeError ?kt_NotIrreducible_ValueError ?kt_NotIrreducible_NameMissing ?kt_NotIrreducible_LookupError ?kt_NotIrreducible_KeyError ?kt_NotIrreducible_IndexError ?h_NotIrreducible_init ?l_NotIrreducible_init ?c_NotIrreducible_init ?k_NotIrreducible_init ?q_NotIrreducible_init ?v_NotIrreducible_init ?vf_NotIrreducible_init ?vg_NotIrreducible_init ?xt_NotIrreducible ?mr_NotIrreducible ?su_NotIrreducible ?ci_NotIrreducible ?na_NotIrreducible ?xl_InUse ?xsa_InUse ?xex_InUse ?xty_InUse ?xkc_InUse ?xga_InUse ?xgg_InUse ?xhd_InUse ?xcl_InUse ?xcg_InUse ?xct_InUse ?xcm_InUse ?kt_InUse_BadLattice ?kt_InUse_MixedLattices ?kt_InUse_BadMap ?kt_InUse_BadText ?kt_InUse_BadName ?kt_InUse_TwiceTold ?kt_InUse_NotIrreducible ?kt_InUse_InUse ?kt_InUse_UnknownValue ?kt_InUse_UnknownState ?kt_InUse_UnboundName ?kt_InUse_UnknownFormula ?kt_InUse_LatticeError ?kt_InUse_ValueError ?kt_InUse_NameMissing ?kt_InUse_LookupError ?kt_InUse_KeyError ?kt_InUse_IndexError ?h_InUse_init ?l_InUse_init ?c_InUse_init ?k_InUse_init ?q_InUse_init ?v_InUse_init ?vf_InUse_init ?vg_InUse_init ?xt_InUse ?mr_InUse ?su_InUse ?ci_InUse ?na_InUse ?xl_NameMissing ?xsa_NameMissing ?xex_NameMissing ?xty_NameMissing ?xkc_NameMissing ?xga_NameMissing ?xgg_NameMissing ?xhd_NameMissing ?xq_NameMissing ?xl_UnknownValue ?xsa_UnknownValue ?xex_UnknownValue ?xty_UnknownValue ?xkc_UnknownValue ?xga_UnknownValue ?xgg_UnknownValue ?xhd_UnknownValue ?xcl_UnknownValue ?xcg_UnknownValue ?xct_UnknownValue ?xcm_UnknownValue ?kt_UnknownValue_BadLattice ?kt_UnknownValue_MixedLattices ?kt_UnknownValue_BadMap ?kt_UnknownValue_BadText ?kt_UnknownValue_BadName ?kt_UnknownValue_TwiceTold ?kt_UnknownValue_NotIrreducible ?kt_UnknownValue_InUse ?kt_UnknownValue_UnknownValue ?kt_UnknownValue_UnknownState ?kt_UnknownValue_UnboundName ?kt_UnknownValue_UnknownFormula ?kt_UnknownValue_LatticeError ?kt_UnknownValue_ValueError ?kt_UnknownValue_NameMissing ?kt_UnknownValue_LookupError ?kt_UnknownValue_KeyError ?kt_UnknownValue_IndexError ?h_UnknownValue_init ?l_UnknownValue_init ?c_UnknownValue_init ?k_UnknownValue_init ?q_UnknownValue_init ?v_UnknownValue_init ?vf_UnknownValue_init ?vg_UnknownValue_init ?xt_UnknownValue ?mr_UnknownValue ?su_UnknownValue ?ci_UnknownValue ?na_UnknownValue ?xl_UnknownState ?xsa_UnknownState ?xex_UnknownState ?xty_UnknownState ?xkc_UnknownState ?xga_UnknownState ?xgg_UnknownState ?xhd_UnknownState ?xcl_UnknownState ?xcg_UnknownState ?xct_UnknownState ?xcm_UnknownState ?kt_UnknownState_BadLattice ?kt_UnknownState_MixedLattices ?kt_UnknownState_BadMap ?kt_UnknownState_BadText ?kt_UnknownState_BadName ?kt_UnknownState_TwiceTold ?kt_UnknownState_NotIrreducible ?kt_UnknownState_InUse ?kt_UnknownState_UnknownValue ?kt_UnknownState_UnknownState ?kt_UnknownState_UnboundName ?kt_UnknownState_UnknownFormula ?kt_UnknownState_LatticeError ?kt_UnknownState_ValueError ?kt_UnknownState_NameMissing ?kt_UnknownState_LookupError ?kt_UnknownState_KeyError ?kt_UnknownState_IndexError ?h_UnknownState_init ?l_UnknownState_init ?c_UnknownState_init ?k_UnknownState_init ?q_UnknownState_init ?v_UnknownState_init ?vf_UnknownState_init ?vg_UnknownState_init ?xt_UnknownState ?mr_UnknownState ?su_UnknownState ?ci_UnknownState ?na_UnknownState ?xl_UnboundName ?xsa_UnboundName ?xex_UnboundName ?xty_UnboundName ?xkc_UnboundName ?xga_UnboundName ?xgg_UnboundName ?xhd_UnboundName ?xcl_UnboundName ?xcg_UnboundName ?xct_UnboundName ?xcm_UnboundName ?kt_UnboundName_BadLattice ?kt_UnboundName_MixedLattices ?kt_UnboundName_BadMap ?kt_UnboundName_BadText ?kt_UnboundName_BadName ?kt_UnboundName_TwiceTold ?kt_UnboundName_NotIrreducible ?kt_UnboundName_InUse ?kt_UnboundName_UnknownValue ?kt_UnboundName_UnknownState ?kt_UnboundName_UnboundName ?kt_UnboundName_UnknownFormula ?kt_UnboundName_LatticeError ?kt_UnboundName_ValueError ?kt_UnboundName_NameMissing ?kt_UnboundName_LookupError ?kt_UnboundName_KeyError ?kt_UnboundName_IndexError ?h_UnboundName_init ?l_UnboundName_init ?c_UnboundName_init ?k_UnboundName_init ?q_UnboundName_init ?v_UnboundName_init ?vf_UnboundName_init ?vg_UnboundName_init ?xt_UnboundName ?mr_UnboundName ?su_UnboundName ?ci_UnboundName ?na_UnboundName ?xl_UnknownFormula ?xsa_UnknownFormula ?xex_UnknownFormula ?xty_UnknownFormula ?xkc_UnknownFormula ?xga_UnknownFormula ?xgg_UnknownFormula ?xhd_UnknownFormula ?xcl_UnknownFormula ?xcg_UnknownFormula ?xct_UnknownFormula ?xcm_UnknownFormula ?kt_UnknownFormula_BadLattice ?kt_UnknownFormula_MixedLattices ?kt_UnknownFormula_BadMap ?kt_UnknownFormula_BadText ?kt_UnknownFormula_BadName ?kt_UnknownFormula_TwiceTold ?kt_UnknownFormula_NotIrreducible ?kt_UnknownFormula_InUse ?kt_UnknownFormula_UnknownValue ?kt_UnknownFormula_UnknownState ?kt_UnknownFormula_UnboundName ?kt_UnknownFormula_UnknownFormula ?kt_UnknownFormula_LatticeError ?kt_UnknownFormula_ValueError ?kt_UnknownFormula_NameMissing ?kt_UnknownFormula_LookupError ?kt_UnknownFormula_KeyError ?kt_UnknownFormula_IndexError ?h_UnknownFormula_init ?l_UnknownFormula_init ?c_UnknownFormula_init ?k_UnknownFormula_init ?q_UnknownFormula_init ?v_UnknownFormula_init ?vf_UnknownFormula_init ?vg_UnknownFormula_init ?xt_UnknownFormula ?mr_UnknownFormula ?su_UnknownFormula ?ci_UnknownFormula ?na_UnknownFormula ?st_any
    (case z_IndexError => k_is)
    (case z_KeyError => k_is)
    (case z_LookupError => k_is)
    (case z_ValueError => k_is)
    (case z_abs => k_is)
    (case z_int => k_is)
    (case z_isinstance => k_is)
    (case z_len => k_is)
    (case z_range => k_is)
    (case z_super => k_is)
    (case g__law_cells => k_is)
    (case l__law_cells => k_is)
    (case c__law_cells => k_is)
    (case k__law_cells => k_is)
    (case g__law_pick => k_is)
    (case l__law_pick => k_is)
    (case c__law_pick => k_is)
    (case k__law_pick => k_is)
    (case g__law_classes => k_is)
    (case l__law_classes => k_is)
    (case c__law_classes => k_is)
    (case k__law_classes => k_is)
    (case g_law => k_is)
    (case l_law => k_is)
    (case c_law => k_is)
    (case k_law => k_is)
    (case g_LatticeError => k_is)
    (case g_BadLattice => k_is)
    (case g_MixedLattices => k_is)
    (case g_BadMap => k_is)
    (case g_BadText => k_is)
    (case g_BadName => k_is)
    (case g_TwiceTold => k_is)
    (case g_NotIrreducible => k_is)
    (case g_InUse => k_is)
    (case g_NameMissing => k_is)
    (case g_UnknownValue => k_is)
    (case g_UnknownState => k_is)
    (case g_UnboundName => k_is)
    (case g_UnknownFormula => k_is)
    (case xl_LatticeError => k_is)
    (case xsa_LatticeError => k_is)
    (case xex_LatticeError => k_is)
    (case xty_LatticeError => k_is)
    (case xkc_LatticeError => k_is)
    (case xga_LatticeError => k_is)
    (case xgg_LatticeError => k_is)
    (case xhd_LatticeError => k_is)
    (case xq_LatticeError => k_exc)
    (case xl_BadLattice => k_is)
    (case xsa_BadLattice => k_is)
    (case xex_BadLattice => k_is)
    (case xty_BadLattice => k_is)
    (case xkc_BadLattice => k_is)
    (case xga_BadLattice => k_is)
    (case xgg_BadLattice => k_is)
    (case xhd_BadLattice => k_is)
    (case xq_BadLattice => k_exc)
    (case xcl_BadLattice => k_is)
    (case xcg_BadLattice => k_is)
    (case xct_BadLattice => k_is)
    (case xcm_BadLattice => k_is)
    (case kt_BadLattice_BadLattice => kit_is)
    (case kt_BadLattice_MixedLattices => kit_is)
    (case kt_BadLattice_BadMap => kit_is)
    (case kt_BadLattice_BadText => kit_is)
    (case kt_BadLattice_BadName => kit_is)
    (case kt_BadLattice_TwiceTold => kit_is)
    (case kt_BadLattice_NotIrreducible => kit_is)
    (case kt_BadLattice_InUse => kit_is)
    (case kt_BadLattice_UnknownValue => kit_is)
    (case kt_BadLattice_UnknownState => kit_is)
    (case kt_BadLattice_UnboundName => kit_is)
    (case kt_BadLattice_UnknownFormula => kit_is)
    (case kt_BadLattice_LatticeError => kit_is)
    (case kt_BadLattice_ValueError => kit_is)
    (case kt_BadLattice_NameMissing => kit_is)
    (case kt_BadLattice_LookupError => kit_is)
    (case kt_BadLattice_KeyError => kit_is)
    (case kt_BadLattice_IndexError => kit_is)
    (case xl_MixedLattices => k_is)
    (case xsa_MixedLattices => k_is)
    (case xex_MixedLattices => k_is)
    (case xty_MixedLattices => k_is)
    (case xkc_MixedLattices => k_is)
    (case xga_MixedLattices => k_is)
    (case xgg_MixedLattices => k_is)
    (case xhd_MixedLattices => k_is)
    (case xq_MixedLattices => k_exc)
    (case xcl_MixedLattices => k_is)
    (case xcg_MixedLattices => k_is)
    (case xct_MixedLattices => k_is)
    (case xcm_MixedLattices => k_is)
    (case kt_MixedLattices_BadLattice => kit_is)
    (case kt_MixedLattices_MixedLattices => kit_is)
    (case kt_MixedLattices_BadMap => kit_is)
    (case kt_MixedLattices_BadText => kit_is)
    (case kt_MixedLattices_BadName => kit_is)
    (case kt_MixedLattices_TwiceTold => kit_is)
    (case kt_MixedLattices_NotIrreducible => kit_is)
    (case kt_MixedLattices_InUse => kit_is)
    (case kt_MixedLattices_UnknownValue => kit_is)
    (case kt_MixedLattices_UnknownState => kit_is)
    (case kt_MixedLattices_UnboundName => kit_is)
    (case kt_MixedLattices_UnknownFormula => kit_is)
    (case kt_MixedLattices_LatticeError => kit_is)
    (case kt_MixedLattices_ValueError => kit_is)
    (case kt_MixedLattices_NameMissing => kit_is)
    (case kt_MixedLattices_LookupError => kit_is)
    (case kt_MixedLattices_KeyError => kit_is)
    (case kt_MixedLattices_IndexError => kit_is)
    (case xl_BadMap => k_is)
    (case xsa_BadMap => k_is)
    (case xex_BadMap => k_is)
    (case xty_BadMap => k_is)
    (case xkc_BadMap => k_is)
    (case xga_BadMap => k_is)
    (case xgg_BadMap => k_is)
    (case xhd_BadMap => k_is)
    (case xq_BadMap => k_exc)
    (case xcl_BadMap => k_is)
    (case xcg_BadMap => k_is)
    (case xct_BadMap => k_is)
    (case xcm_BadMap => k_is)
    (case kt_BadMap_BadLattice => kit_is)
    (case kt_BadMap_MixedLattices => kit_is)
    (case kt_BadMap_BadMap => kit_is)
    (case kt_BadMap_BadText => kit_is)
    (case kt_BadMap_BadName => kit_is)
    (case kt_BadMap_TwiceTold => kit_is)
    (case kt_BadMap_NotIrreducible => kit_is)
    (case kt_BadMap_InUse => kit_is)
    (case kt_BadMap_UnknownValue => kit_is)
    (case kt_BadMap_UnknownState => kit_is)
    (case kt_BadMap_UnboundName => kit_is)
    (case kt_BadMap_UnknownFormula => kit_is)
    (case kt_BadMap_LatticeError => kit_is)
    (case kt_BadMap_ValueError => kit_is)
    (case kt_BadMap_NameMissing => kit_is)
    (case kt_BadMap_LookupError => kit_is)
    (case kt_BadMap_KeyError => kit_is)
    (case kt_BadMap_IndexError => kit_is)
    (case xl_BadText => k_is)
    (case xsa_BadText => k_is)
    (case xex_BadText => k_is)
    (case xty_BadText => k_is)
    (case xkc_BadText => k_is)
    (case xga_BadText => k_is)
    (case xgg_BadText => k_is)
    (case xhd_BadText => k_is)
    (case xcl_BadText => k_is)
    (case xcg_BadText => k_is)
    (case xct_BadText => k_is)
    (case xcm_BadText => k_is)
    (case kt_BadText_BadLattice => kit_is)
    (case kt_BadText_MixedLattices => kit_is)
    (case kt_BadText_BadMap => kit_is)
    (case kt_BadText_BadText => kit_is)
    (case kt_BadText_BadName => kit_is)
    (case kt_BadText_TwiceTold => kit_is)
    (case kt_BadText_NotIrreducible => kit_is)
    (case kt_BadText_InUse => kit_is)
    (case kt_BadText_UnknownValue => kit_is)
    (case kt_BadText_UnknownState => kit_is)
    (case kt_BadText_UnboundName => kit_is)
    (case kt_BadText_UnknownFormula => kit_is)
    (case kt_BadText_LatticeError => kit_is)
    (case kt_BadText_ValueError => kit_is)
    (case kt_BadText_NameMissing => kit_is)
    (case kt_BadText_LookupError => kit_is)
    (case kt_BadText_KeyError => kit_is)
    (case kt_BadText_IndexError => kit_is)
    (case h_BadText_init => k_is)
    (case l_BadText_init => k_is)
    (case c_BadText_init => k_is)
    (case k_BadText_init => k_is)
    (case q_BadText_init => k_is)
    (case v_BadText_init => k_is)
    (case vf_BadText_init => rfl)
    (case vg_BadText_init => decide +kernel)
    (case xt_BadText => k_is)
    (case mr_BadText => k_is)
    (case su_BadText => ks_is)
    (case ci_BadText => k_is)
    (case na_BadText => k_is)
    (case xl_BadName => k_is)
    (case xsa_BadName => k_is)
    (case xex_BadName => k_is)
    (case xty_BadName => k_is)
    (case xkc_BadName => k_is)
    (case xga_BadName => k_is)
    (case xgg_BadName => k_is)
    (case xhd_BadName => k_is)
    (case xcl_BadName => k_is)
    (case xcg_BadName => k_is)
    (case xct_BadName => k_is)
    (case xcm_BadName => k_is)
    (case kt_BadName_BadLattice => kit_is)
    (case kt_BadName_MixedLattices => kit_is)
    (case kt_BadName_BadMap => kit_is)
    (case kt_BadName_BadText => kit_is)
    (case kt_BadName_BadName => kit_is)
    (case kt_BadName_TwiceTold => kit_is)
    (case kt_BadName_NotIrreducible => kit_is)
    (case kt_BadName_InUse => kit_is)
    (case kt_BadName_UnknownValue => kit_is)
    (case kt_BadName_UnknownState => kit_is)
    (case kt_BadName_UnboundName => kit_is)
    (case kt_BadName_UnknownFormula => kit_is)
    (case kt_BadName_LatticeError => kit_is)
    (case kt_BadName_ValueError => kit_is)
    (case kt_BadName_NameMissing => kit_is)
    (case kt_BadName_LookupError => kit_is)
    (case kt_BadName_KeyError => kit_is)
    (case kt_BadName_IndexError => kit_is)
    (case h_BadName_init => k_is)
    (case l_BadName_init => k_is)
    (case c_BadName_init => k_is)
    (case k_BadName_init => k_is)
    (case q_BadName_init => k_is)
    (case v_BadName_init => k_is)
    (case vf_BadName_init => rfl)
    (case vg_BadName_init => decide +kernel)
    (case xt_BadName => k_is)
    (case mr_BadName => k_is)
    (case su_BadName => ks_is)
    (case ci_BadName => k_is)
    (case na_BadName => k_is)
    (case xl_TwiceTold => k_is)
    (case xsa_TwiceTold => k_is)
    (case xex_TwiceTold => k_is)
    (case xty_TwiceTold => k_is)
    (case xkc_TwiceTold => k_is)
    (case xga_TwiceTold => k_is)
    (case xgg_TwiceTold => k_is)
    (case xhd_TwiceTold => k_is)
    (case xcl_TwiceTold => k_is)
    (case xcg_TwiceTold => k_is)
    (case xct_TwiceTold => k_is)
    (case xcm_TwiceTold => k_is)
    (case kt_TwiceTold_BadLattice => kit_is)
    (case kt_TwiceTold_MixedLattices => kit_is)
    (case kt_TwiceTold_BadMap => kit_is)
    (case kt_TwiceTold_BadText => kit_is)
    (case kt_TwiceTold_BadName => kit_is)
    (case kt_TwiceTold_TwiceTold => kit_is)
    (case kt_TwiceTold_NotIrreducible => kit_is)
    (case kt_TwiceTold_InUse => kit_is)
    (case kt_TwiceTold_UnknownValue => kit_is)
    (case kt_TwiceTold_UnknownState => kit_is)
    (case kt_TwiceTold_UnboundName => kit_is)
    (case kt_TwiceTold_UnknownFormula => kit_is)
    (case kt_TwiceTold_LatticeError => kit_is)
    (case kt_TwiceTold_ValueError => kit_is)
    (case kt_TwiceTold_NameMissing => kit_is)
    (case kt_TwiceTold_LookupError => kit_is)
    (case kt_TwiceTold_KeyError => kit_is)
    (case kt_TwiceTold_IndexError => kit_is)
    (case h_TwiceTold_init => k_is)
    (case l_TwiceTold_init => k_is)
    (case c_TwiceTold_init => k_is)
    (case k_TwiceTold_init => k_is)
    (case q_TwiceTold_init => k_is)
    (case v_TwiceTold_init => k_is)
    (case vf_TwiceTold_init => rfl)
    (case vg_TwiceTold_init => decide +kernel)
    (case xt_TwiceTold => k_is)
    (case mr_TwiceTold => k_is)
    (case su_TwiceTold => ks_is)
    (case ci_TwiceTold => k_is)
    (case na_TwiceTold => k_is)
    (case xl_NotIrreducible => k_is)
    (case xsa_NotIrreducible => k_is)
    (case xex_NotIrreducible => k_is)
    (case xty_NotIrreducible => k_is)
    (case xkc_NotIrreducible => k_is)
    (case xga_NotIrreducible => k_is)
    (case xgg_NotIrreducible => k_is)
    (case xhd_NotIrreducible => k_is)
    (case xcl_NotIrreducible => k_is)
    (case xcg_NotIrreducible => k_is)
    (case xct_NotIrreducible => k_is)
    (case xcm_NotIrreducible => k_is)
    (case kt_NotIrreducible_BadLattice => kit_is)
    (case kt_NotIrreducible_MixedLattices => kit_is)
    (case kt_NotIrreducible_BadMap => kit_is)
    (case kt_NotIrreducible_BadText => kit_is)
    (case kt_NotIrreducible_BadName => kit_is)
    (case kt_NotIrreducible_TwiceTold => kit_is)
    (case kt_NotIrreducible_NotIrreducible => kit_is)
    (case kt_NotIrreducible_InUse => kit_is)
    (case kt_NotIrreducible_UnknownValue => kit_is)
    (case kt_NotIrreducible_UnknownState => kit_is)
    (case kt_NotIrreducible_UnboundName => kit_is)
    (case kt_NotIrreducible_UnknownFormula => kit_is)
    (case kt_NotIrreducible_LatticeError => kit_is)
    (case kt_NotIrreducible_ValueError => kit_is)
    (case kt_NotIrreducible_NameMissing => kit_is)
    (case kt_NotIrreducible_LookupError => kit_is)
    (case kt_NotIrreducible_KeyError => kit_is)
    (case kt_NotIrreducible_IndexError => kit_is)
    (case h_NotIrreducible_init => k_is)
    (case l_NotIrreducible_init => k_is)
    (case c_NotIrreducible_init => k_is)
    (case k_NotIrreducible_init => k_is)
    (case q_NotIrreducible_init => k_is)
    (case v_NotIrreducible_init => k_is)
    (case vf_NotIrreducible_init => rfl)
    (case vg_NotIrreducible_init => decide +kernel)
    (case xt_NotIrreducible => k_is)
    (case mr_NotIrreducible => k_is)
    (case su_NotIrreducible => ks_is)
    (case ci_NotIrreducible => k_is)
    (case na_NotIrreducible => k_is)
    (case xl_InUse => k_is)
    (case xsa_InUse => k_is)
    (case xex_InUse => k_is)
    (case xty_InUse => k_is)
    (case xkc_InUse => k_is)
    (case xga_InUse => k_is)
    (case xgg_InUse => k_is)
    (case xhd_InUse => k_is)
    (case xcl_InUse => k_is)
    (case xcg_InUse => k_is)
    (case xct_InUse => k_is)
    (case xcm_InUse => k_is)
    (case kt_InUse_BadLattice => kit_is)
    (case kt_InUse_MixedLattices => kit_is)
    (case kt_InUse_BadMap => kit_is)
    (case kt_InUse_BadText => kit_is)
    (case kt_InUse_BadName => kit_is)
    (case kt_InUse_TwiceTold => kit_is)
    (case kt_InUse_NotIrreducible => kit_is)
    (case kt_InUse_InUse => kit_is)
    (case kt_InUse_UnknownValue => kit_is)
    (case kt_InUse_UnknownState => kit_is)
    (case kt_InUse_UnboundName => kit_is)
    (case kt_InUse_UnknownFormula => kit_is)
    (case kt_InUse_LatticeError => kit_is)
    (case kt_InUse_ValueError => kit_is)
    (case kt_InUse_NameMissing => kit_is)
    (case kt_InUse_LookupError => kit_is)
    (case kt_InUse_KeyError => kit_is)
    (case kt_InUse_IndexError => kit_is)
    (case h_InUse_init => k_is)
    (case l_InUse_init => k_is)
    (case c_InUse_init => k_is)
    (case k_InUse_init => k_is)
    (case q_InUse_init => k_is)
    (case v_InUse_init => k_is)
    (case vf_InUse_init => rfl)
    (case vg_InUse_init => decide +kernel)
    (case xt_InUse => k_is)
    (case mr_InUse => k_is)
    (case su_InUse => ks_is)
    (case ci_InUse => k_is)
    (case na_InUse => k_is)
    (case xl_NameMissing => k_is)
    (case xsa_NameMissing => k_is)
    (case xex_NameMissing => k_is)
    (case xty_NameMissing => k_is)
    (case xkc_NameMissing => k_is)
    (case xga_NameMissing => k_is)
    (case xgg_NameMissing => k_is)
    (case xhd_NameMissing => k_is)
    (case xq_NameMissing => k_exc)
    (case xl_UnknownValue => k_is)
    (case xsa_UnknownValue => k_is)
    (case xex_UnknownValue => k_is)
    (case xty_UnknownValue => k_is)
    (case xkc_UnknownValue => k_is)
    (case xga_UnknownValue => k_is)
    (case xgg_UnknownValue => k_is)
    (case xhd_UnknownValue => k_is)
    (case xcl_UnknownValue => k_is)
    (case xcg_UnknownValue => k_is)
    (case xct_UnknownValue => k_is)
    (case xcm_UnknownValue => k_is)
    (case kt_UnknownValue_BadLattice => kit_is)
    (case kt_UnknownValue_MixedLattices => kit_is)
    (case kt_UnknownValue_BadMap => kit_is)
    (case kt_UnknownValue_BadText => kit_is)
    (case kt_UnknownValue_BadName => kit_is)
    (case kt_UnknownValue_TwiceTold => kit_is)
    (case kt_UnknownValue_NotIrreducible => kit_is)
    (case kt_UnknownValue_InUse => kit_is)
    (case kt_UnknownValue_UnknownValue => kit_is)
    (case kt_UnknownValue_UnknownState => kit_is)
    (case kt_UnknownValue_UnboundName => kit_is)
    (case kt_UnknownValue_UnknownFormula => kit_is)
    (case kt_UnknownValue_LatticeError => kit_is)
    (case kt_UnknownValue_ValueError => kit_is)
    (case kt_UnknownValue_NameMissing => kit_is)
    (case kt_UnknownValue_LookupError => kit_is)
    (case kt_UnknownValue_KeyError => kit_is)
    (case kt_UnknownValue_IndexError => kit_is)
    (case h_UnknownValue_init => k_is)
    (case l_UnknownValue_init => k_is)
    (case c_UnknownValue_init => k_is)
    (case k_UnknownValue_init => k_is)
    (case q_UnknownValue_init => k_is)
    (case v_UnknownValue_init => k_is)
    (case vf_UnknownValue_init => rfl)
    (case vg_UnknownValue_init => decide +kernel)
    (case xt_UnknownValue => k_is)
    (case mr_UnknownValue => k_is)
    (case su_UnknownValue => ks_is)
    (case ci_UnknownValue => k_is)
    (case na_UnknownValue => k_is)
    (case xl_UnknownState => k_is)
    (case xsa_UnknownState => k_is)
    (case xex_UnknownState => k_is)
    (case xty_UnknownState => k_is)
    (case xkc_UnknownState => k_is)
    (case xga_UnknownState => k_is)
    (case xgg_UnknownState => k_is)
    (case xhd_UnknownState => k_is)
    (case xcl_UnknownState => k_is)
    (case xcg_UnknownState => k_is)
    (case xct_UnknownState => k_is)
    (case xcm_UnknownState => k_is)
    (case kt_UnknownState_BadLattice => kit_is)
    (case kt_UnknownState_MixedLattices => kit_is)
    (case kt_UnknownState_BadMap => kit_is)
    (case kt_UnknownState_BadText => kit_is)
    (case kt_UnknownState_BadName => kit_is)
    (case kt_UnknownState_TwiceTold => kit_is)
    (case kt_UnknownState_NotIrreducible => kit_is)
    (case kt_UnknownState_InUse => kit_is)
    (case kt_UnknownState_UnknownValue => kit_is)
    (case kt_UnknownState_UnknownState => kit_is)
    (case kt_UnknownState_UnboundName => kit_is)
    (case kt_UnknownState_UnknownFormula => kit_is)
    (case kt_UnknownState_LatticeError => kit_is)
    (case kt_UnknownState_ValueError => kit_is)
    (case kt_UnknownState_NameMissing => kit_is)
    (case kt_UnknownState_LookupError => kit_is)
    (case kt_UnknownState_KeyError => kit_is)
    (case kt_UnknownState_IndexError => kit_is)
    (case h_UnknownState_init => k_is)
    (case l_UnknownState_init => k_is)
    (case c_UnknownState_init => k_is)
    (case k_UnknownState_init => k_is)
    (case q_UnknownState_init => k_is)
    (case v_UnknownState_init => k_is)
    (case vf_UnknownState_init => rfl)
    (case vg_UnknownState_init => decide +kernel)
    (case xt_UnknownState => k_is)
    (case mr_UnknownState => k_is)
    (case su_UnknownState => ks_is)
    (case ci_UnknownState => k_is)
    (case na_UnknownState => k_is)
    (case xl_UnboundName => k_is)
    (case xsa_UnboundName => k_is)
    (case xex_UnboundName => k_is)
    (case xty_UnboundName => k_is)
    (case xkc_UnboundName => k_is)
    (case xga_UnboundName => k_is)
    (case xgg_UnboundName => k_is)
    (case xhd_UnboundName => k_is)
    (case xcl_UnboundName => k_is)
    (case xcg_UnboundName => k_is)
    (case xct_UnboundName => k_is)
    (case xcm_UnboundName => k_is)
    (case kt_UnboundName_BadLattice => kit_is)
    (case kt_UnboundName_MixedLattices => kit_is)
    (case kt_UnboundName_BadMap => kit_is)
    (case kt_UnboundName_BadText => kit_is)
    (case kt_UnboundName_BadName => kit_is)
    (case kt_UnboundName_TwiceTold => kit_is)
    (case kt_UnboundName_NotIrreducible => kit_is)
    (case kt_UnboundName_InUse => kit_is)
    (case kt_UnboundName_UnknownValue => kit_is)
    (case kt_UnboundName_UnknownState => kit_is)
    (case kt_UnboundName_UnboundName => kit_is)
    (case kt_UnboundName_UnknownFormula => kit_is)
    (case kt_UnboundName_LatticeError => kit_is)
    (case kt_UnboundName_ValueError => kit_is)
    (case kt_UnboundName_NameMissing => kit_is)
    (case kt_UnboundName_LookupError => kit_is)
    (case kt_UnboundName_KeyError => kit_is)
    (case kt_UnboundName_IndexError => kit_is)
    (case h_UnboundName_init => k_is)
    (case l_UnboundName_init => k_is)
    (case c_UnboundName_init => k_is)
    (case k_UnboundName_init => k_is)
    (case q_UnboundName_init => k_is)
    (case v_UnboundName_init => k_is)
    (case vf_UnboundName_init => rfl)
    (case vg_UnboundName_init => decide +kernel)
    (case xt_UnboundName => k_is)
    (case mr_UnboundName => k_is)
    (case su_UnboundName => ks_is)
    (case ci_UnboundName => k_is)
    (case na_UnboundName => k_is)
    (case xl_UnknownFormula => k_is)
    (case xsa_UnknownFormula => k_is)
    (case xex_UnknownFormula => k_is)
    (case xty_UnknownFormula => k_is)
    (case xkc_UnknownFormula => k_is)
    (case xga_UnknownFormula => k_is)
    (case xgg_UnknownFormula => k_is)
    (case xhd_UnknownFormula => k_is)
    (case xcl_UnknownFormula => k_is)
    (case xcg_UnknownFormula => k_is)
    (case xct_UnknownFormula => k_is)
    (case xcm_UnknownFormula => k_is)
    (case kt_UnknownFormula_BadLattice => kit_is)
    (case kt_UnknownFormula_MixedLattices => kit_is)
    (case kt_UnknownFormula_BadMap => kit_is)
    (case kt_UnknownFormula_BadText => kit_is)
    (case kt_UnknownFormula_BadName => kit_is)
    (case kt_UnknownFormula_TwiceTold => kit_is)
    (case kt_UnknownFormula_NotIrreducible => kit_is)
    (case kt_UnknownFormula_InUse => kit_is)
    (case kt_UnknownFormula_UnknownValue => kit_is)
    (case kt_UnknownFormula_UnknownState => kit_is)
    (case kt_UnknownFormula_UnboundName => kit_is)
    (case kt_UnknownFormula_UnknownFormula => kit_is)
    (case kt_UnknownFormula_LatticeError => kit_is)
    (case kt_UnknownFormula_ValueError => kit_is)
    (case kt_UnknownFormula_NameMissing => kit_is)
    (case kt_UnknownFormula_LookupError => kit_is)
    (case kt_UnknownFormula_KeyError => kit_is)
    (case kt_UnknownFormula_IndexError => kit_is)
    (case h_UnknownFormula_init => k_is)
    (case l_UnknownFormula_init => k_is)
    (case c_UnknownFormula_init => k_is)
    (case k_UnknownFormula_init => k_is)
    (case q_UnknownFormula_init => k_is)
    (case v_UnknownFormula_init => k_is)
    (case vf_UnknownFormula_init => rfl)
    (case vg_UnknownFormula_init => decide +kernel)
    (case xt_UnknownFormula => k_is)
    (case mr_UnknownFormula => k_is)
    (case su_UnknownFormula => ks_is)
    (case ci_UnknownFormula => k_is)
    (case na_UnknownFormula => k_is)
    (case st_any => k_is)
end
namespace Lw
open PySem L2
local macro_rules | `(tactic| walk_at "up") => `(tactic| first | assumption | (refine Same.at (by assumption) ?_; walk_at "up") | (refine Same.seq (by assumption) ?_; walk_at "up"))
local macro_rules | `(tactic| walk_at "rd") => `(tactic| repeat (first | (refine ⟨_, rfl, ?_⟩) | (refine ⟨_, _, rfl, rfl, ?_⟩) | (refine ⟨(by decide), ?_⟩)))
section
variable {P : Program} {w W_ : World} {K : PySem.W.Frag} {mg : Str → Option Value} {base : Heap}
/-! the law's draws -/
def sp_cells (K : PySem.W.Frag) : Sp := fun vs H Q _ => ∃ (a : Addr) (ns : List Int), vs = [.ref a] ∧ SqL K H a (ns.map V.int) ∧ ns.length ≤ 63 ∧
  ∀ (p c : Addr) (m : Int) (cs : List Int) (H' : Hp), Same H H' → c ≠ p → H' c = some (.lst (cs.map V.int)) → (∀ z ∈ cs, 0 ≤ z) → H' p = some (.lst [.ref c, .int 0, .int 1, .int m]) → 0 ≤ m → m < 2147483563 → Q (.ref p) H'
theorem ok__law_cells (T : Tx K mg W_) : FnOk P w K mg base CX0 1 T.a__law_cells T.d__law_cells ["script"] (sp_cells K) := by
  refine T.F__law_cells.ok sc__law_cells (fun vs H Q E h => ?_) (fun cdv A outer s H vs Q E hr h => ?_)
  · obtain ⟨a, ns, rfl, _⟩ := h
    rfl
  obtain ⟨a, ns, rfl, hS, h63, q⟩ := h
  refine ⟨_, pss_cons (ps_set (i := 1) sc__law_cells.nd rfl (Or.inl rfl) pe_int)
    (pss_cons (ps_for PassesOwn.never rfl (pi_list (pv 0)) (pg_name (i := 2) sc__law_cells.nd rfl (Or.inl rfl))
      (pss_one (ps_set (i := 1) sc__law_cells.nd rfl (Or.inl rfl) (pe_op op_mod (pe_callTy call_int1 (by rfl) T.n_int (by decide +kernel) (pa_cons (pe_op op_add (pe_op op_add (pe_op op_mul (pv 1) pe_int) (pe_op op_mul (pv 2) pe_int)) pe_int) pa_nil)) pe_int))))
    (pss_one (ps_ret (pe_lst (pa_cons (pe_lc (own := [("cell", 2)]) (g := gName 2) (tt := tYes) rfl sc__law_cells.nd (pi_list (pv 0)) (blkOk_by (N := ["script", "mixed", "cell"]) (sc := defScope St__law_cells) (by decide +kernel)) (fun _ _ _ _ _ => pg_name (i := 2) sc__law_cells.nd rfl (Or.inl rfl)) (fun _ _ _ _ _ => pts_nil)
        (fun _ _ _ _ _ => pe_callB call_abs (by rfl) T.n_abs (by decide +kernel) (pa_cons (pv 2) pa_nil)))
      (pa_cons pe_int (pa_cons pe_int (pa_cons (pv 1) pa_nil)))))))), ?_⟩
  refine ⟨_, rfl, a, rfl, ⟨_, hS⟩, for_list (K := K) (a := a) (xs := ns.map V.int) (fun i σ H2 => ∃ (m : Int) (v : Option V), σ = [some (.ref a), some (.int m), v] ∧ H2 = H ∧ 0 ≤ m ∧ m < 2147483563)
    ⟨3, none, rfl, rfl, by decide, by decide⟩ (fun i σ H2 _ ⟨_, _, _, e, _⟩ => by rw [e]; exact hS) ?_ ?_⟩
  · rintro i x σ H2 hi ⟨m, v, rfl, rfl, m0, m1⟩
    obtain ⟨z, _, rfl⟩ := map_at hi
    refine ⟨_, rfl, _, _, rfl, rfl, .inr (by decide), _, rfl, _, _, rfl, rfl, .inr (by decide), _, _, rfl, rfl, _, _, rfl, rfl, .inl ⟨_, rfl, _, _, rfl, rfl, (by show (0 : Int) < 2147483563; decide), ?_⟩⟩
    exact ⟨_, _, rfl, rfl, Int.emod_nonneg _ (by decide), Int.emod_lt_of_pos _ (by decide)⟩
  · rintro σ H2 ⟨m, v, rfl, rfl, m0, m1⟩
    refine ⟨_, rfl, a, rfl, ⟨_, hS⟩, fun D hD => lc_list (K := K) (a := a) (xs := ns.map V.int) (fun i H3 => Same H2 H3 ∧ H3 D = some (.lst (((ns.take i).map fun i : Int => if i < 0 then -i else i).map V.int)))
      ⟨Same.new hD _, upd_same⟩ (fun i H3 _ h => h.1.seq hS) ?_ ?_⟩
    · rintro i x H3 hi ⟨s3, h3⟩
      obtain ⟨z, hz, rfl⟩ := map_at hi
      have hl : i < ns.length := (List.getElem?_eq_some_iff.mp hz).1
      refine ⟨rfl, ?_⟩
      refine lcY ?_
      refine ⟨_, rfl, _, rfl, _, h3, ?_, s3.mut hD _, ?_⟩
      · rw [List.length_map, List.length_map, List.length_take]; exact small1000 (by omega)
      · rw [upd_same, take_snoc hz, List.map_append, List.map_append]; rfl
    · rintro H3 ⟨s3, h3⟩
      refine ⟨_, rfl, (by show 4 ≤ sizeLine; decide), newO fun p H4 hp s4 h4 => ?_⟩
      rw [List.length_map, List.take_length] at h3
      exact q p D m _ H4 (s3.trans s4) (ne_of_none h3 hp) (s4.at h3) (abs_map ns) h4 m0 m1
def sp_pick (K : PySem.W.Frag) : Sp := fun vs H Q _ => ∃ (p ce : Addr) (n : Int), vs = [.ref p, .int n] ∧ Src K ce H p ∧ n ≤ 10000000 ∧
  ∀ (d : Int) (H' : Hp), But p H H' → Src K ce H' p → 0 ≤ d → (d < n ∨ d = 0) → Q (.int d) H'
theorem ok__law_pick (T : Tx K mg W_) : FnOk P w K mg base CX0 1 T.a__law_pick T.d__law_pick ["source", "many"] (sp_pick K) := by
  refine T.F__law_pick.ok sc__law_pick (fun vs H Q E h => ?_) (fun cdv A outer s H vs Q E hr h => ?_)
  · obtain ⟨a, ce, n, rfl, _⟩ := h
    rfl
  obtain ⟨p, c, n, rfl, ⟨cs, i, l, m, S⟩, hn, q⟩ := h
  refine ⟨_, pss_cons (ps_if (pt_cmpR op_lt (pv 1) pe_int (nomark _)) (pss_one (ps_ret pe_int)) pss_nil)
    (pss_cons (ps_while PassesOwn.never (PW.pt (pw_and (pt_cmpR op_lt (pe_ix ix_list (pv 0) pe_int (fun _ _ => rfl)) pe_int (nomark _)) (pw_and1 (pt_cmpR op_lt (pe_ix ix_list (pv 0) pe_int (fun _ _ => rfl)) (pe_callB call_len_seq (by rfl) T.n_len PySem.boot_len (pa_cons (pe_ix ix_list (pv 0) pe_int (fun _ _ => rfl)) pa_nil)) (nomark _)))))
      (pss_cons (ps_asg (pe_ix ix_list (pe_ix ix_list (pv 0) pe_int (fun _ _ => rfl)) (pe_ix ix_list (pv 0) pe_int (fun _ _ => rfl)) (fun _ _ => rfl)) (pg_sub (pv 0) pe_int set_list))
      (pss_one (ps_asg (pe_op op_add (pe_ix ix_list (pv 0) pe_int (fun _ _ => rfl)) pe_int) (pg_sub (pv 0) pe_int set_list)))))
    (pss_cons (ps_if (pt_cmpR op_gt (pe_ix ix_list (pv 0) pe_int (fun _ _ => rfl)) pe_int (nomark _))
      (pss_cons (ps_set (i := 2) sc__law_pick.nd rfl (Or.inl rfl) (pe_op op_mod (pe_callTy call_int1 (by rfl) T.n_int (by decide +kernel) (pa_cons (pe_ix ix_list (pv 0) pe_int (fun _ _ => rfl)) pa_nil)) (pv 1)))
      (pss_cons (ps_asg (pe_op op_fdiv (pe_ix ix_list (pv 0) pe_int (fun _ _ => rfl)) (pv 1)) (pg_sub (pv 0) pe_int set_list))
      (pss_one (ps_ret (pv 2))))) pss_nil)
    (pss_cons (ps_asg (pe_op op_mod (pe_callTy call_int1 (by rfl) T.n_int (by decide +kernel) (pa_cons (pe_op op_add (pe_op op_mul (pe_ix ix_list (pv 0) pe_int (fun _ _ => rfl)) pe_int) pe_int) pa_nil)) pe_int) (pg_sub (pv 0) pe_int set_list))
    (pss_cons (ps_set (i := 3) sc__law_pick.nd rfl (Or.inl rfl) (pe_op op_fdiv (pe_ix ix_list (pv 0) pe_int (fun _ _ => rfl)) pe_int))
    (pss_cons (ps_if (pt_cmpR op_gt (pv 1) (pe_op op_pow pe_int pe_int) (nomark _)) (pss_one (ps_set (i := 3) sc__law_pick.nd rfl (Or.inl rfl) (pe_op op_pow (pv 3) pe_int))) pss_nil)
    (pss_one (ps_ret (pe_op op_mod (pe_callTy call_int1 (by rfl) T.n_int (by decide +kernel) (pa_cons (pv 3) pa_nil)) (pv 1))))))))), ?_⟩
  refine ⟨_, rfl, _, _, rfl, rfl, _, rfl, ?_⟩
  refine ite2 (fun c1 => ?_) (fun c1 => ?_)
  · exact q 0 H (But.refl p H) ⟨cs, i, l, m, S⟩ (by decide) (.inr rfl)
  have hn2 : 2 ≤ n := by have := of_decide_eq_false (Bool.eq_false_iff.mpr c1); omega
  refine ⟨fun k σ H2 => ∃ (i : Nat) (l : Int), k = cs.length - i ∧ σ = [some (.ref p), some (.int n), none, none] ∧ But p H H2 ∧ SrcIs K H2 p c cs i l m, ⟨_, i, l, rfl, rfl, But.refl p H, S⟩, ?_⟩
  rintro k σ H2 ⟨i, l, rfl, rfl, b, S⟩
  have sq := SqL.of (K := K) S.at_
  refine ans_run (b := decide (l < 2) && decide ((i : Int) < cs.length)) (fun Q' q' => ?_) ?_
  · refine ⟨_, rfl, _, _, _, _, rfl, rfl, sq, atI_nat (j := 2) rfl, _, _, rfl, rfl, _, rfl, ?_⟩
    refine ite2 (fun c2 => ?_) (fun c2 => ?_)
    · refine ⟨_, rfl, _, _, _, _, rfl, rfl, sq, atI_nat (j := 1) rfl, _, rfl, _, _, _, _, rfl, rfl, sq, atI_nat (j := 0) rfl, c, _, rfl, .inl S.cel, _, _, rfl, rfl, _, rfl, ?_⟩
      have e : (decide (l < 2) && decide ((i : Int) < cs.length)) = decide ((i : Int) < (cs.map V.int).length) := by rw [c2, Bool.true_and, List.length_map]
      rw [e] at q'
      exact q'
    · rw [Bool.eq_false_iff.mpr c2, Bool.false_and] at q'
      exact q'
  refine ite2 (fun c2 => ?_) (fun c2 => ?_)
  · obtain ⟨e1, e2⟩ := Bool.and_eq_true_iff.mp c2
    have e1 := of_decide_eq_true e1
    have e2 := of_decide_eq_true e2
    have hic : i < cs.length := by omega
    refine ⟨fun σ' H' => ∃ m' < cs.length - i, _, fun _ _ h => h, ?_⟩
    refine ⟨_, rfl, _, _, _, _, rfl, rfl, sq, atI_nat (j := 0) rfl, _, rfl, _, _, _, _, rfl, rfl, sq, atI_nat (j := 1) rfl, c, _, (i : Int), .int cs[i], rfl, rfl, S.cel, atI_nat (by rw [List.getElem?_map, List.getElem?_eq_getElem hic]; rfl), ?_⟩
    refine ⟨_, rfl, p, _, _, 2, rfl, rfl, S.at_, rfl, ?_⟩
    have S1 := S.put (i' := i) (l' := cs[i]) (m' := m) S.hi (S.hc _ (List.getElem_mem hic)) S.m0 S.m1
    refine ⟨_, rfl, _, _, _, _, rfl, rfl, SqL.of (K := K) S1.at_, atI_nat (j := 1) rfl, _, _, rfl, rfl, ?_⟩
    refine ⟨_, rfl, p, _, _, 1, rfl, rfl, S1.at_, rfl, ?_⟩
    exact ⟨_, by omega, i + 1, cs[i], rfl, rfl, (b.upd _).upd _, S1.put (i' := i + 1) (l' := cs[i]) (m' := m) hic S1.hl S1.m0 S1.m1⟩
  refine ⟨_, rfl, _, _, _, _, rfl, rfl, sq, atI_nat (j := 2) rfl, _, _, rfl, rfl, _, rfl, ?_⟩
  refine ite2 (fun c3 => ?_) (fun c3 => ?_)
  · have c3 := of_decide_eq_true c3
    refine ⟨_, rfl, _, _, _, _, rfl, rfl, sq, atI_nat (j := 2) rfl, .inl ⟨_, rfl, _, rfl, _, _, rfl, rfl, (by show 0 < n; omega), ?_⟩⟩
    refine ⟨_, rfl, _, _, _, _, rfl, rfl, sq, atI_nat (j := 2) rfl, _, rfl, _, _, rfl, rfl, ⟨by omega, by omega⟩, ?_⟩
    refine ⟨_, rfl, p, _, _, 2, rfl, rfl, S.at_, rfl, _, rfl, ?_⟩
    exact q _ _ (b.upd _) ⟨cs, i, l / n, m, S.put S.hi (Int.ediv_nonneg S.hl (by omega)) S.m0 S.m1⟩ (Int.emod_nonneg _ (by omega)) (.inl (Int.emod_lt_of_pos _ (by omega)))
  refine ⟨_, rfl, _, _, _, _, rfl, rfl, sq, atI_nat (j := 3) rfl, _, _, rfl, rfl, .inr (by decide), _, _, rfl, rfl, .inl ⟨_, rfl, _, _, rfl, rfl, (by show (0 : Int) < 2147483563; decide), ?_⟩⟩
  refine ⟨_, rfl, p, _, _, 3, rfl, rfl, S.at_, rfl, ?_⟩
  have S1 := S.put (i' := i) (l' := l) (m' := (m * 40014 + 12345) % 2147483563) S.hi S.hl (Int.emod_nonneg _ (by decide)) (Int.emod_lt_of_pos _ (by decide))
  refine ⟨_, rfl, _, _, _, _, rfl, rfl, SqL.of (K := K) S1.at_, atI_nat (j := 3) rfl, _, _, rfl, rfl, ⟨by decide, by decide⟩, ?_⟩
  refine ⟨_, rfl, _, _, rfl, rfl, (by show CPow 10 7; exact ⟨by decide, by decide, by decide⟩), _, _, rfl, rfl, _, rfl, ?_⟩
  refine iteN (by show ¬ (10 : Int) ^ (7 : Int).toNat < n; have : (10 : Int) ^ (7 : Int).toNat = 10000000 := by decide
                  omega) ?_
  refine ⟨_, rfl, .inl ⟨_, rfl, _, rfl, _, _, rfl, rfl, (by show 0 < n; omega), ?_⟩⟩
  exact q _ _ (b.upd _) ⟨cs, i, l, _, S1⟩ (Int.emod_nonneg _ (by omega)) (.inl (Int.emod_lt_of_pos _ (by omega)))
end
/-! ### _law_pick among very many -/
section
open PyProof.Rows
variable {P : Program} {w W_ : World} {K : PySem.W.Frag} {mg : Str → Option Value} {base : Heap}
theorem wide_log {n : Int} (h : n ≤ 2 ^ 100) (h0 : 0 < n) : n.natAbs.log2 < 9000 := by
  have : n.natAbs ≤ 2 ^ 100 := by omega
  have h1 : n.natAbs ≠ 0 := by omega
  exact (Nat.log2_lt h1).mpr (Nat.lt_of_le_of_lt this (Nat.pow_lt_pow_right (by decide) (by decide)))
def sp_pickW (K : PySem.W.Frag) : Sp := fun vs H Q _ => ∃ (p ce : Addr) (n : Int), vs = [.ref p, .int n] ∧ Src K ce H p ∧ n ≤ 2 ^ 100 ∧
  ∀ (d : Int) (H' : Hp), But p H H' → Src K ce H' p → 0 ≤ d → (d < n ∨ d = 0) → Q (.int d) H'
theorem okW__law_pick (T : Tx K mg W_) : FnOk P w K mg base CX0 1 T.a__law_pick T.d__law_pick ["source", "many"] (sp_pickW K) := by
  refine T.F__law_pick.ok sc__law_pick (fun vs H Q E h => ?_) (fun cdv A outer s H vs Q E hr h => ?_)
  · obtain ⟨a, ce, n, rfl, _⟩ := h
    rfl
  obtain ⟨p, c, n, rfl, ⟨cs, i, l, m, S⟩, hn, q⟩ := h
  refine ⟨_, pss_cons (ps_if (pt_cmpR op_lt (pv 1) pe_int (nomark _)) (pss_one (ps_ret pe_int)) pss_nil)
    (pss_cons (ps_while PassesOwn.never (PW.pt (pw_and (pt_cmpR op_lt (pe_ix ix_list (pv 0) pe_int (fun _ _ => rfl)) pe_int (nomark _)) (pw_and1 (pt_cmpR op_lt (pe_ix ix_list (pv 0) pe_int (fun _ _ => rfl)) (pe_callB call_len_seq (by rfl) T.n_len PySem.boot_len (pa_cons (pe_ix ix_list (pv 0) pe_int (fun _ _ => rfl)) pa_nil)) (nomark _)))))
      (pss_cons (ps_asg (pe_ix ix_list (pe_ix ix_list (pv 0) pe_int (fun _ _ => rfl)) (pe_ix ix_list (pv 0) pe_int (fun _ _ => rfl)) (fun _ _ => rfl)) (pg_sub (pv 0) pe_int set_list))
      (pss_one (ps_asg (pe_op op_add (pe_ix ix_list (pv 0) pe_int (fun _ _ => rfl)) pe_int) (pg_sub (pv 0) pe_int set_list)))))
    (pss_cons (ps_if (pt_cmpR op_gt (pe_ix ix_list (pv 0) pe_int (fun _ _ => rfl)) pe_int (nomark _))
      (pss_cons (ps_set (i := 2) sc__law_pick.nd rfl (Or.inl rfl) (pe_op op_mod (pe_callTy call_int1 (by rfl) T.n_int (by decide +kernel) (pa_cons (pe_ix ix_list (pv 0) pe_int (fun _ _ => rfl)) pa_nil)) (pv 1)))
      (pss_cons (ps_asg (pe_op op_fdivW (pe_ix ix_list (pv 0) pe_int (fun _ _ => rfl)) (pv 1)) (pg_sub (pv 0) pe_int set_list))
      (pss_one (ps_ret (pv 2))))) pss_nil)
    (pss_cons (ps_asg (pe_op op_mod (pe_callTy call_int1 (by rfl) T.n_int (by decide +kernel) (pa_cons (pe_op op_add (pe_op op_mul (pe_ix ix_list (pv 0) pe_int (fun _ _ => rfl)) pe_int) pe_int) pa_nil)) pe_int) (pg_sub (pv 0) pe_int set_list))
    (pss_cons (ps_set (i := 3) sc__law_pick.nd rfl (Or.inl rfl) (pe_op op_fdiv (pe_ix ix_list (pv 0) pe_int (fun _ _ => rfl)) pe_int))
    (pss_cons (ps_if (pt_cmpR op_gt (pv 1) (pe_op op_pow pe_int pe_int) (nomark _)) (pss_one (ps_set (i := 3) sc__law_pick.nd rfl (Or.inl rfl) (pe_op op_pow (pv 3) pe_int))) pss_nil)
    (pss_one (ps_ret (pe_op op_mod (pe_callTy call_int1 (by rfl) T.n_int (by decide +kernel) (pa_cons (pv 3) pa_nil)) (pv 1))))))))), ?_⟩
  refine ⟨_, rfl, _, _, rfl, rfl, _, rfl, ?_⟩
  refine ite2 (fun c1 => ?_) (fun c1 => ?_)
  · exact q 0 H (But.refl p H) ⟨cs, i, l, m, S⟩ (by decide) (.inr rfl)
  have hn2 : 2 ≤ n := by have := of_decide_eq_false (Bool.eq_false_iff.mpr c1); omega
  refine ⟨fun k σ H2 => ∃ (i : Nat) (l : Int), k = cs.length - i ∧ σ = [some (.ref p), some (.int n), none, none] ∧ But p H H2 ∧ SrcIs K H2 p c cs i l m, ⟨_, i, l, rfl, rfl, But.refl p H, S⟩, ?_⟩
  rintro k σ H2 ⟨i, l, rfl, rfl, b, S⟩
  have sq := SqL.of (K := K) S.at_
  refine ans_run (b := decide (l < 2) && decide ((i : Int) < cs.length)) (fun Q' q' => ?_) ?_
  · refine ⟨_, rfl, _, _, _, _, rfl, rfl, sq, atI_nat (j := 2) rfl, _, _, rfl, rfl, _, rfl, ?_⟩
    refine ite2 (fun c2 => ?_) (fun c2 => ?_)
    · refine ⟨_, rfl, _, _, _, _, rfl, rfl, sq, atI_nat (j := 1) rfl, _, rfl, _, _, _, _, rfl, rfl, sq, atI_nat (j := 0) rfl, c, _, rfl, .inl S.cel, _, _, rfl, rfl, _, rfl, ?_⟩
      have e : (decide (l < 2) && decide ((i : Int) < cs.length)) = decide ((i : Int) < (cs.map V.int).length) := by rw [c2, Bool.true_and, List.length_map]
      rw [e] at q'
      exact q'
    · rw [Bool.eq_false_iff.mpr c2, Bool.false_and] at q'
      exact q'
  refine ite2 (fun c2 => ?_) (fun c2 => ?_)
  · obtain ⟨e1, e2⟩ := Bool.and_eq_true_iff.mp c2
    have e1 := of_decide_eq_true e1
    have e2 := of_decide_eq_true e2
    have hic : i < cs.length := by omega
    refine ⟨fun σ' H' => ∃ m' < cs.length - i, _, fun _ _ h => h, ?_⟩
    refine ⟨_, rfl, _, _, _, _, rfl, rfl, sq, atI_nat (j := 0) rfl, _, rfl, _, _, _, _, rfl, rfl, sq, atI_nat (j := 1) rfl, c, _, (i : Int), .int cs[i], rfl, rfl, S.cel, atI_nat (by rw [List.getElem?_map, List.getElem?_eq_getElem hic]; rfl), ?_⟩
    refine ⟨_, rfl, p, _, _, 2, rfl, rfl, S.at_, rfl, ?_⟩
    have S1 := S.put (i' := i) (l' := cs[i]) (m' := m) S.hi (S.hc _ (List.getElem_mem hic)) S.m0 S.m1
    refine ⟨_, rfl, _, _, _, _, rfl, rfl, SqL.of (K := K) S1.at_, atI_nat (j := 1) rfl, _, _, rfl, rfl, ?_⟩
    refine ⟨_, rfl, p, _, _, 1, rfl, rfl, S1.at_, rfl, ?_⟩
    exact ⟨_, by omega, i + 1, cs[i], rfl, rfl, (b.upd _).upd _, S1.put (i' := i + 1) (l' := cs[i]) (m' := m) hic S1.hl S1.m0 S1.m1⟩
  refine ⟨_, rfl, _, _, _, _, rfl, rfl, sq, atI_nat (j := 2) rfl, _, _, rfl, rfl, _, rfl, ?_⟩
  refine ite2 (fun c3 => ?_) (fun c3 => ?_)
  · have c3 := of_decide_eq_true c3
    refine ⟨_, rfl, _, _, _, _, rfl, rfl, sq, atI_nat (j := 2) rfl, .inl ⟨_, rfl, _, rfl, _, _, rfl, rfl, (by show 0 < n; omega), ?_⟩⟩
    refine ⟨_, rfl, _, _, _, _, rfl, rfl, sq, atI_nat (j := 2) rfl, _, rfl, _, _, rfl, rfl, ⟨by omega, wide_log hn (by omega)⟩, ?_⟩
    refine ⟨_, rfl, p, _, _, 2, rfl, rfl, S.at_, rfl, _, rfl, ?_⟩
    exact q _ _ (b.upd _) ⟨cs, i, l / n, m, S.put S.hi (Int.ediv_nonneg S.hl (by omega)) S.m0 S.m1⟩ (Int.emod_nonneg _ (by omega)) (.inl (Int.emod_lt_of_pos _ (by omega)))
  refine ⟨_, rfl, _, _, _, _, rfl, rfl, sq, atI_nat (j := 3) rfl, _, _, rfl, rfl, .inr (by decide), _, _, rfl, rfl, .inl ⟨_, rfl, _, _, rfl, rfl, (by show (0 : Int) < 2147483563; decide), ?_⟩⟩
  refine ⟨_, rfl, p, _, _, 3, rfl, rfl, S.at_, rfl, ?_⟩
  have S1 := S.put (i' := i) (l' := l) (m' := (m * 40014 + 12345) % 2147483563) S.hi S.hl (Int.emod_nonneg _ (by decide)) (Int.emod_lt_of_pos _ (by decide))
  refine ⟨_, rfl, _, _, _, _, rfl, rfl, SqL.of (K := K) S1.at_, atI_nat (j := 3) rfl, _, _, rfl, rfl, ⟨by decide, by decide⟩, ?_⟩
  refine ⟨_, rfl, _, _, rfl, rfl, (by show CPow 10 7; exact ⟨by decide, by decide, by decide⟩), _, _, rfl, rfl, _, rfl, ?_⟩
  have e7 : (10 : Int) ^ (7 : Int).toNat = 10000000 := by decide
  by_cases c4 : 10000000 < n
  · refine iteY (by show (10 : Int) ^ (7 : Int).toNat < n; omega) ?_
    have m0 := S1.m0
    have m1 := S1.m1
    have x0 : 0 ≤ (m * 40014 + 12345) % 2147483563 / 7 := Int.ediv_nonneg m0 (by decide)
    have x1 : (m * 40014 + 12345) % 2147483563 / 7 < 2147483563 := Int.lt_of_le_of_lt (Int.ediv_le_self _ m0) m1
    refine ⟨_, rfl, _, _, rfl, rfl, (by show CPow _ 9; exact ⟨by decide, by decide, by omega⟩), ?_⟩
    refine ⟨_, rfl, .inl ⟨_, rfl, _, rfl, _, _, rfl, rfl, (by show 0 < n; omega), ?_⟩⟩
    exact q _ _ (b.upd _) ⟨cs, i, l, _, S1⟩ (Int.emod_nonneg _ (by omega)) (.inl (Int.emod_lt_of_pos _ (by omega)))
  refine iteN (by show ¬ (10 : Int) ^ (7 : Int).toNat < n; omega) ?_
  refine ⟨_, rfl, .inl ⟨_, rfl, _, rfl, _, _, rfl, rfl, (by show 0 < n; omega), ?_⟩⟩
  exact q _ _ (b.upd _) ⟨cs, i, l, _, S1⟩ (Int.emod_nonneg _ (by omega)) (.inl (Int.emod_lt_of_pos _ (by omega)))
end
/-! ### lists of texts as data -/
section
variable {K : PySem.W.Frag} {H H' : Hp}
theorem dpAll_strG : ∀ xs : List Str, DpAll K H (xs.map V.str) (xs.map PyData.str)
  | [] => .nil
  | x :: xs => .cons (.str x) (dpAll_strG xs)
theorem dp_strG {a : Addr} {xs : List Str} (h : SqL K H a (xs.map V.str)) : Dp K H (.ref a) (.list (xs.map PyData.str)) := .lst h (dpAll_strG xs)
theorem eqvAll_strG : ∀ xs : List Str, PyData.eqvAll (xs.map PyData.str) (xs.map PyData.str) = true
  | [] => by simp [PyData.eqvAll]
  | x :: xs => by simp [PyData.eqvAll, PyData.eqv, eqvAll_strG xs]
theorem eqv_strG (xs : List Str) : PyData.eqv (.list (xs.map PyData.str)) (.list (xs.map PyData.str)) = true := by simp [PyData.eqv, eqvAll_strG xs]
theorem depth_strG : ∀ xs : List Str, PyData.depthAll (xs.map PyData.str) ≤ 1
  | [] => by simp [PyData.depthAll]
  | x :: xs => by have := depth_strG xs; simp [PyData.depthAll, PyData.depth]; omega
theorem lay_strG : ∀ xs : List Str, (∀ z ∈ xs, PyData.strOk z = true) → PyData.canLayAll0 (xs.map PyData.str) = true
  | [], _ => by simp [PyData.canLayAll0]
  | x :: xs, h => by simp [PyData.canLayAll0, PyData.canLay0, lay_strG xs (fun z hz => h z (.tail _ hz)), h x (.head _)]
theorem shp_strG {xs : List Str} (h : ∀ z ∈ xs, PyData.strOk z = true) : Shp 190 (.list (xs.map PyData.str)) :=
  ⟨by simp [PyData.canLay0, lay_strG xs h], by have := depth_strG xs; simp [PyData.depth]; omega⟩
end
/-! ### the twelve errors: how they are made, what they are -/
section
open PySem.Spec PyProof.Rows
variable {w W_ : World} {K : PySem.W.Frag} {mg : Str → Option Value} {base : Heap}
def sp_xnm (C : Addr) (n : Str) : Sp := fun vs H Q _ => ∃ (a : Addr) (v : V), vs = [.ref a, v] ∧ H a = some (exo a C none) ∧ ∀ d, H d = none → d ≠ a → Q .non (upd (upd H d (exd d [(n, v)])) a (exo a C (some d)))
theorem okE_BadText (T : Tx K mg W_) : FnOk PL w K mg base CX0 1 T.a_BadText_init T.d_BadText_init ["self", "at"] (sp_xnm T.a_BadText "at") := by
  refine T.F_BadText_init.ok sc_BadText_init (by rfl) (by rfl) (by rfl) ⟨_, rfl, rfl⟩ (by decide +kernel) T.ci_BadText T.n_super T.st_any (fun vs H Q E h => ?_) (fun cda cc A outer s H vs Q E hr S h => ?_)
  · obtain ⟨a, v, rfl, _⟩ := h
    rfl
  obtain ⟨a, v, rfl, ha, q⟩ := h
  refine ⟨_, psa_superG xb_VE S rfl (pa_cons pe_str pa_nil) (by decide) rfl rfl rfl rfl rfl (psa_any (pss_one (ps_setG xb_VE (pv 0) (pv 1) rfl))), ?_⟩
  refine ⟨a, T.a_BadText, rfl, ha, T.x_BadText, T.mr_BadText, T.su_BadText, by decide, ha, ?_⟩
  exact ⟨_, rfl, _, rfl, a, T.a_BadText, rfl, T.x_BadText, T.na_BadText, ha, q⟩
theorem okE_BadName (T : Tx K mg W_) : FnOk PL w K mg base CX0 1 T.a_BadName_init T.d_BadName_init ["self", "name"] (sp_xnm T.a_BadName "name") := by
  refine T.F_BadName_init.ok sc_BadName_init (by rfl) (by rfl) (by rfl) ⟨_, rfl, rfl⟩ (by decide +kernel) T.ci_BadName T.n_super T.st_any (fun vs H Q E h => ?_) (fun cda cc A outer s H vs Q E hr S h => ?_)
  · obtain ⟨a, v, rfl, _⟩ := h
    rfl
  obtain ⟨a, v, rfl, ha, q⟩ := h
  refine ⟨_, psa_superG xb_VE S rfl (pa_cons pe_str pa_nil) (by decide) rfl rfl rfl rfl rfl (psa_any (pss_one (ps_setG xb_VE (pv 0) (pv 1) rfl))), ?_⟩
  refine ⟨a, T.a_BadName, rfl, ha, T.x_BadName, T.mr_BadName, T.su_BadName, by decide, ha, ?_⟩
  exact ⟨_, rfl, _, rfl, a, T.a_BadName, rfl, T.x_BadName, T.na_BadName, ha, q⟩
theorem okE_TwiceTold (T : Tx K mg W_) : FnOk PL w K mg base CX0 1 T.a_TwiceTold_init T.d_TwiceTold_init ["self", "name"] (sp_xnm T.a_TwiceTold "name") := by
  refine T.F_TwiceTold_init.ok sc_TwiceTold_init (by rfl) (by rfl) (by rfl) ⟨_, rfl, rfl⟩ (by decide +kernel) T.ci_TwiceTold T.n_super T.st_any (fun vs H Q E h => ?_) (fun cda cc A outer s H vs Q E hr S h => ?_)
  · obtain ⟨a, v, rfl, _⟩ := h
    rfl
  obtain ⟨a, v, rfl, ha, q⟩ := h
  refine ⟨_, psa_superG xb_VE S rfl (pa_cons pe_str pa_nil) (by decide) rfl rfl rfl rfl rfl (psa_any (pss_one (ps_setG xb_VE (pv 0) (pv 1) rfl))), ?_⟩
  refine ⟨a, T.a_TwiceTold, rfl, ha, T.x_TwiceTold, T.mr_TwiceTold, T.su_TwiceTold, by decide, ha, ?_⟩
  exact ⟨_, rfl, _, rfl, a, T.a_TwiceTold, rfl, T.x_TwiceTold, T.na_TwiceTold, ha, q⟩
theorem okE_NotIrreducible (T : Tx K mg W_) : FnOk PL w K mg base CX0 1 T.a_NotIrreducible_init T.d_NotIrreducible_init ["self", "name"] (sp_xnm T.a_NotIrreducible "name") := by
  refine T.F_NotIrreducible_init.ok sc_NotIrreducible_init (by rfl) (by rfl) (by rfl) ⟨_, rfl, rfl⟩ (by decide +kernel) T.ci_NotIrreducible T.n_super T.st_any (fun vs H Q E h => ?_) (fun cda cc A outer s H vs Q E hr S h => ?_)
  · obtain ⟨a, v, rfl, _⟩ := h
    rfl
  obtain ⟨a, v, rfl, ha, q⟩ := h
  refine ⟨_, psa_superG xb_VE S rfl (pa_cons pe_str pa_nil) (by decide) rfl rfl rfl rfl rfl (psa_any (pss_one (ps_setG xb_VE (pv 0) (pv 1) rfl))), ?_⟩
  refine ⟨a, T.a_NotIrreducible, rfl, ha, T.x_NotIrreducible, T.mr_NotIrreducible, T.su_NotIrreducible, by decide, ha, ?_⟩
  exact ⟨_, rfl, _, rfl, a, T.a_NotIrreducible, rfl, T.x_NotIrreducible, T.na_NotIrreducible, ha, q⟩
theorem okE_InUse (T : Tx K mg W_) : FnOk PL w K mg base CX0 1 T.a_InUse_init T.d_InUse_init ["self", "name"] (sp_xnm T.a_InUse "name") := by
  refine T.F_InUse_init.ok sc_InUse_init (by rfl) (by rfl) (by rfl) ⟨_, rfl, rfl⟩ (by decide +kernel) T.ci_InUse T.n_super T.st_any (fun vs H Q E h => ?_) (fun cda cc A outer s H vs Q E hr S h => ?_)
  · obtain ⟨a, v, rfl, _⟩ := h
    rfl
  obtain ⟨a, v, rfl, ha, q⟩ := h
  refine ⟨_, psa_superG xb_VE S rfl (pa_cons pe_str pa_nil) (by decide) rfl rfl rfl rfl rfl (psa_any (pss_one (ps_setG xb_VE (pv 0) (pv 1) rfl))), ?_⟩
  refine ⟨a, T.a_InUse, rfl, ha, T.x_InUse, T.mr_InUse, T.su_InUse, by decide, ha, ?_⟩
  exact ⟨_, rfl, _, rfl, a, T.a_InUse, rfl, T.x_InUse, T.na_InUse, ha, q⟩
theorem okE_UnknownValue (T : Tx K mg W_) : FnOk PL w K mg base CX0 1 T.a_UnknownValue_init T.d_UnknownValue_init ["self", "name"] (sp_xnm T.a_UnknownValue "name") := by
  refine T.F_UnknownValue_init.ok sc_UnknownValue_init (by rfl) (by rfl) (by rfl) ⟨_, rfl, rfl⟩ (by decide +kernel) T.ci_UnknownValue T.n_super T.st_any (fun vs H Q E h => ?_) (fun cda cc A outer s H vs Q E hr S h => ?_)
  · obtain ⟨a, v, rfl, _⟩ := h
    rfl
  obtain ⟨a, v, rfl, ha, q⟩ := h
  refine ⟨_, psa_superG xb_LE S rfl (pa_cons pe_str pa_nil) (by decide) rfl rfl rfl rfl rfl (psa_any (pss_one (ps_setG xb_LE (pv 0) (pv 1) rfl))), ?_⟩
  refine ⟨a, T.a_UnknownValue, rfl, ha, T.x_UnknownValue, T.mr_UnknownValue, T.su_UnknownValue, by decide, ha, ?_⟩
  exact ⟨_, rfl, _, rfl, a, T.a_UnknownValue, rfl, T.x_UnknownValue, T.na_UnknownValue, ha, q⟩
theorem okE_UnknownState (T : Tx K mg W_) : FnOk PL w K mg base CX0 1 T.a_UnknownState_init T.d_UnknownState_init ["self", "name"] (sp_xnm T.a_UnknownState "name") := by
  refine T.F_UnknownState_init.ok sc_UnknownState_init (by rfl) (by rfl) (by rfl) ⟨_, rfl, rfl⟩ (by decide +kernel) T.ci_UnknownState T.n_super T.st_any (fun vs H Q E h => ?_) (fun cda cc A outer s H vs Q E hr S h => ?_)
  · obtain ⟨a, v, rfl, _⟩ := h
    rfl
  obtain ⟨a, v, rfl, ha, q⟩ := h
  refine ⟨_, psa_superG xb_LE S rfl (pa_cons pe_str pa_nil) (by decide) rfl rfl rfl rfl rfl (psa_any (pss_one (ps_setG xb_LE (pv 0) (pv 1) rfl))), ?_⟩
  refine ⟨a, T.a_UnknownState, rfl, ha, T.x_UnknownState, T.mr_UnknownState, T.su_UnknownState, by decide, ha, ?_⟩
  exact ⟨_, rfl, _, rfl, a, T.a_UnknownState, rfl, T.x_UnknownState, T.na_UnknownState, ha, q⟩
theorem okE_UnboundName (T : Tx K mg W_) : FnOk PL w K mg base CX0 1 T.a_UnboundName_init T.d_UnboundName_init ["self", "name"] (sp_xnm T.a_UnboundName "name") := by
  refine T.F_UnboundName_init.ok sc_UnboundName_init (by rfl) (by rfl) (by rfl) ⟨_, rfl, rfl⟩ (by decide +kernel) T.ci_UnboundName T.n_super T.st_any (fun vs H Q E h => ?_) (fun cda cc A outer s H vs Q E hr S h => ?_)
  · obtain ⟨a, v, rfl, _⟩ := h
    rfl
  obtain ⟨a, v, rfl, ha, q⟩ := h
  refine ⟨_, psa_superG xb_LE S rfl (pa_cons pe_str pa_nil) (by decide) rfl rfl rfl rfl rfl (psa_any (pss_one (ps_setG xb_LE (pv 0) (pv 1) rfl))), ?_⟩
  refine ⟨a, T.a_UnboundName, rfl, ha, T.x_UnboundName, T.mr_UnboundName, T.su_UnboundName, by decide, ha, ?_⟩
  exact ⟨_, rfl, _, rfl, a, T.a_UnboundName, rfl, T.x_UnboundName, T.na_UnboundName, ha, q⟩
theorem okE_UnknownFormula (T : Tx K mg W_) : FnOk PL w K mg base CX0 1 T.a_UnknownFormula_init T.d_UnknownFormula_init ["self", "name"] (sp_xnm T.a_UnknownFormula "name") := by
  refine T.F_UnknownFormula_init.ok sc_UnknownFormula_init (by rfl) (by rfl) (by rfl) ⟨_, rfl, rfl⟩ (by decide +kernel) T.ci_UnknownFormula T.n_super T.st_any (fun vs H Q E h => ?_) (fun cda cc A outer s H vs Q E hr S h => ?_)
  · obtain ⟨a, v, rfl, _⟩ := h
    rfl
  obtain ⟨a, v, rfl, ha, q⟩ := h
  refine ⟨_, psa_superG xb_LE S rfl (pa_cons pe_str pa_nil) (by decide) rfl rfl rfl rfl rfl (psa_any (pss_one (ps_setG xb_LE (pv 0) (pv 1) rfl))), ?_⟩
  refine ⟨a, T.a_UnknownFormula, rfl, ha, T.x_UnknownFormula, T.mr_UnknownFormula, T.su_UnknownFormula, by decide, ha, ?_⟩
  exact ⟨_, rfl, _, rfl, a, T.a_UnknownFormula, rfl, T.x_UnknownFormula, T.na_UnknownFormula, ha, q⟩
def errC (T : Tx K mg W_) : Fin 12 → Addr
  | 0 => T.a_BadLattice
  | 1 => T.a_MixedLattices
  | 2 => T.a_BadMap
  | 3 => T.a_BadText
  | 4 => T.a_BadName
  | 5 => T.a_TwiceTold
  | 6 => T.a_NotIrreducible
  | 7 => T.a_InUse
  | 8 => T.a_UnknownValue
  | 9 => T.a_UnknownState
  | 10 => T.a_UnboundName
  | 11 => T.a_UnknownFormula
theorem xc_all (T : Tx K mg W_) : ∀ k : Fin 12, ExcC K (errC T k)
  | 0 => T.xc_BadLattice
  | 1 => T.xc_MixedLattices
  | 2 => T.xc_BadMap
  | 3 => T.xc_BadText
  | 4 => T.xc_BadName
  | 5 => T.xc_TwiceTold
  | 6 => T.xc_NotIrreducible
  | 7 => T.xc_InUse
  | 8 => T.xc_UnknownValue
  | 9 => T.xc_UnknownState
  | 10 => T.xc_UnboundName
  | 11 => T.xc_UnknownFormula
theorem kx_all (T : Tx K mg W_) : ∀ k j : Fin 12, PySem.W.kitOne K (.ref (errC T k)) (.ref (errC T j)) = some (decide (j.val = k.val))
  | 0, 0 => T.kx_BadLattice_BadLattice
  | 0, 1 => T.kx_BadLattice_MixedLattices
  | 0, 2 => T.kx_BadLattice_BadMap
  | 0, 3 => T.kx_BadLattice_BadText
  | 0, 4 => T.kx_BadLattice_BadName
  | 0, 5 => T.kx_BadLattice_TwiceTold
  | 0, 6 => T.kx_BadLattice_NotIrreducible
  | 0, 7 => T.kx_BadLattice_InUse
  | 0, 8 => T.kx_BadLattice_UnknownValue
  | 0, 9 => T.kx_BadLattice_UnknownState
  | 0, 10 => T.kx_BadLattice_UnboundName
  | 0, 11 => T.kx_BadLattice_UnknownFormula
  | 1, 0 => T.kx_MixedLattices_BadLattice
  | 1, 1 => T.kx_MixedLattices_MixedLattices
  | 1, 2 => T.kx_MixedLattices_BadMap
  | 1, 3 => T.kx_MixedLattices_BadText
  | 1, 4 => T.kx_MixedLattices_BadName
  | 1, 5 => T.kx_MixedLattices_TwiceTold
  | 1, 6 => T.kx_MixedLattices_NotIrreducible
  | 1, 7 => T.kx_MixedLattices_InUse
  | 1, 8 => T.kx_MixedLattices_UnknownValue
  | 1, 9 => T.kx_MixedLattices_UnknownState
  | 1, 10 => T.kx_MixedLattices_UnboundName
  | 1, 11 => T.kx_MixedLattices_UnknownFormula
  | 2, 0 => T.kx_BadMap_BadLattice
  | 2, 1 => T.kx_BadMap_MixedLattices
  | 2, 2 => T.kx_BadMap_BadMap
  | 2, 3 => T.kx_BadMap_BadText
  | 2, 4 => T.kx_BadMap_BadName
  | 2, 5 => T.kx_BadMap_TwiceTold
  | 2, 6 => T.kx_BadMap_NotIrreducible
  | 2, 7 => T.kx_BadMap_InUse
  | 2, 8 => T.kx_BadMap_UnknownValue
  | 2, 9 => T.kx_BadMap_UnknownState
  | 2, 10 => T.kx_BadMap_UnboundName
  | 2, 11 => T.kx_BadMap_UnknownFormula
  | 3, 0 => T.kx_BadText_BadLattice
  | 3, 1 => T.kx_BadText_MixedLattices
  | 3, 2 => T.kx_BadText_BadMap
  | 3, 3 => T.kx_BadText_BadText
  | 3, 4 => T.kx_BadText_BadName
  | 3, 5 => T.kx_BadText_TwiceTold
  | 3, 6 => T.kx_BadText_NotIrreducible
  | 3, 7 => T.kx_BadText_InUse
  | 3, 8 => T.kx_BadText_UnknownValue
  | 3, 9 => T.kx_BadText_UnknownState
  | 3, 10 => T.kx_BadText_UnboundName
  | 3, 11 => T.kx_BadText_UnknownFormula
  | 4, 0 => T.kx_BadName_BadLattice
  | 4, 1 => T.kx_BadName_MixedLattices
  | 4, 2 => T.kx_BadName_BadMap
  | 4, 3 => T.kx_BadName_BadText
  | 4, 4 => T.kx_BadName_BadName
  | 4, 5 => T.kx_BadName_TwiceTold
  | 4, 6 => T.kx_BadName_NotIrreducible
  | 4, 7 => T.kx_BadName_InUse
  | 4, 8 => T.kx_BadName_UnknownValue
  | 4, 9 => T.kx_BadName_UnknownState
  | 4, 10 => T.kx_BadName_UnboundName
  | 4, 11 => T.kx_BadName_UnknownFormula
  | 5, 0 => T.kx_TwiceTold_BadLattice
  | 5, 1 => T.kx_TwiceTold_MixedLattices
  | 5, 2 => T.kx_TwiceTold_BadMap
  | 5, 3 => T.kx_TwiceTold_BadText
  | 5, 4 => T.kx_TwiceTold_BadName
  | 5, 5 => T.kx_TwiceTold_TwiceTold
  | 5, 6 => T.kx_TwiceTold_NotIrreducible
  | 5, 7 => T.kx_TwiceTold_InUse
  | 5, 8 => T.kx_TwiceTold_UnknownValue
  | 5, 9 => T.kx_TwiceTold_UnknownState
  | 5, 10 => T.kx_TwiceTold_UnboundName
  | 5, 11 => T.kx_TwiceTold_UnknownFormula
  | 6, 0 => T.kx_NotIrreducible_BadLattice
  | 6, 1 => T.kx_NotIrreducible_MixedLattices
  | 6, 2 => T.kx_NotIrreducible_BadMap
  | 6, 3 => T.kx_NotIrreducible_BadText
  | 6, 4 => T.kx_NotIrreducible_BadName
  | 6, 5 => T.kx_NotIrreducible_TwiceTold
  | 6, 6 => T.kx_NotIrreducible_NotIrreducible
  | 6, 7 => T.kx_NotIrreducible_InUse
  | 6, 8 => T.kx_NotIrreducible_UnknownValue
  | 6, 9 => T.kx_NotIrreducible_UnknownState
  | 6, 10 => T.kx_NotIrreducible_UnboundName
  | 6, 11 => T.kx_NotIrreducible_UnknownFormula
  | 7, 0 => T.kx_InUse_BadLattice
  | 7, 1 => T.kx_InUse_MixedLattices
  | 7, 2 => T.kx_InUse_BadMap
  | 7, 3 => T.kx_InUse_BadText
  | 7, 4 => T.kx_InUse_BadName
  | 7, 5 => T.kx_InUse_TwiceTold
  | 7, 6 => T.kx_InUse_NotIrreducible
  | 7, 7 => T.kx_InUse_InUse
  | 7, 8 => T.kx_InUse_UnknownValue
  | 7, 9 => T.kx_InUse_UnknownState
  | 7, 10 => T.kx_InUse_UnboundName
  | 7, 11 => T.kx_InUse_UnknownFormula
  | 8, 0 => T.kx_UnknownValue_BadLattice
  | 8, 1 => T.kx_UnknownValue_MixedLattices
  | 8, 2 => T.kx_UnknownValue_BadMap
  | 8, 3 => T.kx_UnknownValue_BadText
  | 8, 4 => T.kx_UnknownValue_BadName
  | 8, 5 => T.kx_UnknownValue_TwiceTold
  | 8, 6 => T.kx_UnknownValue_NotIrreducible
  | 8, 7 => T.kx_UnknownValue_InUse
  | 8, 8 => T.kx_UnknownValue_UnknownValue
  | 8, 9 => T.kx_UnknownValue_UnknownState
  | 8, 10 => T.kx_UnknownValue_UnboundName
  | 8, 11 => T.kx_UnknownValue_UnknownFormula
  | 9, 0 => T.kx_UnknownState_BadLattice
  | 9, 1 => T.kx_UnknownState_MixedLattices
  | 9, 2 => T.kx_UnknownState_BadMap
  | 9, 3 => T.kx_UnknownState_BadText
  | 9, 4 => T.kx_UnknownState_BadName
  | 9, 5 => T.kx_UnknownState_TwiceTold
  | 9, 6 => T.kx_UnknownState_NotIrreducible
  | 9, 7 => T.kx_UnknownState_InUse
  | 9, 8 => T.kx_UnknownState_UnknownValue
  | 9, 9 => T.kx_UnknownState_UnknownState
  | 9, 10 => T.kx_UnknownState_UnboundName
  | 9, 11 => T.kx_UnknownState_UnknownFormula
  | 10, 0 => T.kx_UnboundName_BadLattice
  | 10, 1 => T.kx_UnboundName_MixedLattices
  | 10, 2 => T.kx_UnboundName_BadMap
  | 10, 3 => T.kx_UnboundName_BadText
  | 10, 4 => T.kx_UnboundName_BadName
  | 10, 5 => T.kx_UnboundName_TwiceTold
  | 10, 6 => T.kx_UnboundName_NotIrreducible
  | 10, 7 => T.kx_UnboundName_InUse
  | 10, 8 => T.kx_UnboundName_UnknownValue
  | 10, 9 => T.kx_UnboundName_UnknownState
  | 10, 10 => T.kx_UnboundName_UnboundName
  | 10, 11 => T.kx_UnboundName_UnknownFormula
  | 11, 0 => T.kx_UnknownFormula_BadLattice
  | 11, 1 => T.kx_UnknownFormula_MixedLattices
  | 11, 2 => T.kx_UnknownFormula_BadMap
  | 11, 3 => T.kx_UnknownFormula_BadText
  | 11, 4 => T.kx_UnknownFormula_BadName
  | 11, 5 => T.kx_UnknownFormula_TwiceTold
  | 11, 6 => T.kx_UnknownFormula_NotIrreducible
  | 11, 7 => T.kx_UnknownFormula_InUse
  | 11, 8 => T.kx_UnknownFormula_UnknownValue
  | 11, 9 => T.kx_UnknownFormula_UnknownState
  | 11, 10 => T.kx_UnknownFormula_UnboundName
  | 11, 11 => T.kx_UnknownFormula_UnknownFormula
theorem kx_le (T : Tx K mg W_) : ∀ k : Fin 12, PySem.W.kitOne K (.ref (errC T k)) (.ref T.a_LatticeError) = some (decide ((k.val : Int) < 8))
  | 0 => T.kx_BadLattice_LatticeError
  | 1 => T.kx_MixedLattices_LatticeError
  | 2 => T.kx_BadMap_LatticeError
  | 3 => T.kx_BadText_LatticeError
  | 4 => T.kx_BadName_LatticeError
  | 5 => T.kx_TwiceTold_LatticeError
  | 6 => T.kx_NotIrreducible_LatticeError
  | 7 => T.kx_InUse_LatticeError
  | 8 => T.kx_UnknownValue_LatticeError
  | 9 => T.kx_UnknownState_LatticeError
  | 10 => T.kx_UnboundName_LatticeError
  | 11 => T.kx_UnknownFormula_LatticeError
theorem kx_nm (T : Tx K mg W_) : ∀ k : Fin 12, PySem.W.kitOne K (.ref (errC T k)) (.ref T.a_NameMissing) = some (decide (7 < (k.val : Int)))
  | 0 => T.kx_BadLattice_NameMissing
  | 1 => T.kx_MixedLattices_NameMissing
  | 2 => T.kx_BadMap_NameMissing
  | 3 => T.kx_BadText_NameMissing
  | 4 => T.kx_BadName_NameMissing
  | 5 => T.kx_TwiceTold_NameMissing
  | 6 => T.kx_NotIrreducible_NameMissing
  | 7 => T.kx_InUse_NameMissing
  | 8 => T.kx_UnknownValue_NameMissing
  | 9 => T.kx_UnknownState_NameMissing
  | 10 => T.kx_UnboundName_NameMissing
  | 11 => T.kx_UnknownFormula_NameMissing
theorem kx_ve (T : Tx K mg W_) : ∀ k : Fin 12, PySem.W.kitOne K (.ref (errC T k)) (.type "ValueError") = some (decide ((k.val : Int) < 8))
  | 0 => T.kx_BadLattice_ValueError
  | 1 => T.kx_MixedLattices_ValueError
  | 2 => T.kx_BadMap_ValueError
  | 3 => T.kx_BadText_ValueError
  | 4 => T.kx_BadName_ValueError
  | 5 => T.kx_TwiceTold_ValueError
  | 6 => T.kx_NotIrreducible_ValueError
  | 7 => T.kx_InUse_ValueError
  | 8 => T.kx_UnknownValue_ValueError
  | 9 => T.kx_UnknownState_ValueError
  | 10 => T.kx_UnboundName_ValueError
  | 11 => T.kx_UnknownFormula_ValueError
theorem kx_lk (T : Tx K mg W_) : ∀ k : Fin 12, PySem.W.kitOne K (.ref (errC T k)) (.type "LookupError") = some (decide (7 < (k.val : Int)))
  | 0 => T.kx_BadLattice_LookupError
  | 1 => T.kx_MixedLattices_LookupError
  | 2 => T.kx_BadMap_LookupError
  | 3 => T.kx_BadText_LookupError
  | 4 => T.kx_BadName_LookupError
  | 5 => T.kx_TwiceTold_LookupError
  | 6 => T.kx_NotIrreducible_LookupError
  | 7 => T.kx_InUse_LookupError
  | 8 => T.kx_UnknownValue_LookupError
  | 9 => T.kx_UnknownState_LookupError
  | 10 => T.kx_UnboundName_LookupError
  | 11 => T.kx_UnknownFormula_LookupError
theorem kx_ke (T : Tx K mg W_) : ∀ k : Fin 12, PySem.W.kitOne K (.ref (errC T k)) (.type "KeyError") = some (false)
  | 0 => T.kx_BadLattice_KeyError
  | 1 => T.kx_MixedLattices_KeyError
  | 2 => T.kx_BadMap_KeyError
  | 3 => T.kx_BadText_KeyError
  | 4 => T.kx_BadName_KeyError
  | 5 => T.kx_TwiceTold_KeyError
  | 6 => T.kx_NotIrreducible_KeyError
  | 7 => T.kx_InUse_KeyError
  | 8 => T.kx_UnknownValue_KeyError
  | 9 => T.kx_UnknownState_KeyError
  | 10 => T.kx_UnboundName_KeyError
  | 11 => T.kx_UnknownFormula_KeyError
theorem kx_ie (T : Tx K mg W_) : ∀ k : Fin 12, PySem.W.kitOne K (.ref (errC T k)) (.type "IndexError") = some (false)
  | 0 => T.kx_BadLattice_IndexError
  | 1 => T.kx_MixedLattices_IndexError
  | 2 => T.kx_BadMap_IndexError
  | 3 => T.kx_BadText_IndexError
  | 4 => T.kx_BadName_IndexError
  | 5 => T.kx_TwiceTold_IndexError
  | 6 => T.kx_NotIrreducible_IndexError
  | 7 => T.kx_InUse_IndexError
  | 8 => T.kx_UnknownValue_IndexError
  | 9 => T.kx_UnknownState_IndexError
  | 10 => T.kx_UnboundName_IndexError
  | 11 => T.kx_UnknownFormula_IndexError
theorem mkv_same {H : Hp} {a d C : Addr} {n : Str} {v : V} (ha : H a = none) (hd : upd H a (exo a C none) d = none) (ne : d ≠ a) :
    Same H (upd (upd (upd H a (exo a C none)) d (exd d [(n, v)])) a (exo a C (some d))) ∧ EObj (upd (upd (upd H a (exo a C none)) d (exd d [(n, v)])) a (exo a C (some d))) a C (some [(n, v)]) := by
  have hd' : H d = none := by rw [upd_ne ne] at hd; exact hd
  refine ⟨fun b o hb => ?_, d, upd_same, by rw [upd_ne ne, upd_same]⟩
  rw [upd_ne (ne_of_none hb ha), upd_ne (ne_of_none hb hd'), upd_ne (ne_of_none hb ha)]
  exact hb
/-- the truths of places -/
def only (k n : Nat) : List V := (List.range n).map fun j => V.bl (decide (j = k))
def sp_lcls (T : Tx K mg W_) : Sp := fun vs H Q _ => ∃ (a : Addr) (k : Fin 12) (fs : Option (List (Str × V))), vs = [.ref a] ∧ EObj H a (errC T k) fs ∧ ∀ l H', Same H H' → H' l = some (.lst (only k.val 12)) → Q (.ref l) H'
theorem ok_lcls {P : Program} (T : Tx K mg W_) : FnOk P w K mg base CX0 1 T.a__law_classes T.d__law_classes ["e"] (sp_lcls T) := by
  refine T.F__law_classes.ok sc__law_classes (fun vs H Q E h => ?_) (fun cdv A outer s H vs Q E hr h => ?_)
  · obtain ⟨a, k, fs, rfl, _⟩ := h
    rfl
  obtain ⟨a, k, fs, rfl, EH, q⟩ := h
  refine ⟨_, pss_cons (ps_set (i := 1) sc__law_classes.nd rfl (Or.inl rfl) (pe_lst (pa_cons (pe_callB call_isO (by rfl) T.n_isinstance (by decide +kernel) (pa_cons (pv 0) (pa_cons (pe_glob (v := .ref T.a_BadLattice) (by rfl) T.g_BadLattice rfl) pa_nil))) (pa_cons (pe_callB call_isO (by rfl) T.n_isinstance (by decide +kernel) (pa_cons (pv 0) (pa_cons (pe_glob (v := .ref T.a_MixedLattices) (by rfl) T.g_MixedLattices rfl) pa_nil))) (pa_cons (pe_callB call_isO (by rfl) T.n_isinstance (by decide +kernel) (pa_cons (pv 0) (pa_cons (pe_glob (v := .ref T.a_BadMap) (by rfl) T.g_BadMap rfl) pa_nil))) (pa_cons (pe_callB call_isO (by rfl) T.n_isinstance (by decide +kernel) (pa_cons (pv 0) (pa_cons (pe_glob (v := .ref T.a_BadText) (by rfl) T.g_BadText rfl) pa_nil))) pa_nil))))))
    (pss_cons (ps_set (i := 1) sc__law_classes.nd rfl (Or.inl rfl) (pe_op op_cat (pv 1) (pe_lst (pa_cons (pe_callB call_isO (by rfl) T.n_isinstance (by decide +kernel) (pa_cons (pv 0) (pa_cons (pe_glob (v := .ref T.a_BadName) (by rfl) T.g_BadName rfl) pa_nil))) (pa_cons (pe_callB call_isO (by rfl) T.n_isinstance (by decide +kernel) (pa_cons (pv 0) (pa_cons (pe_glob (v := .ref T.a_TwiceTold) (by rfl) T.g_TwiceTold rfl) pa_nil))) (pa_cons (pe_callB call_isO (by rfl) T.n_isinstance (by decide +kernel) (pa_cons (pv 0) (pa_cons (pe_glob (v := .ref T.a_NotIrreducible) (by rfl) T.g_NotIrreducible rfl) pa_nil))) pa_nil))))))
    (pss_cons (ps_set (i := 1) sc__law_classes.nd rfl (Or.inl rfl) (pe_op op_cat (pv 1) (pe_lst (pa_cons (pe_callB call_isO (by rfl) T.n_isinstance (by decide +kernel) (pa_cons (pv 0) (pa_cons (pe_glob (v := .ref T.a_InUse) (by rfl) T.g_InUse rfl) pa_nil))) (pa_cons (pe_callB call_isO (by rfl) T.n_isinstance (by decide +kernel) (pa_cons (pv 0) (pa_cons (pe_glob (v := .ref T.a_UnknownValue) (by rfl) T.g_UnknownValue rfl) pa_nil))) (pa_cons (pe_callB call_isO (by rfl) T.n_isinstance (by decide +kernel) (pa_cons (pv 0) (pa_cons (pe_glob (v := .ref T.a_UnknownState) (by rfl) T.g_UnknownState rfl) pa_nil))) pa_nil))))))
    (pss_one (ps_ret (pe_op op_cat (pv 1) (pe_lst (pa_cons (pe_callB call_isO (by rfl) T.n_isinstance (by decide +kernel) (pa_cons (pv 0) (pa_cons (pe_glob (v := .ref T.a_UnboundName) (by rfl) T.g_UnboundName rfl) pa_nil))) (pa_cons (pe_callB call_isO (by rfl) T.n_isinstance (by decide +kernel) (pa_cons (pv 0) (pa_cons (pe_glob (v := .ref T.a_UnknownFormula) (by rfl) T.g_UnknownFormula rfl) pa_nil))) pa_nil)))))))), ?_⟩
  refine ⟨_, rfl, a, errC T k, fs, .ref (errC T 0), .ref (errC T 0), _, rfl, EH, xc_all T k, (fun u h => h), kx_all T k 0, _, rfl, a, errC T k, fs, .ref (errC T 1), .ref (errC T 1), _, rfl, EH, xc_all T k, (fun u h => h), kx_all T k 1, _, rfl, a, errC T k, fs, .ref (errC T 2), .ref (errC T 2), _, rfl, EH, xc_all T k, (fun u h => h), kx_all T k 2, _, rfl, a, errC T k, fs, .ref (errC T 3), .ref (errC T 3), _, rfl, EH, xc_all T k, (fun u h => h), kx_all T k 3, (by show 4 ≤ sizeLine; decide), newQ (.lst [.bl (decide ((0 : Fin 12).val = k.val)), .bl (decide ((1 : Fin 12).val = k.val)), .bl (decide ((2 : Fin 12).val = k.val)), .bl (decide ((3 : Fin 12).val = k.val))]) fun l1 hl1 s1 e1 => ?_⟩
  generalize upd H l1 (.lst [.bl (decide ((0 : Fin 12).val = k.val)), .bl (decide ((1 : Fin 12).val = k.val)), .bl (decide ((2 : Fin 12).val = k.val)), .bl (decide ((3 : Fin 12).val = k.val))]) = H1 at s1 e1 ⊢
  replace EH := EH.same s1
  dsimp only [gName]
  refine ⟨_, rfl, _, rfl, a, errC T k, fs, .ref (errC T 4), .ref (errC T 4), _, rfl, EH, xc_all T k, (fun u h => h), kx_all T k 4, _, rfl, a, errC T k, fs, .ref (errC T 5), .ref (errC T 5), _, rfl, EH, xc_all T k, (fun u h => h), kx_all T k 5, _, rfl, a, errC T k, fs, .ref (errC T 6), .ref (errC T 6), _, rfl, EH, xc_all T k, (fun u h => h), kx_all T k 6, (by show 3 ≤ sizeLine; decide), newQ (.lst [.bl (decide ((4 : Fin 12).val = k.val)), .bl (decide ((5 : Fin 12).val = k.val)), .bl (decide ((6 : Fin 12).val = k.val))]) fun l2 hl2 s2 e2 => ?_⟩
  generalize upd H1 l2 (.lst [.bl (decide ((4 : Fin 12).val = k.val)), .bl (decide ((5 : Fin 12).val = k.val)), .bl (decide ((6 : Fin 12).val = k.val))]) = H2 at s2 e2 ⊢
  replace EH := EH.same s2
  refine ⟨l1, l2, _, _, rfl, rfl, s2 _ _ e1, e2, (by show 4 + 3 ≤ sizeLine; decide), newQ (.lst ([.bl (decide ((0 : Fin 12).val = k.val)), .bl (decide ((1 : Fin 12).val = k.val)), .bl (decide ((2 : Fin 12).val = k.val)), .bl (decide ((3 : Fin 12).val = k.val))] ++ [.bl (decide ((4 : Fin 12).val = k.val)), .bl (decide ((5 : Fin 12).val = k.val)), .bl (decide ((6 : Fin 12).val = k.val))])) fun l3 hl3 s3 e3 => ?_⟩
  generalize upd H2 l3 (.lst ([.bl (decide ((0 : Fin 12).val = k.val)), .bl (decide ((1 : Fin 12).val = k.val)), .bl (decide ((2 : Fin 12).val = k.val)), .bl (decide ((3 : Fin 12).val = k.val))] ++ [.bl (decide ((4 : Fin 12).val = k.val)), .bl (decide ((5 : Fin 12).val = k.val)), .bl (decide ((6 : Fin 12).val = k.val))])) = H3 at s3 e3 ⊢
  replace EH := EH.same s3
  dsimp only [gName]
  refine ⟨_, rfl, _, rfl, a, errC T k, fs, .ref (errC T 7), .ref (errC T 7), _, rfl, EH, xc_all T k, (fun u h => h), kx_all T k 7, _, rfl, a, errC T k, fs, .ref (errC T 8), .ref (errC T 8), _, rfl, EH, xc_all T k, (fun u h => h), kx_all T k 8, _, rfl, a, errC T k, fs, .ref (errC T 9), .ref (errC T 9), _, rfl, EH, xc_all T k, (fun u h => h), kx_all T k 9, (by show 3 ≤ sizeLine; decide), newQ (.lst [.bl (decide ((7 : Fin 12).val = k.val)), .bl (decide ((8 : Fin 12).val = k.val)), .bl (decide ((9 : Fin 12).val = k.val))]) fun l4 hl4 s4 e4 => ?_⟩
  generalize upd H3 l4 (.lst [.bl (decide ((7 : Fin 12).val = k.val)), .bl (decide ((8 : Fin 12).val = k.val)), .bl (decide ((9 : Fin 12).val = k.val))]) = H4 at s4 e4 ⊢
  replace EH := EH.same s4
  refine ⟨l3, l4, _, _, rfl, rfl, s4 _ _ e3, e4, (by show 7 + 3 ≤ sizeLine; decide), newQ (.lst ([.bl (decide ((0 : Fin 12).val = k.val)), .bl (decide ((1 : Fin 12).val = k.val)), .bl (decide ((2 : Fin 12).val = k.val)), .bl (decide ((3 : Fin 12).val = k.val))] ++ [.bl (decide ((4 : Fin 12).val = k.val)), .bl (decide ((5 : Fin 12).val = k.val)), .bl (decide ((6 : Fin 12).val = k.val))] ++ [.bl (decide ((7 : Fin 12).val = k.val)), .bl (decide ((8 : Fin 12).val = k.val)), .bl (decide ((9 : Fin 12).val = k.val))])) fun l5 hl5 s5 e5 => ?_⟩
  generalize upd H4 l5 (.lst ([.bl (decide ((0 : Fin 12).val = k.val)), .bl (decide ((1 : Fin 12).val = k.val)), .bl (decide ((2 : Fin 12).val = k.val)), .bl (decide ((3 : Fin 12).val = k.val))] ++ [.bl (decide ((4 : Fin 12).val = k.val)), .bl (decide ((5 : Fin 12).val = k.val)), .bl (decide ((6 : Fin 12).val = k.val))] ++ [.bl (decide ((7 : Fin 12).val = k.val)), .bl (decide ((8 : Fin 12).val = k.val)), .bl (decide ((9 : Fin 12).val = k.val))])) = H5 at s5 e5 ⊢
  replace EH := EH.same s5
  dsimp only [gName]
  refine ⟨_, rfl, _, rfl, a, errC T k, fs, .ref (errC T 10), .ref (errC T 10), _, rfl, EH, xc_all T k, (fun u h => h), kx_all T k 10, _, rfl, a, errC T k, fs, .ref (errC T 11), .ref (errC T 11), _, rfl, EH, xc_all T k, (fun u h => h), kx_all T k 11, (by show 2 ≤ sizeLine; decide), newQ (.lst [.bl (decide ((10 : Fin 12).val = k.val)), .bl (decide ((11 : Fin 12).val = k.val))]) fun l6 hl6 s6 e6 => ?_⟩
  generalize upd H5 l6 (.lst [.bl (decide ((10 : Fin 12).val = k.val)), .bl (decide ((11 : Fin 12).val = k.val))]) = H6 at s6 e6 ⊢
  refine ⟨l5, l6, _, _, rfl, rfl, s6 _ _ e5, e6, (by show 10 + 2 ≤ sizeLine; decide), newQ (.lst ([.bl (decide ((0 : Fin 12).val = k.val)), .bl (decide ((1 : Fin 12).val = k.val)), .bl (decide ((2 : Fin 12).val = k.val)), .bl (decide ((3 : Fin 12).val = k.val))] ++ [.bl (decide ((4 : Fin 12).val = k.val)), .bl (decide ((5 : Fin 12).val = k.val)), .bl (decide ((6 : Fin 12).val = k.val))] ++ [.bl (decide ((7 : Fin 12).val = k.val)), .bl (decide ((8 : Fin 12).val = k.val)), .bl (decide ((9 : Fin 12).val = k.val))] ++ [.bl (decide ((10 : Fin 12).val = k.val)), .bl (decide ((11 : Fin 12).val = k.val))])) fun l7 hl7 s7 e7 => ?_⟩
  generalize upd H6 l7 (.lst ([.bl (decide ((0 : Fin 12).val = k.val)), .bl (decide ((1 : Fin 12).val = k.val)), .bl (decide ((2 : Fin 12).val = k.val)), .bl (decide ((3 : Fin 12).val = k.val))] ++ [.bl (decide ((4 : Fin 12).val = k.val)), .bl (decide ((5 : Fin 12).val = k.val)), .bl (decide ((6 : Fin 12).val = k.val))] ++ [.bl (decide ((7 : Fin 12).val = k.val)), .bl (decide ((8 : Fin 12).val = k.val)), .bl (decide ((9 : Fin 12).val = k.val))] ++ [.bl (decide ((10 : Fin 12).val = k.val)), .bl (decide ((11 : Fin 12).val = k.val))])) = H7 at s7 e7 ⊢
  exact q l7 H7 ((((((s1.trans s2).trans s3).trans s4).trans s5).trans s6).trans s7) e7
end
/-! ### the law k91 -/
section
open PyProof.Rows
variable {w W_ : World} {K : PySem.W.Frag} {mg : Str → Option Value} {base : Heap}
theorem EObj.app {H H' : Hp} {a C l : Addr} {fs : Option (List (Str × V))} {xs : List V} (h : EObj H a C fs) (hl : H l = some (.lst xs)) (b : But l H H') : EObj H' a C fs := by
  cases fs with
  | none => exact b _ _ (fun e => by have h : H a = some (exo a C none) := h; rw [e, hl] at h; cases h) h
  | some fs =>
    obtain ⟨d, h1, h2⟩ := h
    exact ⟨d, b _ _ (fun e => by rw [e, hl] at h1; cases h1) h1, b _ _ (fun e => by rw [e, hl] at h2; cases h2) h2⟩
def onlyB (k n : Nat) : List Bool := (List.range n).map fun j => decide (j = k)
theorem only_eq (k n : Nat) : only k n = (onlyB k n).map V.bl := by
  unfold only onlyB
  rw [List.map_map]
  rfl
theorem dpAll_bls {H : Hp} : ∀ bs : List Bool, DpAll K H (bs.map V.bl) (bs.map PyData.bool)
  | [] => .nil
  | b :: bs => .cons (.bl b) (dpAll_bls bs)
theorem eqvAll_bls : ∀ bs : List Bool, PyData.eqvAll (bs.map PyData.bool) (bs.map PyData.bool) = true
  | [] => by simp [PyData.eqvAll]
  | b :: bs => by simp [PyData.eqvAll, PyData.eqv, eqvAll_bls bs]
theorem eqv_bls (bs : List Bool) : PyData.eqv (.list (bs.map PyData.bool)) (.list (bs.map PyData.bool)) = true := by simp [PyData.eqv, eqvAll_bls bs]
theorem lay_bls : ∀ bs : List Bool, PyData.canLayAll0 (bs.map PyData.bool) = true
  | [] => by simp [PyData.canLayAll0]
  | b :: bs => by simp [PyData.canLayAll0, PyData.canLay0, lay_bls bs]
theorem depth_bls : ∀ bs : List Bool, PyData.depthAll (bs.map PyData.bool) ≤ 1
  | [] => by simp [PyData.depthAll]
  | b :: bs => by have := depth_bls bs; simp only [List.map_cons, PyData.depthAll, PyData.depth]; omega
theorem shp_bls {bs : List Bool} : Shp 190 (.list (bs.map PyData.bool)) := ⟨by simp [PyData.canLay0, lay_bls], by have := depth_bls bs; simp only [PyData.depth]; omega⟩
theorem dp_bls {H : Hp} {a : Addr} {bs : List Bool} (h : H a = some (.lst (bs.map V.bl))) : Dp K H (.ref a) (.list (bs.map PyData.bool)) := .lst (SqL.of h) (dpAll_bls bs)
def words8 : List Str := ["", "p", "no name", PySem.Txt.mul "x" 40, "01", "A", "a'b", "("]
theorem words8_ok : ∀ x ∈ words8, PyData.strOk x = true := by decide +kernel
theorem ok_law (T : Tx K mg w) : FnOk PL w K mg base CX0 40 T.a_law T.d_law ["script"] (spLaw K) := by
  have G__law_cells := ok__law_cells (P := PL) (w := w) (base := base) T
  have G__law_pick := okW__law_pick (P := PL) (w := w) (base := base) T
  have G__law_classes := ok_lcls (P := PL) (w := w) (base := base) T
  have G_BadText_init := okE_BadText (w := w) (base := base) T
  have G_BadName_init := okE_BadName (w := w) (base := base) T
  have G_TwiceTold_init := okE_TwiceTold (w := w) (base := base) T
  have G_NotIrreducible_init := okE_NotIrreducible (w := w) (base := base) T
  have G_InUse_init := okE_InUse (w := w) (base := base) T
  have G_UnknownValue_init := okE_UnknownValue (w := w) (base := base) T
  have G_UnknownState_init := okE_UnknownState (w := w) (base := base) T
  have G_UnboundName_init := okE_UnboundName (w := w) (base := base) T
  have G_UnknownFormula_init := okE_UnknownFormula (w := w) (base := base) T
  refine T.F_law.ok sc_law (fun vs H Q E h => ?_) (fun cdv A outer s H vs Q E hr h => ?_)
  · obtain ⟨a, ns, rfl, _⟩ := h
    rfl
  obtain ⟨sa, ns, rfl, hS, h63, q⟩ := h
  have hu := hu_of hr
  refine ⟨_, pss_cons (ps_set (i := 1) sc_law.nd rfl (Or.inl rfl) (pe_call G__law_cells (hr.mono (by omega)) (by rfl) T.g__law_cells T.F__law_cells.kp T.b__law_cells .nil pass0 (pa_cons (pv 0) pa_nil)))
    (pss_cons (ps_set (i := 2) sc_law.nd rfl (Or.inl rfl) (pe_ix ix_list (pe_lst (pa_cons pe_str (pa_cons pe_str (pa_cons pe_str (pa_cons (pe_op op_rep_str pe_str pe_int) (pa_cons pe_str (pa_cons pe_str (pa_cons pe_str (pa_cons pe_str pa_nil))))))))) (pe_call G__law_pick (hr.mono (by omega)) (by rfl) T.g__law_pick T.F__law_pick.kp T.b__law_pick .nil pass0 (pa_cons (pv 1) (pa_cons pe_int pa_nil))) (fun _ _ => rfl)))
    (pss_cons (ps_set (i := 3) sc_law.nd rfl (Or.inl rfl) (pe_op op_sub (pe_call G__law_pick (hr.mono (by omega)) (by rfl) T.g__law_pick T.F__law_pick.kp T.b__law_pick .nil pass0 (pa_cons (pv 1) (pa_cons (pe_op op_pow pe_int pe_int) pa_nil))) (pe_op op_mul (pe_call G__law_pick (hr.mono (by omega)) (by rfl) T.g__law_pick T.F__law_pick.kp T.b__law_pick .nil pass0 (pa_cons (pv 1) (pa_cons pe_int pa_nil))) (pe_op op_pow pe_int pe_int))))
    (pss_cons (ps_set (i := 4) sc_law.nd rfl (Or.inl rfl) (pe_lst (pa_cons (pe_mk0O PySem.F.excBase_ValueError T.q_BadLattice (by rfl) T.g_BadLattice T.r_BadLattice.2.2) (pa_cons (pe_mk0O PySem.F.excBase_ValueError T.q_MixedLattices (by rfl) T.g_MixedLattices T.r_MixedLattices.2.2) (pa_cons (pe_mk0O PySem.F.excBase_ValueError T.q_BadMap (by rfl) T.g_BadMap T.r_BadMap.2.2) (pa_cons (pe_mkV xb_VE T.x_BadText T.i_BadText T.t_BadText G_BadText_init (hr.mono (by omega)) T.b_BadText_init .nil pass0 (by rfl) T.g_BadText (pa_cons (pv 3) pa_nil)) (pa_cons (pe_mkV xb_VE T.x_BadName T.i_BadName T.t_BadName G_BadName_init (hr.mono (by omega)) T.b_BadName_init .nil pass0 (by rfl) T.g_BadName (pa_cons (pv 2) pa_nil)) (pa_cons (pe_mkV xb_VE T.x_TwiceTold T.i_TwiceTold T.t_TwiceTold G_TwiceTold_init (hr.mono (by omega)) T.b_TwiceTold_init .nil pass0 (by rfl) T.g_TwiceTold (pa_cons (pv 2) pa_nil)) pa_nil))))))))
    (pss_cons (ps_set (i := 4) sc_law.nd rfl (Or.inl rfl) (pe_op op_cat (pv 4) (pe_lst (pa_cons (pe_mkV xb_VE T.x_NotIrreducible T.i_NotIrreducible T.t_NotIrreducible G_NotIrreducible_init (hr.mono (by omega)) T.b_NotIrreducible_init .nil pass0 (by rfl) T.g_NotIrreducible (pa_cons (pv 2) pa_nil)) (pa_cons (pe_mkV xb_VE T.x_InUse T.i_InUse T.t_InUse G_InUse_init (hr.mono (by omega)) T.b_InUse_init .nil pass0 (by rfl) T.g_InUse (pa_cons (pv 2) pa_nil)) (pa_cons (pe_mkV xb_LE T.x_UnknownValue T.i_UnknownValue T.t_UnknownValue G_UnknownValue_init (hr.mono (by omega)) T.b_UnknownValue_init .nil pass0 (by rfl) T.g_UnknownValue (pa_cons (pv 2) pa_nil)) (pa_cons (pe_mkV xb_LE T.x_UnknownState T.i_UnknownState T.t_UnknownState G_UnknownState_init (hr.mono (by omega)) T.b_UnknownState_init .nil pass0 (by rfl) T.g_UnknownState (pa_cons (pv 2) pa_nil)) (pa_cons (pe_mkV xb_LE T.x_UnboundName T.i_UnboundName T.t_UnboundName G_UnboundName_init (hr.mono (by omega)) T.b_UnboundName_init .nil pass0 (by rfl) T.g_UnboundName (pa_cons (pv 2) pa_nil)) pa_nil))))))))
    (pss_cons (ps_expr (pe_bm PySem.F.plainAttrs_list PySem.F.slot_list_append PySem.F.type_list_append mt_append (pv 4) (pa_cons (pe_mkV xb_LE T.x_UnknownFormula T.i_UnknownFormula T.t_UnknownFormula G_UnknownFormula_init (hr.mono (by omega)) T.b_UnknownFormula_init .nil pass0 (by rfl) T.g_UnknownFormula (pa_cons (pv 2) pa_nil)) pa_nil)))
    (pss_cons (ps_for PassesOwn.never rfl (pi_range1 (by rfl) T.n_range (pa_cons pe_int pa_nil)) (pg_name (i := 5) sc_law.nd rfl (Or.inr rfl)) (pss_cons (ps_if (pt_cmpR (op_neX hr.un2) (pe_call G__law_classes (hr.mono (by omega)) (by rfl) T.g__law_classes T.F__law_classes.kp T.b__law_classes .nil pass0 (pa_cons (pe_ix ix_list (pv 4) (pv 5) (fun _ _ => rfl)) pa_nil)) (pe_lc (own := [("j", 6)]) (g := gName 6) (tt := tYes) rfl sc_law.nd (pi_range1 (by rfl) T.n_range (pa_cons pe_int pa_nil)) (blkOk_by (N := N_law) (sc := defScope St_law) (by decide +kernel)) (fun _ _ _ _ _ => (pg_name (i := 6) sc_law.nd rfl (Or.inl rfl))) (fun _ _ _ _ _ => pts_nil) (fun _ _ _ _ _ => (pe_cmpR op_eq (pv 6) (pv 5) (nomark _)))) (nomark _)) (pss_one (ps_ret pe_bl)) pss_nil)
    (pss_cons (ps_set (i := 7) sc_law.nd rfl (Or.inl rfl) (pe_lst (pa_cons (pe_callB call_isO (by rfl) T.n_isinstance (by decide +kernel) (pa_cons (pe_ix ix_list (pv 4) (pv 5) (fun _ _ => rfl)) (pa_cons (pe_glob (v := .ref T.a_LatticeError) (by rfl) T.g_LatticeError rfl) pa_nil))) (pa_cons (pe_callB call_isO (by rfl) T.n_isinstance (by decide +kernel) (pa_cons (pe_ix ix_list (pv 4) (pv 5) (fun _ _ => rfl)) (pa_cons (pe_bltn (v := .ty "ValueError") (u := .type "ValueError") (by rfl) T.n_ValueError (by decide +kernel) rfl) pa_nil))) pa_nil))))
    (pss_cons (ps_set (i := 7) sc_law.nd rfl (Or.inl rfl) (pe_op op_cat (pv 7) (pe_lst (pa_cons (pe_callB call_isO (by rfl) T.n_isinstance (by decide +kernel) (pa_cons (pe_ix ix_list (pv 4) (pv 5) (fun _ _ => rfl)) (pa_cons (pe_glob (v := .ref T.a_NameMissing) (by rfl) T.g_NameMissing rfl) pa_nil))) (pa_cons (pe_callB call_isO (by rfl) T.n_isinstance (by decide +kernel) (pa_cons (pe_ix ix_list (pv 4) (pv 5) (fun _ _ => rfl)) (pa_cons (pe_bltn (v := .ty "LookupError") (u := .type "LookupError") (by rfl) T.n_LookupError (by decide +kernel) rfl) pa_nil))) pa_nil)))))
    (pss_cons (ps_if (pt_cmpR (op_neX hr.un2) (pv 7) (pe_lst (pa_cons (pe_cmpR op_lt (pv 5) pe_int (nomark _)) (pa_cons (pe_cmpR op_lt (pv 5) pe_int (nomark _)) (pa_cons (pe_cmpR op_gt (pv 5) pe_int (nomark _)) (pa_cons (pe_cmpR op_gt (pv 5) pe_int (nomark _)) pa_nil))))) (nomark _)) (pss_one (ps_ret pe_bl)) pss_nil)
    (pss_one (ps_if (PW.pt (pw_or (pt_val (pe_callB call_isO (by rfl) T.n_isinstance (by decide +kernel) (pa_cons (pe_ix ix_list (pv 4) (pv 5) (fun _ _ => rfl)) (pa_cons (pe_bltn (v := .ty "KeyError") (u := .type "KeyError") (by rfl) T.n_KeyError (by decide +kernel) rfl) pa_nil)))) (pw_or1 (pt_val (pe_callB call_isO (by rfl) T.n_isinstance (by decide +kernel) (pa_cons (pe_ix ix_list (pv 4) (pv 5) (fun _ _ => rfl)) (pa_cons (pe_bltn (v := .ty "IndexError") (u := .type "IndexError") (by rfl) T.n_IndexError (by decide +kernel) rfl) pa_nil))))))) (pss_one (ps_ret pe_bl)) pss_nil)))))))
    (pss_cons (ps_set (i := 8) sc_law.nd rfl (Or.inl rfl) (pe_lst (pa_cons (pe_xo (pe_ix ix_list (pv 4) pe_int (fun _ _ => rfl))) (pa_cons (pe_xo (pe_ix ix_list (pv 4) pe_int (fun _ _ => rfl))) (pa_cons (pe_xo (pe_ix ix_list (pv 4) pe_int (fun _ _ => rfl))) (pa_cons (pe_xo (pe_ix ix_list (pv 4) pe_int (fun _ _ => rfl))) (pa_cons (pe_xo (pe_ix ix_list (pv 4) pe_int (fun _ _ => rfl))) (pa_cons (pe_xo (pe_ix ix_list (pv 4) pe_int (fun _ _ => rfl))) pa_nil))))))))
    (pss_one (ps_ret (pe_and (pe_cmpR (op_eqX hr.un2) (pe_op op_cat (pv 8) (pe_lst (pa_cons (pe_xo (pe_ix ix_list (pv 4) pe_int (fun _ _ => rfl))) (pa_cons (pe_xo (pe_ix ix_list (pv 4) pe_int (fun _ _ => rfl))) pa_nil)))) (pe_op op_rep (pe_lst (pa_cons (pv 2) pa_nil)) pe_int) (nomark _)) (pe_one (pe_cmpR op_eq (pe_xo (pe_ix ix_list (pv 4) pe_int (fun _ _ => rfl))) (pv 3) (nomark _))))))))))))), ?_⟩
  refine ⟨_, rfl, sa, ns, rfl, hS, h63, fun p c m cs H1 sm cp hc pos hp m0 m1 => ?_⟩
  have src1 : Src K c H1 p := ⟨cs, 0, 1, m, ⟨hp, SqL.of (K := K) hc, cp, Nat.zero_le _, by decide, pos, m0, m1⟩⟩

  dsimp only [gName]
  refine set_run (fun v H' => ∃ word, v = .str word ∧ PyData.strOk word = true ∧ Src K c H' p) (fun Q' q' => ?_) ?_
  · refine ⟨"x", 40, rfl, rfl, ⟨by decide, fun _ _ => by decide, fun _ _ => by decide⟩, (by show 8 ≤ sizeLine; decide), newQ (.lst (words8.map V.str)) fun l hl s2 e2 => ?_⟩
    have src2 := src1.same s2
    refine ⟨_, rfl, p, c, 8, rfl, src2, by decide, fun d H3 b3 s3 d0 d1 => ?_⟩
    have e3 := b3 _ _ (src1.ne hl) e2
    obtain ⟨k, rfl⟩ := Int.eq_ofNat_of_zero_le d0
    have hk : k < words8.length := by show k < 8; omega
    exact ⟨l, _, _, .str words8[k], rfl, rfl, SqL.of (K := K) e3, atI_nat (by rw [List.getElem?_map, List.getElem?_eq_getElem hk]; rfl), q' _ _ ⟨_, rfl, words8_ok _ (List.getElem_mem hk), s3⟩⟩
  rintro _ H2 ⟨word, rfl, wok, src2⟩
  dsimp only [gName]
  refine set_run (fun v H' => ∃ i, v = .int i ∧ Src K c H' p) (fun Q' q' => ?_) ?_
  · refine ⟨_, rfl, _, _, rfl, rfl, ⟨by decide, by decide, by decide⟩, p, c, _, rfl, src2, (by decide), fun a H3 b3 s3 a0 a1 => ?_⟩
    refine ⟨_, rfl, p, c, 2, rfl, s3, by decide, fun b H4 b4 s4 b0 b1 => ?_⟩
    exact ⟨_, _, rfl, rfl, ⟨by decide, by decide, by decide⟩, _, _, rfl, rfl, .inl ⟨by omega, by omega⟩, _, _, rfl, rfl, q' _ _ ⟨_, rfl, s4⟩⟩
  rintro _ H3 ⟨count, rfl, src3⟩
  show tSeq _ _ _ [some (.ref sa), some (.ref p), some (.str word), some (.int count), none, none, none, none, none] H3
  refine fun e0 g0 => ?_
  have s4 : Same H3 (upd H3 e0 (exo e0 T.a_BadLattice none)) := Same.new g0 _
  have E0 : EObj (upd H3 e0 (exo e0 T.a_BadLattice none)) e0 (errC T 0) none := upd_same
  generalize upd H3 e0 (exo e0 T.a_BadLattice none) = H4 at s4 E0 ⊢
  refine fun e1 g1 => ?_
  have s5 : Same H4 (upd H4 e1 (exo e1 T.a_MixedLattices none)) := Same.new g1 _
  have E1 : EObj (upd H4 e1 (exo e1 T.a_MixedLattices none)) e1 (errC T 1) none := upd_same
  generalize upd H4 e1 (exo e1 T.a_MixedLattices none) = H5 at s5 E1 ⊢
  replace E0 := E0.same s5
  refine fun e2 g2 => ?_
  have s6 : Same H5 (upd H5 e2 (exo e2 T.a_BadMap none)) := Same.new g2 _
  have E2 : EObj (upd H5 e2 (exo e2 T.a_BadMap none)) e2 (errC T 2) none := upd_same
  generalize upd H5 e2 (exo e2 T.a_BadMap none) = H6 at s6 E2 ⊢
  replace E0 := E0.same s6
  replace E1 := E1.same s6
  refine ⟨_, rfl, (by show 1 ≤ 1000; decide), fun e3 g3 => ⟨e3, _, rfl, upd_same, fun d3 n3 ne3 => ⟨rfl, ?_⟩⟩⟩
  obtain ⟨s7, E3⟩ := mkv_same (C := T.a_BadText) (n := "at") (v := .int count) g3 n3 ne3
  generalize upd (upd (upd H6 e3 (exo e3 T.a_BadText none)) d3 (exd d3 [(("at" : Str), .int count)])) e3 (exo e3 T.a_BadText (some d3)) = H7 at s7 E3 ⊢
  replace E0 := E0.same s7
  replace E1 := E1.same s7
  replace E2 := E2.same s7
  refine ⟨_, rfl, (by show 1 ≤ 1000; decide), fun e4 g4 => ⟨e4, _, rfl, upd_same, fun d4 n4 ne4 => ⟨rfl, ?_⟩⟩⟩
  obtain ⟨s8, E4⟩ := mkv_same (C := T.a_BadName) (n := "name") (v := .str word) g4 n4 ne4
  generalize upd (upd (upd H7 e4 (exo e4 T.a_BadName none)) d4 (exd d4 [(("name" : Str), .str word)])) e4 (exo e4 T.a_BadName (some d4)) = H8 at s8 E4 ⊢
  replace E0 := E0.same s8
  replace E1 := E1.same s8
  replace E2 := E2.same s8
  replace E3 := E3.same s8
  refine ⟨_, rfl, (by show 1 ≤ 1000; decide), fun e5 g5 => ⟨e5, _, rfl, upd_same, fun d5 n5 ne5 => ⟨rfl, ?_⟩⟩⟩
  obtain ⟨s9, E5⟩ := mkv_same (C := T.a_TwiceTold) (n := "name") (v := .str word) g5 n5 ne5
  generalize upd (upd (upd H8 e5 (exo e5 T.a_TwiceTold none)) d5 (exd d5 [(("name" : Str), .str word)])) e5 (exo e5 T.a_TwiceTold (some d5)) = H9 at s9 E5 ⊢
  replace E0 := E0.same s9
  replace E1 := E1.same s9
  replace E2 := E2.same s9
  replace E3 := E3.same s9
  replace E4 := E4.same s9
  refine ⟨(by show 6 ≤ sizeLine; decide), newQ (.lst ([.ref e0, .ref e1, .ref e2, .ref e3, .ref e4, .ref e5])) fun l1 hl1 s10 el1 => ?_⟩
  generalize upd H9 l1 (.lst ([.ref e0, .ref e1, .ref e2, .ref e3, .ref e4, .ref e5])) = H10 at s10 el1 ⊢
  replace E0 := E0.same s10
  replace E1 := E1.same s10
  replace E2 := E2.same s10
  replace E3 := E3.same s10
  replace E4 := E4.same s10
  replace E5 := E5.same s10
  dsimp only [gName]
  refine ⟨_, rfl, ?_⟩
  refine ⟨_, rfl, (by show 1 ≤ 1000; decide), fun e6 g6 => ⟨e6, _, rfl, upd_same, fun d6 n6 ne6 => ⟨rfl, ?_⟩⟩⟩
  obtain ⟨s11, E6⟩ := mkv_same (C := T.a_NotIrreducible) (n := "name") (v := .str word) g6 n6 ne6
  generalize upd (upd (upd H10 e6 (exo e6 T.a_NotIrreducible none)) d6 (exd d6 [(("name" : Str), .str word)])) e6 (exo e6 T.a_NotIrreducible (some d6)) = H11 at s11 E6 ⊢
  replace E0 := E0.same s11
  replace E1 := E1.same s11
  replace E2 := E2.same s11
  replace E3 := E3.same s11
  replace E4 := E4.same s11
  replace E5 := E5.same s11
  refine ⟨_, rfl, (by show 1 ≤ 1000; decide), fun e7 g7 => ⟨e7, _, rfl, upd_same, fun d7 n7 ne7 => ⟨rfl, ?_⟩⟩⟩
  obtain ⟨s12, E7⟩ := mkv_same (C := T.a_InUse) (n := "name") (v := .str word) g7 n7 ne7
  generalize upd (upd (upd H11 e7 (exo e7 T.a_InUse none)) d7 (exd d7 [(("name" : Str), .str word)])) e7 (exo e7 T.a_InUse (some d7)) = H12 at s12 E7 ⊢
  replace E0 := E0.same s12
  replace E1 := E1.same s12
  replace E2 := E2.same s12
  replace E3 := E3.same s12
  replace E4 := E4.same s12
  replace E5 := E5.same s12
  replace E6 := E6.same s12
  refine ⟨_, rfl, (by show 1 ≤ 1000; decide), fun e8 g8 => ⟨e8, _, rfl, upd_same, fun d8 n8 ne8 => ⟨rfl, ?_⟩⟩⟩
  obtain ⟨s13, E8⟩ := mkv_same (C := T.a_UnknownValue) (n := "name") (v := .str word) g8 n8 ne8
  generalize upd (upd (upd H12 e8 (exo e8 T.a_UnknownValue none)) d8 (exd d8 [(("name" : Str), .str word)])) e8 (exo e8 T.a_UnknownValue (some d8)) = H13 at s13 E8 ⊢
  replace E0 := E0.same s13
  replace E1 := E1.same s13
  replace E2 := E2.same s13
  replace E3 := E3.same s13
  replace E4 := E4.same s13
  replace E5 := E5.same s13
  replace E6 := E6.same s13
  replace E7 := E7.same s13
  refine ⟨_, rfl, (by show 1 ≤ 1000; decide), fun e9 g9 => ⟨e9, _, rfl, upd_same, fun d9 n9 ne9 => ⟨rfl, ?_⟩⟩⟩
  obtain ⟨s14, E9⟩ := mkv_same (C := T.a_UnknownState) (n := "name") (v := .str word) g9 n9 ne9
  generalize upd (upd (upd H13 e9 (exo e9 T.a_UnknownState none)) d9 (exd d9 [(("name" : Str), .str word)])) e9 (exo e9 T.a_UnknownState (some d9)) = H14 at s14 E9 ⊢
  replace E0 := E0.same s14
  replace E1 := E1.same s14
  replace E2 := E2.same s14
  replace E3 := E3.same s14
  replace E4 := E4.same s14
  replace E5 := E5.same s14
  replace E6 := E6.same s14
  replace E7 := E7.same s14
  replace E8 := E8.same s14
  refine ⟨_, rfl, (by show 1 ≤ 1000; decide), fun e10 g10 => ⟨e10, _, rfl, upd_same, fun d10 n10 ne10 => ⟨rfl, ?_⟩⟩⟩
  obtain ⟨s15, E10⟩ := mkv_same (C := T.a_UnboundName) (n := "name") (v := .str word) g10 n10 ne10
  generalize upd (upd (upd H14 e10 (exo e10 T.a_UnboundName none)) d10 (exd d10 [(("name" : Str), .str word)])) e10 (exo e10 T.a_UnboundName (some d10)) = H15 at s15 E10 ⊢
  replace E0 := E0.same s15
  replace E1 := E1.same s15
  replace E2 := E2.same s15
  replace E3 := E3.same s15
  replace E4 := E4.same s15
  replace E5 := E5.same s15
  replace E6 := E6.same s15
  replace E7 := E7.same s15
  replace E8 := E8.same s15
  replace E9 := E9.same s15
  refine ⟨(by show 5 ≤ sizeLine; decide), newQ (.lst ([.ref e6, .ref e7, .ref e8, .ref e9, .ref e10])) fun l2 hl2 s16 el2 => ?_⟩
  generalize upd H15 l2 (.lst ([.ref e6, .ref e7, .ref e8, .ref e9, .ref e10])) = H16 at s16 el2 ⊢
  replace E0 := E0.same s16
  replace E1 := E1.same s16
  replace E2 := E2.same s16
  replace E3 := E3.same s16
  replace E4 := E4.same s16
  replace E5 := E5.same s16
  replace E6 := E6.same s16
  replace E7 := E7.same s16
  replace E8 := E8.same s16
  replace E9 := E9.same s16
  replace E10 := E10.same s16
  refine ⟨l1, l2, _, _, rfl, rfl, (((((s11.trans s12).trans s13).trans s14).trans s15).trans s16) _ _ el1, el2, (by show 6 + 5 ≤ sizeLine; decide), newQ (.lst ([.ref e0, .ref e1, .ref e2, .ref e3, .ref e4, .ref e5] ++ [.ref e6, .ref e7, .ref e8, .ref e9, .ref e10])) fun l3 hl3 s17 el3 => ?_⟩
  generalize upd H16 l3 (.lst ([.ref e0, .ref e1, .ref e2, .ref e3, .ref e4, .ref e5] ++ [.ref e6, .ref e7, .ref e8, .ref e9, .ref e10])) = H17 at s17 el3 ⊢
  replace E0 := E0.same s17
  replace E1 := E1.same s17
  replace E2 := E2.same s17
  replace E3 := E3.same s17
  replace E4 := E4.same s17
  replace E5 := E5.same s17
  replace E6 := E6.same s17
  replace E7 := E7.same s17
  replace E8 := E8.same s17
  replace E9 := E9.same s17
  replace E10 := E10.same s17
  dsimp only [gName]
  refine ⟨_, rfl, .inl ⟨rfl, _, SqL.of (K := K) el3⟩, _, rfl, (by show 1 ≤ 1000; decide), fun e11 g11 => ⟨e11, _, rfl, upd_same, fun d11 n11 ne11 => ⟨rfl, ?_⟩⟩⟩
  obtain ⟨s18, E11⟩ := mkv_same (C := T.a_UnknownFormula) (n := "name") (v := .str word) g11 n11 ne11
  generalize upd (upd (upd H17 e11 (exo e11 T.a_UnknownFormula none)) d11 (exd d11 [(("name" : Str), .str word)])) e11 (exo e11 T.a_UnknownFormula (some d11)) = H18 at s18 E11 ⊢
  replace E0 := E0.same s18
  replace E1 := E1.same s18
  replace E2 := E2.same s18
  replace E3 := E3.same s18
  replace E4 := E4.same s18
  replace E5 := E5.same s18
  replace E6 := E6.same s18
  replace E7 := E7.same s18
  replace E8 := E8.same s18
  replace E9 := E9.same s18
  replace E10 := E10.same s18
  refine ⟨l3, _, _, rfl, rfl, s18 _ _ el3, (by show 11 < sizeLine; decide), ?_⟩
  have bl : But l3 H18 (upd H18 l3 (.lst (([.ref e0, .ref e1, .ref e2, .ref e3, .ref e4, .ref e5] ++ [.ref e6, .ref e7, .ref e8, .ref e9, .ref e10]) ++ [.ref e11]))) := (But.refl _ _).upd _
  have el := s18 _ _ el3
  replace E0 := E0.app el bl
  replace E1 := E1.app el bl
  replace E2 := E2.app el bl
  replace E3 := E3.app el bl
  replace E4 := E4.app el bl
  replace E5 := E5.app el bl
  replace E6 := E6.app el bl
  replace E7 := E7.app el bl
  replace E8 := E8.app el bl
  replace E9 := E9.app el bl
  replace E10 := E10.app el bl
  replace E11 := E11.app el bl
  have eJ : upd H18 l3 (.lst (([.ref e0, .ref e1, .ref e2, .ref e3, .ref e4, .ref e5] ++ [.ref e6, .ref e7, .ref e8, .ref e9, .ref e10]) ++ [.ref e11])) l3 = some (.lst [.ref e0, .ref e1, .ref e2, .ref e3, .ref e4, .ref e5, .ref e6, .ref e7, .ref e8, .ref e9, .ref e10, .ref e11]) := upd_same
  show (_ : Hp → Prop) (upd H18 l3 (.lst (([.ref e0, .ref e1, .ref e2, .ref e3, .ref e4, .ref e5] ++ [.ref e6, .ref e7, .ref e8, .ref e9, .ref e10]) ++ [.ref e11])))
  generalize upd H18 l3 (.lst (([.ref e0, .ref e1, .ref e2, .ref e3, .ref e4, .ref e5] ++ [.ref e6, .ref e7, .ref e8, .ref e9, .ref e10]) ++ [.ref e11])) = J at eJ E0 E1 E2 E3 E4 E5 E6 E7 E8 E9 E10 E11 ⊢
  clear bl el
  have EA : ∀ k : Fin 12, ∃ a fs, ([.ref e0, .ref e1, .ref e2, .ref e3, .ref e4, .ref e5, .ref e6, .ref e7, .ref e8, .ref e9, .ref e10, .ref e11] : List V)[k.val]? = some (.ref a) ∧ EObj J a (errC T k) fs := fun k => match k with
    | 0 => ⟨e0, _, rfl, E0⟩
    | 1 => ⟨e1, _, rfl, E1⟩
    | 2 => ⟨e2, _, rfl, E2⟩
    | 3 => ⟨e3, _, rfl, E3⟩
    | 4 => ⟨e4, _, rfl, E4⟩
    | 5 => ⟨e5, _, rfl, E5⟩
    | 6 => ⟨e6, _, rfl, E6⟩
    | 7 => ⟨e7, _, rfl, E7⟩
    | 8 => ⟨e8, _, rfl, E8⟩
    | 9 => ⟨e9, _, rfl, E9⟩
    | 10 => ⟨e10, _, rfl, E10⟩
    | 11 => ⟨e11, _, rfl, E11⟩
  refine nx_run ?_
  dsimp only
  refine ⟨_, rfl, by decide, by decide, for_range (lo := 0) (fun k σ H' => ∃ v5 v6 v7 : Option V, σ = [some (.ref sa), some (.ref p), some (.str word), some (.int count), some (.ref l3), v5, v6, v7, none] ∧ Same J H') ⟨none, none, none, rfl, Same.refl _⟩ ?_ ?_⟩
  · rintro k0 σ H' hk ⟨v5, v6, v7, rfl, sJ⟩
    have hk : k0 < 12 := hk
    obtain ⟨a, fs, ha, ea⟩ := EA ⟨k0, hk⟩
    have k00 : (0 : Int) + (k0 : Int) = (k0 : Int) := by omega
    rw [k00]
    dsimp only [gName]
    generalize hK : (⟨k0, hk⟩ : Fin 12) = k at ea
    have hkv : k0 = k.val := by rw [← hK]
    subst hkv
    have ea := ea.same sJ
    have eL := sJ _ _ eJ
    have at4 := atI_nat (j := k.val) ha
    show tSeq _ _ _ [some (.ref sa), some (.ref p), some (.str word), some (.int count), some (.ref l3), some (.int (k.val : Int)), v6, v7, none] H'
    refine if_run (fun b H2 => b = false ∧ Same H' H2) (fun Q' q' => ?_) ?_
    · refine ⟨_, rfl, _, rfl, l3, _, _, _, rfl, rfl, SqL.of (K := K) eL, at4, a, k, fs, rfl, ea, fun l H2 s2 e2 => ?_⟩
      refine ⟨_, rfl, by decide, by decide, fun D hD => ?_⟩
      refine lc_fold walk_range hD (fun i _ ys => i ≤ 12 ∧ ys = only k.val i) (fun _ => ⟨Nat.zero_le _, rfl⟩) (fun i _ _ xs _ h => h) ?_ (fun _ _ => trivial) ?_ ?_
      · rintro i _ ys ⟨hi, rfl⟩
        unfold only
        rw [List.length_map, List.length_range]
        exact Nat.le_trans hi (by decide)
      · rintro i x H3 H4 ys Nx Ex hi s3 ⟨_, rfl⟩ ⟨rfl, ex⟩ k1 k2
        obtain rfl := yfn0 ex
        refine ⟨rfl, ?_⟩
        refine lcY ?_
        refine ⟨_, rfl, _, rfl, rfl, k1 _ _ (Same.refl _) ⟨hi, ?_⟩⟩
        unfold only
        rw [List.range_succ, List.map_append]
        have e : decide (V.int (i : Int) = V.int (k.val : Int)) = decide (i = k.val) := by
          by_cases c : i = k.val
          · rw [c, decide_eq_true rfl, decide_eq_true rfl]
          · rw [decide_eq_false c, decide_eq_false fun h => c (by injection h with h; omega)]
        rw [e]
        rfl
      · rintro H3 ys s3 h3 ⟨_, rfl⟩
        have e3 := s3 _ _ e2
        rw [only_eq] at e3 h3
        refine ⟨_, _, dp_bls e3, dp_bls h3, shp_bls, shp_bls, _, rfl, q' _ _ ⟨?_, s2.trans s3⟩⟩
        show (!PyData.eqv (.list ((onlyB k.val 12).map PyData.bool)) (.list ((onlyB k.val 12).map PyData.bool))) = false
        rw [eqv_bls]
        rfl
    rintro _ H2 ⟨rfl, s2⟩
    refine iteF (nx_run ?_)
    dsimp only
    have s02 := sJ.trans s2
    have ea := ea.same s2
    have eL := s2 _ _ eL
    show tSeq _ _ _ [some (.ref sa), some (.ref p), some (.str word), some (.int count), some (.ref l3), some (.int (k.val : Int)), v6, v7, none] H2
    refine ⟨_, rfl, _, rfl, l3, _, _, _, rfl, rfl, SqL.of (K := K) eL, at4, a, errC T k, fs, .ref T.a_LatticeError, _, _, rfl, ea, xc_all T k, (fun u h => h), kx_le T k, _, rfl, _, rfl, l3, _, _, _, rfl, rfl, SqL.of (K := K) eL, at4, a, errC T k, fs, .ty "ValueError", _, _, rfl, ea, xc_all T k, (fun u h => h), kx_ve T k, (by show 2 ≤ sizeLine; decide), newQ (.lst [.bl (decide ((k.val : Int) < 8)), .bl (decide ((k.val : Int) < 8))]) fun b1 hb1 s3 eb1 => ?_⟩
    generalize upd H2 b1 (.lst [.bl (decide ((k.val : Int) < 8)), .bl (decide ((k.val : Int) < 8))]) = H3 at s3 eb1 ⊢
    replace ea := ea.same s3
    replace eL := s3 _ _ eL
    dsimp only [gName]
    refine ⟨_, rfl, _, rfl, _, rfl, l3, _, _, _, rfl, rfl, SqL.of (K := K) eL, at4, a, errC T k, fs, .ref T.a_NameMissing, _, _, rfl, ea, xc_all T k, (fun u h => h), kx_nm T k, _, rfl, _, rfl, l3, _, _, _, rfl, rfl, SqL.of (K := K) eL, at4, a, errC T k, fs, .ty "LookupError", _, _, rfl, ea, xc_all T k, (fun u h => h), kx_lk T k, (by show 2 ≤ sizeLine; decide), newQ (.lst [.bl (decide (7 < (k.val : Int))), .bl (decide (7 < (k.val : Int)))]) fun b2 hb2 s4 eb2 => ?_⟩
    generalize upd H3 b2 (.lst [.bl (decide (7 < (k.val : Int))), .bl (decide (7 < (k.val : Int)))]) = H4 at s4 eb2 ⊢
    replace ea := ea.same s4
    replace eL := s4 _ _ eL
    refine ⟨b1, b2, _, _, rfl, rfl, s4 _ _ eb1, eb2, (by show 2 + 2 ≤ sizeLine; decide), newQ (.lst ([.bl (decide ((k.val : Int) < 8)), .bl (decide ((k.val : Int) < 8))] ++ [.bl (decide (7 < (k.val : Int))), .bl (decide (7 < (k.val : Int)))])) fun b3 hb3 s5 eb3 => ?_⟩
    generalize upd H4 b3 (.lst ([.bl (decide ((k.val : Int) < 8)), .bl (decide ((k.val : Int) < 8))] ++ [.bl (decide (7 < (k.val : Int))), .bl (decide (7 < (k.val : Int)))])) = H5 at s5 eb3 ⊢
    replace ea := ea.same s5
    replace eL := s5 _ _ eL
    dsimp only [gName]
    refine if_run (fun b H' => b = false ∧ Same H5 H') (fun Q' q' => ?_) ?_
    · refine ⟨_, rfl, _, rfl, _, _, rfl, rfl, _, rfl, _, _, rfl, rfl, _, rfl, _, _, rfl, rfl, _, rfl, _, _, rfl, rfl, (by show 4 ≤ sizeLine; decide), newQ (.lst ([decide ((k.val : Int) < 8), decide ((k.val : Int) < 8), decide (7 < (k.val : Int)), decide (7 < (k.val : Int))].map V.bl)) fun b4 hb4 s6 eb4 => ?_⟩
      refine ⟨_, _, dp_bls (bs := [decide ((k.val : Int) < 8), decide ((k.val : Int) < 8), decide (7 < (k.val : Int)), decide (7 < (k.val : Int))]) (s6 _ _ eb3), dp_bls eb4, shp_bls, shp_bls, _, rfl, q' _ _ ⟨?_, s6⟩⟩
      rw [eqv_bls]
      rfl
    rintro _ H6 ⟨rfl, s6⟩
    refine iteF (nx_run ?_)
    dsimp only
    replace ea := ea.same s6
    replace eL := s6 _ _ eL
    refine ⟨_, rfl, _, rfl, l3, _, _, _, rfl, rfl, SqL.of (K := K) eL, at4, a, errC T k, fs, .ty "KeyError", _, _, rfl, ea, xc_all T k, (fun u h => h), kx_ke T k, _, rfl, iteF ?_⟩
    refine ⟨_, rfl, _, rfl, l3, _, _, _, rfl, rfl, SqL.of (K := K) eL, at4, a, errC T k, fs, .ty "IndexError", _, _, rfl, ea, xc_all T k, (fun u h => h), kx_ie T k, _, rfl, iteF (nx_run ?_)⟩
    exact ⟨_, _, _, rfl, ((((s02.trans s3).trans s4).trans s5).trans s6)⟩
  · rintro σ H' ⟨v5, v6, v7, rfl, sJ⟩
    have eL := sJ _ _ eJ
    replace E3 := E3.same sJ
    replace E4 := E4.same sJ
    replace E5 := E5.same sJ
    replace E6 := E6.same sJ
    replace E7 := E7.same sJ
    replace E8 := E8.same sJ
    replace E9 := E9.same sJ
    replace E10 := E10.same sJ
    replace E11 := E11.same sJ
    refine ⟨_, rfl, l3, _, _, _, rfl, rfl, SqL.of (K := K) eL, atI_nat (j := 4) rfl, e4, T.a_BadName, _, _, rfl, E4, T.f_BadName, T.na_BadName, rfl, _, rfl, l3, _, _, _, rfl, rfl, SqL.of (K := K) eL, atI_nat (j := 5) rfl, e5, T.a_TwiceTold, _, _, rfl, E5, T.f_TwiceTold, T.na_TwiceTold, rfl, _, rfl, l3, _, _, _, rfl, rfl, SqL.of (K := K) eL, atI_nat (j := 6) rfl, e6, T.a_NotIrreducible, _, _, rfl, E6, T.f_NotIrreducible, T.na_NotIrreducible, rfl, _, rfl, l3, _, _, _, rfl, rfl, SqL.of (K := K) eL, atI_nat (j := 7) rfl, e7, T.a_InUse, _, _, rfl, E7, T.f_InUse, T.na_InUse, rfl, _, rfl, l3, _, _, _, rfl, rfl, SqL.of (K := K) eL, atI_nat (j := 8) rfl, e8, T.a_UnknownValue, _, _, rfl, E8, T.f_UnknownValue, T.na_UnknownValue, rfl, _, rfl, l3, _, _, _, rfl, rfl, SqL.of (K := K) eL, atI_nat (j := 9) rfl, e9, T.a_UnknownState, _, _, rfl, E9, T.f_UnknownState, T.na_UnknownState, rfl, (by show 6 ≤ sizeLine; decide), newQ (.lst [.str word, .str word, .str word, .str word, .str word, .str word]) fun w1 hw1 s1 ew1 => ?_⟩
    generalize upd H' w1 (.lst [.str word, .str word, .str word, .str word, .str word, .str word]) = H1 at s1 ew1 ⊢
    replace eL := s1 _ _ eL
    replace E3 := E3.same s1
    replace E10 := E10.same s1
    replace E11 := E11.same s1
    dsimp only [gName]
    refine ⟨_, rfl, _, rfl, l3, _, _, _, rfl, rfl, SqL.of (K := K) eL, atI_nat (j := 10) rfl, e10, T.a_UnboundName, _, _, rfl, E10, T.f_UnboundName, T.na_UnboundName, rfl, _, rfl, l3, _, _, _, rfl, rfl, SqL.of (K := K) eL, atI_nat (j := 11) rfl, e11, T.a_UnknownFormula, _, _, rfl, E11, T.f_UnknownFormula, T.na_UnknownFormula, rfl, (by show 2 ≤ sizeLine; decide), newQ (.lst [.str word, .str word]) fun w2 hw2 s2 ew2 => ?_⟩
    generalize upd H1 w2 (.lst [.str word, .str word]) = H2 at s2 ew2 ⊢
    refine ⟨w1, w2, _, _, rfl, rfl, s2 _ _ ew1, ew2, (by show 6 + 2 ≤ sizeLine; decide), newQ (.lst ([.str word, .str word, .str word, .str word, .str word, .str word] ++ [.str word, .str word])) fun w3 hw3 s3 ew3 => ?_⟩
    generalize upd H2 w3 (.lst ([.str word, .str word, .str word, .str word, .str word, .str word] ++ [.str word, .str word])) = H3 at s3 ew3 ⊢
    refine ⟨_, rfl, (by show 1 ≤ sizeLine; decide), newQ (.lst [.str word]) fun w4 hw4 s4 ew4 => ?_⟩
    generalize upd H3 w4 (.lst [.str word]) = H4 at s4 ew4 ⊢
    refine ⟨w4, 8, _, rfl, rfl, ew4, by decide, by decide, (by show 8 ≤ sizeLine; decide), newQ (.lst (List.replicate (8 : Int).toNat [V.str word]).flatten) fun w5 hw5 s5 ew5 => ?_⟩
    generalize upd H4 w5 (.lst (List.replicate (8 : Int).toNat [V.str word]).flatten) = H5 at s5 ew5 ⊢
    have ok8 : ∀ z ∈ List.replicate 8 word, PyData.strOk z = true := fun z hz => by rw [(List.mem_replicate.mp hz).2]; exact wok
    refine ⟨_, _, dp_strG (xs := List.replicate 8 word) (SqL.of (K := K) (s5 _ _ (s4 _ _ ew3))), dp_strG (xs := List.replicate 8 word) (SqL.of (K := K) ew5), shp_strG ok8, shp_strG ok8, ?_⟩
    rw [eqv_strG]
    refine ⟨_, rfl, iteT ?_⟩
    have s25 := ((s2.trans s3).trans s4).trans s5
    replace eL := s25 _ _ eL
    replace E3 := E3.same s25
    refine ⟨_, rfl, l3, _, _, _, rfl, rfl, SqL.of (K := K) eL, atI_nat (j := 3) rfl, e3, T.a_BadText, _, _, rfl, E3, T.f_BadText, T.na_BadText, rfl, _, rfl, rfl, ?_⟩
    rw [decide_eq_true rfl]
    exact q H5
end
end Lw
theorem PySem.Challenge.cw_latticewish_k91_errors_holds : PySem.Challenge.rw_latticewish_k91_errors.Holds := by
  exact Lw.pre fun K mg w T base => Lw.ok_law T
#print axioms PySem.Challenge.cw_latticewish_k91_errors_holds
