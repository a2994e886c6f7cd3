import PyProof.Rows.All
import Wide.All
import OpenK.AllK
import Wide.FinOn
import HandS.ForMost
import KE.OsRunLaw
import HandS.Walk
import HandS.Zip
import KE.GoesMore
import HandS.Deep
import HandS.DictComp
import HandS.IsInst
import HandS.RaiseMore
import HandS.ExcOwn
import KE.KSuper
import HandS.ClsMeth
import KE.RegKSuper
import HandS.ExcInit
import HandS.ExcSuper
import KE.KExcSuper
import KE.KExcInit
import HandS.ExcIs
import HandS.ExcField
import HandS.TryOnly
import HandS.Strs
import HandS.FStr
import HandS.Conv
import HandS.Defaults
import HandS.SetFor
import KE.KExcIs
import KE.RegKIsAll
import HandS.WordsExc
import PySem.Challenge.RW_latticewish_k04_down_sets
set_option Elab.async false
set_option linter.all false
set_option maxRecDepth 100000
set_option maxHeartbeats 4000000
namespace Lw
open PySem L2
local macro_rules | `(tactic| walk_at "up") => `(tactic| first | assumption | (refine Same.at (by assumption) ?_; walk_at "up") | (refine Same.seq (by assumption) ?_; walk_at "up"))
local macro_rules | `(tactic| walk_at "rd") => `(tactic| repeat (first | (refine ⟨_, rfl, ?_⟩) | (refine ⟨_, _, rfl, rfl, ?_⟩) | (refine ⟨(by decide), ?_⟩)))
theorem _root_.L2.Same.new {H : Hp} {p : Addr} (h : H p = none) (o : HO) : Same H (upd H p o) := fun b u q => by rw [upd_ne (ne_of_none q h)]; exact q
theorem _root_.L2.Same.mut {H H' : Hp} {p : Addr} (s : Same H H') (h : H p = none) (o : HO) : Same H (upd H' p o) := fun b u q => by
  rw [upd_ne (ne_of_none q h)]; exact s b u q
theorem _root_.L2.Same.at {H H' : Hp} {p : Addr} {o : HO} (s : Same H H') (h : H p = some o) : H' p = some o := s p o h
/-- a new object, its heap told by what is known of it -/
theorem newO {H : Hp} {o : HO} {Q : Addr → Hp → Prop} (h : ∀ p H', H p = none → Same H H' → H' p = some o → Q p H') : ∀ p, H p = none → Q p (upd H p o) :=
  fun p hp => h p _ hp (Same.new hp o) upd_same
/-- the same, the object said, the heap as it is -/
theorem newQ {H : Hp} (o : HO) {G : Addr → Prop} (h : ∀ p, H p = none → Same H (upd H p o) → upd H p o p = some o → G p) : ∀ p, H p = none → G p :=
  fun p hp => h p hp (Same.new hp o) upd_same
theorem ans_run {t : TT} {σ : L2.St} {H : Hp} {Q : Bool → Hp → Prop} (b : Bool) (h : ∀ Q' : Bool → Hp → Prop, Q' b H → t σ H Q') (q : Q b H) : t σ H Q := h Q q
theorem iteN {c A B : Prop} [Decidable c] (hc : ¬ c) (h : B) : if decide c = true then A else B := by
  rw [decide_eq_false hc]
  exact iteF h
theorem iteY {c A B : Prop} [Decidable c] (hc : c) (h : A) : if decide c = true then A else B := by
  rw [decide_eq_true hc]
  exact iteT h
theorem lcY {σ : L2.St} {H : Hp} {A B : Hp → Prop} (h : A H) : tYes σ H (fun b H3 => if b = true then A H3 else B H3) := by
  show (if true = true then A H else B H)
  exact iteT h
theorem abs_map (ns : List Int) : ∀ z ∈ ns.map (fun i : Int => if i < 0 then -i else i), 0 ≤ z := by
  intro z hz
  obtain ⟨i, _, rfl⟩ := List.mem_map.mp hz
  split <;> omega
theorem map_at {ns : List Int} {i : Nat} {x : V} (h : (ns.map V.int)[i]? = some x) : ∃ z, ns[i]? = some z ∧ x = .int z := by
  rw [List.getElem?_map] at h
  cases e : ns[i]? with
  | none => rw [e] at h; cases h
  | some z => rw [e] at h; exact ⟨z, rfl, (Option.some.inj h).symm⟩
theorem take_snoc {α : Type} {l : List α} {i : Nat} {x : α} (h : l[i]? = some x) : l.take (i + 1) = l.take i ++ [x] := by
  obtain ⟨hl, rfl⟩ := List.getElem?_eq_some_iff.mp h
  rw [List.take_succ, List.getElem?_eq_getElem hl]; rfl
/-- what draws are made of -/
structure SrcIs (K : PySem.W.Frag) (H : Hp) (p c : Addr) (cs : List Int) (i : Nat) (l m : Int) : Prop where
  at_ : H p = some (.lst [.ref c, .int i, .int l, .int m])
  cel : SqL K H c (cs.map V.int)
  ne : c ≠ p
  hi : i ≤ cs.length
  hl : 0 ≤ l
  hc : ∀ z ∈ cs, 0 ≤ z
  m0 : 0 ≤ m
  m1 : m < 2147483563
def Src (K : PySem.W.Frag) (c : Addr) (H : Hp) (p : Addr) : Prop := ∃ cs i l m, SrcIs K H p c cs i l m
/-- all but p is as it was -/
def But (p : Addr) (H H' : Hp) : Prop := ∀ b o, b ≠ p → H b = some o → H' b = some o
theorem But.refl (p : Addr) (H : Hp) : But p H H := fun _ _ _ h => h
theorem But.trans {p : Addr} {H H1 H2 : Hp} (a : But p H H1) (b : But p H1 H2) : But p H H2 := fun c o n h => b c o n (a c o n h)
theorem But.upd {p : Addr} {H H' : Hp} (s : But p H H') (o : HO) : But p H (upd H' p o) := fun b u n h => by rw [upd_ne n]; exact s b u n h
theorem _root_.L2.Same.but {H H' : Hp} (s : Same H H') (p : Addr) : But p H H' := fun b o _ h => s b o h
theorem But.seq {K : PySem.W.Frag} {H H' : Hp} {p a : Addr} {xs : List V} (e : But p H H') (n : a ≠ p) (h : SqL K H a xs) : SqL K H' a xs := by
  rcases h with (h | ⟨o, h⟩) | h
  · exact .inl (.inl (e _ _ n h))
  · exact .inl (.inr ⟨o, e _ _ n h⟩)
  · exact .inr h
theorem SrcIs.put {K : PySem.W.Frag} {H : Hp} {p c : Addr} {cs : List Int} {i : Nat} {l m : Int} (h : SrcIs K H p c cs i l m) {i' : Nat} {l' m' : Int} (a : i' ≤ cs.length) (b : 0 ≤ l') (d : 0 ≤ m') (e : m' < 2147483563) :
    SrcIs K (upd H p (.lst [.ref c, .int i', .int l', .int m'])) p c cs i' l' m' :=
  ⟨upd_same, (But.upd (But.refl p H) _).seq h.ne h.cel, h.ne, a, b, h.hc, d, e⟩
theorem smallM {n : Nat} (h : n ≤ 1000000) : n < sizeLine := Nat.lt_of_le_of_lt h (by decide)
/-- a comprehension: R i H ys: what is known of the list made so far; F: what is kept of the heap; the list itself stands at D -/
theorem lc_foldF {J : It} {n : Nat} {G : Hp → Prop} {Yw : Nat → Hp → V → Hp → Prop} (w : Walk J n G Yw) {g : TG} {tt : TT} {te : TE} {vs : List Nat} {σ : L2.St} {H1 : Hp} {D : Addr} {Qd : Hp → Prop}
    (F : Hp → Prop) (R : Nat → Hp → List V → Prop) (f0 : F (upd H1 D (.lst []))) (fD : ∀ H ys zs, F H → H D = some (.lst ys) → F (upd H D (.lst zs))) (r0 : R 0 (upd H1 D (.lst [])) [])
    (rD : ∀ i H ys zs xs, R i H xs → H D = some (.lst ys) → R i (upd H D (.lst zs)) xs) (len : ∀ i H ys, R i H ys → ys.length ≤ 1000000) (hG : ∀ H, F H → G H)
    (hs : ∀ i x H H' ys (Nx : V → Hp → Prop) (Ex : Hp → Prop), i < n → F H → H D = some (.lst ys) → R i H ys → Yw i H x H' →
      (∀ y H2, F H2 → H2 D = some (.lst ys) → R (i + 1) H2 (ys ++ [y]) → Nx y H2) → (∀ H2, F H2 → H2 D = some (.lst ys) → R (i + 1) H2 ys → Ex H2) →
      g x (wipe σ vs) H' fun σ2 H2 => wipe σ2 vs = wipe σ vs ∧ tt σ2 H2 fun b H3 => if b = true then te σ2 H3 Nx else Ex H3)
    (hd : ∀ H ys, F H → H D = some (.lst ys) → R n H ys → Qd H) :
    ∃ W : Nat → Nat → Hp → Prop, (∃ m, W 0 m (upd H1 D (.lst []))) ∧ ∀ i m H, W i m H →
      (J.stop i H ∧ Qd H) ∨ (J.go i H ∧ ∃ Nx : Hp → Prop, (∀ H', Nx H' → ∃ m', m' < m ∧ W (i + 1) m' H') ∧ ∀ x H', J.yld i H x H' → g x (wipe σ vs) H' fun σ2 H2 => wipe σ2 vs = wipe σ vs ∧ tt σ2 H2 fun b H3 =>
        if b = true then te σ2 H3 fun y H4 => ∃ acc, H4 D = some (.lst acc) ∧ acc.length < sizeLine ∧ Nx (upd H4 D (.lst (acc ++ [y]))) else Nx H3) := by
  refine lc_it w (fun i H => F H ∧ ∃ ys, H D = some (.lst ys) ∧ R i H ys) ⟨f0, [], upd_same, r0⟩ (fun i H _ h => hG H h.1) ?_ ?_
  · rintro i x H H' hi ⟨f, ys, hy, r⟩ y
    refine hs i x H H' ys _ _ hi f hy r y (fun z H2 f2 h2 r2 => ?_) (fun H2 f2 h2 r2 => ⟨f2, ys, h2, r2⟩)
    exact ⟨ys, h2, smallM (len i H ys r), fD _ _ _ f2 h2, _, upd_same, rD _ _ _ _ _ r2 h2⟩
  · rintro H ⟨f, ys, hy, r⟩
    exact hd H ys f hy r
theorem snoc_at {α : Type} {l : List α} {x y : α} {j : Nat} (h : (l ++ [x])[j]? = some y) : l[j]? = some y ∨ (j = l.length ∧ y = x) := by
  rcases Nat.lt_or_ge j l.length with hj | hj
  · rw [List.getElem?_append_left hj] at h; exact .inl h
  · rw [List.getElem?_append_right hj] at h
    have := (List.getElem?_eq_some_iff.mp h).1
    simp at this
    have e : j = l.length := by omega
    subst e
    rw [Nat.sub_self] at h
    cases h
    exact .inr ⟨rfl, rfl⟩
theorem _root_.L2.Room.un2 {k : Nat} {A : Around} (r : Room k A) : A.units + 200 < cLine := by have := r.un; omega
theorem ixN_nat {n : Nat} {z : Int} (h0 : 0 ≤ z) (h : z.toNat < n) : ixN n z = some z.toNat := by
  unfold ixN
  rw [if_pos h0, if_pos (by omega : z < (n : Int))]
theorem sIx_some (n d k : Nat) : HT.sIx n d (some (k : Int)) = min k n := by first | exact HT.sIx_nat n d k | exact HT.sIx_some n d k | simp [HT.sIx]
theorem sIx_none (n d : Nat) : HT.sIx n d none = d := by first | rfl | simp [HT.sIx]
theorem cut1 (x : V) (xs : List V) : cutV (x :: xs) (some 1) none = xs := by
  unfold cutV
  rw [show (some (1 : Int)) = some ((1 : Nat) : Int) from rfl, sIx_some, sIx_none]
  have e : min 1 (x :: xs).length = 1 := by rw [List.length_cons]; omega
  rw [e]
  show List.take ((x :: xs).length - 1) xs = xs
  exact List.take_of_length_le (by rw [List.length_cons]; omega)
theorem cut1_not (x : V) (xs : List V) : ¬ (HT.sIx (x :: xs).length 0 (some 1) = 0 ∧ HT.sIx (x :: xs).length (x :: xs).length none = (x :: xs).length) := by
  rw [show (some (1 : Int)) = some ((1 : Nat) : Int) from rfl, sIx_some, List.length_cons]
  omega
/-! ### further rules: data compared and looked for at greater depths, dict.update, get of a written dict, zip of a tuple and a list -/
section
open PySem.Spec PyProof.Rows
variable {X : Cx}
/-- a datum that may be compared: n deep at most -/
def Shp (n : Nat) (d : PyData) : Prop := d.canLay0 = true ∧ d.depth ≤ n
def rEqX (K : PySem.W.Frag) : R2 := fun x y H Q => ∃ d e, Dp K H x d ∧ Dp K H y e ∧ Shp 190 d ∧ Shp 190 e ∧ Q (.bl (PyData.eqv d e)) H
def rNeX (K : PySem.W.Frag) : R2 := fun x y H Q => ∃ d e, Dp K H x d ∧ Dp K H y e ∧ Shp 190 d ∧ Shp 190 e ∧ Q (.bl (!PyData.eqv d e)) H
theorem op_eqX (hu : X.A.units + 200 < cLine) : OpR X (compareOp .Eq) (rEqX X.K) := by
  intro pins s σ H x y v u Q I rx ry ⟨d, e, hd, he, ⟨c1, d1⟩, ⟨c2, d2⟩, q⟩
  obtain ⟨as, r1⟩ := Dp.reads I d x v hd rx
  obtain ⟨bs, r2⟩ := Dp.reads I e y u he ry
  exact SeqAt.compareEq_reads r1 r2 c1 c2 (by have := Nat.min_le_left d.depth e.depth; omega) ⟨.bl _, H, I, rfl, q⟩
theorem op_neX (hu : X.A.units + 200 < cLine) : OpR X (compareOp .NotEq) (rNeX X.K) := by
  intro pins s σ H x y v u Q I rx ry ⟨d, e, hd, he, ⟨c1, d1⟩, ⟨c2, d2⟩, q⟩
  obtain ⟨as, r1⟩ := Dp.reads I d x v hd rx
  obtain ⟨bs, r2⟩ := Dp.reads I e y u he ry
  exact SeqAt.compareNe_reads r1 r2 c1 c2 (by have := Nat.min_le_left d.depth e.depth; omega) ⟨.bl _, H, I, rfl, q⟩
/-- x in (a, b, ..): data of any kind in a tuple -/
def rInTX (K : PySem.W.Frag) : R2 := fun x y H Q => ∃ d ds, Dp K H x d ∧ Dp K H y (.tuple ds) ∧ Shp 190 d ∧ PyData.canLayAll0 ds = true ∧ Q (.bl (ds.any fun z => PyData.eqv z d)) H
theorem op_inTX (hu : X.A.units + 200 < cLine) : OpR X (compareOp .In) (rInTX X.K) := by
  intro pins s σ H x y v u Q I rx ry ⟨d, ds, hd, he, ⟨c1, d1⟩, c2, q⟩
  obtain ⟨as, r1⟩ := Dp.reads I d x v hd rx
  obtain ⟨bs, r2⟩ := Dp.reads I (.tuple ds) y u he ry
  exact SeqAt.in_tuple_reads r2 r1 c2 c1 (by have := Nat.min_le_right (PyData.depthAll ds) d.depth; omega) ⟨.bl _, H, I, rfl, q⟩
/-- x in [a, b, ..]: the same in a list -/
def rInLX (K : PySem.W.Frag) : R2 := fun x y H Q => ∃ d ds, Dp K H x d ∧ Dp K H y (.list ds) ∧ Shp 190 d ∧ PyData.canLayAll0 ds = true ∧ Q (.bl (ds.any fun z => PyData.eqv z d)) H
theorem op_inLX (hu : X.A.units + 200 < cLine) : OpR X (compareOp .In) (rInLX X.K) := by
  intro pins s σ H x y v u Q I rx ry ⟨d, ds, hd, he, ⟨c1, d1⟩, c2, q⟩
  obtain ⟨as, r1⟩ := Dp.reads I d x v hd rx
  obtain ⟨bs, r2⟩ := Dp.reads I (.list ds) y u he ry
  exact SeqAt.in_list_reads r2 r1 c2 c1 (by have := Nat.min_le_right (PyData.depthAll ds) d.depth; omega) ⟨.bl _, H, I, rfl, q⟩
/-- blanks, n times -/
def rRepS : R2 := fun x y H Q => ∃ z n, x = .str z ∧ y = .int n ∧ MulOk z n ∧ Q (.str (Txt.mul z n)) H
theorem op_rep_str : OpR X (binaryOp .Mult) rRepS := by
  intro pins s σ H x y v u Q I rx ry ⟨z, n, e1, e2, ok, q⟩
  subst e1
  subst e2
  obtain ⟨t, rfl⟩ := rx
  obtain ⟨t2, rfl⟩ := ry
  exact SB.mul ok fun t' k => ⟨.str (Txt.mul z n), H, I.tok _, ⟨_, rfl⟩, q⟩
/-- d.update(e), two dicts of the call's own -/
def rUpdate : V → List V → Hp → VK → Prop := fun x vs H Q => ∃ (a b : Addr) (kvs more : List (Key × V)), x = .ref a ∧ vs = [.ref b] ∧ a ≠ b ∧ H a = some (.dK kvs) ∧ H b = some (.dK more) ∧ kvs.length + more.length ≤ sizeLine ∧ Q .non (upd H a (.dK (mergeK kvs more)))
theorem mt_update : MtR X "dict.update" rUpdate := by
  intro pins s σ H x vs v us Q I rx rv ⟨a, b, kvs, more, e1, e2, ne, ha, hb, hz, q⟩
  subst e1 e2
  cases rx
  obtain ⟨u, rfl, ru⟩ := rv.one
  cases ru
  obtain ⟨z1, lo1, ws, k1, D1⟩ := I.hok a _ ha
  obtain ⟨z2, lo2, rs, k2, D2⟩ := I.hok b _ hb
  have l1 := k1.length
  have l2 := k2.length
  refine call_meetsIn PySem.F.slot_dict_update D1.typeIs PySem.F.entry_dict_update (PySem.F.args_dict_update_2 _ _) (meets_dict_update (mixKind X.prog X.w) a b ne lo2)
    ⟨ws, rs, D1, D2, by omega, fun h' m1 m2 sb => ?_⟩
  have hm : Mut (H a) := by rw [ha]; trivial
  have new : ObjOk X.prog X.w (upd H a (.dK (mergeK kvs more))) h' a (.dK (mergeK kvs more)) :=
    ⟨Nat.le_trans (length_mergeK more kvs) hz, lo1, _, k2.merge k1, m1⟩
  obtain ⟨ob, _, _, q1, _⟩ := id m1
  refine ⟨.non, _, I.write (t' := s.toks) hm (.inl rfl) (fun c o n e => (sb.2 c n).trans e) ⟨ob, q1⟩ new, rfl, q⟩
/-- a dict that stands in the written part, its keys texts -/
structure KdAt (K : PySem.W.Frag) (w : World) (a : Addr) : Prop where
  at_ : ∃ es n, K.lookup a = some ⟨.type "dict", none, .dict es n, #[]⟩ ∧ PySem.W.KeysLit w.params es.toList
  low : (a == sysModules) = false
/-- D.get(k, d) of a written dict: r is what stands at k -/
theorem pe_kget2 {o e f : Expr} {td ty tx : TE} {apos cpos : Pos} (ho : PE X o td) (he : PE X e ty) (hf : PE X f tx) (m : M2 X o "get" apos e f cpos) :
    PE X (.Call (.Attribute o "get" apos) [e, f] [] cpos) (fun σ H Q => td σ H fun x H1 => ∃ a, x = .ref a ∧ KdAt X.K X.w a ∧ ty σ H1 fun y H2 => tx σ H2 fun z H3 =>
      ∃ (k : Str) (r : Option Value), y = .str k ∧ PySem.W.nsIn X.K a k = some r ∧ ∃ v, RelO (some v) (some (r.getD (.none))) ∧ Q (if r.isSome then v else z) H3) := by
  refine ⟨fun pins s σ H Q I h => ?_⟩
  refine wpAny_Call_method m.base m.few m.line PySem.F.plainAttrs_dict PySem.F.slot_dict_get PySem.F.type_dict_get (thn (ho.run pins s σ H _ I h) fun u s1 ⟨x, H1, I1, rx, a, ex, ⟨⟨es, n, hl, hk⟩, lo⟩, q1⟩ => ?_)
  subst ex
  obtain rfl : u = Value.ref a := rx
  have hm := PySem.W.mapOf_K (prog := X.prog) (w := X.w) I1.kIn hl hk
  refine ⟨hm.typeIs, fun b eb => ?_, ?_⟩
  · cases eb
    exact ⟨_, I1.kIn _ _ hl, rfl⟩
  rw [m.trees]
  refine Calls.callWith_builtin rfl (Calls.evalArgs_plain (Calls.spliced_cons (thn (he.run pins s1 σ H1 _ I1 q1) fun iv s2 ⟨y, H2, I2, ry, q2⟩ =>
    Calls.spliced_cons (thn (hf.run pins s2 σ H2 _ I2 q2) fun fv s3 ⟨z, H3, I3, rz, k, r, ey, hn, v, rv, q3⟩ => Calls.spliced_nil ?_))))
  subst ey
  obtain ⟨t, rfl⟩ := ry
  have hm3 := PySem.W.mapOf_K (prog := X.prog) (w := X.w) I3.kIn hl hk
  refine call_meetsIn PySem.F.slot_dict_get hm3.typeIs PySem.F.entry_dict_get (PySem.F.args_dict_get_3 _ _ _) (meets_dict_get_default (strKind X.prog X.w) a (strKind_is X.prog X.w k t) lo fv) ⟨_, hm3, ?_⟩
  rw [PySem.W.find_K hl hn]
  cases r with
  | none => exact ⟨_, H3, I3.tok _, rz, q3⟩
  | some u => exact ⟨_, H3, I3.tok _, rv, q3⟩
end

section
open PySem.Spec PyProof.Rows
/-- zip of the tuple at a and the list at b: their items in new pairs -/
def ItzM (K : PySem.W.Frag) (a b : Addr) : It where
  go := fun i H => ∃ (xs ys : List V) (x y : V), SqT K H a xs ∧ SqL K H b ys ∧ xs[i]? = some x ∧ ys[i]? = some y
  yld := fun i H v H' => ∃ T x y, v = .ref T ∧ H T = none ∧ H' = upd H T (.tup [x, y]) ∧ (∀ xs, SqT K H a xs → xs[i]? = some x) ∧ ∀ ys, SqL K H b ys → ys[i]? = some y
  stop := fun i H => ∃ xs ys : List V, SqT K H a xs ∧ SqL K H b ys ∧ i ≤ xs.length ∧ i ≤ ys.length ∧ (i = xs.length ∨ i = ys.length)
theorem turn_zipM {P : Program} {w : World} {K : PySem.W.Frag} {elts : List Expr} {kk : Nat} {tpos : Pos} {a b z TI TO i1 i2 : Addr} (D : ZipApart z TI TO i1 i2 a b) :
    Turn P w K (.Tuple elts kk tpos) (ItzM K a b) [z, TI, TO, i1, i2] z (fun i h => IsZip h z TI TO .none ∧ IsTupOf2 h TI (.ref i1) (.ref i2) ∧ (∃ x y, IsTupOf2 h TO x y) ∧ h.IsTupleIter i1 a i ∧ h.IsListIter i2 b i) := by
  have S : ZipSep2 z TI TO i1 i2 [i1, a] [i2, b] := by
    obtain ⟨d1, d2, d3, d4, d5, d6, d7, d8, d9, d10, d11, d12, d13, d14, d15, d16, d17, d18⟩ := D
    exact ⟨d1, d2, d5, d6, by simp, by simp [d3.symm, d11.symm], by simp [d8, d12.symm], d7, by simp, by simp [d4.symm, d15.symm], by simp [d9, d16.symm], by simp [d10, d17.symm], by simp [d10.symm, d14.symm]⟩
  have five : ∀ {c : Addr} {p : Addr → Prop}, c ∈ [z, TI, TO, i1, i2] → p z → p TI → p TO → p i1 → p i2 → p c := fun {c p} hc p1 p2 p3 p4 p5 => by
    rcases (by simpa using hc : c = z ∨ c = TI ∨ c = TO ∨ c = i1 ∨ c = i2) with r | r | r | r | r <;> rw [r] <;> assumption
  constructor
  case mem => simp
  case obj =>
    intro i h ⟨hz, hTI, ⟨x, y, hTO⟩, ⟨o1, e1, _, f1⟩, ⟨o2, e2, _, f2⟩⟩ c hc
    refine five (p := fun c => ∃ o, h.get? c = some o ∧ ∀ v, o.data ≠ .cell v) hc ⟨_, hz, fun v q => nomatch q⟩ ⟨_, hTI, fun v q => nomatch q⟩ ⟨_, hTO, fun v q => nomatch q⟩ ⟨o1, e1, fun v q => ?_⟩ ⟨o2, e2, fun v q => ?_⟩
    · rw [f1] at q; cases q
    · rw [f2] at q; cases q
  case keep =>
    intro i h h' ⟨hz, hTI, ⟨x, y, hTO⟩, h1, h2⟩ k
    exact ⟨k _ (by simp) _ hz, k _ (by simp) _ hTI, ⟨_, _, k _ (by simp) _ hTO⟩, h1.at fun o q => k _ (by simp) o q, h2.at fun o q => k _ (by simp) o q⟩
  case item =>
    intro X hP hw hK hc i pins s σ H E I hf ⟨hz, hTI, ⟨x0, y0, hTO⟩, h1, h2⟩ ⟨xs, ys, x, y, hqx, hqy, hx, hy⟩
    subst hP hw hK
    have hh := I.ok.hd hc
    obtain ⟨its, rv, p, _⟩ := I.tuple hqx
    obtain ⟨its2, rv2, p2, _⟩ := I.list hqy
    obtain ⟨u, hu, ru⟩ := rv.get hx
    obtain ⟨u2, hu2, ru2⟩ := rv2.get hy
    have hzl : z < s.heap.objs.size := Heap.lt_size hz
    have g1 : i < its.toArray.size := by simpa using (List.getElem?_eq_some_iff.mp hu).1
    have g2 : i < its2.toArray.size := by simpa using (List.getElem?_eq_some_iff.mp hu2).1
    refine wpAny_pyNext_zipD2_item S (Draws.tuple (A := X.A.in1) hh i1 a D.l1i1 its.toArray) (Draws.list (A := X.A.in1) hh i2 b D.l2i2 its2.toArray) hz hTI hTO ⟨h1, p⟩ ⟨h2, p2.isList⟩ g1 g2 fun v1 v2 h' tk w1 w2 z' TO' s1 s2 hT hsz hk => ?_
    have ev1 : v1 = u := by
      have q : its[i]? = some v1 := by simpa using w1
      rw [hu] at q; exact (Option.some.inj q).symm
    have ev2 : v2 = u2 := by
      have q : its2[i]? = some v2 := by simpa using w2
      rw [hu2] at q; exact (Option.some.inj q).symm
    subst ev1 ev2
    refine ⟨_, rfl, wpAny_letOwnedTupleGo_zip (s := { s with heap := h', toks := tk }) z' fun h'' z'' sb => ?_⟩
    have hT2 : h''.get? s.heap.objs.size = some { cls := .type "tuple", data := .seq #[v1, v2] } := (sb.2 _ (Nat.ne_of_gt hzl)).trans hT
    have new : ObjOk X.prog X.w (upd H s.heap.objs.size (.tup [x, y])) h'' s.heap.objs.size (.tup [x, y]) :=
      ⟨by show 2 ≤ sizeLine; decide, [v1, v2], .cons ru (.cons ru2 .nil), ⟨_, hT2, rfl, _, rfl⟩⟩
    have out : ∀ {c : Addr}, c ∉ [z, TI, TO, i1, i2] → c ≠ z ∧ c ≠ TO ∧ c ≠ i1 ∧ c ≠ i2 := fun {c} hc => by
      simp only [List.mem_cons, not_or] at hc
      exact ⟨hc.1, hc.2.2.1, hc.2.2.2.1, hc.2.2.2.2.1⟩
    have I1 : Inv X pins σ (upd H s.heap.objs.size (.tup [x, y])) { s with heap := h'', toks := tk } :=
      I.turnedNew (t' := tk) (ch := [z, TI, TO, i1, i2]) (fun c o hb q => let ⟨n1, n2, n3, n4⟩ := out hb; (sb.2 c n1).trans (hk c o n1 n2 n3 n4 q)) hf (Nat.le_refl _) new
    refine ⟨.ref s.heap.objs.size, _, I1, rfl, ⟨_, x, y, rfl, I.hok.fresh (Nat.le_refl _), rfl, fun l hl => ?_, fun l hl => ?_⟩, ⟨z'', ?_, ⟨v1, v2, ?_⟩, ?_, ?_⟩, fun c hcm => ?_⟩
    · rw [I.tuple_inj hl hqx]; exact hx
    · rw [I.list_inj hl hqy]; exact hy
    · exact (sb.2 _ D.TIz).trans (hk _ _ D.TIz D.TITO D.TIi1 D.TIi2 hTI)
    · exact (sb.2 _ D.TOz).trans TO'
    · exact s1.1.at fun o q => (sb.2 _ D.i1z).trans q
    · exact s2.1.at fun o q => (sb.2 _ D.i2z).trans q
    · have lt1 : i1 < s.heap.objs.size := by obtain ⟨_, e1, _⟩ := h1; exact Heap.lt_size e1
      have lt2 : i2 < s.heap.objs.size := by obtain ⟨_, e1, _⟩ := h2; exact Heap.lt_size e1
      have hlt : c < s.heap.objs.size := five (p := fun c => c < s.heap.objs.size) hcm hzl (Heap.lt_size hTI) (Heap.lt_size hTO) lt1 lt2
      rw [upd_ne (Nat.ne_of_lt hlt)]
      exact (hf c hcm).1
  case done =>
    intro X hP hw hK hc i pins s σ H E I hf ⟨hz, hTI, ⟨x0, y0, hTO⟩, h1, h2⟩ ⟨xs, ys, hqx, hqy, b1, b2, hend⟩
    subst hP hw hK
    have hh := I.ok.hd hc
    obtain ⟨its, rv, p, _⟩ := I.tuple hqx
    obtain ⟨its2, rv2, p2, _⟩ := I.list hqy
    have l1 : xs.length = its.toArray.size := by simpa using rv.length
    have l2 : ys.length = its2.toArray.size := by simpa using rv2.length
    refine wpAny_pyNext_zipD2_end S (Draws.tuple (A := X.A.in1) hh i1 a D.l1i1 its.toArray) (Draws.list (A := X.A.in1) hh i2 b D.l2i2 its2.toArray) hz hTI hTO ⟨h1, p⟩ ⟨h2, p2.isList⟩ (by omega) (by omega) (by omega) fun h' tk hk => ⟨rfl, ?_⟩
    refine I.turnedL (t' := tk) (ch := [z, TI, TO, i1, i2]) (fun c o hb q => ?_) hf
    simp only [List.mem_cons, not_or] at hb
    exact hk c o hb.1 hb.2.2.1 hb.2.2.2.1 hb.2.2.2.2.1 q
  case self => exact fun A i s Q E st h => wpAny_pyIter_zip st.1 h
def iZipM (K : PySem.W.Frag) (ta : TA) : TI := fun σ H R => ta σ H fun vs H1 => ∃ a b xs ys, vs = [.ref a, .ref b] ∧ SqT K H1 a xs ∧ SqL K H1 b ys ∧ R (ItzM K a b) H1
theorem pi_zipM {X : Cx} {e e2 : Expr} {ta : TA} {p pos tpos : Pos} {elts : List Expr} {kk : Nat} (hg : Gl X "zip") (hm : X.mg "zip" = none) (ha : PA X [e, e2] ta)
    (hs : starEach [e, e2] X.env = (false, eval e X.env) :: starEach [e2] X.env := by rfl) (hpl : (backTo pos (starEach [e2] X.env)).any (·.1) = false := by rfl) :
    PI X (.Tuple elts kk tpos) (.Call (.Name "zip" p) [e, e2] [] pos) (iZipM X.K ta) := by
  refine ⟨fun pins s σ H R I h => ?_⟩
  refine Call_ (ld_blt I hg hm PyProof.Rows.boot_zip (PyProof.Rows.callWith_type1 (thn (ha.run pos pins s σ H _ I h) fun us s1 ⟨vs, H1, I1, r1, a, b, xs, ys, ex, hqx, hqy, q⟩ => ?_) hs hpl))
  subst ex
  obtain ⟨u, u', rfl, r, r'⟩ := r1.two
  cases r
  cases r'
  obtain ⟨its, rv, p1, _⟩ := I1.tuple hqx
  obtain ⟨its2, rv2, p2, _⟩ := I1.list hqy
  have la : a < s1.heap.objs.size := by obtain ⟨o1, ho1, _⟩ := id p1; exact Heap.lt_size ho1
  refine zip_begins2 (begins_tuple a its.toArray) (begins_list b its2.toArray) p1 p2.isList fun h' hz hTI hTO h1 h2 hsz hk => wpAny_pyIter_zip hz ?_
  have I2 : Inv X pins σ H1 { s1 with heap := h' } := I1.kept (t' := s1.toks) hk
  refine ⟨s1.heap.objs.size + 4, [s1.heap.objs.size + 4, s1.heap.objs.size + 2, s1.heap.objs.size + 3, s1.heap.objs.size, s1.heap.objs.size + 1], _, _, H1, rfl, I2, turn_zipM (PySem.W.ktu_apart s1.heap.objs.size a b la p2.lt), ⟨hz, hTI, ⟨_, _, hTO⟩, ⟨_, h1, rfl, rfl⟩, ⟨_, h2, rfl, rfl⟩⟩, fun c hcm => ?_, q⟩
  have hle : s1.heap.objs.size ≤ c := by
    rcases (by simpa using hcm : c = s1.heap.objs.size + 4 ∨ c = s1.heap.objs.size + 2 ∨ c = s1.heap.objs.size + 3 ∨ c = s1.heap.objs.size ∨ c = s1.heap.objs.size + 1) with r | r | r | r | r <;> rw [r]
    · exact Nat.le_add_right _ _
    · exact Nat.le_add_right _ _
    · exact Nat.le_add_right _ _
    · exact Nat.le_refl _
    · exact Nat.le_add_right _ _
  exact I1.fpOk hle (I1.hok.fresh hle)
/-- a loop over such a zip, as many items on both sides -/
theorem for_zipM {K : PySem.W.Frag} {a b : Addr} {xs ys : List V} {g : TG} {tb : TS} {D : Ends} {σ : L2.St} {H : Hp} (hl : xs.length = ys.length) (Pv : Nat → L2.St → Hp → Prop) (h0 : Pv 0 σ H) (hq : ∀ i σ H, Pv i σ H → SqT K H a xs ∧ SqL K H b ys)
    (hs : ∀ (i : Nat) (x y : V) (T : Addr) (σ : L2.St) (H : Hp), xs[i]? = some x → ys[i]? = some y → Pv i σ H → H T = none → g (.ref T) σ (upd H T (.tup [x, y])) fun σ2 H2 => tb { D with nx := Pv (i + 1), ct := Pv (i + 1), bk := D.nx } σ2 H2) (hd : ∀ σ H, Pv xs.length σ H → D.nx σ H) :
    ∃ W : Nat → Nat → L2.St → Hp → Prop, (∃ m, W 0 m σ H) ∧ ∀ i m σ H, W i m σ H →
      ((ItzM K a b).stop i H ∧ D.nx σ H) ∨ ((ItzM K a b).go i H ∧ ∃ N : L2.St → Hp → Prop, (∀ σ' H', N σ' H' → ∃ m', m' < m ∧ W (i + 1) m' σ' H') ∧ ∀ v H', (ItzM K a b).yld i H v H' → g v σ H' fun σ2 H2 => tb { D with nx := N, ct := N, bk := D.nx } σ2 H2) := by
  refine ⟨fun i m σ H => m = xs.length - i ∧ i ≤ xs.length ∧ Pv i σ H, ⟨xs.length, rfl, Nat.zero_le _, h0⟩, fun i m σ H ⟨em, hi, p⟩ => ?_⟩
  subst em
  obtain ⟨qx, qy⟩ := hq i σ H p
  rcases Nat.lt_or_ge i xs.length with hlt | hge
  · refine .inr ⟨⟨xs, ys, _, _, qx, qy, List.getElem?_eq_getElem hlt, List.getElem?_eq_getElem (by omega : i < ys.length)⟩, Pv (i + 1), fun σ' H' p' => ⟨xs.length - (i + 1), by omega, rfl, hlt, p'⟩, fun v H' ⟨T, x', y', e1, hT, e2, f1, f2⟩ => ?_⟩
    subst e1 e2
    exact hs i x' y' T σ H (f1 xs qx) (f2 ys qy) p hT
  · have e : i = xs.length := by omega
    subst e
    exact .inl ⟨⟨xs, ys, qx, qy, Nat.le_refl _, by omega, .inl rfl⟩, hd σ H p⟩
end
/-! ### rules for a comprehension's block: the written part by its name -/
section
variable {X : Cx} (K : PySem.W.Frag)
theorem kx_ix_tup (h : X.K = K := by rfl) : IxR X (rIxT K) := h ▸ ix_tup
theorem kx_ix_list (h : X.K = K := by rfl) : IxR X (rIxL K) := h ▸ ix_list
theorem kx_ix_kdict (w : World) (h : X.K = K := by rfl) (hw : X.w = w := by rfl) : IxR X (rIxD K w) := by subst h hw; exact ix_kdict
theorem kx_op_eqX (hu : X.A.units + 200 < cLine) (h : X.K = K := by rfl) : OpR X (compareOp .Eq) (rEqX K) := h ▸ op_eqX hu
theorem kx_op_neX (hu : X.A.units + 200 < cLine) (h : X.K = K := by rfl) : OpR X (compareOp .NotEq) (rNeX K) := h ▸ op_neX hu
theorem kx_op_in_seq (h : X.K = K := by rfl) : OpR X (compareOp .In) (rIn K false) := h ▸ op_in_seq
theorem kx_op_notIn_seq (h : X.K = K := by rfl) : OpR X (compareOp .NotIn) (rIn K true) := h ▸ op_notIn_seq
theorem kx_call_isi (h : X.K = K := by rfl) : CallR X (.builtin "isinstance") (rIsi K) := h ▸ call_isi
def rLenQ (K : PySem.W.Frag) : List V → Hp → VK → Prop := fun xs H Q => ∃ p ys, xs = [.ref p] ∧ (SqL K H p ys ∨ SqT K H p ys) ∧ Q (.int ys.length) H
theorem kx_call_len_seq (h : X.K = K := by rfl) : CallR X (.builtin "len") (rLenQ K) := h ▸ call_len_seq
theorem kx_bm {e : Expr} {ty : String} {r : V → List V → Hp → VK → Prop} {to : TE} {t : TA} (p : PE X e (tBM X.K ty r to t)) (h : X.K = K := by rfl) : PE X e (tBM K ty r to t) := h ▸ p
theorem kx_bm0 {e : Expr} {ty : String} {r : V → List V → Hp → VK → Prop} {to : TE} (p : PE X e (tBM0 X.K ty r to)) (h : X.K = K := by rfl) : PE X e (tBM0 K ty r to) := h ▸ p
theorem kx_cr_sum (hc : X.calm = true := by rfl) (h : X.K = K := by rfl) : CallR X (.builtin "sum") (rSum K) := h ▸ cr_sum hc
end

section
variable {X : Cx}
/-- a new thing is locked as soon as it is there (a dict that is walked and dropped) -/
def tFrz (t : TE) : TE := fun σ H Q => t σ H fun x H1 => ∃ d u, x = .ref d ∧ H1 d = some u ∧ Mut (some u) ∧ ∀ od, Q x (upd H1 d (.frz od u))
theorem pe_frz {e : Expr} {t : TE} (he : PE X e t) : PE X e (tFrz t) := by
  refine ⟨fun pins s σ H Q I hw => ?_⟩
  refine thn (he.run pins s σ H _ I hw) fun v s1 ⟨x, H1, I1, r, d, u, ex, hd, mu, q⟩ => ?_
  obtain ⟨od, I2⟩ := I1.lock hd mu
  exact ⟨x, _, I2, r, q od⟩
end
/-! ### the plain law: sets of places as numbers, lattices -/
/-- the number whose binary digits are the places below n with p -/
def mask (n : Nat) (p : Nat → Bool) : Nat := match n with
  | 0 => 0
  | n + 1 => mask n p + if p n then 2 ^ n else 0
theorem mask_lt (p : Nat → Bool) : ∀ n, mask n p < 2 ^ n
  | 0 => by show 0 < 1; omega
  | n + 1 => by
    have h := mask_lt p n
    show mask n p + (if p n then 2 ^ n else 0) < 2 ^ (n + 1)
    rw [Nat.pow_succ]
    split <;> omega
theorem mask_bit (p : Nat → Bool) : ∀ n i, (mask n p).testBit i = (decide (i < n) && p i)
  | 0, i => by
    show Nat.testBit 0 i = _
    simp
  | n + 1, i => by
    have h := mask_lt p n
    have ih := mask_bit p n i
    show (mask n p + if p n then 2 ^ n else 0).testBit i = _
    by_cases c : p n = true
    · rw [if_pos c, Nat.add_comm]
      by_cases e : i = n
      · subst e
        rw [Nat.testBit_two_pow_add_eq, ih, c]
        simp
      · rcases Nat.lt_or_ge i n with l | l
        · rw [Nat.testBit_two_pow_add_gt (by omega), ih]
          have : i < n + 1 := by omega
          simp [l, this]
        · have l2 : ¬ i < n + 1 := by omega
          have z : 2 ^ n + mask n p < 2 ^ i := Nat.lt_of_lt_of_le (by rw [Nat.pow_succ]; omega : 2 ^ n + mask n p < 2 ^ (n + 1)) (Nat.pow_le_pow_right (by decide) (by omega))
          rw [Nat.testBit_lt_two_pow z]
          simp [l2]
    · rw [if_neg c, Nat.add_zero, ih]
      by_cases e : i = n
      · subst e
        simp [Bool.not_eq_true _ ▸ c]
      · have : (i < n) ↔ (i < n + 1) := by omega
        simp [this]
theorem mask_ext {n : Nat} {p q : Nat → Bool} (h : ∀ i, i < n → p i = q i) : mask n p = mask n q := by
  refine Nat.eq_of_testBit_eq fun i => ?_
  rw [mask_bit, mask_bit]
  by_cases c : i < n
  · rw [h i c]
  · simp [c]
theorem mask_eq {n : Nat} {p q : Nat → Bool} : mask n p = mask n q ↔ ∀ i, i < n → p i = q i := by
  refine ⟨fun h i hi => ?_, mask_ext⟩
  have := congrArg (Nat.testBit · i) h
  simpa [mask_bit, hi] using this
theorem mask_and (n : Nat) (p q : Nat → Bool) : mask n p &&& mask n q = mask n fun i => p i && q i := by
  refine Nat.eq_of_testBit_eq fun i => ?_
  rw [Nat.testBit_and, mask_bit, mask_bit, mask_bit]
  cases decide (i < n) <;> simp
theorem mask_or (n : Nat) (p q : Nat → Bool) : mask n p ||| mask n q = mask n fun i => p i || q i := by
  refine Nat.eq_of_testBit_eq fun i => ?_
  rw [Nat.testBit_or, mask_bit, mask_bit, mask_bit]
  cases decide (i < n) <;> simp
theorem mask_all (n : Nat) : mask n (fun _ => true) = 2 ^ n - 1 := by
  refine Nat.eq_of_testBit_eq fun i => ?_
  rw [mask_bit, Nat.testBit_two_pow_sub_one]
  simp
theorem mask_one {n a : Nat} (h : a < n) : mask n (fun i => i == a) = 2 ^ a := by
  refine Nat.eq_of_testBit_eq fun i => ?_
  rw [mask_bit, Nat.testBit_two_pow]
  by_cases e : i = a
  · subst e; simp [h]
  · simp [e, Ne.symm e]
theorem mask_of {n m : Nat} (h : m < 2 ^ n) : m = mask n m.testBit := by
  refine Nat.eq_of_testBit_eq fun i => ?_
  rw [mask_bit]
  by_cases c : i < n
  · simp [c]
  · rw [Nat.testBit_lt_two_pow (Nat.lt_of_lt_of_le h (Nat.pow_le_pow_right (by decide) (by omega)))]
    simp [c]
/-! #### the same as whole numbers of the program -/
theorem bit_int (m a : Nat) : Builtin.bitAnd ((m : Int) / 2 ^ a) 1 = if m.testBit a then 1 else 0 := by
  have e : Builtin.bitAnd ((m : Int) / 2 ^ a) 1 = ((m : Int) / 2 ^ a) % 2 := by
    have := Bits.bitAnd_mask (x := (m : Int) / 2 ^ a) 1 (Int.ediv_nonneg (Int.natCast_nonneg _) (by exact Int.le_of_lt (Int.pow_pos (by decide))))
    simpa using this
  rw [e, Nat.testBit_eq_decide_div_mod_eq]
  have e2 : ((m : Int) / 2 ^ a) % 2 = ((m / 2 ^ a % 2 : Nat) : Int) := by
    rw [Int.natCast_emod, Int.natCast_ediv, Int.natCast_pow]
    rfl
  rw [e2]
  rcases Nat.mod_two_eq_zero_or_one (m / 2 ^ a) with h | h <;> rw [h] <;> rfl
theorem bit_is (m a : Nat) : decide (Builtin.bitAnd ((m : Int) / 2 ^ a) 1 = 1) = m.testBit a := by
  rw [bit_int]
  cases m.testBit a <;> rfl
theorem and_int_nat (a b : Nat) : Builtin.bitAnd (a : Int) (b : Int) = ((a &&& b : Nat) : Int) := by
  rw [PyProof.Rows.bitAnd_pp (Int.natCast_nonneg _) (Int.natCast_nonneg _)]
  rfl
theorem or_int_nat (a b : Nat) : Builtin.bitOr (a : Int) (b : Int) = ((a ||| b : Nat) : Int) := by
  rw [Bits.bitOr_pp (Int.natCast_nonneg _) (Int.natCast_nonneg _)]
  rfl
/-- a & ~b -/
theorem andnot_int (n : Nat) (p q : Nat → Bool) : Builtin.bitAnd (mask n p : Int) (Builtin.bitNot (mask n q : Int)) = (mask n (fun i => p i && !q i) : Int) := by
  have hneg : ¬ (0 ≤ Builtin.bitNot (mask n q : Int)) := by show ¬ (0 ≤ -(mask n q : Int) - 1); omega
  have hpos : (0 : Int) ≤ (mask n p : Int) := Int.natCast_nonneg _
  have nn : Builtin.bitNot (Builtin.bitNot (mask n q : Int)) = (mask n q : Int) := by show -(-(mask n q : Int) - 1) - 1 = _; omega
  have e : Builtin.bitAnd (mask n p : Int) (Builtin.bitNot (mask n q : Int)) = (mask n p : Int) - ((mask n p &&& mask n q : Nat) : Int) := by
    unfold Builtin.bitAnd
    rw [show decide ((0 : Int) ≤ (mask n p : Int)) = true from decide_eq_true hpos, show decide ((0 : Int) ≤ Builtin.bitNot (mask n q : Int)) = false from decide_eq_false hneg]
    show (mask n p : Int) - (((mask n p : Int).toNat &&& (Builtin.bitNot (Builtin.bitNot (mask n q : Int))).toNat : Nat) : Int) = _
    rw [nn]
    rfl
  rw [e, mask_and]
  have s : ∀ m, mask m (fun i => p i && q i) + mask m (fun i => p i && !q i) = mask m p := fun m => by
    induction m with
    | zero => rfl
    | succ m ih =>
      show (mask m _ + if (p m && q m) = true then 2 ^ m else 0) + (mask m _ + if (p m && !q m) = true then 2 ^ m else 0) = mask m p + if p m = true then 2 ^ m else 0
      rw [← ih]
      cases p m <;> cases q m <;> simp <;> omega
  have := s n
  omega
/-- the sum of 2 ** i over the places with p -/
theorem sum_mask (p : Nat → Bool) : ∀ n, ((((List.range n).filter p).map fun i => ((2 ^ i : Nat) : Int))).sum = (mask n p : Int)
  | 0 => rfl
  | n + 1 => by
    rw [List.range_succ, List.filter_append, List.map_append, List.sum_append, sum_mask p n]
    show _ = ((mask n p + if p n then 2 ^ n else 0 : Nat) : Int)
    by_cases c : p n = true
    · simp [List.filter, c]
    · simp [List.filter, c]
/-- the first place below n with p -/
def first : Nat → (Nat → Bool) → Option Nat := fun n p => (List.range n).find? p
theorem first_some {n k : Nat} {p : Nat → Bool} (h : first n p = some k) : k < n ∧ p k = true ∧ ∀ j, j < k → p j = false := by
  unfold first at h
  obtain ⟨h1, as, bs, h2, h3⟩ := List.find?_eq_some_iff_append.mp h
  have hk : k < n := List.mem_range.mp (List.mem_of_find?_eq_some h)
  refine ⟨hk, h1, fun j hj => ?_⟩
  have hl : as.length = k := by
    have e1 : (List.range n)[as.length]? = some k := by rw [h2, List.getElem?_append_right (Nat.le_refl _), Nat.sub_self]; rfl
    have e2 := (List.getElem?_eq_some_iff.mp e1).1
    rw [List.getElem?_range (by simpa using e2)] at e1
    exact Option.some.inj e1
  have e1 : (List.range n)[j]? = some j := List.getElem?_range (by omega)
  rw [h2, List.getElem?_append_left (by omega)] at e1
  have := h3 j (List.mem_of_getElem? e1)
  simpa using this
theorem first_none {n : Nat} {p : Nat → Bool} (h : first n p = none) : ∀ j, j < n → p j = false := fun j hj => by
  have := List.find?_eq_none.mp h j (List.mem_range.mpr hj)
  simpa using this
theorem first_is {n k : Nat} {p : Nat → Bool} (hk : k < n) (h1 : p k = true) (h2 : ∀ j, j < k → p j = false) : first n p = some k := by
  cases e : first n p with
  | none => have := first_none e k hk; rw [h1] at this; cases this
  | some m =>
    obtain ⟨a, b, c⟩ := first_some e
    rcases Nat.lt_trichotomy m k with l | l | l
    · have := h2 m l; rw [b] at this; cases this
    · rw [l]
    · have := c k l; rw [h1] at this; cases this
theorem first_not {n : Nat} {p : Nat → Bool} (h : ∀ j, j < n → p j = false) : first n p = none := by
  cases e : first n p with
  | none => rfl
  | some m =>
    obtain ⟨a, b, _⟩ := first_some e
    rw [h m a] at b; cases b
theorem first_ext {n : Nat} {p q : Nat → Bool} (h : ∀ i, i < n → p i = q i) : first n p = first n q := by
  cases e : first n p with
  | none => exact (first_not fun j hj => by rw [← h j hj]; exact first_none e j hj).symm
  | some m =>
    obtain ⟨a, b, c⟩ := first_some e
    exact (first_is a (by rw [← h m a]; exact b) fun j hj => by rw [← h j (by omega)]; exact c j hj).symm
/-- a lattice: its label, names, order and depth -/
structure Lt where
  label : Str
  names : List Str
  le : Nat → Nat → Bool
  depth : Nat
namespace Lt
def n (L : Lt) : Nat := L.names.length
def down (L : Lt) (b : Nat) : Nat := mask L.n fun a => L.le a b
def up (L : Lt) (a : Nat) : Nat := mask L.n fun b => L.le a b
def join (L : Lt) (a b : Nat) : Option Nat := first L.n fun k => L.up k == (L.up a &&& L.up b)
def meet (L : Lt) (a b : Nat) : Option Nat := first L.n fun k => L.down k == (L.down a &&& L.down b)
def bot (L : Lt) : Option Nat := first L.n fun k => L.up k == 2 ^ L.n - 1
def top (L : Lt) : Option Nat := first L.n fun k => L.down k == 2 ^ L.n - 1
def irr (L : Lt) (a : Nat) : Bool := (List.range L.n).any fun k => L.down k == mask L.n (fun i => L.le i a && !(i == a))
def irrs (L : Lt) : List Nat := (List.range L.n).filter L.irr
end Lt
def optV : Option Nat → V
  | none => .non
  | some k => .int k
def natV (l : List Nat) : List V := l.map fun k => V.int (k : Nat)
/-! ### defs that say super(): the frame with the class's cell -/
section
open PySem.W PyProof.Rows PySem.Calls
theorem lookup_class {cc c : Addr} {x : Str} (h : ([("__class__", cc)] : List (Str × Addr)).lookup x = some c) : x = "__class__" ∧ c = cc := by
  by_cases e : x = "__class__"
  · subst e
    simp at h
    exact ⟨rfl, h.symm⟩
  · have : (x == ("__class__" : Str)) = false := beq_eq_false_iff_ne.mpr e
    simp [List.lookup, this] at h
theorem start_get {N : List Str} {vs : List V} {i : Nat} {v : V} (h : (L2.start N vs)[i]? = some (some v)) : vs[i]? = some v := by
  rcases Nat.lt_or_ge i vs.length with hi | hi
  · simpa [L2.start, List.getElem?_append_left, hi] using h
  · simp only [L2.start, List.getElem?_append, List.length_map, Nat.not_lt.mpr hi, if_false, List.getElem?_replicate] at h
    split at h <;> cases h
end
section
open PySem.W PyProof.Rows PySem.Calls ClX
variable {X : Cx} {c : Code} {st : Stmt} {ss rest : List Stmt} {t u : TS}
/-- a suite run where the frame's own code stands below -/
structure PSa (X : Cx) (c : Code) (ss : List Stmt) (t : TS) : Prop where
  run : ∀ (pins : List (Addr × Obj)) (s : Shared) (σ : L2.St) (H : Hp) (D : Ends), Inv X pins σ H s → t D σ H → _root_.PySem.wpAt (model X.prog X.w) X.A c (execs ss X.env) (SP X pins D) X.xe s
theorem psa_any (h : PSs X ss t) : PSa X c ss t := ⟨fun pins s σ H D I q => _root_.PySem.wpAt_of_wpAny (h.run pins s σ H D I q)⟩
theorem psa_cons (h1 : PS X st t) (h2 : PSa X c rest u) : PSa X c (st :: rest) (tSeq t u) := by
  refine ⟨fun pins s σ H D I h => ?_⟩
  refine ks_wpAt_execs_cons (_root_.PySem.wpAt_of_wpAny (thn (h1.run pins s σ H { D with nx := u D } I h) fun f s1 q => ?_))
  match f, q with
  | .next, ⟨σ', H', I', q⟩ => exact h2.run pins s1 σ' H' D I' q
  | .ret v, q => exact q
  | .brk, q => exact q
  | .cont, q => exact q
/-- a local name, or one with a cell of the frame's own -/
def locK (sc : Scope) (x : Str) : Bool := match sc.names.lookup x with
  | some .local => true
  | some .cell => true
  | _ => false
theorem locK_vis {sc : Scope} {x : Str} (h : locK sc x = true) : Vis sc x := by
  unfold locK at h
  split at h
  · exact .inl ‹_›
  · exact .inr (.inl ‹_›)
  · cases h
theorem load_self {M : Model} {A : Around} {E : Value → Shared → Prop} {env : Env} {s : Shared} {me : Str} {u : Value} {m0 : Str → Option Value} {Q : Value → Shared → Prop} (hk : env.scope.kind = .function) (ka : locK env.scope me = true) (hn : s.heap.Ns env.locals m0) (lk : Look env s.heap m0 me u) (h : Q u s) : wpAny M A (loadName env me) Q E s := by
  rcases lk with ⟨a, q⟩ | ⟨a, c, e1, e2⟩
  · exact wpAny_loadName_local hk a hn q h
  · unfold locK at ka
    rcases a with a | a
    · exact wpAny_loadName_cell hk a e1 e2 h
    · have a' : env.scope.names.lookup me = some .free := a
      rw [a'] at ka
      cases ka
/-- what a frame with the class's cell knows of itself -/
structure SupX (X : Cx) (f cd cc D : Addr) (me : Str) : Prop where
  ks : X.env.scope.names.lookup ("super" : Str) = some .globalImplicit
  kc : X.env.scope.names.lookup ("__class__" : Str) = some .free
  ka : locK X.env.scope me = true
  fn : X.env.func = some f
  fd : ∃ o : Obj, X.K.lookup f = some o ∧ ∃ d : FuncData, o.data = .func d ∧ ∃ ar : Arg, (d.params.posonlyargs ++ d.params.args).head? = some ar ∧ ar.arg = me
  co : X.env.code = .ref cd
  cv : ∃ o : Obj, X.K.lookup cd = some o ∧ ∃ vs, o.data = .fields vs ∧ ∃ (file : Str) (tf : Tok), vs[2]? = some (.str file tf) ∧ ((X.prog.main.file : Str) == file) = true
  top : (X.prog.main.scope.names.lookup ("super" : Str)).isSome = false
  cl : X.env.cells.lookup ("__class__" : Str) = some cc
  cc : ∃ (a : Value) (b : Option Addr) (e : Array (Option Value)), X.K.lookup cc = some ⟨a, b, .cell (some (.ref D)), e⟩
  cls : ∃ cdD, clsIn X.K D = some cdD
  mg : X.mg "super" = none
  st : nsIn X.K cStatics "thirdparty.any" = some none
/-- super().m(..) where self stands in slot 0 -/
def tSup (K : PySem.W.Frag) (D : Addr) (m : Str) (f2 : Addr) (sp : Sp) (dvs : List V) (E : XK) (ta : TA) : TS := fun Dn σ H => ∃ (a C : Addr) (dx : Addr) (fs : List (Str × V)), σ[0]? = some (some (.ref a)) ∧ H a = some (.ins C dx fs) ∧ mroIn K C (.ref D) = some true ∧
  ks_superIn K C D m = some (some (.ref f2)) ∧ ta σ H fun vs H1 => sp (.ref a :: (vs ++ dvs)) H1 (fun _ H2 => Dn.nx σ H2) E
theorem cls_obj {K : PySem.W.Frag} {h : Heap} {D : Addr} {cd : ClassData} (k : K.In h) (e : clsIn K D = some cd) : ∃ oD, h.get? D = some oD ∧ oD.data = .cls cd := by
  unfold clsIn at e
  split at e
  · rename_i ho
    cases e
    exact ⟨_, k _ _ ho, rfl⟩
  · cases e
theorem run_fnC {pins : List (Addr × Obj)} {σ : L2.St} {H : Hp} {s : Shared} {CX : CXT} {k : Nat} {f : Addr} {fd : FuncData} {ps : List Str} {sp : Sp} {E : XK} {Q : VK} {us ds : List Value} {vs dvs : List V} (F : FnOk X.prog X.w X.K X.mg X.base CX k f fd ps sp) (hr : Room k X.A) (hb : Binds X.K fd ps ds) (hd : Vals dvs ds)
    (hx : Passes CX X E) (I : Inv X pins σ H s) (r : Vals vs us) (h : sp (vs ++ dvs) H Q E) :
    codeAny (model X.prog X.w) X.A (.call (.ref f) ⟨us, []⟩) (fun r s' => match r with | .ok (.ret v) => EP X pins σ Q v s' | .ok _ => False | .error e => X.xe e s') s := by
  have r2 : Vals (vs ++ dvs) (us ++ ds) := r.append hd
  have hl : (us ++ ds).length = ps.length := r2.length.symm.trans (F.len _ _ _ _ h)
  refine codeAny_mono (F.run X.A X.stack s H ⟨us, []⟩ (us ++ ds) (vs ++ dvs) Q E hr I.env0 (hb s us I.kIn hl) r2 h) fun r s' hq => ?_
  match r, hq with
  | .error e, hq => exact hx pins σ H s e s' I hq
  | .ok (.ret u), hq => exact I.after hq
  | .ok .next, hq => exact hq.elim
  | .ok .brk, hq => exact hq.elim
  | .ok .cont, hq => exact hq.elim
theorem psa_super {f cd cc D f2 : Addr} {me m : Str} {body : List Stmt} {p0 p1 apos pos pos' : Pos} {e : Expr} {es : List Expr} {ta : TA} {CX : CXT} {k : Nat} {fd2 : FuncData} {ps : List Str} {sp : Sp} {ds : List Value} {dvs : List V} {E : XK} {pl : Sem Bool}
    (S : SupX X f cd cc D me) (hN : X.N[0]? = some me) (ha : PA X (e :: es) ta) (F : FnOk X.prog X.w X.K X.mg X.base CX k f2 fd2 ps sp) (hr : Room k X.A) (hb : Binds X.K fd2 ps ds) (hd : Vals dvs ds) (hx : Passes CX X E)
    (ht : typeIn X.K (.ref f2) = some (.type "function")) (hf2 : fnIn X.K f2 = true) (hm : (m == ("__class__" : Str)) = false)
    (hst : starEach (e :: es) X.env = (false, eval e X.env) :: starEach es X.env) (hpl : (backTo pos (starEach es X.env)).any (·.1) = false)
    (hev : eval (.Call (.Attribute (.Call (.Name "super" p0) [] [] p1) m apos) (e :: es) [] pos) X.env = (do
      let ov ← attributeBase (.Call (.Name "super" p0) [] [] p1) m X.env (eval (.Call (.Name "super" p0) [] [] p1) X.env)
      standAt apos.atName
      let (g, first) ← holding [ov] (getMethod ov m pl)
      callWith pos g first (backTo pos (starEach (e :: es) X.env)) []) )
    (hi : interactive X.env = false) (hs : swapsWith (.Call (.Attribute (.Call (.Name "super" p0) [] [] p1) m apos) (e :: es) [] pos) none pos'.line X.env = pure false) (h2 : PSa X (.func body X.env) rest u) :
    PSa X (.func body X.env) (.Expr (.Call (.Attribute (.Call (.Name "super" p0) [] [] p1) m apos) (e :: es) [] pos) pos' :: rest) (tSeq (tSup X.K D m f2 sp dvs E ta) u) := by
  refine ⟨fun pins s σ H Dn I h => ?_⟩
  obtain ⟨a, C, dx, fs, h0, hins, hmro, hsup, h⟩ := h
  obtain ⟨hh, gg, dd, tt, os⟩ := s
  have KX : X.K.In hh := I.kIn
  obtain ⟨o1, l1, d1, e1, ar, hp1, har⟩ := S.fd
  obtain ⟨o2, l2, vs2, e2, file, tf, hv2, hfile⟩ := S.cv
  obtain ⟨ca, cb, ce, lc⟩ := S.cc
  obtain ⟨cdD, hcd⟩ := S.cls
  obtain ⟨oD, hD1, hD2⟩ := cls_obj KX hcd
  obtain ⟨m0, hn0, hlook⟩ := I.loc
  obtain ⟨uv, ru, lk⟩ := hlook 0 me (.ref a) hN h0 (locK_vis S.ka)
  obtain rfl : uv = Value.ref a := ru
  obtain ⟨mb, hb1, hb2⟩ := I.mod.blt
  refine ks_wpAt_execs_cons (ks_wpAt_Expr_any (ks_wpAt_MethodCall ?_ hev) hi hs)
  refine ks_wpAt_super_base S.ks S.kc hm S.fn (KX _ _ l1) e1 hp1 S.co (KX _ _ l2) e2 hv2 hfile S.top ?_
  refine ks_loadName_global I.ok.kind S.ks (loadGlobal_builtin (by rw [I.ok.glob]; exact I.mod.glob.keeps I.bk) S.mg (by rw [I.ok.blt]; exact hb1.keeps I.bk) ((hb2 _ (by decide)).trans (by first | rfl | decide +kernel)) ⟨rfl, ?_⟩)
  refine wpAny_loadName_free I.ok.kind S.kc S.cl ⟨_, KX _ _ lc, rfl⟩ ?_
  rw [har]
  refine load_self I.ok.kind S.ka hn0 lk ?_
  refine ks_wpAny_isType_cls hD1 hD2 ⟨rfl, ?_⟩
  obtain ⟨mA, O, _, _, _, _⟩ := ins_get I.hok hins
  have xC : a ≠ C := fun e => by
    have h1 := O.obj
    obtain ⟨oC, c1, c2⟩ : ∃ oC, hh.get? C = some oC ∧ ∃ cd2, oC.data = .cls cd2 := by
      cases hc : clsIn X.K C with
      | none => unfold ks_superIn at hsup; rw [hc] at hsup; cases hsup
      | some cd2 => obtain ⟨oC, c1, c2⟩ := cls_obj KX hc; exact ⟨oC, c1, cd2, c2⟩
    obtain ⟨cd2, c2⟩ := c2
    rw [e, c1] at h1
    rw [Option.some.inj h1] at c2
    cases c2
  refine ks_wpAny_call_super hD1 hD2 O.obj rfl (fun c z => nomatch z) (looks_mroIn KX hmro) (fun h' hso hk' => ?_)
  have I1 : Inv X ((hh.objs.size, ks_superObj D a C) :: pins) σ H ⟨h', gg, dd, tt, os⟩ := pin_new (t' := tt) I hk' (Nat.le_refl _) hso (fun v z => nomatch z)
  have K1 : X.K.In h' := I1.kIn
  cases hc : clsIn X.K C with
  | none => unfold ks_superIn at hsup; rw [hc] at hsup; cases hsup
  | some cdC =>
    unfold ks_superIn at hsup
    rw [hc] at hsup
    obtain ⟨of, hof, hofc⟩ : ∃ of, h'.get? f2 = some of ∧ of.cls = .type "function" := by
      have ht' : (X.K.lookup f2).map (·.cls) = some (.type "function") := ht
      cases z : X.K.lookup f2 with
      | none => rw [z] at ht'; cases ht'
      | some of => rw [z] at ht'; exact ⟨of, K1 _ _ z, Option.some.inj ht'⟩
    refine ks_wpAny_getMethod_super hso (looks_opaque K1 S.st) (l₀ := cdC.mro) (fun A Q E s k q => wpAny_bind ((looks_clsIn K1 hc) A _ E s k (wpAny_pure q))) rfl K1 hsup hof hofc xC hm ?_
    have I2 : Inv X ((h'.objs.size, methodObj (.ref f2) (.ref a)) :: (hh.objs.size, ks_superObj D a C) :: pins) σ H { (⟨h', gg, dd, tt, os⟩ : Shared) with heap := h'.push (methodObj (.ref f2) (.ref a)), toks := tt + 1 } := met_new I1
    refine callwith_cm I2 (base_none I1 (Nat.le_refl _)) hf2 (thn (ha.run pos _ _ σ H _ I2 h) fun us s3 ⟨vs, H1, I3, r3, q3⟩ => ⟨⟨pin_at I3, I3.kIn⟩, ?_⟩) hst hpl
    refine wpAny_call (method_call (pin_at I3) (codeAny_mono (run_fnC (us := .ref a :: us) (vs := .ref a :: vs) F hr hb hd hx I3 (.cons rfl r3) q3) fun r s4 hq => ?_))
    match r, hq with
    | .ok (.ret _), ⟨_, H', I', _, q⟩ => exact h2.run pins s4 σ H' Dn (unpin (unpin I')) q
    | .ok .next, hq => exact hq
    | .ok .brk, hq => exact hq
    | .ok .cont, hq => exact hq
    | .error e, hq => exact hq
end
/-! ### super().__init__(..) of an exception over ValueError -/
section
open PySem.W PyProof.Rows PySem.Calls ClX
theorem mro_VE {K : PySem.W.Frag} {C : Addr} (T : OexC K C) {y : String} (hy : PySem.HandSPX.veTail.contains (.type y) = true) : mroIn K C (.type y) = some true := by
  obtain ⟨nm, q, N, bs, bm, sn, sub, ab, col, dd, k0, k1, k2, k3, k5, hC, hbm⟩ := T.cls
  have hcl : clsIn K C = some { name := nm, bases := bs, mro := .ref C :: bm, ns := N, qualname := q, hasDict := true, slotNames := sn, subclasses := sub, abstract := ab, collection := col, hasDel := false } := by
    unfold clsIn
    rw [hC] <;> rfl
  have e := PySem.HandSPX.refsVE_contains y bm hbm
  unfold mroIn
  rw [hcl, Option.bind_some]
  show (if (List.isEmpty (Value.ref C :: bm)) = true then _ else some ((Value.ref C :: bm).contains (.type y))) = some true
  rw [if_neg (by simp)]
  rw [List.contains_cons, e, hy, Bool.or_true]
section
variable {prog : Program} {w : World} {A : Around} {E : Value → Shared → Prop} {h : Heap} {g : Array GenState} {d : Drawn} {t : Nat} {os : OsState}
variable {nm q : Str} {C N : Addr} {bs bm : List Value} {hdct : Bool} {sn : List Str} {sub : List Value} {ab : Bool} {col : Option Bool} {dd : Option Addr} {k0 k1 k2 k3 k5 : Option Value}
theorem mw_run {u e t0 : Addr} {rest : List Value} {Q : Value → Shared → Prop} (hC : h.get? C = some (excClassObj nm q C N bs bm hdct sn sub ab col dd k0 k1 k2 k3 k5 "ValueError.__new__")) (he : h.get? e = some (PySem.HandSPX.excO C t0))
    (hu : h.get? u = some (kxs_mw "ValueError.__init__" e)) (hz : rest.length ≤ sizeLine) (hq : ∀ h' t1, (∀ b o, b ≠ e → h.get? b = some o → h'.get? b = some o) → h'.get? e = some (PySem.HandSPX.excO C t1) → Q .none ⟨h', g, d, t, os⟩) :
    wpAny (model prog w) A (call (.ref u) rest) Q E ⟨h, g, d, t, os⟩ := by
  refine wpAny_call (codeAny_of_tree ?_)
  show wpAny _ A.in1 (callAny (.ref u) ⟨rest, []⟩) _ _ _
  simp only [callAny]
  refine wpAny_bind (wpAny_load hu ?_)
  simp only [kxs_mw]
  refine KFB.if_so (by decide) ?_
  refine wpAny_bind (PySem.ESX.check_bound F.excBase_ValueError hC he rfl ?_)
  refine wpAny_bind (wpAny_pure (wpAny_pure ?_))
  refine ⟨Code.quiet_builtin _ (by decide +kernel), codeAny_builtin F.excBase_ValueError.initEntry ?_⟩
  rw [Around.under_plainId F.excBase_ValueError.init.plain _]
  wp_walk
  refine hq _ h.objs.size (fun b o hb ho => ?_) ?_
  · rw [Heap.get?_update_other _ _ (Ne.symm hb)]; exact Heap.get?_push_of_some _ ho
  · rw [Heap.get?_update_self _ (Heap.get?_push_of_some _ he) rfl]; rfl
end
/-- super().m(..) where self is an exception that is being made -/
def tSupX (K : PySem.W.Frag) (D : Addr) (m : Str) (ta : TA) : TS := fun Dn σ H => ∃ (a C : Addr), σ[0]? = some (some (.ref a)) ∧ H a = some (exo a C none) ∧ OexC K C ∧ mroIn K C (.ref D) = some true ∧
  ks_superIn K C D m = some (some (.builtin "ValueError.__init__")) ∧ ta σ H fun vs H1 => vs.length ≤ 1000 ∧ H1 a = some (exo a C none) ∧ Dn.nx σ H1
variable {X : Cx} {c : Code} {st : Stmt} {ss rest : List Stmt} {t u : TS}
theorem psa_superX {f cd cc D : Addr} {me m : Str} {body : List Stmt} {p0 p1 apos pos pos' : Pos} {e : Expr} {es : List Expr} {ta : TA} {pl : Sem Bool}
    (S : SupX X f cd cc D me) (hN : X.N[0]? = some me) (ha : PA X (e :: es) ta) (hm : (m == ("__class__" : Str)) = false)
    (hst : starEach (e :: es) X.env = (false, eval e X.env) :: starEach es X.env) (hpl : (backTo pos (starEach es X.env)).any (·.1) = false)
    (hev : eval (.Call (.Attribute (.Call (.Name "super" p0) [] [] p1) m apos) (e :: es) [] pos) X.env = (do
      let ov ← attributeBase (.Call (.Name "super" p0) [] [] p1) m X.env (eval (.Call (.Name "super" p0) [] [] p1) X.env)
      standAt apos.atName
      let (g, first) ← holding [ov] (getMethod ov m pl)
      callWith pos g first (backTo pos (starEach (e :: es) X.env)) []) )
    (hi : interactive X.env = false) (hs : swapsWith (.Call (.Attribute (.Call (.Name "super" p0) [] [] p1) m apos) (e :: es) [] pos) none pos'.line X.env = pure false) (h2 : PSa X (.func body X.env) rest u) :
    PSa X (.func body X.env) (.Expr (.Call (.Attribute (.Call (.Name "super" p0) [] [] p1) m apos) (e :: es) [] pos) pos' :: rest) (tSeq (tSupX X.K D m ta) u) := by
  refine ⟨fun pins s σ H Dn I h => ?_⟩
  obtain ⟨a, C, h0, hins, TC, hmro, hsup, h⟩ := h
  obtain ⟨hh, gg, dd, tt, os⟩ := s
  have KX : X.K.In hh := I.kIn
  obtain ⟨o1, l1, d1, e1, ar, hp1, har⟩ := S.fd
  obtain ⟨o2, l2, vs2, e2, file, tf, hv2, hfile⟩ := S.cv
  obtain ⟨ca, cb, ce, lc⟩ := S.cc
  obtain ⟨cdD, hcd⟩ := S.cls
  obtain ⟨oD, hD1, hD2⟩ := cls_obj KX hcd
  obtain ⟨m0, hn0, hlook⟩ := I.loc
  obtain ⟨uv, ru, lk⟩ := hlook 0 me (.ref a) hN h0 (locK_vis S.ka)
  obtain rfl : uv = Value.ref a := ru
  obtain ⟨mb, hb1, hb2⟩ := I.mod.blt
  refine ks_wpAt_execs_cons (ks_wpAt_Expr_any (ks_wpAt_MethodCall ?_ hev) hi hs)
  refine ks_wpAt_super_base S.ks S.kc hm S.fn (KX _ _ l1) e1 hp1 S.co (KX _ _ l2) e2 hv2 hfile S.top ?_
  refine ks_loadName_global I.ok.kind S.ks (loadGlobal_builtin (by rw [I.ok.glob]; exact I.mod.glob.keeps I.bk) S.mg (by rw [I.ok.blt]; exact hb1.keeps I.bk) ((hb2 _ (by decide)).trans (by first | rfl | decide +kernel)) ⟨rfl, ?_⟩)
  refine wpAny_loadName_free I.ok.kind S.kc S.cl ⟨_, KX _ _ lc, rfl⟩ ?_
  rw [har]
  refine load_self I.ok.kind S.ka hn0 lk ?_
  refine ks_wpAny_isType_cls hD1 hD2 ⟨rfl, ?_⟩
  obtain ⟨nm, q, N, bs, bm, sn, sub, ab, col, dd0, k0, k1, k2, k3, k5, hC, hbm⟩ := id TC.cls
  obtain ⟨t1, ho⟩ := exo_at I.hok hins
  have hcl : clsIn X.K C = some { name := nm, bases := bs, mro := .ref C :: bm, ns := N, qualname := q, hasDict := true, slotNames := sn, subclasses := sub, abstract := ab, collection := col, hasDel := false } := by
    unfold clsIn
    rw [hC] <;> rfl
  have xC : a ≠ C := fun e => by
    have c1 := KX _ _ hC
    rw [← e, ho] at c1
    have c2 := congrArg Obj.data (Option.some.inj c1)
    cases c2
  refine ks_wpAny_call_super hD1 hD2 ho rfl (fun c z => nomatch z) (looks_mroIn KX hmro) (fun h' hso hk' => ?_)
  have I1 : Inv X ((hh.objs.size, ks_superObj D a C) :: pins) σ H ⟨h', gg, dd, tt, os⟩ := pin_new (t' := tt) I hk' (Nat.le_refl _) hso (fun v z => nomatch z)
  have K1 : X.K.In h' := I1.kIn
  obtain ⟨t2, ho2⟩ := exo_at I1.hok hins
  have J1 : InstAt h' a { cls := .ref C, dict := none, data := .fields #[.ref t2, .none, .none, .none, .bool false, .none] } C none := ⟨ho2, rfl, rfl, trivial⟩
  have isVE : Looks (model X.prog X.w) h' (isInstance (.ref a) (.type "ValueError")) true := J1.type.andThen (looks_mroIn K1 (mro_VE TC (by decide +kernel)))
  unfold ks_superIn at hsup
  rw [hcl] at hsup
  refine kxs_getMethod kxs_ValueError hso (looks_opaque K1 S.st) (l₀ := .ref C :: bm) (fun A Q E s k q => wpAny_bind ((looks_clsIn K1 hcl) A _ E s k (wpAny_pure q))) rfl K1 hsup isVE xC hm ?_
  have I2 : Inv X ((h'.objs.size, kxs_mw "ValueError.__init__" a) :: (hh.objs.size, ks_superObj D a C) :: pins) σ H { (⟨h', gg, dd, tt, os⟩ : Shared) with heap := h'.push (kxs_mw "ValueError.__init__" a), toks := tt + 1 } :=
    pin_new I1 (fun _ _ z => Heap.get?_push_of_some _ z) (Nat.le_refl _) (Heap.get?_push_size h' rfl) (fun v z => nomatch z)
  have hL : h'.objs.size ≠ X.env.locals := (I2.pin (h'.objs.size, kxs_mw "ValueError.__init__" a) (List.mem_append_right _ List.mem_cons_self)).2.2.1
  refine kxs_callWith1 (news_at hL (base_none I1 (Nat.le_refl _)) (pin_at I2)) List.mem_cons_self (thn (ha.run pos _ _ σ H _ I2 h) fun us s3 ⟨vs, H1, I3, r3, hl3, e3, q3⟩ => ⟨pin_at I3, ?_⟩) hst hpl
  obtain ⟨t3, ho3⟩ := exo_at I3.hok e3
  have hmw := pin_at I3
  obtain ⟨h3, g3, d3, k3', os3⟩ := s3
  have hlen : us.length ≤ sizeLine := by rw [← r3.length, sizeLine_eq]; omega
  refine mw_run (I3.kIn _ _ hC) ho3 hmw hlen (fun h4 t4 kk hx4 => ?_)
  have J := I3.write (t' := k3') (x := a) (e := a) (o := exo a C none) (by rw [e3]; exact True.intro) (.inl rfl) kk ⟨_, hx4⟩ (exo_ok hx4)
  have eu : upd H1 a (exo a C none) = H1 := by
    funext b
    by_cases hb : b = a
    · rw [hb, upd_same, e3]
    · rw [upd_ne hb]
  rw [eu] at J
  exact h2.run pins _ σ H1 Dn (unpin (unpin J)) q3
end
/-! ### the entry of a def with cells of its own and the class's cell -/
section
open PySem.W PyProof.Rows PySem.Calls
variable {M : Model} {A : Around} {E : Value → Shared → Prop} {s0 s : Shared} {m cm : Str → Option Value} {env : Env} {cs : List (Str × Addr)}
theorem stS_loc {n : Str} {v : Value} {Q : Unit → Shared → Prop} (x : InCallC s0 env.locals m cs cm s) (hk : env.scope.kind = .function) (hl : env.kindOf n = some .local)
    (h : ∀ s', InCallC s0 env.locals (fun y => if y = n then some v else m y) cs cm s' → Q () s') : wpAny M A (storeName env n v) Q E s := by
  refine wpAny_storeName_local hl x.toInCall.ns (fun h' hn' hs' => h _ ?_) (by rw [hk]; rfl)
  have le : ∀ b o, s0.heap.get? b = some o → b ≠ env.locals := fun b o e => Nat.ne_of_lt (Nat.lt_of_lt_of_le (Heap.lt_size e) x.toInCall.fresh)
  obtain ⟨h₁, tk, es⟩ := x.toInCall.same
  exact ⟨⟨⟨h', _, by rw [es]⟩, hn', fun b o e => hs'.extBut b o (le b o e) (x.toInCall.keep b o e), x.toInCall.fresh⟩,
    fun k c hc => (x.cell k c hc).sameBut hs' (Nat.ne_of_gt (x.above k c (PySem.mem_of_lookup hc))), x.apart, x.above⟩
theorem stS_cell {n : Str} {c : Addr} {v : Value} {Q : Unit → Shared → Prop} (x : InCallC s0 env.locals m cs cm s) (hk : env.scope.kind = .function) (hl : env.kindOf n = some .cell) (he : env.cells.lookup n = some c) (hc : cs.lookup n = some c)
    (h : ∀ s', InCallC s0 env.locals m cs (fun y => if y = n then some v else cm y) s' → Q () s') : wpAny M A (storeName env n v) Q E s := by
  have up := x.above n c (PySem.mem_of_lookup hc)
  refine wpAny_storeName_cell hk hl he (x.cell n c hc) fun h' hc' hs' => h _ ?_
  have le : ∀ b o, s0.heap.get? b = some o → b ≠ c := fun b o e => Nat.ne_of_lt (Nat.lt_trans (Nat.lt_of_lt_of_le (Heap.lt_size e) x.toInCall.fresh) up)
  obtain ⟨h₁, tk, es⟩ := x.toInCall.same
  refine ⟨⟨⟨h', _, by rw [es]⟩, x.toInCall.ns.sameBut hs' (Nat.ne_of_lt up), fun b o e => hs'.extBut b o (le b o e) (x.toInCall.keep b o e), x.toInCall.fresh⟩, fun k c' hk' => ?_, x.apart, x.above⟩
  by_cases hkn : k = n
  · subst hkn
    rw [hc] at hk'
    cases hk'
    simpa using hc'
  · rw [if_neg hkn]
    exact (x.cell k c' hk').sameBut hs' fun e => hkn (name_of_addr x.apart (PySem.mem_of_lookup hk') (e ▸ PySem.mem_of_lookup hc))
theorem bindS (f : Str × Value → PUnit → Sem (ForInStep PUnit)) (hf : ∀ n v u, f (n, v) u = (do storeName env n v; pure (.yield ⟨⟩))) (hk : env.scope.kind = .function) :
    ∀ (binds : List (Str × Value)) (m cm : Str → Option Value) (s : Shared) (Q : PUnit → Shared → Prop), InCallC s0 env.locals m cs cm s →
      (∀ y ∈ binds, env.kindOf y.1 = some .local ∨ (env.kindOf y.1 = some .cell ∧ ∃ c, cs.lookup y.1 = some c ∧ env.cells.lookup y.1 = some c)) →
      (∀ s', InCallC s0 env.locals (bindL env.kindOf binds m) cs (bindC env.kindOf binds cm) s' → Q ⟨⟩ s') → wpAny M A (forIn binds ⟨⟩ f) Q E s
  | [], m, cm, s, Q, x, _, h => by rw [List.forIn_nil]; exact wpAny_pure (h s x)
  | (n, v) :: r, m, cm, s, Q, x, hy, h => by
    have hr := fun y (q : y ∈ r) => hy y (.tail _ q)
    rw [List.forIn_cons, hf]
    rcases hy (n, v) (.head _) with hl | ⟨hl, c, hc, he⟩
    · refine wpAny_bind (wpAny_bind (stS_loc x hk hl fun s' x' => wpAny_pure (bindS f hf hk r _ _ s' Q x' hr fun s2 x2 => h s2 ?_)))
      show InCallC s0 env.locals (bindL env.kindOf r (if env.kindOf n = some .local then _ else m)) cs (bindC env.kindOf r (if env.kindOf n = some .local then cm else _)) s2
      rw [if_pos hl, if_pos hl]; exact x2
    · have hnl : ¬ env.kindOf n = some .local := by rw [hl]; decide
      refine wpAny_bind (wpAny_bind (stS_cell x hk hl he hc fun s' x' => wpAny_pure (bindS f hf hk r _ _ s' Q x' hr fun s2 x2 => h s2 ?_)))
      show InCallC s0 env.locals (bindL env.kindOf r (if env.kindOf n = some .local then _ else m)) cs (bindC env.kindOf r (if env.kindOf n = some .local then cm else _)) s2
      rw [if_neg hnl, if_neg hnl]; exact x2
theorem cells_app : ∀ (names : List (Str × NameKind)) (n : Nat) (acc cl : List (Str × Addr)), cellsFrom n names (acc ++ cl) = cellsFrom n names acc ++ cl
  | [], _, _, _ => rfl
  | (x, k) :: r, n, acc, cl => by
    unfold cellsFrom
    split
    · exact cells_app r (n + 1) ((x, n) :: acc) cl
    · exact cells_app r n acc cl
theorem newEnvS {scope : Scope} {globals : Addr} {cl : List (Str × Addr)} {binds : List (Str × Value)} {qual : Str} {func : Option Addr} {code : Value} {builtins : Addr} {Q : Env → Shared → Prop} (hk : scope.kind = .function)
    (hkind : ∀ y ∈ binds, scope.names.lookup y.1 = some .local ∨ (scope.names.lookup y.1 = some .cell ∧ ∃ c, (cellsFrom (s.heap.objs.size + 1) scope.names []).lookup y.1 = some c ∧ (cellsFrom (s.heap.objs.size + 1) scope.names [] ++ cl).lookup y.1 = some c))
    (hQ : ∀ env, env = newEnv scope s.heap.objs.size globals (cellsFrom (s.heap.objs.size + 1) scope.names [] ++ cl) qual func code none builtins →
      ∀ s', InCallC s env.locals (bindL env.kindOf binds fun _ => none) (cellsFrom (s.heap.objs.size + 1) scope.names []) (bindC env.kindOf binds fun _ => none) s' → Q env s') :
    wpAny M A (newFunctionEnv scope globals cl binds qual func code none builtins) Q E s := by
  simp only [newFunctionEnv, Option.isSome_none, Bool.false_eq_true, if_false]
  refine wpAny_bind (wpAny_alloc ?_)
  refine wpAny_bind (wpAny_layCells _ (fun x kind cells => by cases hkc : kind == NameKind.cell <;> simp [hkc]) scope.names cl _ _ ?_)
  have sz : (s.heap.push { cls := .type "frame", data := .dict #[] }).objs.size = s.heap.objs.size + 1 := Heap.size_push ..
  have ok := cellsFrom_ok scope.names (s.heap.push { cls := .type "frame", data := .dict #[] }) (s.heap.objs.size + 1) [] ⟨fun _ _ hm => (nomatch hm), List.Pairwise.nil⟩ (by rw [sz]; exact Nat.le_refl _)
  rw [sz] at ok
  have ec := cells_app scope.names (s.heap.objs.size + 1) [] cl
  rw [List.nil_append] at ec
  show wpAny M A _ Q E _
  rw [show ({ s with heap := s.heap.push { cls := .type "frame", data := .dict #[] } } : Shared).heap.objs.size = s.heap.objs.size + 1 from sz, ec]
  refine wpAny_bind (bindS (s0 := s) (cs := cellsFrom (s.heap.objs.size + 1) scope.names []) (env := newEnv scope s.heap.objs.size globals (cellsFrom (s.heap.objs.size + 1) scope.names [] ++ cl) qual func code none builtins)
    _ (fun _ _ _ => rfl) hk binds (fun _ => none) (fun _ => none) _ _ ?_ hkind fun s' x => wpAny_pure (hQ _ rfl s' x))
  exact ⟨⟨⟨_, _, rfl⟩, (Heap.Ns.new s.heap (.type "frame")).keeps (pushCells_keeps _ _), fun b o e => pushCells_keeps _ _ b o (Heap.get?_push_of_some _ e), Nat.le_refl _⟩,
    fun n c hc => (ok.empty n c (PySem.mem_of_lookup hc)).1, ok.apart, fun n c hm => (ok.empty n c hm).2⟩
end
section
open PySem.W PyProof.Rows PySem.Calls
/-- the frame: its own cells, and the class's -/
abbrev envK (qual : Str) (scope : Scope) (L f : Addr) (cd : Value) (cc : Addr) : Env := envX qual scope L f cd (cellsFrom (L + 1) scope.names [] ++ [((("__class__" : Str)), cc)])
def cxK (CX : CXT) (P : Program) (w : World) (K : PySem.W.Frag) (mg : Str → Option Value) (base : Heap) (N : List Str) (qual : Str) (scope : Scope) (f : Addr) (cd : Value) (cc : Addr) (A : Around) (outer : List Env) (s : Shared) (H : Hp) (E : XK) : Cx where
  prog := P
  w := w
  K := K
  mg := mg
  base := base
  A := A.deeper (envK qual scope s.heap.objs.size f cd cc)
  N := N
  s_0 := s
  H_0 := H
  env := envK qual scope s.heap.objs.size f cd cc
  outer := outer
  stack := envK qual scope s.heap.objs.size f cd cc :: outer
  ex := []
  calm := true
  fn := fun x => x != "__class__"
  pn := []
  xe := fun e s' => wpAny (model P w) (A.deeper (envK qual scope s.heap.objs.size f cd cc)) (leaving (envK qual scope s.heap.objs.size f cd cc) e) (fun _ s'' => CX outer H s E e s'') (fun e' s'' => CX outer H s E e' s'') s'
structure FnScopeK (N ps : List Str) (sc : Scope) : Prop where
  kind : sc.kind = .function
  co : sc.isCoroutine = false
  gen : sc.isGenerator = false
  nd : N.Nodup
  pre : N.take ps.length = ps
  par : ∀ x ∈ ps, (sc.names.lookup x = some .local ∨ sc.names.lookup x = some .cell)
  noC : ∀ y ∈ sc.names, y.2 = .cell → y.1 ≠ "__class__"
  free : ∀ y ∈ sc.names, y.2 = .free → y.1 = "__class__"
theorem cells_mem {x : Str} {c : Addr} : ∀ {names : List (Str × NameKind)} {n : Nat} {acc : List (Str × Addr)}, (x, c) ∈ cellsFrom n names acc → (x, c) ∈ acc ∨ (x, NameKind.cell) ∈ names
  | [], _, _, h => .inl h
  | (y, k) :: r, n, acc, h => by
    unfold cellsFrom at h
    split at h
    · rename_i hk
      rcases cells_mem h with h | h
      · rcases List.mem_cons.mp h with h | h
        · have ek : k = NameKind.cell := eq_of_beq hk
          cases h
          exact .inr (by rw [ek]; exact .head _)
        · exact .inl h
      · exact .inr (.tail _ h)
    · rcases cells_mem h with h | h
      · exact .inl h
      · exact .inr (.tail _ h)
theorem look_app {cs : List (Str × Addr)} {x : Str} {c cc : Addr} (h : (cs ++ [((("__class__" : Str)), cc)]).lookup x = some c) : cs.lookup x = some c ∨ (x = "__class__" ∧ c = cc) := by
  rw [List.lookup_append] at h
  cases e : cs.lookup x with
  | some d => rw [e] at h; exact .inl h
  | none =>
    rw [e] at h
    exact .inr (lookup_class (by simpa using h))
theorem look_own {cs : List (Str × Addr)} {x : Str} {c cc : Addr} (h : cs.lookup x = some c) : (cs ++ [((("__class__" : Str)), cc)]).lookup x = some c := by
  rw [List.lookup_append, h]; rfl
theorem look_class {cs : List (Str × Addr)} {cc : Addr} (h : cs.lookup (("__class__" : Str)) = none) : (cs ++ [((("__class__" : Str)), cc)]).lookup (("__class__" : Str)) = some cc := by
  rw [List.lookup_append, h]
  show ([("__class__", cc)] : List (Str × Addr)).lookup (("__class__" : Str)) = some cc
  simp [List.lookup]
theorem no_class {N ps : List Str} {sc : Scope} (S : FnScopeK N ps sc) (n : Nat) : (cellsFrom n sc.names []).lookup (("__class__" : Str)) = none := by
  cases e : (cellsFrom n sc.names []).lookup (("__class__" : Str)) with
  | none => rfl
  | some c =>
    rcases cells_mem (PySem.mem_of_lookup e) with h | h
    · cases h
    · exact absurd rfl (S.noC _ h rfl)
theorem inv_startK {CX : CXT} {P : Program} {w : World} {K : PySem.W.Frag} {mg : Str → Option Value} {base : Heap} {N ps : List Str} {qual : Str} {scope : Scope} {f cc : Addr} {cd : Value} {A : Around} {outer : List Env} {s s1 : Shared} {H : Hp} {E : XK} {us : List Value} {vs : List V}
    {ccl : Value} {cld : Option Addr} {cv : Value} {csl : Array (Option Value)}
    (S : FnScopeK N ps scope) (hd : A.handled = none) (e0 : Env0 P w K mg base A outer s H) (hl : vs.length = ps.length) (r : Vals vs us) (hcc : K.lookup cc = some ⟨ccl, cld, .cell (some cv), csl⟩)
    (x : InCallC s s.heap.objs.size (bindL (envK qual scope s.heap.objs.size f cd cc).kindOf (ps.zip us) fun _ => none) (cellsFrom (s.heap.objs.size + 1) scope.names []) (bindC (envK qual scope s.heap.objs.size f cd cc).kindOf (ps.zip us) fun _ => none) s1) :
    Inv (cxK CX P w K mg base N qual scope f cd cc A outer s H E) [] (L2.start N vs) H s1 := by
  have hpl : ps.length ≤ N.length := by have := congrArg List.length S.pre; rw [List.length_take] at this; omega
  have cb : base.get? cc = some ⟨ccl, cld, .cell (some cv), csl⟩ := e0.mod.kin _ _ hcc
  have sb := e0.bs _ _ cb
  have cl : cc < s.heap.objs.size := Heap.lt_size sb.1
  obtain ⟨h1, tk, es, hk⟩ := x.done
  subst es
  have noA : ∀ b : Addr, b ∉ (cxK CX P w K mg base N qual scope f cd cc A outer s H E).ex := fun b z => absurd (show b ∈ ([] : List Addr) from z) (by simp)
  have lk : ∀ {y : Str} {c : Addr}, (cxK CX P w K mg base N qual scope f cd cc A outer s H E).env.cells.lookup y = some c → (cellsFrom (s.heap.objs.size + 1) scope.names []).lookup y = some c ∨ (y = "__class__" ∧ c = cc) := fun h => look_app h
  have ab : ∀ {y : Str} {c : Addr}, (cellsFrom (s.heap.objs.size + 1) scope.names []).lookup y = some c → s.heap.objs.size < c := fun h => x.above _ _ (PySem.mem_of_lookup h)
  refine ⟨⟨e0.mod, S.kind, rfl, rfl, Nat.le_refl _, fun y z c h1 h2 => ?_, fun y hy => ?_, fun y c hf h => ?_, fun _ => hd, Around.frames_deeper e0.frames, .inr ⟨rfl, rfl⟩, fun b z => absurd z (noA b), e0.bs, e0.bsz, fun b _ _ => noA b, fun b z => absurd z (noA b), e0.funs, e0.frf⟩,
    rfl, e0.bare, Un.kept hk, ⟨_, x.toInCall.ns, fun i y v h1 h2 h3 => ?_⟩, fun y c h => ?_, e0.hok.fresh (Nat.le_refl _), fun y c h => ?_, fun p hp => absurd (show p ∈ ([] : List (Addr × Obj)) from hp) (by simp), e0.hok.kept hk, ?_⟩
  · rcases lk h1 with a | ⟨a, b⟩ <;> rcases lk h2 with a' | ⟨a', b'⟩
    · exact name_of_addr x.apart (PySem.mem_of_lookup a) (PySem.mem_of_lookup a')
    · have q := ab a; rw [b'] at q; exact absurd cl (Nat.lt_asymm q)
    · have q := ab a'; rw [b] at q; exact absurd cl (Nat.lt_asymm q)
    · exact a.trans a'.symm
  · have hy : scope.names.lookup y = some .cell ∨ scope.names.lookup y = some .free := hy
    rcases hy with hy | hy
    · obtain ⟨c, e⟩ := cell_has (n := s.heap.objs.size + 1) hy
      exact ⟨c, look_own e⟩
    · have ey : y = "__class__" := S.free _ (PySem.mem_of_lookup hy) rfl
      subst ey
      exact ⟨cc, look_class (no_class S _)⟩
  · rcases lk h with a | ⟨a, _⟩
    · exact Nat.le_of_lt (ab a)
    · subst a
      have : (("__class__" : Str) != "__class__") = true := hf
      simp at this
  · have ha := start_get h2
    obtain ⟨u, hu, rv⟩ := r.get ha
    have il : i < ps.length := hl ▸ (List.getElem?_eq_some_iff.mp ha).1
    have hp : ps[i]? = some y := (congrArg (·[i]?) S.pre).symm.trans ((List.getElem?_take_of_lt il).trans h1)
    have ndP : ps.Nodup := S.pre ▸ S.nd.sublist (List.take_sublist _ _)
    refine ⟨u, rv, ?_⟩
    rcases S.par y (List.mem_of_getElem? hp) with k | k
    · exact .inl ⟨k, bindL_get ndP hp hu k⟩
    · obtain ⟨c, e⟩ := cell_has (n := s.heap.objs.size + 1) k
      have q := x.cell y c e
      rw [bindC_get ndP hp hu (by show scope.names.lookup y ≠ _; rw [k]; decide)] at q
      exact .inr ⟨.inl k, c, look_own e, q⟩
  · rcases lk h with a | ⟨_, rfl⟩
    · exact ⟨_, x.cell y c a⟩
    · exact ⟨_, _, hk _ _ sb.1, rfl⟩
  · rcases lk h with a | ⟨_, rfl⟩
    · exact e0.hok.fresh (Nat.le_of_lt (ab a))
    · exact sb.2
  · show (L2.start N vs).length = N.length
    simp only [L2.start, List.length_append, List.length_map, List.length_replicate]
    omega
/-- a def that says super(), by its body -/
theorem fnK_of {CX : CXT} {P : Program} {w : World} {K : PySem.W.Frag} {mg : Str → Option Value} {base : Heap} {k : Nat} {f cc : Addr} {name qual : Str} {params : Arguments} {body : List Stmt} {scope : Scope} {dV kV doc pm cdv ct oc : Value} {an od : Option Addr}
    {osl : Array (Option Value)} {N ps : List Str} {sp : Sp} {ccl : Value} {cld : Option Addr} {cv : Value} {csl : Array (Option Value)} (lk : K.lookup f = some ⟨oc, od, .func (ksFn name qual params body scope dV kV doc pm an cdv ct cc), osl⟩)
    (hcc : K.lookup cc = some ⟨ccl, cld, .cell (some cv), csl⟩) (hcd : PySem.W.codeIn K cdv qual = true) (S : FnScopeK N ps scope) (len : ∀ vs H Q E, sp vs H Q E → vs.length = ps.length)
    (hbody : ∀ (A : Around) (outer : List Env) (s : Shared) (H : Hp) (vs : List V) (Q : VK) (E : XK), Room k (A.deeper (envK qual scope s.heap.objs.size f cdv cc)) → sp vs H Q E →
      ∃ t, PSa (cxK CX P w K mg base N qual scope f cdv cc A outer s H E) (.func body (envK qual scope s.heap.objs.size f cdv cc)) body t ∧ t { nx := fun _ H' => Q .non H', rt := Q } (L2.start N vs) H) :
    FnOk P w K mg base CX (k + 1) f (ksFn name qual params body scope dV kV doc pm an cdv ct cc) ps sp := by
  refine ⟨len, fun A outer s H args us vs Q E hr e0 hb r hsp => ?_⟩
  have hl := len _ _ _ _ hsp
  have KX : K.In s.heap := e0.mod.kin.keeps fun b o e => (e0.bs b o e).1
  have lim : s.heap.NoLimit := e0.mod.nolimit.keeps fun b o e => (e0.bs b o e).1
  obtain ⟨t, ht, hq⟩ := hbody A outer s H vs Q E (hr.deeper _) hsp
  have hkind : ∀ y ∈ ps.zip us, scope.names.lookup y.1 = some .local ∨ (scope.names.lookup y.1 = some .cell ∧ ∃ c, (cellsFrom (s.heap.objs.size + 1) scope.names []).lookup y.1 = some c ∧ (cellsFrom (s.heap.objs.size + 1) scope.names [] ++ [((("__class__" : Str)), cc)]).lookup y.1 = some c) := fun y hy => by
    rcases S.par y.1 (List.of_mem_zip (a := y.1) (b := y.2) hy).1 with q | q
    · exact .inl q
    · obtain ⟨c, e⟩ := cell_has (n := s.heap.objs.size + 1) q
      exact .inr ⟨q, c, e, look_own e⟩
  refine codeAny_call_function hr.depth (KX _ _ lk) rfl S.co S.gen rfl (codeRec_of KX hcd) (hb _ _ _ _ ?_)
  refine newEnvS S.kind hkind fun env he s1 x => ?_
  subst he
  refine ⟨lim.keeps x.toInCall.keep, ks_codeAny_funcAt ?_⟩
  have I : Inv (cxK CX P w K mg base N qual scope f cdv cc A outer s H E) [] (L2.start N vs) H s1 := inv_startK S hr.hd e0 hl r hcc x
  refine ks_wpAt_mono (ht.run [] _ (L2.start N vs) H _ I hq) (fun fl s' hs => ?_) fun e s' hs => hs
  have fin : ∀ {σ' : L2.St} {H' : Hp} {v : V} {u : Value}, Inv (cxK CX P w K mg base N qual scope f cdv cc A outer s H E) [] σ' H' s' → RelV v u → Q v H' → CE outer P w H s Q u s' :=
    fun {σ' H' v u} J rv q => ⟨v, H', J.os, J.bare, J.base, J.hok, rv, q⟩
  match fl, hs with
  | .ret u, ⟨v, σ', H', J, rv, q⟩ => exact fin J rv q
  | .next, ⟨σ', H', J, q⟩ => exact fin (v := V.non) (u := Value.none) J rfl q
  | .brk, ⟨_, _, _, q⟩ => exact q.elim
  | .cont, ⟨_, _, _, q⟩ => exact q.elim
end
section
/-- a def of the text that says super(): its record, its cell, its code's file -/
structure FunK (K : PySem.W.Frag) (PL : Program) (x qual : Str) (st : Stmt) (f : Addr) (fd : FuncData) (D : Addr) : Prop where
  ex : ∃ (oc : Value) (od : Option Addr) (kV doc pm : Value) (an : Option Addr) (cda : Addr) (ct : Value) (osl : Array (Option Value)) (cc : Addr), fd = PySem.W.ksFn x qual (defArgs st) (defBody st) (defScope st) .none kV doc pm an (.ref cda) ct cc ∧
    K.lookup f = some ⟨oc, od, .func fd, osl⟩ ∧ PySem.W.codeIn K (.ref cda) qual = true ∧ (∃ a b e, K.lookup cc = some ⟨a, b, .cell (some (.ref D)), e⟩) ∧
    ∃ o : Obj, K.lookup cda = some o ∧ ∃ vs, o.data = .fields vs ∧ ∃ (file : Str) (tf : Tok), vs[2]? = some (.str file tf) ∧ ((PL.main.file : Str) == file) = true
  kp : PySem.W.keepIn K (.ref f) = true
theorem funK_mk {K : PySem.W.Frag} {PL : Program} {x qual : Str} {st : Stmt} {f D cda cc : Addr} {oc : Value} {od an vb cb : Option Addr} {osl ve ce : Array (Option Value)} {kV doc pm ct va ca : Value} {vs : Array Value} {fl : Str} {tf : Tok}
    (l : K.lookup f = some ⟨oc, od, .func (PySem.W.ksFn x qual (defArgs st) (defBody st) (defScope st) .none kV doc pm an (.ref cda) ct cc), osl⟩) (c : PySem.W.codeIn K (.ref cda) qual = true) (k : PySem.W.keepIn K (.ref f) = true)
    (q : K.lookup cc = some ⟨ca, cb, .cell (some (.ref D)), ce⟩) (v : K.lookup cda = some ⟨va, vb, .fields vs, ve⟩) (vf : vs[2]? = some (.str fl tf)) (vg : ((PL.main.file : Str) == fl) = true) :
    FunK K PL x qual st f (PySem.W.ksFn x qual (defArgs st) (defBody st) (defScope st) .none kV doc pm an (.ref cda) ct cc) D :=
  ⟨⟨oc, od, kV, doc, pm, an, cda, ct, osl, cc, rfl, l, c, ⟨_, _, _, q⟩, _, v, vs, rfl, fl, tf, vf, vg⟩, k⟩
theorem FunK.binds {K : PySem.W.Frag} {PL : Program} {x qual : Str} {st : Stmt} {f D : Addr} {fd : FuncData} {ps : List Str} (F : FunK K PL x qual st f fd D)
    (h : ∀ (kV doc pm : Value) (an : Option Addr) (cdv ct : Value) (cc : Addr) (us : List Value), us.length = ps.length → bindArgs (PySem.W.ksFn x qual (defArgs st) (defBody st) (defScope st) .none kV doc pm an cdv ct cc) ⟨us, []⟩ = pure (ps.zip us)) : Binds K fd ps [] := by
  obtain ⟨oc, od, kV, doc, pm, an, cda, ct, osl, cc, rfl, _⟩ := F.ex
  exact .all (h kV doc pm an (.ref cda) ct cc)
end
section
/-- a def of the text with defaults (their tuple at t) -/
structure FunD (K : PySem.W.Frag) (x qual : Str) (st : Stmt) (f : Addr) (fd : FuncData) (t : Addr) : Prop where
  ex : ∃ (oc : Value) (od : Option Addr) (kV doc pm : Value) (an : Option Addr) (cdv ct : Value) (osl : Array (Option Value)),
    fd = PySem.W.fnOf x qual (defArgs st) (defBody st) (defScope st) (.ref t) kV doc pm an cdv ct ∧ K.lookup f = some ⟨oc, od, .func fd, osl⟩ ∧ PySem.W.codeIn K cdv qual = true
  kp : PySem.W.keepIn K (.ref f) = true
theorem FunD.ok {P : Program} {w : World} {K : PySem.W.Frag} {mg : Str → Option Value} {base : Heap} {x qual : Str} {st : Stmt} {f t0 : Addr} {fd : FuncData} {N ps : List Str} {k : Nat} {sp : Sp} (F : FunD K x qual st f fd t0) (S : FnScope N ps (defScope st))
    (len : ∀ vs H Q E, sp vs H Q E → vs.length = ps.length)
    (hbody : ∀ (cdv : Value) (A : Around) (outer : List Env) (s : Shared) (H : Hp) (vs : List V) (Q : VK) (E : XK), Room k (A.deeper (PyProof.Rows.envOfC qual (defScope st) s.heap.objs.size f cdv)) → sp vs H Q E →
      ∃ t, PSs (cxOf CX0 P w K mg base N qual (defScope st) f cdv A outer s H E).nox (defBody st) t ∧ t { nx := fun _ H' => Q .non H', rt := Q } (L2.start N vs) H) : FnOk P w K mg base CX0 (k + 1) f fd ps sp := by
  obtain ⟨oc, od, kV, doc, pm, an, cdv, ct, osl, rfl, lk, hcd⟩ := F.ex
  refine fn_of lk hcd S len fun A outer s H vs Q E hr hsp => ?_
  obtain ⟨t, h, q⟩ := hbody cdv A outer s H vs Q E hr hsp
  exact ⟨t, h.nox, q⟩
end
section
open PySem.W PyProof.Rows
/-- what the frame of such a def knows of itself -/
theorem supK {CX : CXT} {P PL : Program} {w : World} {K : PySem.W.Frag} {mg : Str → Option Value} {base : Heap} {N ps : List Str} {qual : Str} {st : Stmt} {f cda cc D : Addr} {me : Str} {A : Around} {outer : List Env} {s : Shared} {H : Hp} {E : XK}
    {x : Str} {oc kV doc pm ct : Value} {od an : Option Addr} {osl : Array (Option Value)} (hP : P = PL)
    (l : K.lookup f = some ⟨oc, od, .func (PySem.W.ksFn x qual (defArgs st) (defBody st) (defScope st) .none kV doc pm an (.ref cda) ct cc), osl⟩) (q : ∃ a b e, K.lookup cc = some ⟨a, b, .cell (some (.ref D)), e⟩)
    (v : ∃ o : Obj, K.lookup cda = some o ∧ ∃ vs, o.data = .fields vs ∧ ∃ (file : Str) (tf : Tok), vs[2]? = some (.str file tf) ∧ ((PL.main.file : Str) == file) = true)
    (S : FnScopeK N ps (defScope st)) (ks : (defScope st).names.lookup ("super" : Str) = some .globalImplicit) (kc : (defScope st).names.lookup ("__class__" : Str) = some .free) (ka : locK (defScope st) me = true)
    (ar : ∃ ar : Arg, ((defArgs st).posonlyargs ++ (defArgs st).args).head? = some ar ∧ ar.arg = me) (top : (P.main.scope.names.lookup ("super" : Str)).isSome = false) (cls : ∃ cd, clsIn K D = some cd) (hm : mg "super" = none) (sa : nsIn K cStatics "thirdparty.any" = some none) :
    SupX (cxK CX P w K mg base N qual (defScope st) f (.ref cda) cc A outer s H E) f cda cc D me := by
  subst hP
  exact ⟨ks, kc, ka, rfl, ⟨_, l, _, rfl, ar⟩, rfl, v, top, look_class (no_class S _), q, cls, hm, sa⟩
/-- THE RULE for a def that says super(): the program is PL itself -/
theorem FunK.ok {CX : CXT} {PL : Program} {w : World} {K : PySem.W.Frag} {mg : Str → Option Value} {base : Heap} {x qual : Str} {st : Stmt} {f D : Addr} {fd : FuncData} {N ps : List Str} {k : Nat} {sp : Sp} {me : Str} (F : FunK K PL x qual st f fd D) (S : FnScopeK N ps (defScope st))
    (ks : (defScope st).names.lookup ("super" : Str) = some .globalImplicit) (kc : (defScope st).names.lookup ("__class__" : Str) = some .free) (ka : locK (defScope st) me = true)
    (ar : ∃ ar : Arg, ((defArgs st).posonlyargs ++ (defArgs st).args).head? = some ar ∧ ar.arg = me) (top : (PL.main.scope.names.lookup ("super" : Str)).isSome = false) (cls : ∃ cd, clsIn K D = some cd) (hm : mg "super" = none) (sa : nsIn K cStatics "thirdparty.any" = some none)
    (len : ∀ vs H Q E, sp vs H Q E → vs.length = ps.length)
    (hbody : ∀ (cda cc : Addr) (A : Around) (outer : List Env) (s : Shared) (H : Hp) (vs : List V) (Q : VK) (E : XK), Room k (A.deeper (envK qual (defScope st) s.heap.objs.size f (.ref cda) cc)) → SupX (cxK CX PL w K mg base N qual (defScope st) f (.ref cda) cc A outer s H E) f cda cc D me → sp vs H Q E →
      ∃ t, PSa (cxK CX PL w K mg base N qual (defScope st) f (.ref cda) cc A outer s H E) (.func (defBody st) (envK qual (defScope st) s.heap.objs.size f (.ref cda) cc)) (defBody st) t ∧ t { nx := fun _ H' => Q .non H', rt := Q } (L2.start N vs) H) :
    FnOk PL w K mg base CX (k + 1) f fd ps sp := by
  obtain ⟨oc, od, kV, doc, pm, an, cda, ct, osl, cc, rfl, lk, hcd, ⟨a, b, e, lc⟩, v⟩ := F.ex
  exact fnK_of lk lc hcd S len fun A outer s H vs Q E hr hsp => hbody cda cc A outer s H vs Q E hr (supK rfl lk ⟨a, b, e, lc⟩ v S ks kc ka ar top cls hm sa) hsp
end
/-! ### exceptions over any built-in base: made by a walked __init__, super().__init__ within it -/
section
open PySem.W PyProof.Rows PySem.Calls ClX Builtin Builtin.ObjectAttr
/-- what is known of the built-in base -/
structure XB (B nw ini : String) (bl : List Value) : Prop where
  F : ExcBaseFacts B nw ini bl
  S : StoreFacts B bl "object.__setattr__" "object"
  Z : KxsFacts B ini
  qi : ini.startsWith "lifetime." = false
theorem xb_VE : XB "ValueError" "ValueError.__new__" "ValueError.__init__" [.type "ValueError", .type "Exception", .type "BaseException", .type "object"] := ⟨F.excBase_ValueError, F.store_ValueError, kxs_ValueError, by decide +kernel⟩
theorem xb_LE : XB "LookupError" "LookupError.__new__" "LookupError.__init__" [.type "LookupError", .type "Exception", .type "BaseException", .type "object"] := ⟨F.excBase_LookupError, F.store_LookupError, kxs_LookupError, by decide +kernel⟩
/-- own classes, then the base's row -/
inductive Ov (bl : List Value) : List Value → Prop where
  | nil : Ov bl bl
  | cons {c : Addr} {l : List Value} : Ov bl l → Ov bl (.ref c :: l)
theorem Ov.pass {B nw ini : String} {bl : List Value} (X : XB B nw ini bl) (self : Value) : ∀ {l : List Value}, Ov bl l → refuseLoop self "__setattr__" l = pure ()
  | _, .nil => X.S.passes self
  | _, .cons h => by rw [refuseLoop_ref]; exact h.pass X self
theorem Ov.has {bl : List Value} (x : String) : ∀ {l : List Value}, Ov bl l → l.contains (.type x) = bl.contains (.type x)
  | _, .nil => rfl
  | _, .cons h => by rw [List.contains_cons, h.has x]; rfl
theorem Ov.ne {B nw ini : String} {bl l : List Value} (X : XB B nw ini bl) (h : Ov bl l) : l.isEmpty = false := by
  cases h with
  | nil => exact List.isEmpty_eq_false_iff.mpr (fun z => by have := X.F.hasB; rw [z] at this; cases this)
  | cons _ => rfl
structure OexG (nw : String) (bl : List Value) (K : PySem.W.Frag) (C : Addr) : Prop where
  cls : ∃ nm q N bs bm sn sub ab col dd k0 k1 k2 k3 k5, K.lookup C = some (excClassObj nm q C N bs bm true sn sub ab col dd k0 k1 k2 k3 k5 nw) ∧ Ov bl bm
  sa : findIn K (.ref C) "__setattr__" = some (some (.builtin "object.__setattr__"))
  exC : subIn K (.ref C) (.type "BaseException") = some true
  tyC : typeIn K (.ref C) = some (.type "type")
  kC : keepIn K (.ref C) = true
theorem OexG.mro {B nw ini : String} {bl : List Value} (X : XB B nw ini bl) {K : PySem.W.Frag} {C : Addr} (T : OexG nw bl K C) {y : String} (hy : bl.contains (.type y) = true) : mroIn K C (.type y) = some true := by
  obtain ⟨nm, q, N, bs, bm, sn, sub, ab, col, dd, k0, k1, k2, k3, k5, hC, hb⟩ := T.cls
  have hcl : clsIn K C = some { name := nm, bases := bs, mro := .ref C :: bm, ns := N, qualname := q, hasDict := true, slotNames := sn, subclasses := sub, abstract := ab, collection := col, hasDel := false } := by
    unfold clsIn; rw [hC] <;> rfl
  unfold mroIn
  rw [hcl, Option.bind_some, if_neg (by simp), List.contains_cons, hb.has, hy, Bool.or_true]
section
variable {prog : Program} {w : World} {A : Around} {R : Result → Shared → Prop} {hp : Heap} {g : Array GenState} {d : Drawn} {t : Nat} {os : OsState} {B nw ini : String} {bl : List Value}
/-- self.x = v, the first one -/
theorem exg_osa (XX : XB B nw ini bl) {K : W.Frag} {name : Str} {tk : Tok} {v : Value} {x C : Addr} {fv : Array Value} {cd : ClassData} {row : List Value}
    (X : K.In hp) (hx : hp.get? x = some { cls := .ref C, data := .fields fv }) (hcd : clsIn K C = some cd) (hm : cd.mro = .ref C :: row) (ho : Ov bl row) (hh : cd.hasDict = true) (hno : findIn K (.ref C) name = some none)
    (hq : ∀ h' tk' dx, (∀ b o, b ≠ x → hp.get? b = some o → h'.get? b = some o) → hp.objs.size ≤ dx → dx ≠ x → h'.get? x = some { cls := .ref C, dict := some dx, data := .fields fv } →
      h'.Ns1 dx (fun y => if y = name then some v else none) → R (.ok (.ret .none)) ⟨h', g, d, tk', os⟩) :
    codeAny (model prog w) A (.call (.builtin "object.__setattr__") ⟨[.ref x, .str name tk, v], []⟩) R ⟨hp, g, d, t, os⟩ := by
  have J : InstAt hp x { cls := .ref C, data := .fields fv } C none := ⟨hx, rfl, rfl, trivial⟩
  have G := F.store_object
  have hob : cd.mro.contains (.type "object") = true := by rw [hm, List.contains_cons, ho.has]; exact (by rw [XX.S.hasOwner, Bool.or_true])
  have hne : cd.mro.isEmpty = false := by rw [hm]; rfl
  have hxs : x ≠ hp.objs.size := Nat.ne_of_lt (Heap.lt_size hx)
  have sub : Looks (model prog w) hp (isInstance (.ref x) (.type "object")) true := J.type.andThen (looks_mroIn X (by unfold mroIn; rw [hcd, Option.bind_some, if_neg (by rw [hne]; decide), hob]))
  refine codeAny_call_builtin G.slot.plain G.entry (@check_slot (model prog w) _ _ ⟨hp, g, d, t, os⟩ "object.__setattr__" "object" "__setattr__" (.ref x) [.str name tk, v] [] _ G.kind G.split sub (G.args (.ref x) (.str name tk) v) ?_)
  have l1 : Looks (model prog w) hp (mroOf (.ref C)) cd.mro := (looks_clsIn X hcd).andThen .now
  have l2 : Looks (model prog w) hp (storeTaker? none) none := .now
  have l3 : Looks (model prog w) hp (classData C) cd := looks_clsIn X hcd
  have pass : refuseLoop (.ref x) "__setattr__" cd.mro = pure () := by rw [hm, refuseLoop_ref]; exact ho.pass XX _
  rw [osa_eq, refuse_eq]
  refine wpAny_bind (wpAny_bind (J.type.at (wpAny_bind (l1.at ?_))))
  rw [pass]
  refine wpAny_pure (wpAny_bind (J.type.at (wpAny_bind ((looks_findIn X hno).at (wpAny_bind (l2.at ?_))))))
  show wpAny _ _ (storeInOwnDict (.ref x) (.ref C) (.str name tk) name v false) _ _ _
  obtain ⟨nm, bs, mro, ns, qn, hd, sn, sb, ab, col, del⟩ := cd
  dsimp only at hh
  subst hh
  unfold storeInOwnDict ownDictForStores
  repeat (first | with_reducible refine HandSPX.store_in_new ?_ ?_ | with_reducible refine wpAny_loadPart_at hx ?_ | with_reducible refine l3.at ?_ | wp_step)
  · exact ⟨_, #[], _, (Heap.get?_update_ne _ _ _ _ hxs.symm).trans (Heap.get?_push_at rfl rfl), rfl, fun e he => absurd he (by simp), fun _ => rfl⟩
  · intro h' tk' hn' hs
    have hy : (hp.push { cls := .type "dict", data := .dict #[] }).get? x = some { cls := .ref C, data := .fields fv } := Heap.get?_push_of_some _ hx
    refine hq h' tk' hp.objs.size (fun b o hb ho => ?_) (Nat.le_refl _) hxs.symm ?_ hn'
    · exact (hs.2 b (Nat.ne_of_lt (Heap.lt_size ho))).trans ((Heap.get?_update_ne _ _ _ _ hb).trans (Heap.get?_push_of_some _ ho))
    · exact (hs.2 x hxs).trans (Heap.get?_update_self _ hy rfl)
end
section
variable {X : Cx} {pins : List (Addr × Obj)} {σ : L2.St} {H : Hp} {s : Shared} {a C dx : Addr} {f : Str} {y : V} {u : Value} {B nw ini : String} {bl : List Value}
theorem exg_set (XX : XB B nw ini bl) {Q : Unit → Shared → Prop} {E : Value → Shared → Prop} {A : Around} (T : OexG nw bl X.K C) (I : Inv X pins σ H s) (e : H a = some (exo a C none)) (hno : findIn X.K (.ref C) f = some none) (ry : RelV y u)
    (h : ∀ dx s', H dx = none → dx ≠ a → Inv X pins σ (upd (upd H dx (exd dx [(f, y)])) a (exo a C (some dx))) s' → Q () s') : wpAny (model X.prog X.w) A (setAttr (.ref a) f u) Q E s := by
  obtain ⟨nm, q, N, bs, bm, sn, sub, ab, col, dd, k0, k1, k2, k3, k5, hC, hbm⟩ := T.cls
  have hcl : clsIn X.K C = some { name := nm, bases := bs, mro := .ref C :: bm, ns := N, qualname := q, hasDict := true, slotNames := sn, subclasses := sub, abstract := ab, collection := col, hasDel := false } := by
    unfold clsIn; rw [hC] <;> rfl
  obtain ⟨t1, ho⟩ := exo_at I.hok e
  obtain ⟨hp, gg, dd', tt, os⟩ := s
  refine set_plain I.kIn (ox := { cls := .ref C, dict := none, data := .fields #[.ref t1, .none, .none, .none, .bool false, .none] }) (od := none) ⟨ho, rfl, rfl, trivial⟩ T.sa ?_
  refine exg_osa XX I.kIn ho hcl rfl hbm rfl hno (fun h' tk' dx k dn dne hx hn => ?_)
  have hnd : H dx = none := I.hok.fresh dn
  have nd : ∀ {b : Addr} {o : Obj}, hp.get? b = some o → b ≠ dx := fun {b o} q => Nat.ne_of_lt (Nat.lt_of_lt_of_le (Heap.lt_size q) dn)
  have na : ∀ {b : Addr}, H b = none → b ≠ a := fun {b} n z => by rw [z, e] at n; cases n
  have U : Un X.fs [] H (upd (upd H dx (exd dx [(f, y)])) a (exo a C (some dx))) hp h' := {
    keep := fun b o q n _ _ => k b o (na n) q
    slot := fun b o q n _ _ => ⟨o.slots, k b o (na n) q⟩
    free := fun b o q n _ => by rw [upd_ne (na n), upd_ne (nd q)]; exact n
    there := fun b o q _ => by
      by_cases hb : b = a
      · exact ⟨_, by rw [hb]; exact hx⟩
      · exact ⟨o, k b o hb q⟩
    tups := fun b xs q => by rw [upd_ne (at_ne e q exo_tup), upd_ne (ne_of_none q hnd)]; exact q
    frzs := fun b o v q => by rw [upd_ne (at_ne e q exo_frz), upd_ne (ne_of_none q hnd)]; exact q
    tbls := fun b ps q => ⟨#[], by rw [upd_ne (at_ne e q exo_tbl), upd_ne (ne_of_none q hnd), q]; simp⟩ }
  refine h dx _ hnd dne (I.un (t' := tk') U fun b o q => ?_)
  by_cases hb : b = a
  · subst hb
    rw [upd_same] at q
    cases q
    exact exo_ok hx
  rw [upd_ne hb] at q
  by_cases hd : b = dx
  · subst hd
    rw [upd_same] at q
    cases q
    exact exd_ok hn (relO_put (fs := []) ry fun g => True.intro)
  rw [upd_ne hd] at q
  refine (I.hok b o q).stay (fun c v hc z => k c v ?_ z) (fun c hc => ?_) (fun c xs hc => ?_)
  · rcases hc with hc | hc
    · rw [hc]; exact hb
    · exact at_ne e hc exo_own
  · rw [upd_ne (at_ne e hc exo_own), upd_ne (ne_of_none hc hnd)]; exact hc
  · rw [upd_ne (at_ne e hc exo_tup), upd_ne (ne_of_none hc hnd)]; exact hc
end
/-- self.f = e, self an exception without a dict -/
def tSetG (nw : String) (bl : List Value) (K : PySem.W.Frag) (f : Str) (to te : TE) : TS := fun D σ H => te σ H fun y H1 => to σ H1 fun x H2 => ∃ a C : Addr, x = .ref a ∧ OexG nw bl K C ∧ findIn K (.ref C) f = some none ∧
  H2 a = some (exo a C none) ∧ ∀ dx, H2 dx = none → dx ≠ a → D.nx σ (upd (upd H2 dx (exd dx [(f, y)])) a (exo a C (some dx)))
theorem ps_setG {B nw ini : String} {bl : List Value} (XX : XB B nw ini bl) {X : Cx} {o e : Expr} {to te : TE} {f : Str} {p' pos : Pos} (ho : PE X o to) (he : PE X e te) (hs : swapsWith e (some (.Attribute o f p')) pos.line X.env = pure false := by rfl) :
    PS X (.Assign [.Attribute o f p'] e pos) (tSetG nw bl X.K f to te) := by
  refine ⟨fun pins s σ H D I h => ?_⟩
  refine plainObj_wpAny_Assign_Attribute (thn (he.run pins s σ H _ I h) fun v s1 ⟨y, H1, I1, r1, q1⟩ => thn (ho.run pins s1 σ H1 _ I1 q1) fun u s2 ⟨x, H2, I2, r2, a, C, ex, T, hno, ea, q⟩ => ?_) hs
  subst ex
  obtain rfl : u = Value.ref a := r2
  exact exg_set XX T I2 ea hno r1 fun dx s' n ne J => ⟨σ, _, J, q dx n ne⟩
/-- the body of C(e, ..) -/
theorem run_mkG {B nw ini : String} {bl : List Value} (XX : XB B nw ini bl) {X : Cx} {pins : List (Addr × Obj)} {σ : L2.St} {H1 : Hp} {s1 : Shared} {us : List Value} {vs : List V} {C fI : Addr} {k : Nat} {fd : FuncData} {CX : CXT} {ps : List Str} {sp : Sp} {ds : List Value} {dvs : List V} {Qp : Addr → V → Hp → Prop} {R : Value → Shared → Prop}
    (T : OexG nw bl X.K C) (iC : findIn X.K (.ref C) "__init__" = some (some (.ref fI))) (tI : typeIn X.K (.ref fI) = some (.type "function"))
    (F1 : FnOk X.prog X.w X.K X.mg X.base CX k fI fd ps sp) (hr : Room (k + 1) X.A) (hb : Binds X.K fd ps ds) (hd : Vals dvs ds) (hx : Passes CX X (fun _ _ _ => False)) (I1 : Inv X pins σ H1 s1) (r1 : Vals vs us) (hz : vs.length ≤ 1000)
    (hq : ∀ a, H1 a = none → sp (.ref a :: (vs ++ dvs)) (upd H1 a (exo a C none)) (Qp a) (fun _ _ _ => False))
    (out : ∀ (s' : Shared) (v : V) (u : Value) (a : Addr), H1 a = none → s1.heap.objs.size ≤ a → (∀ (H2 : Hp), s'.os = s1.os → AllBare s'.gens →
        Un (frs X.stack) [] (upd H1 a (exo a C none)) H2 ((s1.heap.push (kdv_tup us)).push (HandSPX.excO C s1.heap.objs.size)) s'.heap → HOk X.prog X.w H2 s'.heap → (∀ b o, s1.heap.get? b = some o → ((s1.heap.push (kdv_tup us)).push (HandSPX.excO C s1.heap.objs.size)).get? b = some o) →
        a = s1.heap.objs.size + 1 → Inv X pins σ (upd H1 a (exo a C none)) { s1 with heap := (s1.heap.push (kdv_tup us)).push (HandSPX.excO C s1.heap.objs.size) } → RelV v u → Qp a v H2 → u = .none ∧ R (.ref a) s')) :
    wpAny (model X.prog X.w) X.A (call (.ref C) us) R X.xe s1 := by
  obtain ⟨nm, q, N, bs, bm, sn, sub, ab, col, dd, k0, k1, k2, k3, k5, hC, hbm⟩ := T.cls
  obtain ⟨hp, g, dr, tk, os⟩ := s1
  have hsz : hp.objs.size ≤ hp.objs.size + 1 := Nat.le_succ _
  have hn : H1 (hp.objs.size + 1) = none := I1.hok.fresh hsz
  have hq := hq (hp.objs.size + 1) hn
  have kk : ∀ b o, hp.get? b = some o → ((hp.push (kdv_tup us)).push (HandSPX.excO C hp.objs.size)).get? b = some o := fun b o e => Heap.get?_push_of_some _ (Heap.get?_push_of_some _ e)
  have hget : ((hp.push (kdv_tup us)).push (HandSPX.excO C hp.objs.size)).get? (hp.objs.size + 1) = some (HandSPX.excO C hp.objs.size) := by heap_get
  have I2 : Inv X pins σ (upd H1 (hp.objs.size + 1) (exo (hp.objs.size + 1) C none)) ⟨(hp.push (kdv_tup us)).push (HandSPX.excO C hp.objs.size), g, dr, tk, os⟩ :=
    I1.laid (t' := tk) (a := hp.objs.size + 1) (o := exo (hp.objs.size + 1) C none) (h' := (hp.push (kdv_tup us)).push (HandSPX.excO C hp.objs.size)) kk hsz (exo_ok hget)
  have r2 : Vals (V.ref (hp.objs.size + 1) :: (vs ++ dvs)) (Value.ref (hp.objs.size + 1) :: (us ++ ds)) := .cons rfl (r1.append hd)
  have hl : (Value.ref (hp.objs.size + 1) :: us ++ ds).length = ps.length := by
    have e := r2.length
    rw [F1.len _ _ _ _ hq] at e
    exact e.symm
  have hus : us.length ≤ sizeLine := by rw [← Paired.length r1, sizeLine_eq]; omega
  refine wpAny_call (HandSPX.call_own XX.F (fun Y => hbm.has Y) (I1.kIn _ _ hC) (looks_findIn I1.kIn iC) (fun self => bind_fn I1.kIn self tI) hus
    (codeAny_mono (F1.run _ X.stack _ _ ⟨Value.ref (hp.objs.size + 1) :: us, []⟩ (Value.ref (hp.objs.size + 1) :: (us ++ ds)) _ _ (fun _ _ _ => False) (hr.make C us []) (I2.env0.make C us []) (hb _ (Value.ref (hp.objs.size + 1) :: us) I2.kIn hl) r2 hq) fun r s' hq' => ?_))
  match r, hq' with
  | .error er, hq' => exact hx pins σ _ _ er s' I2 hq'
  | .ok .next, hq' => exact hq'.elim
  | .ok .brk, hq' => exact hq'.elim
  | .ok .cont, hq' => exact hq'.elim
  | .ok (.ret u), ⟨v, H2, os2, bare2, un2, hok2, rv, q2⟩ =>
    obtain ⟨rfl, z⟩ := out s' v u _ hn hsz H2 os2 bare2 un2 hok2 kk rfl I2 rv q2
    exact ⟨rfl, z⟩
/-- raise C(e, ..), C's own __init__ keeping sp -/
theorem pmk_G {B nw ini : String} {bl : List Value} (XX : XB B nw ini bl) {X : Cx} {e : Expr} {es : List Expr} {ta : TA} {p pos : Pos} {CX : CXT} {x : Str} {C fI : Addr} {k : Nat} {fd : FuncData} {ps : List Str} {sp : Sp} {ds : List Value} {dvs : List V} (T : OexG nw bl X.K C) (iC : findIn X.K (.ref C) "__init__" = some (some (.ref fI))) (tI : typeIn X.K (.ref fI) = some (.type "function"))
    (F1 : FnOk X.prog X.w X.K X.mg X.base CX k fI fd ps sp) (hr : Room (k + 1) X.A) (hb : Binds X.K fd ps ds) (hd : Vals dvs ds) (hx : Passes CX X (fun _ _ _ => False)) (hg : Gl X x) (hm : X.mg x = some (.ref C)) (ha : PA X (e :: es) ta)
    (hdb : (x == ("__debug__" : Str)) = false := by decide) (he : starEach (e :: es) X.env = (false, eval e X.env) :: starEach es X.env := by rfl) (hpl : (backTo pos (starEach es X.env)).any (·.1) = false := by rfl) :
    PMk X (.Call (.Name x p) (e :: es) [] pos) (tMkO C sp dvs ta) := by
  intro pins s σ H Q I h
  refine wpAny_Call_Name_kw (ld_glob I hg hm ?_ hdb)
  refine callWith_K (h₀ := X.base) I.ok.mod.kin T.kC (thn (ha.run pos pins s σ H _ I h) fun us s1 ⟨vs, H1, I1, r1, hz, q1⟩ => ⟨I1.kIn, ?_⟩) he hpl
  refine run_mkG (Qp := fun a v H2 => v = .non ∧ ∃ (d : Addr) (fs : List (Str × V)), H2 a = some (exo a C (some d)) ∧ H2 d = some (exd d fs) ∧ H1 d = none ∧ Q (.ref C) (some d) (upd (del H2 a) d (.xd fs))) XX T iC tI F1 hr hb hd hx I1 r1 hz q1 fun s' v u a hn hsz H2 os2 bare2 un2 hok2 kk ea0 I2 rv q2 => ?_
  obtain ⟨ev, d, fs, ea, ed, hd1, q2⟩ := q2
  subst ev
  obtain ⟨h2, g2, d2, t2, os'⟩ := s'
  obtain ⟨hp, g, dr, tk, os⟩ := s1
  exact ⟨rv, mk_end (raises_own T.exC T.tyC) I1 hsz kk un2 hok2 os2 bare2 ea ed hd1 q2⟩
/-- C(e, ..) as a value: the exception stands at a -/
def tMkV (C : Addr) (sp : Sp) (dvs : List V) (ta : TA) : TE := fun σ H Q => ta σ H fun vs H1 => vs.length ≤ 1000 ∧ ∀ a, H1 a = none → sp (.ref a :: (vs ++ dvs)) (upd H1 a (exo a C none))
  (fun v H2 => v = .non ∧ Q (.ref a) H2) (fun _ _ _ => False)
theorem pe_mkV {B nw ini : String} {bl : List Value} (XX : XB B nw ini bl) {X : Cx} {e : Expr} {es : List Expr} {ta : TA} {p pos : Pos} {CX : CXT} {x : Str} {C fI : Addr} {k : Nat} {fd : FuncData} {ps : List Str} {sp : Sp} {ds : List Value} {dvs : List V} (T : OexG nw bl X.K C) (iC : findIn X.K (.ref C) "__init__" = some (some (.ref fI))) (tI : typeIn X.K (.ref fI) = some (.type "function"))
    (F1 : FnOk X.prog X.w X.K X.mg X.base CX k fI fd ps sp) (hr : Room (k + 1) X.A) (hb : Binds X.K fd ps ds) (hd : Vals dvs ds) (hx : Passes CX X (fun _ _ _ => False)) (hg : Gl X x) (hm : X.mg x = some (.ref C)) (ha : PA X (e :: es) ta)
    (hdb : (x == ("__debug__" : Str)) = false := by decide) (he : starEach (e :: es) X.env = (false, eval e X.env) :: starEach es X.env := by rfl) (hpl : (backTo pos (starEach es X.env)).any (·.1) = false := by rfl) :
    PE X (.Call (.Name x p) (e :: es) [] pos) (tMkV C sp dvs ta) := by
  refine ⟨fun pins s σ H Q I h => ?_⟩
  refine wpAny_Call_Name_kw (ld_glob I hg hm ?_ hdb)
  refine callWith_K (h₀ := X.base) I.ok.mod.kin T.kC (thn (ha.run pos pins s σ H _ I h) fun us s1 ⟨vs, H1, I1, r1, hz, q1⟩ => ⟨I1.kIn, ?_⟩) he hpl
  refine run_mkG (Qp := fun a v H2 => v = .non ∧ Q (.ref a) H2) XX T iC tI F1 hr hb hd hx I1 r1 hz q1 fun s' v u a hn hsz H2 os2 bare2 un2 hok2 kk ea I2 rv q2 => ?_
  obtain ⟨ev, q2⟩ := q2
  subst ev
  obtain ⟨h2, g2, d2, t2, os'⟩ := s'
  refine ⟨rv, .ref a, H2, I2.call' (ch := []) os2 ?_ hok2 bare2 (fun b z => absurd z (by simp)), rfl, q2⟩
  exact un2
end
section
open PySem.W PyProof.Rows PySem.Calls ClX
section
variable {prog : Program} {w : World} {A : Around} {E : Value → Shared → Prop} {h : Heap} {g : Array GenState} {d : Drawn} {t : Nat} {os : OsState} {B nw ini : String} {bl : List Value}
variable {nm q : Str} {C N : Addr} {bs bm : List Value} {hdct : Bool} {sn : List Str} {sub : List Value} {ab : Bool} {col : Option Bool} {dd : Option Addr} {k0 k1 k2 k3 k5 : Option Value}
theorem run_mwG (XX : XB B nw ini bl) {u e t0 : Addr} {rest : List Value} {Q : Value → Shared → Prop} (hC : h.get? C = some (excClassObj nm q C N bs bm hdct sn sub ab col dd k0 k1 k2 k3 k5 nw)) (he : h.get? e = some (HandSPX.excO C t0))
    (hu : h.get? u = some (kxs_mw ini e)) (hz : rest.length ≤ sizeLine) (hq : ∀ h' t1, (∀ b o, b ≠ e → h.get? b = some o → h'.get? b = some o) → h'.get? e = some (HandSPX.excO C t1) → Q .none ⟨h', g, d, t, os⟩) :
    wpAny (model prog w) A (call (.ref u) rest) Q E ⟨h, g, d, t, os⟩ := by
  refine wpAny_call (codeAny_of_tree ?_)
  show wpAny _ A.in1 (callAny (.ref u) ⟨rest, []⟩) _ _ _
  simp only [callAny]
  refine wpAny_bind (wpAny_load hu ?_)
  simp only [kxs_mw]
  refine KFB.if_so (by decide) ?_
  refine wpAny_bind (ESX.check_bound XX.F hC he rfl ?_)
  refine wpAny_bind (wpAny_pure (wpAny_pure ?_))
  refine ⟨Code.quiet_builtin _ XX.qi, codeAny_builtin XX.F.initEntry ?_⟩
  rw [Around.under_plainId XX.F.init.plain _]
  wp_walk
  refine hq _ h.objs.size (fun b o hb ho => ?_) ?_
  · rw [Heap.get?_update_other _ _ (Ne.symm hb)]; exact Heap.get?_push_of_some _ ho
  · rw [Heap.get?_update_self _ (Heap.get?_push_of_some _ he) rfl]; rfl
end
/-- super().m(..) where self is an exception that is being made -/
def tSupG (nw ini : String) (bl : List Value) (K : PySem.W.Frag) (D : Addr) (m : Str) (ta : TA) : TS := fun Dn σ H => ∃ (a C : Addr), σ[0]? = some (some (.ref a)) ∧ H a = some (exo a C none) ∧ OexG nw bl K C ∧ mroIn K C (.ref D) = some true ∧
  ks_superIn K C D m = some (some (.builtin ini)) ∧ ta σ H fun vs H1 => vs.length ≤ 1000 ∧ H1 a = some (exo a C none) ∧ Dn.nx σ H1
variable {X : Cx} {c : Code} {st : Stmt} {ss rest : List Stmt} {t u : TS} {B nw ini : String} {bl : List Value}
theorem psa_superG (XX : XB B nw ini bl) {f cd cc D : Addr} {me m : Str} {body : List Stmt} {p0 p1 apos pos pos' : Pos} {e : Expr} {es : List Expr} {ta : TA} {pl : Sem Bool}
    (S : SupX X f cd cc D me) (hN : X.N[0]? = some me) (ha : PA X (e :: es) ta) (hm : (m == ("__class__" : Str)) = false)
    (hst : starEach (e :: es) X.env = (false, eval e X.env) :: starEach es X.env) (hpl : (backTo pos (starEach es X.env)).any (·.1) = false)
    (hev : eval (.Call (.Attribute (.Call (.Name "super" p0) [] [] p1) m apos) (e :: es) [] pos) X.env = (do
      let ov ← attributeBase (.Call (.Name "super" p0) [] [] p1) m X.env (eval (.Call (.Name "super" p0) [] [] p1) X.env)
      standAt apos.atName
      let (g, first) ← holding [ov] (getMethod ov m pl)
      callWith pos g first (backTo pos (starEach (e :: es) X.env)) []) )
    (hi : interactive X.env = false) (hs : swapsWith (.Call (.Attribute (.Call (.Name "super" p0) [] [] p1) m apos) (e :: es) [] pos) none pos'.line X.env = pure false) (h2 : PSa X (.func body X.env) rest u) :
    PSa X (.func body X.env) (.Expr (.Call (.Attribute (.Call (.Name "super" p0) [] [] p1) m apos) (e :: es) [] pos) pos' :: rest) (tSeq (tSupG nw ini bl X.K D m ta) u) := by
  refine ⟨fun pins s σ H Dn I h => ?_⟩
  obtain ⟨a, C, h0, hins, TC, hmro, hsup, h⟩ := h
  obtain ⟨hh, gg, dd, tt, os⟩ := s
  have KX : X.K.In hh := I.kIn
  obtain ⟨o1, l1, d1, e1, ar, hp1, har⟩ := S.fd
  obtain ⟨o2, l2, vs2, e2, file, tf, hv2, hfile⟩ := S.cv
  obtain ⟨ca, cb, ce, lc⟩ := S.cc
  obtain ⟨cdD, hcd⟩ := S.cls
  obtain ⟨oD, hD1, hD2⟩ := cls_obj KX hcd
  obtain ⟨m0, hn0, hlook⟩ := I.loc
  obtain ⟨uv, ru, lk⟩ := hlook 0 me (.ref a) hN h0 (locK_vis S.ka)
  obtain rfl : uv = Value.ref a := ru
  obtain ⟨mb, hb1, hb2⟩ := I.mod.blt
  refine ks_wpAt_execs_cons (ks_wpAt_Expr_any (ks_wpAt_MethodCall ?_ hev) hi hs)
  refine ks_wpAt_super_base S.ks S.kc hm S.fn (KX _ _ l1) e1 hp1 S.co (KX _ _ l2) e2 hv2 hfile S.top ?_
  refine ks_loadName_global I.ok.kind S.ks (loadGlobal_builtin (by rw [I.ok.glob]; exact I.mod.glob.keeps I.bk) S.mg (by rw [I.ok.blt]; exact hb1.keeps I.bk) ((hb2 _ (by decide)).trans (by first | rfl | decide +kernel)) ⟨rfl, ?_⟩)
  refine wpAny_loadName_free I.ok.kind S.kc S.cl ⟨_, KX _ _ lc, rfl⟩ ?_
  rw [har]
  refine load_self I.ok.kind S.ka hn0 lk ?_
  refine ks_wpAny_isType_cls hD1 hD2 ⟨rfl, ?_⟩
  obtain ⟨nm, q, N, bs, bm, sn, sub, ab, col, dd0, k0, k1, k2, k3, k5, hC, hbm⟩ := id TC.cls
  obtain ⟨t1, ho⟩ := exo_at I.hok hins
  have hcl : clsIn X.K C = some { name := nm, bases := bs, mro := .ref C :: bm, ns := N, qualname := q, hasDict := true, slotNames := sn, subclasses := sub, abstract := ab, collection := col, hasDel := false } := by
    unfold clsIn
    rw [hC] <;> rfl
  have xC : a ≠ C := fun e => by
    have c1 := KX _ _ hC
    rw [← e, ho] at c1
    have c2 := congrArg Obj.data (Option.some.inj c1)
    cases c2
  refine ks_wpAny_call_super hD1 hD2 ho rfl (fun c z => nomatch z) (looks_mroIn KX hmro) (fun h' hso hk' => ?_)
  have I1 : Inv X ((hh.objs.size, ks_superObj D a C) :: pins) σ H ⟨h', gg, dd, tt, os⟩ := pin_new (t' := tt) I hk' (Nat.le_refl _) hso (fun v z => nomatch z)
  have K1 : X.K.In h' := I1.kIn
  obtain ⟨t2, ho2⟩ := exo_at I1.hok hins
  have J1 : InstAt h' a { cls := .ref C, dict := none, data := .fields #[.ref t2, .none, .none, .none, .bool false, .none] } C none := ⟨ho2, rfl, rfl, trivial⟩
  have isB : Looks (model X.prog X.w) h' (isInstance (.ref a) (.type B)) true := J1.type.andThen (looks_mroIn K1 (TC.mro XX XX.F.hasB))
  unfold ks_superIn at hsup
  rw [hcl] at hsup
  refine kxs_getMethod XX.Z hso (looks_opaque K1 S.st) (l₀ := .ref C :: bm) (fun A Q E s k q => wpAny_bind ((looks_clsIn K1 hcl) A _ E s k (wpAny_pure q))) rfl K1 hsup isB xC hm ?_
  have I2 : Inv X ((h'.objs.size, kxs_mw ini a) :: (hh.objs.size, ks_superObj D a C) :: pins) σ H { (⟨h', gg, dd, tt, os⟩ : Shared) with heap := h'.push (kxs_mw ini a), toks := tt + 1 } :=
    pin_new I1 (fun _ _ z => Heap.get?_push_of_some _ z) (Nat.le_refl _) (Heap.get?_push_size h' rfl) (fun v z => nomatch z)
  have hL : h'.objs.size ≠ X.env.locals := (I2.pin (h'.objs.size, kxs_mw ini a) (List.mem_append_right _ List.mem_cons_self)).2.2.1
  refine kxs_callWith1 (news_at hL (base_none I1 (Nat.le_refl _)) (pin_at I2)) List.mem_cons_self (thn (ha.run pos _ _ σ H _ I2 h) fun us s3 ⟨vs, H1, I3, r3, hl3, e3, q3⟩ => ⟨pin_at I3, ?_⟩) hst hpl
  obtain ⟨t3, ho3⟩ := exo_at I3.hok e3
  have hmw := pin_at I3
  obtain ⟨h3, g3, d3, k3', os3⟩ := s3
  have hlen : us.length ≤ sizeLine := by rw [← r3.length, sizeLine_eq]; omega
  refine run_mwG XX (I3.kIn _ _ hC) ho3 hmw hlen (fun h4 t4 kk hx4 => ?_)
  have J := I3.write (t' := k3') (x := a) (e := a) (o := exo a C none) (by rw [e3]; exact True.intro) (.inl rfl) kk ⟨_, hx4⟩ (exo_ok hx4)
  have eu : upd H1 a (exo a C none) = H1 := by
    funext b
    by_cases hb : b = a
    · rw [hb, upd_same, e3]
    · rw [upd_ne hb]
  rw [eu] at J
  exact h2.run pins _ σ H1 Dn (unpin (unpin J)) q3
end
/-! ### rules for lattices: methods of an object of one of several classes, tuple.index of flat items, defaults -/
section
open PySem.Spec PyProof.Rows
variable {X : Cx}
/-- o.m(e, ..): the class is found when it is asked; the method is one def -/
def tMethG (K : PySem.W.Frag) (m : Str) (f : Addr) (sp : Sp) (dvs : List V) (E : XK) (ta : TE) (t : TA) : TE := fun σ H Q => ta σ H fun x H1 => ∃ a C dx fs, x = .ref a ∧ H1 a = some (.ins C dx fs) ∧ Cls K C ∧ Meth K C m f ∧ fs.lookup m = none ∧
  t σ H1 fun vs H2 => sp (x :: (vs ++ dvs)) H2 Q E
section
variable {o e : Expr} {es : List Expr} {ta : TE} {t : TA} {m : Str} {apos pos : Pos} {CX : CXT} {k : Nat} {f : Addr} {fd : FuncData} {ps : List Str} {sp : Sp} {ds : List Value} {dvs : List V} {E : XK}
theorem pe_methG {pl : Sem Bool} (he : PE X o ta) (F : FnOk X.prog X.w X.K X.mg X.base CX k f fd ps sp) (hr : Room k X.A) (hb : Binds X.K fd ps ds) (hd : Vals dvs ds) (hx : Passes CX X E) (ha : PA X (e :: es) t)
    (hst : starEach (e :: es) X.env = (false, eval e X.env) :: starEach es X.env := by rfl) (hpl : (backTo pos (starEach es X.env)).any (·.1) = false := by rfl)
    (ht : eval (.Call (.Attribute o m apos) (e :: es) [] pos) X.env = (do
      let ov ← eval o X.env
      standAt apos.atName
      let (g, first) ← holding [ov] (getMethod ov m pl)
      callWith pos g first (backTo pos (starEach (e :: es) X.env)) (backToKw pos (keywordEach [] X.env))) := by rfl) :
    PE X (.Call (.Attribute o m apos) (e :: es) [] pos) (tMethG X.K m f sp dvs E ta t) := by
  refine ⟨fun pins s σ H Q I h => ?_⟩
  refine PySem.W.methodCall_KW (pl := pl) (thn (he.run pins s σ H _ I h) fun u s1 ⟨x, H1, I1, rx, a, C, dx, fs, ex, ea, c, hm, l, q⟩ => ?_) ht
  subst ex
  obtain rfl : u = Value.ref a := rx
  refine getmeth_ok I1 ea c hm l (PySem.W.callWith_K (first := [.ref a]) (h₀ := X.base) I.ok.mod.kin hm.kp (thn (ha.run pos pins s1 σ H1 _ I1 q) fun us s2 ⟨vs, H2, I2, r, q2⟩ => ⟨I2.kIn, ?_⟩) hst hpl)
  exact run_fn (us := .ref a :: us) (vs := .ref a :: vs) F hr hb hd hx I2 (.cons rfl r) q2
theorem pe_methG0 {pl : Sem Bool} (he : PE X o ta) (F : FnOk X.prog X.w X.K X.mg X.base CX k f fd ps sp) (hr : Room k X.A) (hb : Binds X.K fd ps ds) (hd : Vals dvs ds) (hx : Passes CX X E)
    (ht : eval (.Call (.Attribute o m apos) [] [] pos) X.env = (do
      let ov ← eval o X.env
      standAt apos.atName
      let (g, first) ← holding [ov] (getMethod ov m pl)
      callWith pos g first (backTo pos (starEach [] X.env)) (backToKw pos (keywordEach [] X.env))) := by rfl) :
    PE X (.Call (.Attribute o m apos) [] [] pos) (tMethG X.K m f sp dvs E ta tNil) := by
  refine ⟨fun pins s σ H Q I h => ?_⟩
  refine PySem.W.methodCall_KW (pl := pl) (thn (he.run pins s σ H _ I h) fun u s1 ⟨x, H1, I1, rx, a, C, dx, fs, ex, ea, c, hm, l, q⟩ => ?_) ht
  subst ex
  obtain rfl : u = Value.ref a := rx
  refine getmeth_ok I1 ea c hm l (PySem.W.callWith_K0 (first := [.ref a]) I1.kIn hm.kp ?_)
  exact run_fn (us := [.ref a]) (vs := [.ref a]) F hr hb hd hx I1 (.cons rfl .nil) q
end
/-- t.index(x), flat items -/
def rTupIx (K : PySem.W.Frag) : V → List V → Hp → VK → Prop := fun x xs H Q => ∃ (a : Addr) (ys : List V) (y : V) (j : Nat) (z : V), x = V.ref a ∧ xs = [y] ∧ SqT K H a ys ∧ flatV y = true ∧ ys.all flatV = true ∧ ys[j]? = some z ∧ eqV z y = true ∧
  (∀ (m : Nat) (z' : V), m < j → ys[m]? = some z' → eqV z' y = false) ∧ Q (.int (j : Nat)) H
theorem mt_tindexF : MtR X "tuple.index" (rTupIx X.K) := by
  intro pins s σ H x xs v us Q I rx rxs h
  obtain ⟨a, ys, y, j, z, rfl, rfl, hs, fy, fys, hz, hzj, hno, q⟩ := h
  cases rx
  obtain ⟨uy, rfl, ry⟩ := rxs.one
  obtain ⟨its, rv, ⟨⟨cls, dd, dt, sl⟩, ho, hc, n, hd⟩, hlen⟩ := I.tuple hs
  simp only at hc hd
  subst hc hd
  have hsz : its.toArray.size = ys.length := by rw [List.size_toArray, ← rv.length]
  have each : ∀ (m : Nat) (hm : m < its.toArray.size) (y' : V), ys[m]? = some y' → eqU y its.toArray[m] = eqV y' y := fun m hm y' hy' => by
    obtain ⟨u2, hu2, ru2⟩ := rv.get hy'
    have e1 : its.toArray[m] = u2 := by simpa using (List.getElem?_eq_some_iff.mp hu2).2
    rw [e1, eqU_of ru2 (flat_at fys hy')]
  have hjl := (List.getElem?_eq_some_iff.mp hz).1
  refine call_meets PySem.F.slot_tuple_index ⟨_, ho, rfl⟩ PySem.F.entry_tuple_index (PySem.F.args_tuple_index_2 _ _) (TI.tuple_indexAt a its.toArray n dd sl uy (eqU y) j (by omega) ?_ ?_)
    ⟨ho, fun w hw => mem_eqAt ry fy rv fys w (by simpa using hw), ⟨.int (j : Nat), H, I.tok _, ⟨_, rfl⟩, q⟩⟩
  · rw [each j _ _ hz, hzj]
  · intro m hm hmj
    have hy' : ys[m]? = some ys[m] := List.getElem?_eq_getElem (by omega)
    rw [each m hm _ hy', hno m _ hmj hy']
/-- the tuple at p has no dict of its own (so its methods may be asked) -/
def NdT (K : PySem.W.Frag) (H : Hp) (p : Addr) : Prop := (∃ (o : Obj) (xs : List V), H p = some (.frz o (.tup xs)) ∧ o.dict = none) ∨ ∃ o : Obj, K.lookup p = some o ∧ o.dict = none
theorem NdT.get {pins : List (Addr × Obj)} {σ : L2.St} {H : Hp} {s : Shared} {p : Addr} (h : NdT X.K H p) (I : Inv X pins σ H s) : ∃ o, s.heap.get? p = some o ∧ o.dict = none := by
  rcases h with ⟨o, xs, h, d⟩ | ⟨o, h, d⟩
  · have x : ObjOk X.prog X.w H s.heap p (.frz o (.tup xs)) := I.hok p _ h
    exact ⟨o, x.1, d⟩
  · exact ⟨o, I.kIn _ _ h, d⟩
/-- t.m(e, ..), t a tuple without a dict -/
def tTM (K : PySem.W.Frag) (r : V → List V → Hp → VK → Prop) (to : TE) (t : TA) : TE := fun σ H Q => to σ H fun x H1 => ∃ (p : Addr) (ys : List V), x = .ref p ∧ NdT K H1 p ∧ SqT K H1 p ys ∧ t σ H1 fun xs H2 => r x xs H2 Q
theorem pe_tbm {o e : Expr} {es : List Expr} {to : TE} {t : TA} {name : Str} {apos cpos : Pos} {id : String} {r : V → List V → Hp → VK → Prop} (pa : PlainAttrs "tuple") (slot : Slot "tuple" name id) (hty : typeOf (.builtin id) = pure (.type "method_descriptor")) (hm : MtR X id r) (ho : PE X o to) (ha : PA X (e :: es) t)
    (hbase : attributeBase o name X.env (eval o X.env) = eval o X.env := by rfl)
    (hfew : ((backTo cpos (starEach (e :: es) X.env)).all (fun x => !x.1) && (backToKw cpos (keywordEach [] X.env)).all (fun x => x.1.isSome)
      && decide ((e :: es).length + ([] : List Keyword).length + (if ([] : List Keyword).isEmpty then 0 else 1) < 30)) = true := by rfl)
    (hline : (apos.endLine == cpos.line) = true := by rfl) (hs : starEach (e :: es) X.env = (false, eval e X.env) :: starEach es X.env := by rfl) (hpl : (backTo cpos (starEach es X.env)).any (·.1) = false := by rfl) :
    PE X (.Call (.Attribute o name apos) (e :: es) [] cpos) (tTM X.K r to t) := by
  refine ⟨fun pins s σ H Q I h => ?_⟩
  refine wpAny_Call_method_late hbase hfew hline rfl (thn (ho.run pins s σ H _ I h) fun v s1 ⟨x, H1, I1, r1, p, ys, ex, nd, hq, q1⟩ => ?_)
  subst ex
  obtain rfl : v = Value.ref p := r1
  obtain ⟨its, _, ⟨o1, ho1, hc1, _⟩, _⟩ := I1.tuple hq
  refine ⟨"tuple", id, pa, slot, hty, ⟨o1, ho1, hc1⟩, fun a ea => by cases ea; exact nd.get I1, ?_⟩
  have hA := ha.run cpos pins s1 σ H1 _ I1 q1
  rw [hs] at hA ⊢
  refine Calls.callWith_builtin (by show (false || (backTo cpos (starEach es X.env)).any (·.1)) = false; rw [hpl] <;> rfl) (Calls.evalArgs_plain ?_)
  exact thn hA fun us s2 ⟨vs, H2, I2, r2, q2⟩ => hm pins s2 σ H2 (V.ref p) vs (Value.ref p) us Q I2 rfl r2 q2
/-- tuple(xs): a list's items in a new tuple without a dict, or the tuple itself -/
theorem call_tupleN : CallR X (.type "tuple") (fun xs H Q => ∃ p ys, xs = [.ref p] ∧ ((SqL X.K H p ys ∧ ∀ (l : Addr) (o : Obj), H l = none → o.dict = none → Q (.ref l) (upd H l (.frz o (.tup ys)))) ∨ (SqT X.K H p ys ∧ Q (.ref p) H))) := by
  intro pins s σ H xs us Q I r h
  obtain ⟨p, ys, rfl, h⟩ := h
  obtain ⟨u, rfl, rx⟩ := r.one
  cases rx
  rcases h with ⟨hq, q⟩ | ⟨hq, q⟩
  · obtain ⟨its, r', pl, hz⟩ := I.list hq
    have hlen := r'.length
    refine call_tuple_list pl.isList (fun h' kp => ?_) (by simp only [List.size_toArray] <;> omega)
    have J : Inv X pins σ H { s with heap := h' } := I.kept (t' := s.toks) kp
    have hg : (h'.push { cls := .type "tuple", data := .seq its.toArray }).get? h'.objs.size = some ({ cls := .type "tuple", data := .seq its.toArray } : Obj) := Heap.get?_push_size _ rfl
    have J2 : Inv X pins σ (upd H h'.objs.size (.frz { cls := .type "tuple", data := .seq its.toArray } (.tup ys))) { s with heap := h'.push { cls := .type "tuple", data := .seq its.toArray } } :=
      J.laid (t' := s.toks) (fun b o e => Heap.get?_push_of_some _ e) (Nat.le_refl _) (show ObjOk X.prog X.w _ _ _ (.frz _ (.tup ys)) from ⟨hg, hz, its, r', IsTup.new _ _⟩)
    exact ⟨.ref h'.objs.size, _, J2, rfl, q _ _ (J.hok.fresh (Nat.le_refl _)) rfl⟩
  · obtain ⟨its, r', pl, hz⟩ := I.tuple hq
    exact call_tuple_same pl ⟨.ref p, H, I, rfl, q⟩
theorem kx_pi_list {X : Cx} (K : PySem.W.Frag) {tg l : Expr} {tl : TE} (p : PI X tg l (iList X.K tl)) (h : X.K = K := by rfl) : PI X tg l (iList K tl) := h ▸ p
theorem kx_pi_enum {X : Cx} (K : PySem.W.Frag) {tg l : Expr} {ta : TA} (p : PI X tg l (iEnum X.K ta)) (h : X.K = K := by rfl) : PI X tg l (iEnum K ta) := h ▸ p
theorem kx_pe_fld {X : Cx} (K : PySem.W.Frag) {e : Expr} {ta : TE} {f : Str} (p : PE X e (tFld X.K ta f)) (h : X.K = K := by rfl) : PE X e (tFld K ta f) := h ▸ p
theorem kx_tbm {X : Cx} (K : PySem.W.Frag) {e : Expr} {r : V → List V → Hp → VK → Prop} {to : TE} {t : TA} (p : PE X e (tTM X.K r to t)) (h : X.K = K := by rfl) : PE X e (tTM K r to t) := h ▸ p
theorem kx_ix_seq {X : Cx} (K : PySem.W.Frag) (h : X.K = K := by rfl) : IxR X (rIx K) := h ▸ ix_seq
theorem kx_methG {X : Cx} (K : PySem.W.Frag) {e : Expr} {ta : TE} {t : TA} {m : Str} {f : Addr} {sp : Sp} {dvs : List V} {E : XK} (p : PE X e (tMethG X.K m f sp dvs E ta t)) (h : X.K = K := by rfl) : PE X e (tMethG K m f sp dvs E ta t) := h ▸ p
/-- how a def with defaults binds: n values are written, the defaults behind the first j fill up -/
theorem FunD.bindsD {K : PySem.W.Frag} {x qual : Str} {st : Stmt} {f t0 : Addr} {fd : FuncData} {ps : List Str} (F : FunD K x qual st f fd t0) {its : List Value} {m : Nat} (lt : K.lookup t0 = some (⟨.type "tuple", none, .seq its.toArray m, #[]⟩ : Obj)) (n j : Nat)
    (hn : n + (its.length - j) = ps.length)
    (h : ∀ (kV doc pm : Value) (an : Option Addr) (cdv ct : Value) (us : List Value), us.length = n →
      ∃ k, bindArgs (PySem.W.fnOf x qual (defArgs st) (defBody st) (defScope st) (.ref t0) kV doc pm an cdv ct) ⟨us, []⟩ = seqItems? (.ref t0) >>= k ∧ k (some its.toArray) = pure (ps.zip (us ++ its.drop j))) : Binds K fd ps (its.drop j) := by
  obtain ⟨oc, od, kV, doc, pm, an, cdv, ct, osl, rfl, lk, hcd⟩ := F.ex
  refine fun s us X hlen => ?_
  have l2 : us.length = n := by rw [List.length_append, List.length_drop] at hlen; omega
  obtain ⟨k, e1, e2⟩ := h kV doc pm an cdv ct us l2
  refine BindsTo.of_looks fun M => ?_
  rw [e1]
  exact looks_items X lt rfl (.of_pure e2)
end
/-- sep.join(xs) within a block -/
def rJoinK (K : PySem.W.Frag) : V → List V → Hp → VK → Prop := fun x xs H Q => ∃ a p, ∃ ys : List Str, x = .str a ∧ xs = [.ref p] ∧ (SqL K H p (ys.map V.str) ∨ SqT K H p (ys.map V.str)) ∧
    (ys.map (·.length)).sum + ys.length * a.length ≤ 16777216 ∧ Q (.str (PySem.Txt.join a ys)) H
theorem kx_pe_join {X : Cx} (K : PySem.W.Frag) {e : Expr} {to tx : TE} (p : PE X e (tM1 (rJoinK X.K) to tx)) (h : X.K = K := by rfl) : PE X e (tM1 (rJoinK K) to tx) := h ▸ p
/-- f'..' of several parts -/
def tJoin (ts : List TE) : TE := fun σ H Q => tJs ts Str.empty σ H fun out H1 => Q (.str out) H1
theorem pe_joinedT {X : Cx} {v1 v2 : Expr} {rest : List Expr} {ts : List TE} {pos : Pos} (h : PJ X (v1 :: v2 :: rest) ts) : PE X (.JoinedStr (v1 :: v2 :: rest) pos) (tJoin ts) := pe_joined h
/-! ### what stays in the heap; folds of comprehensions; readings cut off -/
/-- tuples (and what is locked) stay -/
structure Keeps (H H' : Hp) : Prop where
  tup : ∀ a xs, H a = some (.tup xs) → H' a = some (.tup xs)
  frz : ∀ a o xs, H a = some (.frz o (.tup xs)) → H' a = some (.frz o (.tup xs))
theorem Keeps.refl (H : Hp) : Keeps H H := ⟨fun _ _ h => h, fun _ _ _ h => h⟩
theorem Keeps.trans {H H1 H2 : Hp} (a : Keeps H H1) (b : Keeps H1 H2) : Keeps H H2 := ⟨fun c xs h => b.tup c xs (a.tup c xs h), fun c o u h => b.frz c o u (a.frz c o u h)⟩
theorem _root_.L2.Same.keeps {H H' : Hp} (s : Same H H') : Keeps H H' := ⟨fun a xs h => s a _ h, fun a o u h => s a _ h⟩
theorem Keeps.mut {H H' : Hp} {D : Addr} {o o' : HO} (k : Keeps H H') (h : H' D = some o) (m : Mut (some o)) : Keeps H (upd H' D o') := by
  refine ⟨fun a xs q => ?_, fun a ob u q => ?_⟩
  · have q' := k.tup a xs q
    rw [upd_ne (ne_of q' h (by intro e; subst e; exact m))]; exact q'
  · have q' := k.frz a ob u q
    rw [upd_ne (ne_of q' h (by intro e; subst e; exact m))]; exact q'
theorem But.keeps {H H' : Hp} {D : Addr} {o : HO} (b : But D H H') (h : H D = some o) (m : Mut (some o)) : Keeps H H' :=
  ⟨fun a xs q => b a _ (ne_of q h (by intro e; subst e; exact m)) q, fun a ob u q => b a _ (ne_of q h (by intro e; subst e; exact m)) q⟩
theorem Keeps.sqT {K : PySem.W.Frag} {H H' : Hp} {a : Addr} {xs : List V} (k : Keeps H H') (h : SqT K H a xs) : SqT K H' a xs := by
  rcases h with (h | ⟨o, h⟩) | h
  · exact .inl (.inl (k.tup _ _ h))
  · exact .inl (.inr ⟨o, k.frz _ _ _ h⟩)
  · exact .inr h
theorem lc_fold {J : It} {n : Nat} {G : Hp → Prop} {Yw : Nat → Hp → V → Hp → Prop} (w : Walk J n G Yw) {g : TG} {tt : TT} {te : TE} {vs : List Nat} {σ : L2.St} {H1 : Hp} {D : Addr} {Qd : Hp → Prop} (hD : H1 D = none)
    (R : Nat → Hp → List V → Prop) (r0 : ∀ H, R 0 H []) (mono : ∀ i H H' xs, Keeps H H' → R i H xs → R i H' xs) (len : ∀ i H ys, R i H ys → ys.length ≤ 1000000) (hG : ∀ H, Same H1 H → G H)
    (hs : ∀ i x H H' ys (Nx : V → Hp → Prop) (Ex : Hp → Prop), i < n → Same H1 H → R i H ys → Yw i H x H' →
      (∀ y H2, Same H H2 → R (i + 1) H2 (ys ++ [y]) → Nx y H2) → (∀ H2, Same H H2 → R (i + 1) H2 ys → Ex H2) →
      g x (wipe σ vs) H' fun σ2 H2 => wipe σ2 vs = wipe σ vs ∧ tt σ2 H2 fun b H3 => if b = true then te σ2 H3 Nx else Ex H3)
    (hd : ∀ H ys, Same H1 H → H D = some (.lst ys) → R n H ys → Qd H) :
    ∃ W : Nat → Nat → Hp → Prop, (∃ m, W 0 m (upd H1 D (.lst []))) ∧ ∀ i m H, W i m H →
      (J.stop i H ∧ Qd H) ∨ (J.go i H ∧ ∃ Nx : Hp → Prop, (∀ H', Nx H' → ∃ m', m' < m ∧ W (i + 1) m' H') ∧ ∀ x H', J.yld i H x H' → g x (wipe σ vs) H' fun σ2 H2 => wipe σ2 vs = wipe σ vs ∧ tt σ2 H2 fun b H3 =>
        if b = true then te σ2 H3 fun y H4 => ∃ acc, H4 D = some (.lst acc) ∧ acc.length < sizeLine ∧ Nx (upd H4 D (.lst (acc ++ [y]))) else Nx H3) :=
  lc_foldF w (Same H1) R (Same.new hD _) (fun H ys zs s _ => s.mut hD _) (r0 _) (fun i H ys zs xs r h => mono _ _ _ _ ((Keeps.refl H).mut h trivial) r) len hG
    (fun i x H H' ys Nx Ex hi s hy r y k1 k2 => hs i x H H' ys Nx Ex hi s r y (fun z H2 s2 r2 => k1 z H2 (s.trans s2) (s2 _ _ hy) r2) (fun H2 s2 r2 => k2 H2 (s.trans s2) (s2 _ _ hy) r2)) hd
/-- a dict comprehension over any walk, as lc_it -/
theorem dc_it {J : It} {n : Nat} {G : Hp → Prop} {Y : Nat → Hp → V → Hp → Prop} (w : Walk J n G Y) {g : TG} {tt : TT} {tk tv : TE} {vs : List Nat} {σ : L2.St} {H1 : Hp} {D : Addr} {Qd : Hp → Prop} (Pv : Nat → Hp → Prop) (h0 : Pv 0 (upd H1 D (.dK []))) (hG : ∀ i H, i ≤ n → Pv i H → G H)
    (hs : ∀ i x H H', i < n → Pv i H → Y i H x H' → g x (wipe σ vs) H' fun σ2 H2 => wipe σ2 vs = wipe σ vs ∧ tt σ2 H2 fun b H3 =>
      if b = true then tk σ2 H3 fun y H4 => tv σ2 H4 fun z H5 => ∃ kvs k, y = kV k ∧ H5 D = some (.dK kvs) ∧ kvs.length < sizeLine ∧ Pv (i + 1) (upd H5 D (.dK (putK kvs k z))) else Pv (i + 1) H3) (hd : ∀ H, Pv n H → Qd H) :
    ∃ W : Nat → Nat → Hp → Prop, (∃ m, W 0 m (upd H1 D (.dK []))) ∧ ∀ i m H, W i m H →
      (J.stop i H ∧ Qd H) ∨ (J.go i H ∧ ∃ Nx : Hp → Prop, (∀ H', Nx H' → ∃ m', m' < m ∧ W (i + 1) m' H') ∧ ∀ x H', J.yld i H x H' → g x (wipe σ vs) H' fun σ2 H2 => wipe σ2 vs = wipe σ vs ∧ tt σ2 H2 fun b H3 =>
        if b = true then tk σ2 H3 fun y H4 => tv σ2 H4 fun z H5 => ∃ kvs k, y = kV k ∧ H5 D = some (.dK kvs) ∧ kvs.length < sizeLine ∧ Nx (upd H5 D (.dK (putK kvs k z))) else Nx H3) := by
  refine ⟨fun i m H => m = n - i ∧ i ≤ n ∧ Pv i H, ⟨n, rfl, Nat.zero_le _, h0⟩, fun i m H ⟨em, hi, p⟩ => ?_⟩
  subst em
  have q := hG i H hi p
  rcases Nat.lt_or_ge i n with hlt | hge
  · exact .inr ⟨w.goes i H hlt q, Pv (i + 1), fun H' p' => ⟨n - (i + 1), by omega, rfl, hlt, p'⟩, fun x H' y => hs i x H H' hlt p (w.yields i H x H' hlt q y)⟩
  · have e : i = n := by omega
    subst e
    exact .inl ⟨w.stops H q, hd H p⟩
/-- R i H kvs: what is known of the dict made so far -/
theorem dc_fold {J : It} {n : Nat} {G : Hp → Prop} {Yw : Nat → Hp → V → Hp → Prop} (w : Walk J n G Yw) {g : TG} {tt : TT} {tk tv : TE} {vs : List Nat} {σ : L2.St} {H1 : Hp} {D : Addr} {Qd : Hp → Prop} (hD : H1 D = none)
    (R : Nat → Hp → List (Key × V) → Prop) (r0 : ∀ H, R 0 H []) (mono : ∀ i H H' xs, Keeps H H' → R i H xs → R i H' xs) (len : ∀ i H ys, R i H ys → ys.length ≤ 1000000) (hG : ∀ H, Same H1 H → G H)
    (hs : ∀ i x H H' ys (Nx : V → V → Hp → Prop) (Ex : Hp → Prop), i < n → Same H1 H → R i H ys → Yw i H x H' →
      (∀ k z H2, Same H H2 → R (i + 1) H2 (putK ys k z) → Nx (kV k) z H2) → (∀ H2, Same H H2 → R (i + 1) H2 ys → Ex H2) →
      g x (wipe σ vs) H' fun σ2 H2 => wipe σ2 vs = wipe σ vs ∧ tt σ2 H2 fun b H3 => if b = true then tk σ2 H3 fun y H4 => tv σ2 H4 fun z H5 => Nx y z H5 else Ex H3)
    (hd : ∀ H ys, Same H1 H → H D = some (.dK ys) → R n H ys → Qd H) :
    ∃ W : Nat → Nat → Hp → Prop, (∃ m, W 0 m (upd H1 D (.dK []))) ∧ ∀ i m H, W i m H →
      (J.stop i H ∧ Qd H) ∨ (J.go i H ∧ ∃ Nx : Hp → Prop, (∀ H', Nx H' → ∃ m', m' < m ∧ W (i + 1) m' H') ∧ ∀ x H', J.yld i H x H' → g x (wipe σ vs) H' fun σ2 H2 => wipe σ2 vs = wipe σ vs ∧ tt σ2 H2 fun b H3 =>
        if b = true then tk σ2 H3 fun y H4 => tv σ2 H4 fun z H5 => ∃ kvs k, y = kV k ∧ H5 D = some (.dK kvs) ∧ kvs.length < sizeLine ∧ Nx (upd H5 D (.dK (putK kvs k z))) else Nx H3) := by
  refine dc_it w (fun i H => Same H1 H ∧ ∃ ys, H D = some (.dK ys) ∧ R i H ys) ⟨Same.new hD _, [], upd_same, r0 _⟩ (fun i H _ h => hG H h.1) ?_ ?_
  · rintro i x H H' hi ⟨s, ys, hy, r⟩ y
    refine hs i x H H' ys (fun y z H5 => ∃ kvs k, y = kV k ∧ H5 D = some (.dK kvs) ∧ kvs.length < sizeLine ∧ (Same H1 (upd H5 D (.dK (putK kvs k z))) ∧ ∃ ys, (upd H5 D (.dK (putK kvs k z))) D = some (.dK ys) ∧ R (i + 1) (upd H5 D (.dK (putK kvs k z))) ys)) _ hi s r y (fun k z H2 s2 r2 => ?_) (fun H2 s2 r2 => ⟨s.trans s2, ys, s2 _ _ hy, r2⟩)
    have h2 := s2 _ _ hy
    exact ⟨ys, k, rfl, h2, smallM (len i H ys r), (s.trans s2).mut hD _, _, upd_same, mono _ _ _ _ ((Keeps.refl H2).mut h2 trivial) r2⟩
  · rintro H ⟨s, ys, hy, r⟩
    exact hd H ys s hy r
section
variable {K : PySem.W.Frag}
theorem Src.keeps {H H' : Hp} {p ce : Addr} (s : Src K ce H p) (b : But p H H') : Keeps H H' := by
  obtain ⟨cs, i, l, m, S⟩ := s
  exact b.keeps S.at_ trivial
theorem Src.same {H H' : Hp} {p ce : Addr} (s : Src K ce H p) (e : Same H H') : Src K ce H' p := by
  obtain ⟨cs, i, l, m, S⟩ := s
  exact ⟨cs, i, l, m, ⟨e.at S.at_, (e.but p).seq S.ne S.cel, S.ne, S.hi, S.hl, S.hc, S.m0, S.m1⟩⟩
theorem Src.here {H : Hp} {p ce : Addr} (s : Src K ce H p) : ∃ o, H p = some o := by
  obtain ⟨cs, i, l, m, S⟩ := s
  exact ⟨_, S.at_⟩
theorem Src.ne {H : Hp} {p l ce : Addr} (s : Src K ce H p) (h : H l = none) : l ≠ p := fun e => by
  obtain ⟨o, q⟩ := s.here
  rw [e, q] at h; cases h
theorem Src.upd {H : Hp} {p ce D : Addr} (s : Src K ce H p) (h1 : D ≠ p) (h2 : D ≠ ce) (o : HO) : Src K ce (upd H D o) p := by
  obtain ⟨cs, i, l, m, S⟩ := s
  exact ⟨cs, i, l, m, ⟨by rw [upd_ne h1.symm]; exact S.at_, ((But.refl D H).upd o).seq h2.symm S.cel, S.ne, S.hi, S.hl, S.hc, S.m0, S.m1⟩⟩
end
theorem nx_run {D : Ends} {σ : L2.St} {H : Hp} (h : D.nx σ H) : tNext D σ H := h
theorem set_run {te : TE} {g : TG} {u : TS} {D : Ends} {σ : L2.St} {H : Hp} (Pv : V → Hp → Prop) (h : ∀ Q' : V → Hp → Prop, (∀ v H', Pv v H' → Q' v H') → te σ H Q') (q : ∀ v H', Pv v H' → g v σ H' (u D)) : tSeq (tAsg te g) u D σ H :=
  h _ fun v H' p => q v H' p
theorem if_run {c : TT} {t u v : TS} {D : Ends} {σ : L2.St} {H : Hp} (Pv : Bool → Hp → Prop) (h : ∀ Q' : Bool → Hp → Prop, (∀ b H', Pv b H' → Q' b H') → c σ H Q')
    (q : ∀ b H', Pv b H' → if b = true then t { D with nx := v D } σ H' else u { D with nx := v D } σ H') : tSeq (tIfS c t u) v D σ H := h _ fun b H' p => q b H' p
theorem val_run {t : TE} {σ : L2.St} {H : Hp} {Q : V → Hp → Prop} (Pv : V → Prop) (h : ∀ Q' : V → Hp → Prop, (∀ v, Pv v → Q' v H) → t σ H Q') (q : ∀ v, Pv v → Q v H) : t σ H Q := h Q q
theorem inV_strs (x : Str) : ∀ xs : List Str, inV (.str x) (xs.map V.str) = decide (x ∈ xs)
  | [] => rfl
  | y :: ys => by
    show ((y == x) || inV (.str x) (ys.map V.str)) = _
    rw [inV_strs x ys]
    by_cases h : y = x
    · subst h; simp
    · have : ¬ x = y := fun e => h e.symm
      simp [h, this]
theorem flat_strs : ∀ xs : List Str, (xs.map V.str).all flatV = true
  | [] => rfl
  | _ :: ys => flat_strs ys
theorem inV_trues : ∀ n : Nat, inV (.bl false) (List.replicate n (V.bl true)) = false
  | 0 => rfl
  | n + 1 => inV_trues n
theorem flat_trues : ∀ n : Nat, (List.replicate n (V.bl true)).all flatV = true
  | 0 => rfl
  | n + 1 => flat_trues n
/-- what is never reached -/
theorem ps_dead {X : Cx} {st : Stmt} : PS X st (fun _ _ _ => False) := ⟨fun _ _ _ _ _ _ h => h.elim⟩
/-- o.f = e: what is known of e's value behind it -/
theorem fld_run {K : PySem.W.Frag} {ta tv : TE} {f : Str} {u : TS} {D : Ends} {σ : L2.St} {H : Hp} (Pv : V → Hp → Prop) (h : ∀ Q' : V → Hp → Prop, (∀ v H', Pv v H' → Q' v H') → tv σ H Q')
    (q : ∀ v H', Pv v H' → ta σ H' fun x H2 => ∃ a C dx fs, x = .ref a ∧ H2 a = some (.ins C dx fs) ∧ Cls K C ∧ NoAttr K C f ∧ fs.length < 1000 ∧ u D σ (upd H2 a (.ins C dx (putF f v fs)))) : tSeq (sFld K ta tv f) u D σ H :=
  h _ fun v H' p => q v H' p
/-! ### what more a law wants of a lattice's class: nothing -/
def LatX (_ : PySem.W.Frag) (_ : Addr) : Prop := True
/-! ### lattices in the heap -/
def downsV (L : Lt) : List V := (List.range L.n).map fun b => V.int (L.down b : Nat)
def upsV (L : Lt) : List V := (List.range L.n).map fun a => V.int (L.up a : Nat)
def latAttrs : List Str := ["label", "size", "depth", "value_names", "downs", "ups", "bottom_at", "top_at"]
/-- a class of lattices, its methods mm -/
structure LatC (K : PySem.W.Frag) (mm : List (Str × Addr)) (C : Addr) : Prop where
  cl : Cls K C
  na : ∀ f ∈ latAttrs, NoAttr K C f
  me : ∀ q ∈ mm, Meth K C q.1 q.2
  lx : LatX K C
structure LatAt (K : PySem.W.Frag) (mm : List (Str × Addr)) (H : Hp) (p : Addr) (L : Lt) (C dx : Addr) (fs : List (Str × V)) (tn td tu : Addr) : Prop where
  at_ : H p = some (.ins C dx fs)
  c : LatC K mm C
  no : ∀ q ∈ mm, fs.lookup q.1 = none
  label : fs.lookup ("label" : Str) = some (.str L.label)
  size : fs.lookup ("size" : Str) = some (.int (L.n : Nat))
  depth : fs.lookup ("depth" : Str) = some (.int (L.depth : Nat))
  names : fs.lookup ("value_names" : Str) = some (.ref tn)
  downs : fs.lookup ("downs" : Str) = some (.ref td)
  ups : fs.lookup ("ups" : Str) = some (.ref tu)
  bot : fs.lookup ("bottom_at" : Str) = some (optV L.bot)
  top : fs.lookup ("top_at" : Str) = some (optV L.top)
  tn : NdT K H tn ∧ SqT K H tn (L.names.map V.str)
  td : NdT K H td ∧ SqT K H td (downsV L)
  tu : NdT K H tu ∧ SqT K H tu (upsV L)
def IsLat (K : PySem.W.Frag) (mm : List (Str × Addr)) (H : Hp) (p : Addr) (L : Lt) : Prop := ∃ C dx fs tn td tu, LatAt K mm H p L C dx fs tn td tu
theorem NdT.keep {K : PySem.W.Frag} {H H' : Hp} {p : Addr} (h : NdT K H p) (k : Keeps H H') : NdT K H' p := by
  rcases h with ⟨o, xs, h, d⟩ | h
  · exact .inl ⟨o, xs, k.frz _ _ _ h, d⟩
  · exact .inr h
theorem LatAt.to {K : PySem.W.Frag} {mm : List (Str × Addr)} {H H' : Hp} {p : Addr} {L : Lt} {C dx : Addr} {fs : List (Str × V)} {tn td tu : Addr} (A : LatAt K mm H p L C dx fs tn td tu) (k : Keeps H H') (e : H' p = some (.ins C dx fs)) : LatAt K mm H' p L C dx fs tn td tu :=
  ⟨e, A.c, A.no, A.label, A.size, A.depth, A.names, A.downs, A.ups, A.bot, A.top, ⟨A.tn.1.keep k, k.sqT A.tn.2⟩, ⟨A.td.1.keep k, k.sqT A.td.2⟩, ⟨A.tu.1.keep k, k.sqT A.tu.2⟩⟩
theorem LatAt.same {K : PySem.W.Frag} {mm : List (Str × Addr)} {H H' : Hp} {p : Addr} {L : Lt} {C dx : Addr} {fs : List (Str × V)} {tn td tu : Addr} (A : LatAt K mm H p L C dx fs tn td tu) (s : Same H H') : LatAt K mm H' p L C dx fs tn td tu := A.to s.keeps (s _ _ A.at_)
theorem IsLat.same {K : PySem.W.Frag} {mm : List (Str × Addr)} {H H' : Hp} {p : Addr} {L : Lt} (h : IsLat K mm H p L) (s : Same H H') : IsLat K mm H' p L := by
  obtain ⟨C, dx, fs, tn, td, tu, A⟩ := h
  exact ⟨C, dx, fs, tn, td, tu, A.same s⟩
/-- all but what stands at q, a list | an instance, is as it was -/
theorem IsLat.but {K : PySem.W.Frag} {mm : List (Str × Addr)} {H H' : Hp} {p q : Addr} {L : Lt} {o : HO} (h : IsLat K mm H p L) (b : But q H H') (hq : H q = some o) (m : Mut (some o)) (ne : p ≠ q) : IsLat K mm H' p L := by
  obtain ⟨C, dx, fs, tn, td, tu, A⟩ := h
  exact ⟨C, dx, fs, tn, td, tu, A.to (b.keeps hq m) (b _ _ ne A.at_)⟩
/-- a draw leaves it -/
theorem IsLat.drawn {K : PySem.W.Frag} {mm : List (Str × Addr)} {H H' : Hp} {p q ce : Addr} {L : Lt} (h : IsLat K mm H p L) (s : Src K ce H q) (b : But q H H') : IsLat K mm H' p L := by
  obtain ⟨cs, i, l, m, S⟩ := s
  refine h.but b S.at_ trivial fun e => ?_
  obtain ⟨C, dx, fs, tn, td, tu, A⟩ := h
  have := A.at_
  rw [e, S.at_] at this
  cases this
theorem flat_ints (l : List Nat) (f : Nat → Nat) : (l.map fun i => V.int (f i : Nat)).all flatV = true := by
  rw [List.all_map]
  exact List.all_eq_true.mpr fun _ _ => rfl
theorem at_map {n i : Nat} {f : Nat → V} (h : i < n) : ((List.range n).map f)[i]? = some (f i) := by
  rw [List.getElem?_map, List.getElem?_range h]; rfl
theorem at_map' {n i : Nat} {f : Nat → V} {x : V} (h : ((List.range n).map f)[i]? = some x) : i < n ∧ x = f i := by
  have hl := (List.getElem?_eq_some_iff.mp h).1
  rw [List.length_map, List.length_range] at hl
  rw [at_map hl] at h
  exact ⟨hl, (Option.some.inj h).symm⟩
theorem eqV_nat (a b : Nat) : eqV (.int (a : Nat)) (.int (b : Nat)) = (a == b) := by
  show ((a : Int) == (b : Int)) = (a == b)
  by_cases h : a = b
  · subst h; simp
  · have : ¬ (a : Int) = (b : Int) := by omega
    rw [beq_eq_false_iff_ne.mpr h, beq_eq_false_iff_ne.mpr this]
theorem inV_map (m n : Nat) (f : Nat → Nat) : inV (.int (m : Nat)) ((List.range n).map fun i => V.int (f i : Nat)) = (first n fun k => f k == m).isSome := by
  cases e : first n fun k => f k == m with
  | none =>
    show List.any _ _ = false
    rw [List.any_map, List.any_eq_false]
    intro i hi
    have := first_none e i (List.mem_range.mp hi)
    simp only [Function.comp, eqV_nat]
    rw [this]; decide
  | some k =>
    obtain ⟨h1, h2, _⟩ := first_some e
    show List.any _ _ = true
    rw [List.any_map, List.any_eq_true]
    exact ⟨k, List.mem_range.mpr h1, by simp only [Function.comp, eqV_nat]; exact h2⟩
theorem dec_bl {p : Prop} [Decidable p] : V.bl (decide p) = V.bl (decide p) := rfl
theorem int_ext {a b : Nat} : decide (V.int (a : Nat) = V.int (b : Nat)) = (a == b) := by
  by_cases h : a = b
  · subst h; simp
  · have : ¬ V.int (a : Nat) = V.int (b : Nat) := fun z => h (by have := V.int.inj z; omega)
    rw [decide_eq_false this, beq_eq_false_iff_ne.mpr h]
theorem dec_int {a b : Int} : decide (V.int a = V.int b) = decide (a = b) := by
  by_cases h : a = b
  · subst h; simp
  · have : ¬ V.int a = V.int b := fun z => h (V.int.inj z)
    rw [decide_eq_false this, decide_eq_false h]
theorem any_first (n : Nat) (p : Nat → Bool) : (List.range n).any p = (first n p).isSome := by
  cases e : first n p with
  | none =>
    rw [List.any_eq_false.mpr fun i hi => by rw [first_none e i (List.mem_range.mp hi)]; decide]
    rfl
  | some k =>
    obtain ⟨h1, h2, _⟩ := first_some e
    rw [List.any_eq_true.mpr ⟨k, List.mem_range.mpr h1, h2⟩]
    rfl
theorem one_shl (i : Nat) : (1 : Int) * 2 ^ ((i : Int)).toNat = ((2 ^ i : Nat) : Int) := by
  rw [Int.one_mul, Int.toNat_natCast, Int.natCast_pow]
  rfl
theorem rg_nat (n : Nat) : rgV 0 (n : Int) = natV (List.range n) := by
  unfold rgV natV
  rw [Int.sub_zero, Int.toNat_natCast]
  refine List.map_congr_left fun i _ => ?_
  rw [Int.zero_add]
theorem natV_append (a b : List Nat) : natV (a ++ b) = natV a ++ natV b := List.map_append
theorem natV_length (a : List Nat) : (natV a).length = a.length := List.length_map _
theorem filter_snoc (p : Nat → Bool) (i : Nat) : (List.range (i + 1)).filter p = (List.range i).filter p ++ if p i then [i] else [] := by
  rw [List.range_succ, List.filter_append]
  cases h : p i <;> simp [List.filter, h]
theorem filter_le (p : Nat → Bool) (i : Nat) : ((List.range i).filter p).length ≤ i := Nat.le_trans (List.length_filter_le _ _) (by rw [List.length_range]; exact Nat.le_refl _)
theorem yfn0 {x : V} {i : Nat} (h : x = (fun i : Nat => V.int (0 + (i : Int))) i) : x = .int (i : Nat) := by
  rw [h]
  show V.int (0 + (i : Int)) = _
  rw [Int.zero_add]
theorem andnot_nat (a b : Nat) : Builtin.bitAnd (a : Int) (Builtin.bitNot (b : Int)) = ((a - (a &&& b) : Nat) : Int) := by
  have hneg : ¬ (0 ≤ Builtin.bitNot (b : Int)) := by show ¬ (0 ≤ -(b : Int) - 1); omega
  have hpos : (0 : Int) ≤ (a : Int) := Int.natCast_nonneg _
  have nn : Builtin.bitNot (Builtin.bitNot (b : Int)) = (b : Int) := by show -(-(b : Int) - 1) - 1 = _; omega
  have le : a &&& b ≤ a := Nat.and_le_left
  have e : Builtin.bitAnd (a : Int) (Builtin.bitNot (b : Int)) = (a : Int) - ((a &&& b : Nat) : Int) := by
    unfold Builtin.bitAnd
    rw [show decide ((0 : Int) ≤ (a : Int)) = true from decide_eq_true hpos, show decide ((0 : Int) ≤ Builtin.bitNot (b : Int)) = false from decide_eq_false hneg]
    show (a : Int) - (((a : Int).toNat &&& (Builtin.bitNot (Builtin.bitNot (b : Int))).toNat : Nat) : Int) = _
    rw [nn]
    rfl
  rw [e]
  omega
/-- a's digits are all in b -/
def part (a b : Nat) : Bool := (a &&& b) == a
theorem part_is (a b : Nat) : decide (V.int (Builtin.bitAnd (a : Int) (Builtin.bitNot (b : Int))) = V.int 0) = part a b := by
  rw [dec_int, andnot_nat]
  unfold part
  have le : a &&& b ≤ a := Nat.and_le_left
  by_cases h : a &&& b = a
  · rw [beq_iff_eq.mpr h, h, Nat.sub_self]; rfl
  · rw [beq_eq_false_iff_ne.mpr h]
    exact decide_eq_false (by omega)
theorem eqV_str' (a b : Str) : eqV (.str a) (.str b) = (a == b) := rfl
theorem nodup_at' {α : Type} {l : List α} (nd : l.Nodup) {i j : Nat} {x : α} (h1 : l[i]? = some x) (h2 : l[j]? = some x) : i = j := by
  obtain ⟨l1, e1⟩ := List.getElem?_eq_some_iff.mp h1
  obtain ⟨l2, e2⟩ := List.getElem?_eq_some_iff.mp h2
  rcases Nat.lt_trichotomy i j with c | c | c
  · exact absurd (e1.trans e2.symm) (List.pairwise_iff_getElem.mp nd i j l1 l2 c)
  · exact c
  · exact absurd (e2.trans e1.symm) (List.pairwise_iff_getElem.mp nd j i l2 l1 c)
/-! ### the plain law: chains and sets; small facts -/
section
theorem empty_app (x : Str) : Str.empty ++ x = x := by
  obtain ⟨a⟩ := x
  show (⟨#[] ++ a⟩ : Str) = ⟨a⟩
  rw [Array.empty_append]
theorem log_small {i : Nat} (h : i < 2 ^ 64) : ((i : Nat) : Int).natAbs.log2 < 1920 := by
  rw [Int.natAbs_natCast]
  rcases Nat.eq_zero_or_pos i with e | e
  · subst e; decide
  · exact Nat.lt_trans ((Nat.log2_lt (by omega)).mpr h) (by decide)
def natS (i : Nat) : Str := Str.ofString (toString ((i : Nat) : Int))
theorem mask_upto {n i : Nat} (h : i < n) : mask n (fun a => decide (a ≤ i)) = 2 ^ (i + 1) - 1 := by
  refine Nat.eq_of_testBit_eq fun j => ?_
  rw [mask_bit, Nat.testBit_two_pow_sub_one]
  by_cases c : j ≤ i
  · have : j < n := by omega
    have c2 : j < i + 1 := by omega
    simp [c, this, c2]
  · have c2 : ¬ j < i + 1 := by omega
    simp [c, c2]
theorem natS_len {i : Nat} (h : i ≤ 100) : (natS i).length ≤ 3 := by
  have q : ∀ j : Fin 101, (natS j.val).length ≤ 3 := by decide +kernel
  exact q ⟨i, by omega⟩
theorem small_line {n : Nat} (h : n ≤ 1000000) : n ≤ sizeLine := Nat.le_trans h (by decide)
def chainL (n : Nat) : Lt := { label := ("(chain " : Str) ++ natS n ++ (")" : Str), names := (List.range n).map natS, le := fun a b => decide (a ≤ b), depth := 1 }
theorem chainL_n (n : Nat) : (chainL n).n = n := by simp [chainL, Lt.n]
/-- one digit of a number, as a text -/
def digS (m k : Nat) : Str := if m.testBit k then ("1" : Str) else ("0" : Str)
theorem digS_is (m k : Nat) : (Str.ofString (toString (Builtin.bitAnd ((m : Int) / 2 ^ k) 1)) : Str) = digS m k := by
  rw [bit_int]
  unfold digS
  cases m.testBit k <;> rfl
theorem digS_log (m k : Nat) : (Builtin.bitAnd ((m : Int) / 2 ^ k) 1).natAbs.log2 < 1920 := by
  rw [bit_int]
  cases m.testBit k <;> decide
theorem digS_len (m k : Nat) : (digS m k).length = 1 := by
  unfold digS
  cases m.testBit k <;> rfl
def setDigs (c m : Nat) : List Str := (List.range c).map fun j => digS m (c - 1 - j)
def setName (c m : Nat) : Str := PySem.Txt.join (("" : Str)) (setDigs c m)
def setsL (c : Nat) : Lt := { label := ("(sets " : Str) ++ natS c ++ (")" : Str), names := (List.range (2 ^ c)).map (setName c), le := fun a b => part a b, depth := 1 }
theorem setsL_n (c : Nat) : (setsL c).n = 2 ^ c := by simp [setsL, Lt.n]
theorem setDigs_sum (c m : Nat) : ((setDigs c m).map (·.length)).sum = c := by
  unfold setDigs
  rw [List.map_map]
  have : ((fun x : Str => x.length) ∘ fun j => digS m (c - 1 - j)) = fun _ => 1 := by funext j; exact digS_len _ _
  rw [this, List.map_const']
  simp
end
/-! ### the plain law: joins and meets, chains and sets -/
namespace Lt
structure Ord (L : Lt) : Prop where
  refl : ∀ a, a < L.n → L.le a a = true
  anti : ∀ a b, a < L.n → b < L.n → L.le a b = true → L.le b a = true → a = b
theorem up_eq (L : Lt) (k : Nat) (p : Nat → Bool) : (L.up k == mask L.n p) = true ↔ ∀ i, i < L.n → L.le k i = p i := by
  rw [beq_iff_eq]; exact mask_eq
theorem down_eq (L : Lt) (k : Nat) (p : Nat → Bool) : (L.down k == mask L.n p) = true ↔ ∀ i, i < L.n → L.le i k = p i := by
  rw [beq_iff_eq]; exact mask_eq
theorem join_eq (L : Lt) (a b : Nat) : L.join a b = first L.n fun k => L.up k == mask L.n fun i => L.le a i && L.le b i := by
  unfold join
  rw [show L.up a &&& L.up b = mask L.n fun i => L.le a i && L.le b i from mask_and _ _ _]
theorem meet_eq (L : Lt) (a b : Nat) : L.meet a b = first L.n fun k => L.down k == mask L.n fun i => L.le i a && L.le i b := by
  unfold meet
  rw [show L.down a &&& L.down b = mask L.n fun i => L.le i a && L.le i b from mask_and _ _ _]
theorem Ord.ups {L : Lt} (o : L.Ord) {p : Nat → Bool} {k : Nat} (hk : k < L.n) (h : ∀ i, i < L.n → L.le k i = p i) : (first L.n fun k => L.up k == mask L.n p) = some k := by
  refine first_is hk ((up_eq L k p).mpr h) fun j hj => Bool.eq_false_iff.mpr fun z => ?_
  have z := (up_eq L j p).mp z
  have hj' : j < L.n := by omega
  have e := o.anti j k hj' hk (by rw [z k hk, ← h k hk]; exact o.refl k hk) (by rw [h j hj', ← z j hj']; exact o.refl j hj')
  omega
theorem Ord.downs {L : Lt} (o : L.Ord) {p : Nat → Bool} {k : Nat} (hk : k < L.n) (h : ∀ i, i < L.n → L.le i k = p i) : (first L.n fun k => L.down k == mask L.n p) = some k := by
  refine first_is hk ((down_eq L k p).mpr h) fun j hj => Bool.eq_false_iff.mpr fun z => ?_
  have z := (down_eq L j p).mp z
  have hj' : j < L.n := by omega
  have e := o.anti j k hj' hk (by rw [h j hj', ← z j hj']; exact o.refl j hj') (by rw [z k hk, ← h k hk]; exact o.refl k hk)
  omega
theorem Ord.join {L : Lt} (o : L.Ord) {a b k : Nat} (hk : k < L.n) (h : ∀ i, i < L.n → L.le k i = (L.le a i && L.le b i)) : L.join a b = some k := by rw [join_eq]; exact o.ups hk h
theorem Ord.meet {L : Lt} (o : L.Ord) {a b k : Nat} (hk : k < L.n) (h : ∀ i, i < L.n → L.le i k = (L.le i a && L.le i b)) : L.meet a b = some k := by rw [meet_eq]; exact o.downs hk h
theorem Ord.bot {L : Lt} (o : L.Ord) {k : Nat} (hk : k < L.n) (h : ∀ i, i < L.n → L.le k i = true) : L.bot = some k := by
  unfold Lt.bot
  rw [← mask_all]
  exact o.ups hk h
theorem Ord.top {L : Lt} (o : L.Ord) {k : Nat} (hk : k < L.n) (h : ∀ i, i < L.n → L.le i k = true) : L.top = some k := by
  unfold Lt.top
  rw [← mask_all]
  exact o.downs hk h
theorem irr_iff (L : Lt) (a : Nat) : L.irr a = true ↔ ∃ k, k < L.n ∧ ∀ i, i < L.n → L.le i k = (L.le i a && !(i == a)) := by
  unfold irr
  rw [List.any_eq_true]
  constructor
  · rintro ⟨k, hk, h⟩
    exact ⟨k, List.mem_range.mp hk, (down_eq L k _).mp h⟩
  · rintro ⟨k, hk, h⟩
    exact ⟨k, List.mem_range.mpr hk, (down_eq L k _).mpr h⟩
end Lt
theorem chain_ord (n : Nat) : (chainL n).Ord := ⟨fun a _ => by simp [chainL], fun a b _ _ h1 h2 => by simp [chainL] at h1 h2; omega⟩
theorem chain_join {n a b : Nat} (ha : a < n) (hb : b < n) : (chainL n).join a b = some (max a b) :=
  (chain_ord n).join (by rw [chainL_n]; omega) fun i _ => by
    show decide (max a b ≤ i) = (decide (a ≤ i) && decide (b ≤ i))
    rw [← Bool.decide_and]
    exact decide_eq_decide.mpr (by omega)
theorem chain_meet {n a b : Nat} (ha : a < n) (hb : b < n) : (chainL n).meet a b = some (min a b) :=
  (chain_ord n).meet (by rw [chainL_n]; omega) fun i _ => by
    show decide (i ≤ min a b) = (decide (i ≤ a) && decide (i ≤ b))
    rw [← Bool.decide_and]
    exact decide_eq_decide.mpr (by omega)
theorem chain_bot {n : Nat} (h : 1 ≤ n) : (chainL n).bot = some 0 := (chain_ord n).bot (by rw [chainL_n]; omega) fun i _ => by simp [chainL]
theorem chain_top {n : Nat} (h : 1 ≤ n) : (chainL n).top = some (n - 1) := (chain_ord n).top (by rw [chainL_n]; omega) fun i hi => by rw [chainL_n] at hi; simp [chainL]; omega
theorem chain_irr {n a : Nat} (ha : a < n) : (chainL n).irr a = decide (1 ≤ a) := by
  rw [Bool.eq_iff_iff, Lt.irr_iff, decide_eq_true_iff]
  rw [chainL_n]
  constructor
  · rintro ⟨k, hk, h⟩
    have := h k hk
    simp [chainL] at this
    omega
  · intro h
    refine ⟨a - 1, by omega, fun i hi => ?_⟩
    show decide (i ≤ a - 1) = (decide (i ≤ a) && !(i == a))
    rw [Bool.eq_iff_iff]
    simp
    omega
theorem range_pos : ∀ n : Nat, (List.range n).filter (fun a => decide (1 ≤ a)) = (List.range (n - 1)).map (· + 1)
  | 0 => rfl
  | 1 => rfl
  | n + 2 => by
    rw [List.range_succ, List.filter_append, range_pos (n + 1)]
    show _ = (List.range (n + 1)).map (· + 1)
    rw [List.range_succ (n := n), List.map_append]
    simp [List.filter]
theorem chain_irrs (n : Nat) : (chainL n).irrs = (List.range (n - 1)).map (· + 1) := by
  unfold Lt.irrs
  rw [chainL_n, ← range_pos]
  refine List.filter_congr fun a ha => ?_
  exact chain_irr (List.mem_range.mp ha)
theorem part_bits {a b : Nat} : part a b = true ↔ ∀ j, a.testBit j = true → b.testBit j = true := by
  unfold part
  rw [beq_iff_eq]
  constructor
  · intro h j hj
    have := congrArg (Nat.testBit · j) h
    simp only [Nat.testBit_and, hj, Bool.true_and] at this
    exact this
  · intro h
    refine Nat.eq_of_testBit_eq fun j => ?_
    rw [Nat.testBit_and]
    cases e : a.testBit j with
    | false => rfl
    | true => rw [h j e]; rfl
theorem part_refl (a : Nat) : part a a = true := part_bits.mpr fun _ h => h
theorem part_anti {a b : Nat} (h1 : part a b = true) (h2 : part b a = true) : a = b := by
  refine Nat.eq_of_testBit_eq fun j => ?_
  rw [Bool.eq_iff_iff]
  exact ⟨part_bits.mp h1 j, part_bits.mp h2 j⟩
theorem part_or (a b i : Nat) : part (a ||| b) i = (part a i && part b i) := by
  rw [Bool.eq_iff_iff, Bool.and_eq_true, part_bits, part_bits, part_bits]
  constructor
  · intro h
    exact ⟨fun j hj => h j (by rw [Nat.testBit_or, hj, Bool.true_or]), fun j hj => h j (by rw [Nat.testBit_or, hj, Bool.or_true])⟩
  · rintro ⟨h1, h2⟩ j hj
    rw [Nat.testBit_or, Bool.or_eq_true] at hj
    exact hj.elim (h1 j) (h2 j)
theorem part_and (a b i : Nat) : part i (a &&& b) = (part i a && part i b) := by
  rw [Bool.eq_iff_iff, Bool.and_eq_true, part_bits, part_bits, part_bits]
  constructor
  · intro h
    exact ⟨fun j hj => by have := h j hj; rw [Nat.testBit_and, Bool.and_eq_true] at this; exact this.1, fun j hj => by have := h j hj; rw [Nat.testBit_and, Bool.and_eq_true] at this; exact this.2⟩
  · rintro ⟨h1, h2⟩ j hj
    rw [Nat.testBit_and, h1 j hj, h2 j hj]; rfl
theorem sets_ord (c : Nat) : (setsL c).Ord := ⟨fun a _ => part_refl a, fun a b _ _ h1 h2 => part_anti h1 h2⟩
theorem sets_join {c a b : Nat} (ha : a < 2 ^ c) (hb : b < 2 ^ c) : (setsL c).join a b = some (a ||| b) :=
  (sets_ord c).join (by rw [setsL_n]; exact Nat.or_lt_two_pow ha hb) fun i _ => part_or a b i
theorem sets_meet {c a b : Nat} (ha : a < 2 ^ c) : (setsL c).meet a b = some (a &&& b) :=
  (sets_ord c).meet (by rw [setsL_n]; exact Nat.lt_of_le_of_lt Nat.and_le_left ha) fun i _ => part_and a b i
theorem sets_bot (c : Nat) : (setsL c).bot = some 0 := (sets_ord c).bot (by rw [setsL_n]; exact Nat.pow_pos (by decide)) fun i _ => part_bits.mpr fun j h => by simp at h
theorem sets_top (c : Nat) : (setsL c).top = some (2 ^ c - 1) := (sets_ord c).top (by rw [setsL_n]; have := Nat.pow_pos (n := c) (show 0 < 2 by decide); omega) fun i hi => by
  rw [setsL_n] at hi
  refine part_bits.mpr fun j h => ?_
  rw [Nat.testBit_two_pow_sub_one]
  refine decide_eq_true (Nat.lt_of_not_le fun z => ?_)
  rw [Nat.testBit_lt_two_pow (Nat.lt_of_lt_of_le hi (Nat.pow_le_pow_right (by decide) z))] at h
  cases h
theorem sets_irrs : ∀ c, c ≤ 6 → (setsL c).irrs = (List.range c).map (2 ^ ·) := by
  have q : ∀ c : Fin 7, (setsL c.val).irrs = (List.range c.val).map (2 ^ ·) := by decide +kernel
  exact fun c h => q ⟨c, by omega⟩
theorem sets_nodup : ∀ c, c ≤ 6 → (setsL c).names.Nodup := by
  have q : ∀ c : Fin 7, (setsL c.val).names.Nodup := by decide +kernel
  exact fun c h => q ⟨c, by omega⟩
theorem chain_nodup {n : Nat} (h : n ≤ 64) : (chainL n).names.Nodup := by
  have q : (chainL 64).names.Nodup := by decide +kernel
  have e : (chainL n).names = (chainL 64).names.take n := by
    show (List.range n).map natS = ((List.range 64).map natS).take n
    rw [← List.map_take, List.take_range, Nat.min_eq_left h]
  rw [e]
  exact q.sublist (List.take_sublist _ _)
section
/-- a statement: what is known behind it -/
theorem st_run {t u : TS} {D : Ends} {σ : L2.St} {H : Hp} (Pv : L2.St → Hp → Prop) (h : ∀ D' : Ends, D'.rt = D.rt → (∀ σ' H', Pv σ' H' → D'.nx σ' H') → t D' σ H) (q : ∀ σ' H', Pv σ' H' → u D σ' H') : tSeq t u D σ H := h _ rfl q
theorem rg_run {te : TE} {g : TG} {tb u : TS} {D : Ends} {σ : L2.St} {H : Hp} (Pv : Int → Hp → Prop) (h : ∀ Q' : V → Hp → Prop, (∀ n H', Pv n H' → Q' (.int n) H') → te σ H Q')
    (q : ∀ n H', Pv n H' → tSeq (tFor (iRng1 (tCons (tC (.int n)) tNil)) g tb) u D σ H') : tSeq (tFor (iRng1 (tCons te tNil)) g tb) u D σ H := h _ fun n H' p => q n H' p
/-- behind a new instance's __init__ -/
theorem made_same {H H' : Hp} {x dx : Addr} {o o2 : HO} (hx : H x = none) (hd : H dx = none) (b : But x (upd (upd H dx o) x o2) H') : Same H H' := fun c u hc => by
  have n1 := ne_of_none hc hx
  have n2 := ne_of_none hc hd
  exact b c u n1 (by rw [upd_ne n1, upd_ne n2]; exact hc)
theorem natV_int (l : List Nat) : natV l = (l.map fun i : Nat => (i : Int)).map V.int := by unfold natV; rw [List.map_map]; rfl
end
theorem str_at' {xs : List Str} {d : Int} (h0 : 0 ≤ d) (h1 : d < xs.length) : ∃ x, x ∈ xs ∧ atI (xs.map V.str) d = some (.str x) := by
  have hl : d.toNat < xs.length := by omega
  refine ⟨xs[d.toNat], List.getElem_mem hl, ?_⟩
  have e : d = (d.toNat : Int) := by omega
  have r : atI (xs.map V.str) (d.toNat : Int) = some (.str xs[d.toNat]) := atI_nat (by rw [List.getElem?_map, List.getElem?_eq_getElem hl]; rfl)
  rw [← e] at r
  exact r
/-! ### list.count of flat items -/
section
open PySem.Spec PyProof.Rows
variable {X : Cx}
theorem countP_eqU {x : V} : ∀ {xs : List V} {us : List Value}, Vals xs us → xs.all flatV = true → us.countP (eqU x) = xs.countP fun y => eqV y x
  | _, _, .nil, _ => rfl
  | y :: xs, u :: us, .cons r t, f => by
    rw [List.all_cons, Bool.and_eq_true] at f
    rw [List.countP_cons, List.countP_cons, countP_eqU t f.2, eqU_of r f.1]
def rCntF (K : PySem.W.Frag) : V → List V → Hp → VK → Prop := fun x xs H Q => ∃ (p : Addr) (ys : List V) (y : V), x = .ref p ∧ xs = [y] ∧ SqL K H p ys ∧ flatV y = true ∧ ys.all flatV = true ∧ Q (.int (ys.countP (fun z => eqV z y) : Nat)) H
theorem mt_countF : MtR X "list.count" (rCntF X.K) := by
  intro pins s σ H x xs v us Q I rx rxs h
  obtain ⟨p, ys, y, rfl, rfl, hs, fy, fys, q⟩ := h
  cases rx
  obtain ⟨uy, rfl, ry⟩ := rxs.one
  obtain ⟨its, rv, ⟨⟨cls, dd, dt, sl⟩, n, ho, hc, hdn, hd⟩, hlen⟩ := I.list hs
  simp only at hc hd
  subst hc hd
  refine call_meets PySem.F.slot_list_count ⟨_, ho, rfl⟩ PySem.F.entry_list_count (PySem.F.args_list_count_2 _ _)
    (SeqAt.list_countAt p its.toArray n dd sl uy (eqU y)) ⟨ho, fun w hw => mem_eqAt ry fy rv fys w (by simpa using hw), ?_⟩
  have ec : its.toArray.toList.countP (eqU y) = ys.countP fun z => eqV z y := countP_eqU rv fys
  refine ⟨.int (ys.countP (fun z => eqV z y) : Nat), H, I.tok _, ⟨s.toks, ?_⟩, q⟩
  show Value.int ((its.toArray.toList.countP (eqU y) : Nat) : Int) s.toks = _
  rw [ec]
theorem kx_mt_countF {X : Cx} (K : PySem.W.Frag) (h : X.K = K := by rfl) : MtR X "list.count" (rCntF K) := h ▸ mt_countF
theorem kx_mt_index {X : Cx} (K : PySem.W.Frag) (h : X.K = K := by rfl) : MtR X "list.index" (rIndex K) := h ▸ mt_index
theorem kx_mt_tindexF {X : Cx} (K : PySem.W.Frag) (h : X.K = K := by rfl) : MtR X "tuple.index" (rTupIx K) := h ▸ mt_tindexF
end
/-! ### the plain law: rows of pairs -/
/-- from a, along at most k pairs, to b -/
def reachK (ps : List (Nat × Nat)) : Nat → Nat → Nat → Bool
  | 0, a, b => a == b
  | k + 1, a, b => reachK ps k a b || ps.any fun q => q.2 == b && reachK ps k a q.1
inductive Reach (ps : List (Nat × Nat)) (a : Nat) : Nat → Prop where
  | here : Reach ps a a
  | step {b c : Nat} : Reach ps a b → (b, c) ∈ ps → Reach ps a c
theorem reachK_sound {ps : List (Nat × Nat)} {a : Nat} : ∀ {k b : Nat}, reachK ps k a b = true → Reach ps a b
  | 0, b, h => by
    have : a = b := by simpa [reachK] using h
    subst this; exact .here
  | k + 1, b, h => by
    rw [reachK, Bool.or_eq_true] at h
    rcases h with h | h
    · exact reachK_sound h
    · obtain ⟨⟨l, u⟩, hq, h2⟩ := List.any_eq_true.mp h
      rw [Bool.and_eq_true] at h2
      have e : u = b := by simpa using h2.1
      subst e
      exact .step (reachK_sound h2.2) hq
/-- what is closed under the pairs holds all that is reached -/
theorem Reach.of_closed {ps : List (Nat × Nat)} {a : Nat} (r : Nat → Prop) (h0 : r a) (hs : ∀ b c, (b, c) ∈ ps → r b → r c) : ∀ {b : Nat}, Reach ps a b → r b
  | _, .here => h0
  | _, .step h m => hs _ _ m (Reach.of_closed r h0 hs h)
theorem Reach.trans {ps : List (Nat × Nat)} {a b : Nat} (h1 : Reach ps a b) : ∀ {c : Nat}, Reach ps b c → Reach ps a c
  | _, .here => h1
  | _, .step h m => .step (Reach.trans h1 h) m
/-- the order of the pairs: closed at k steps -/
theorem reach_iff {ps : List (Nat × Nat)} {n k : Nat} (hp : ∀ q ∈ ps, q.1 < n ∧ q.2 < n) (hc : ∀ a b, a < n → b < n → reachK ps (k + 1) a b = true → reachK ps k a b = true) {a b : Nat} (ha : a < n) : Reach ps a b ↔ reachK ps k a b = true := by
  constructor
  · intro h
    have refl : ∀ j, reachK ps j a a = true := fun j => by
      induction j with
      | zero => simp [reachK]
      | succ j ih => rw [reachK, ih, Bool.true_or]
    refine Reach.of_closed (fun b => reachK ps k a b = true) (refl k) (fun b c m hb => hc a c ha (hp _ m).2 ?_) h
    rw [reachK, Bool.or_eq_true]
    exact .inr (List.any_eq_true.mpr ⟨(b, c), m, by simp [hb]⟩)
  · exact reachK_sound
open Classical in
noncomputable def reachB (ps : List (Nat × Nat)) (a b : Nat) : Bool := decide (Reach ps a b)
open Classical in
theorem reachB_iff {ps : List (Nat × Nat)} {a b : Nat} : reachB ps a b = true ↔ Reach ps a b := by unfold reachB; exact decide_eq_true_iff
/-- the number of marks in rows -/
def marks (n : Nat) (p : Nat → Nat → Bool) : Nat := ((List.range n).map fun b => ((List.range n).filter (p b)).length).sum
theorem sum_le {f g : Nat → Nat} : ∀ {l : List Nat}, (∀ x ∈ l, f x ≤ g x) → (l.map f).sum ≤ (l.map g).sum
  | [], _ => Nat.le_refl _
  | x :: l, h => by
    simp only [List.map_cons, List.sum_cons]
    exact Nat.add_le_add (h x (.head _)) (sum_le fun y hy => h y (.tail _ hy))
theorem sum_lt {f g : Nat → Nat} : ∀ {l : List Nat}, (∀ x ∈ l, f x ≤ g x) → (∃ x ∈ l, f x < g x) → (l.map f).sum < (l.map g).sum
  | [], _, ⟨x, hx, _⟩ => by cases hx
  | x :: l, h, ⟨y, hy, hl⟩ => by
    simp only [List.map_cons, List.sum_cons]
    rcases List.mem_cons.mp hy with e | e
    · subst e
      exact Nat.add_lt_add_of_lt_of_le hl (sum_le fun z hz => h z (.tail _ hz))
    · exact Nat.add_lt_add_of_le_of_lt (h x (.head _)) (sum_lt (fun z hz => h z (.tail _ hz)) ⟨y, e, hl⟩)
theorem filter_len_le {p q : Nat → Bool} : ∀ {l : List Nat}, (∀ x ∈ l, p x = true → q x = true) → (l.filter p).length ≤ (l.filter q).length
  | [], _ => Nat.le_refl _
  | x :: l, h => by
    have ih := filter_len_le (l := l) fun y hy => h y (.tail _ hy)
    have hx := h x (.head _)
    cases e : p x with
    | false =>
      cases e2 : q x <;> simp [List.filter, e, e2] <;> omega
    | true =>
      have e2 := hx e
      simp [List.filter, e, e2]; omega
theorem filter_len_lt {p q : Nat → Bool} : ∀ {l : List Nat}, (∀ x ∈ l, p x = true → q x = true) → (∃ x ∈ l, p x = false ∧ q x = true) → (l.filter p).length < (l.filter q).length
  | [], _, ⟨x, hx, _⟩ => by cases hx
  | x :: l, h, ⟨y, hy, h1, h2⟩ => by
    have hx := h x (.head _)
    have ih := filter_len_le (l := l) fun y hy => h y (.tail _ hy)
    rcases List.mem_cons.mp hy with e | e
    · subst e
      simp [List.filter, h1, h2]; omega
    · have ih2 := filter_len_lt (l := l) (fun z hz => h z (.tail _ hz)) ⟨y, e, h1, h2⟩
      cases e3 : p x with
      | false => cases e4 : q x <;> simp [List.filter, e3, e4] <;> omega
      | true => have e4 := hx e3; simp [List.filter, e3, e4]; omega
theorem marks_lt {n : Nat} {p q : Nat → Nat → Bool} (h : ∀ b a, b < n → a < n → p b a = true → q b a = true) {b a : Nat} (hb : b < n) (ha : a < n) (h1 : p b a = false) (h2 : q b a = true) : marks n p < marks n q := by
  unfold marks
  refine sum_lt (fun x hx => filter_len_le fun y hy => h x y (List.mem_range.mp hx) (List.mem_range.mp hy)) ⟨b, List.mem_range.mpr hb, filter_len_lt (fun y hy => h b y hb (List.mem_range.mp hy)) ⟨a, List.mem_range.mpr ha, h1, h2⟩⟩
theorem sum_rep (m : Nat) : ∀ k, (List.replicate k m).sum = k * m
  | 0 => by simp
  | k + 1 => by rw [List.replicate_succ, List.sum_cons, sum_rep m k, Nat.succ_mul]; omega
theorem marks_le (n : Nat) (p : Nat → Nat → Bool) : marks n p ≤ n * n := by
  unfold marks
  have : ((List.range n).map fun b => ((List.range n).filter (p b)).length).sum ≤ ((List.range n).map fun _ => n).sum := sum_le fun x _ => filter_le _ _
  rw [List.map_const', List.length_range, sum_rep] at this
  exact this
/-! ### the plain law: orders as rows -/
/-- the join by rows: the first upper bound within all upper bounds -/
def rowJ (n : Nat) (R : Nat → Nat → Bool) (a b : Nat) : Option Nat := first n fun c => (R a c && R b c) && (List.range n).all fun d => !(R a d && R b d) || R c d
def rowF (R : Nat → Nat → Bool) : Nat → Nat → Bool := fun a b => R b a
def rowLow (n : Nat) (R : Nat → Nat → Bool) : Option Nat := first n fun a => (List.range n).all fun d => R a d
structure Pre (n : Nat) (R : Nat → Nat → Bool) : Prop where
  refl : ∀ a, a < n → R a a = true
  trans : ∀ a b c, a < n → b < n → c < n → R a b = true → R b c = true → R a c = true
theorem Pre.flip {n : Nat} {R : Nat → Nat → Bool} (h : Pre n R) : Pre n (rowF R) := ⟨h.refl, fun a b c ha hb hc h1 h2 => h.trans c b a hc hb ha h2 h1⟩
theorem Pre.row {n : Nat} {R : Nat → Nat → Bool} (h : Pre n R) {a b k : Nat} (ha : a < n) (hb : b < n) (hk : k < n) : (∀ i, i < n → R k i = (R a i && R b i)) ↔ ((R a k && R b k) && (List.range n).all fun d => !(R a d && R b d) || R k d) = true := by
  rw [Bool.and_eq_true, List.all_eq_true]
  constructor
  · intro q
    refine ⟨by rw [← q k hk]; exact h.refl k hk, fun d hd => ?_⟩
    rw [q d (List.mem_range.mp hd)]
    cases (R a d && R b d) <;> rfl
  · rintro ⟨q1, q2⟩ i hi
    rw [Bool.and_eq_true] at q1
    have := q2 i (List.mem_range.mpr hi)
    rw [Bool.eq_iff_iff]
    constructor
    · intro z
      rw [Bool.and_eq_true]
      exact ⟨h.trans a k i ha hk hi q1.1 z, h.trans b k i hb hk hi q1.2 z⟩
    · intro z
      rw [z] at this
      simpa using this
theorem join_row {L : Lt} (h : Pre L.n L.le) {a b : Nat} (ha : a < L.n) (hb : b < L.n) : L.join a b = rowJ L.n L.le a b := by
  rw [Lt.join_eq]
  refine first_ext fun k hk => ?_
  rw [Bool.eq_iff_iff, Lt.up_eq]
  exact h.row ha hb hk
theorem meet_row {L : Lt} (h : Pre L.n L.le) {a b : Nat} (ha : a < L.n) (hb : b < L.n) : L.meet a b = rowJ L.n (rowF L.le) a b := by
  rw [Lt.meet_eq]
  refine first_ext fun k hk => ?_
  rw [Bool.eq_iff_iff, Lt.down_eq]
  exact h.flip.row ha hb hk
theorem bot_row (L : Lt) : L.bot = rowLow L.n L.le := by
  refine first_ext fun k hk => ?_
  rw [Bool.eq_iff_iff, ← mask_all, Lt.up_eq, List.all_eq_true]
  exact ⟨fun q x hx => q x (List.mem_range.mp hx), fun q x hx => q x (List.mem_range.mpr hx)⟩
theorem top_row (L : Lt) : L.top = rowLow L.n (rowF L.le) := by
  refine first_ext fun k hk => ?_
  rw [Bool.eq_iff_iff, ← mask_all, Lt.down_eq, List.all_eq_true]
  exact ⟨fun q x hx => q x (List.mem_range.mp hx), fun q x hx => q x (List.mem_range.mpr hx)⟩
theorem rowJ_ext {n : Nat} {R S : Nat → Nat → Bool} (h : ∀ a b, a < n → b < n → R a b = S a b) {a b : Nat} (ha : a < n) (hb : b < n) : rowJ n R a b = rowJ n S a b := by
  refine first_ext fun k hk => ?_
  rw [h a k ha hk, h b k hb hk]
  congr 1
  rw [Bool.eq_iff_iff, List.all_eq_true, List.all_eq_true]
  exact ⟨fun q x hx => by have hx' := List.mem_range.mp hx; rw [← h a x ha hx', ← h b x hb hx', ← h k x hk hx']; exact q x hx, fun q x hx => by have hx' := List.mem_range.mp hx; rw [h a x ha hx', h b x hb hx', h k x hk hx']; exact q x hx⟩
theorem rowJ_spec {n : Nat} {R : Nat → Nat → Bool} {a b k : Nat} (h : rowJ n R a b = some k) : k < n ∧ R a k = true ∧ R b k = true ∧ ∀ d, d < n → R a d = true → R b d = true → R k d = true := by
  obtain ⟨h1, h2, _⟩ := first_some h
  rw [Bool.and_eq_true, Bool.and_eq_true, List.all_eq_true] at h2
  refine ⟨h1, h2.1.1, h2.1.2, fun d hd q1 q2 => ?_⟩
  have := h2.2 d (List.mem_range.mpr hd)
  rw [q1, q2] at this
  simpa using this
/-! irreducible values where all joins and the bottom are there -/
/-- a value that is no bottom and no join of two others -/
def rowIrr (n : Nat) (R : Nat → Nat → Bool) (a : Nat) : Bool := !((List.range n).any fun b => !(b == a) && (List.range n).any fun c => !(c == a) && rowJ n R b c == some a) && !(some a == rowLow n R)
theorem irr_row {L : Lt} (o : L.Ord) (h : Pre L.n L.le) {l : Nat} (hl : rowLow L.n L.le = some l) (hj : ∀ a b, a < L.n → b < L.n → ∃ k, rowJ L.n L.le a b = some k) {a : Nat} (ha : a < L.n) : L.irr a = rowIrr L.n L.le a := by
  obtain ⟨l1, l2, _⟩ := first_some hl
  have l2 : ∀ d, d < L.n → L.le l d = true := fun d hd => (List.all_eq_true.mp l2) d (List.mem_range.mpr hd)
  rw [Bool.eq_iff_iff]
  unfold Lt.irr rowIrr
  rw [List.any_eq_true, Bool.and_eq_true, hl]
  constructor
  · rintro ⟨g, hg, q⟩
    have hg := List.mem_range.mp hg
    have q := (Lt.down_eq L g _).mp q
    have ga : L.le g a = true ∧ g ≠ a := by
      have := q g hg
      rw [h.refl g hg] at this
      have := this.symm
      simpa using this
    refine ⟨?_, ?_⟩
    · rw [Bool.not_eq_true', Bool.eq_false_iff]
      intro z
      obtain ⟨b, hb, z⟩ := List.any_eq_true.mp z
      rw [Bool.and_eq_true] at z
      obtain ⟨c, hc, z2⟩ := List.any_eq_true.mp z.2
      rw [Bool.and_eq_true] at z2
      have hb := List.mem_range.mp hb
      have hc := List.mem_range.mp hc
      have e : rowJ L.n L.le b c = some a := by simpa using z2.2
      obtain ⟨_, j1, j2, j3⟩ := rowJ_spec e
      have b1 : L.le b g = true := by rw [q b hb, j1]; simpa using z.1
      have c1 : L.le c g = true := by rw [q c hc, j2]; simpa using z2.1
      exact ga.2 (o.anti g a hg ha ga.1 (j3 g hg b1 c1))
    · rw [Bool.not_eq_true', beq_eq_false_iff_ne]
      intro z
      have z := Option.some.inj z
      rw [← z] at l2
      exact ga.2 (o.anti g a hg ha ga.1 (l2 g hg))
  · rintro ⟨q1, q2⟩
    have ne : a ≠ l := by simpa using q2
    have nm : ∀ b c, b < L.n → c < L.n → b ≠ a → c ≠ a → rowJ L.n L.le b c ≠ some a := fun b c hb hc nb nc e => by
      rw [Bool.not_eq_true', Bool.eq_false_iff] at q1
      refine q1 (List.any_eq_true.mpr ⟨b, List.mem_range.mpr hb, ?_⟩)
      rw [Bool.and_eq_true]
      refine ⟨by simpa using nb, List.any_eq_true.mpr ⟨c, List.mem_range.mpr hc, ?_⟩⟩
      rw [Bool.and_eq_true]
      exact ⟨by simpa using nc, by rw [e]; exact beq_self_eq_true _⟩
    -- the join of all lesser values below m
    have fold : ∀ m, m ≤ L.n → ∃ g, g < L.n ∧ L.le g a = true ∧ g ≠ a ∧ ∀ i, i < m → L.le i a = true → i ≠ a → L.le i g = true := fun m => by
      induction m with
      | zero => exact fun _ => ⟨l, l1, l2 a ha, fun e => ne e.symm, fun i hi => absurd hi (Nat.not_lt_zero _)⟩
      | succ m ih =>
        intro hm
        obtain ⟨g, g1, g2, g3, g4⟩ := ih (by omega)
        by_cases c : L.le m a = true ∧ m ≠ a
        · obtain ⟨k, hk⟩ := hj g m g1 (by omega)
          obtain ⟨k1, k2, k3, k4⟩ := rowJ_spec hk
          refine ⟨k, k1, k4 a ha g2 c.1, fun e => nm g m g1 (by omega) g3 c.2 (by rw [hk, e]), fun i hi hia ne' => ?_⟩
          rcases Nat.lt_or_ge i m with x | x
          · exact h.trans i g k (by omega) g1 k1 (g4 i x hia ne') k2
          · obtain rfl : i = m := by omega
            exact k3
        · refine ⟨g, g1, g2, g3, fun i hi hia ne' => ?_⟩
          rcases Nat.lt_or_ge i m with x | x
          · exact g4 i x hia ne'
          · obtain rfl : i = m := by omega
            exact absurd ⟨hia, ne'⟩ c
    obtain ⟨g, g1, g2, g3, g4⟩ := fold L.n (Nat.le_refl _)
    refine ⟨g, List.mem_range.mpr g1, (Lt.down_eq L g _).mpr fun i hi => ?_⟩
    rw [Bool.eq_iff_iff]
    constructor
    · intro z
      have ia := h.trans i g a hi g1 ha z g2
      rw [ia]
      have : i ≠ a := fun e => by subst e; exact g3 (o.anti g i g1 hi g2 z)
      simpa using this
    · intro z
      rw [Bool.and_eq_true] at z
      exact g4 i hi z.1 (by simpa using z.2)
theorem irrs_row {L : Lt} (o : L.Ord) (h : Pre L.n L.le) {l : Nat} (hl : rowLow L.n L.le = some l) (hj : ∀ a b, a < L.n → b < L.n → ∃ k, rowJ L.n L.le a b = some k) : L.irrs = (List.range L.n).filter (rowIrr L.n L.le) :=
  List.filter_congr fun a ha => irr_row o h hl hj (List.mem_range.mp ha)
/-! the closure of pairs, as _law_closed makes it -/
/-- the rows after c of the outer rounds -/
def closeK (R : Nat → Nat → Bool) : Nat → Nat → Nat → Bool
  | 0 => R
  | c + 1 => fun a b => closeK R c a b || (closeK R c a c && closeK R c c b)
theorem closeK_mono {R : Nat → Nat → Bool} {c a b : Nat} (h : closeK R c a b = true) : closeK R (c + 1) a b = true := by
  show (closeK R c a b || _) = true
  rw [h, Bool.true_or]
theorem closeK_le {R : Nat → Nat → Bool} {a b : Nat} : ∀ {c}, R a b = true → closeK R c a b = true
  | 0, h => h
  | c + 1, h => closeK_mono (closeK_le h)
theorem closeK_trans {R : Nat → Nat → Bool} : ∀ {c k a b : Nat}, k < c → closeK R c a k = true → closeK R c k b = true → closeK R c a b = true
  | 0, k, a, b, hk, _, _ => absurd hk (Nat.not_lt_zero _)
  | c + 1, k, a, b, hk, h1, h2 => by
    have ih := @closeK_trans R c
    have h1 : (closeK R c a k || (closeK R c a c && closeK R c c k)) = true := h1
    have h2 : (closeK R c k b || (closeK R c k c && closeK R c c b)) = true := h2
    show (closeK R c a b || (closeK R c a c && closeK R c c b)) = true
    rw [Bool.or_eq_true, Bool.and_eq_true] at h1 h2 ⊢
    rcases Nat.lt_or_ge k c with x | x
    · rcases h1 with h1 | ⟨h1, h1'⟩ <;> rcases h2 with h2 | ⟨h2, h2'⟩
      · exact .inl (ih x h1 h2)
      · exact .inr ⟨ih x h1 h2, h2'⟩
      · exact .inr ⟨h1, ih x h1' h2⟩
      · exact .inr ⟨h1, h2'⟩
    · obtain rfl : k = c := by omega
      rcases h1 with h1 | ⟨h1, h1'⟩ <;> rcases h2 with h2 | ⟨h2, h2'⟩
      · exact .inr ⟨h1, h2⟩
      · exact .inr ⟨h1, h2'⟩
      · exact .inr ⟨h1, h2⟩
      · exact .inr ⟨h1, h2'⟩
/-- the rows of pairs -/
def rowsOf (ps : List (Nat × Nat)) : Nat → Nat → Bool := fun a b => a == b || ps.contains (a, b)
def closedR (n : Nat) (ps : List (Nat × Nat)) : Nat → Nat → Bool := closeK (rowsOf ps) n
theorem closed_reach {n : Nat} {ps : List (Nat × Nat)} (hp : ∀ q ∈ ps, q.1 < n ∧ q.2 < n) {a b : Nat} : closedR n ps a b = true ↔ Reach ps a b := by
  constructor
  · have : ∀ c a b, closeK (rowsOf ps) c a b = true → Reach ps a b := fun c => by
      induction c with
      | zero =>
        intro a b h
        have h : (a == b || ps.contains (a, b)) = true := h
        rw [Bool.or_eq_true] at h
        rcases h with h | h
        · obtain rfl : a = b := by simpa using h
          exact .here
        · exact .step .here (by simpa using h)
      | succ c ih =>
        intro a b h
        have h : (closeK (rowsOf ps) c a b || (closeK (rowsOf ps) c a c && closeK (rowsOf ps) c c b)) = true := h
        rw [Bool.or_eq_true, Bool.and_eq_true] at h
        rcases h with h | ⟨h1, h2⟩
        · exact ih a b h
        · exact (ih a c h1).trans (ih c b h2)
    exact this n a b
  · intro h
    refine Reach.of_closed (fun b => closedR n ps a b = true) (closeK_le (show (a == a || _) = true by rw [beq_self_eq_true, Bool.true_or])) (fun b c m hb => ?_) h
    refine closeK_trans (k := b) (hp _ m).1 hb (closeK_le ?_)
    show (b == c || ps.contains (b, c)) = true
    rw [Bool.or_eq_true]
    exact .inr (by simpa using m)
theorem closed_pre {n : Nat} {ps : List (Nat × Nat)} (hp : ∀ q ∈ ps, q.1 < n ∧ q.2 < n) : Pre n (closedR n ps) :=
  ⟨fun a _ => (closed_reach hp).mpr .here, fun a b c _ _ _ h1 h2 => (closed_reach hp).mpr (((closed_reach hp).mp h1).trans ((closed_reach hp).mp h2))⟩
/-- one outer round, in place: what has been gone over is as the next round's rows -/
theorem closeK_col {R : Nat → Nat → Bool} {c a : Nat} : closeK R (c + 1) a c = closeK R c a c := by
  show (closeK R c a c || (closeK R c a c && closeK R c c c)) = _
  cases closeK R c a c <;> simp
theorem closeK_row {R : Nat → Nat → Bool} {c b : Nat} : closeK R (c + 1) c b = closeK R c c b := by
  show (closeK R c c b || (closeK R c c c && closeK R c c b)) = _
  cases closeK R c c b <;> cases closeK R c c c <;> rfl
/-! ### comprehensions of two fors -/
section
theorem lc2_it {J : It} {n : Nat} {G : Hp → Prop} {Y : Nat → Hp → V → Hp → Prop} (w : Walk J n G Y) {g : TG} {tt : TT} {vs : List Nat} {σ : L2.St} {H1 : Hp} {D : Addr} {Qd : Hp → Prop} {In : L2.St → Hp → (Hp → Prop) → Prop} (Pv : Nat → Hp → Prop) (h0 : Pv 0 (upd H1 D (.lst [])))
    (hG : ∀ i H, i ≤ n → Pv i H → G H)
    (hs : ∀ i x H H', i < n → Pv i H → Y i H x H' → g x (wipe σ vs) H' fun σ2 H2 => wipe σ2 vs = wipe σ vs ∧ tt σ2 H2 fun b H3 => if b = true then In σ2 H3 (Pv (i + 1)) else Pv (i + 1) H3) (hd : ∀ H, Pv n H → Qd H) :
    ∃ W : Nat → Nat → Hp → Prop, (∃ m, W 0 m (upd H1 D (.lst []))) ∧ ∀ i m H, W i m H →
      (J.stop i H ∧ Qd H) ∨ (J.go i H ∧ ∃ Nx : Hp → Prop, (∀ H', Nx H' → ∃ m', m' < m ∧ W (i + 1) m' H') ∧ ∀ x H', J.yld i H x H' → g x (wipe σ vs) H' fun σ2 H2 => wipe σ2 vs = wipe σ vs ∧ tt σ2 H2 fun b H3 => if b = true then In σ2 H3 Nx else Nx H3) := by
  refine ⟨fun i m H => m = n - i ∧ i ≤ n ∧ Pv i H, ⟨n, rfl, Nat.zero_le _, h0⟩, fun i m H ⟨em, hi, p⟩ => ?_⟩
  subst em
  have q := hG i H hi p
  rcases Nat.lt_or_ge i n with hlt | hge
  · exact .inr ⟨w.goes i H hlt q, Pv (i + 1), fun H' p' => ⟨n - (i + 1), by omega, rfl, hlt, p'⟩, fun x H' y => hs i x H H' hlt p (w.yields i H x H' hlt q y)⟩
  · have e : i = n := by omega
    subst e
    exact .inl ⟨w.stops H q, hd H p⟩
theorem in_fold {J : It} {n : Nat} {G : Hp → Prop} {Y : Nat → Hp → V → Hp → Prop} (w : Walk J n G Y) {g : TG} {tt : TT} {te : TE} {vs : List Nat} {σ : L2.St} {H1 : Hp} {D : Addr} {Qd : Hp → Prop} (Pv : Nat → Hp → Prop) (h0 : Pv 0 H1) (hG : ∀ i H, i ≤ n → Pv i H → G H)
    (hs : ∀ i x H H', i < n → Pv i H → Y i H x H' → g x (wipe σ vs) H' fun σ2 H2 => wipe σ2 vs = wipe σ vs ∧ tt σ2 H2 fun b H3 => if b = true then te σ2 H3 fun y H4 => ∃ acc, H4 D = some (.lst acc) ∧ acc.length < sizeLine ∧ Pv (i + 1) (upd H4 D (.lst (acc ++ [y]))) else Pv (i + 1) H3)
    (hd : ∀ H, Pv n H → Qd H) :
    ∃ W : Nat → Nat → Hp → Prop, (∃ m, W 0 m H1) ∧ ∀ i m H, W i m H →
      (J.stop i H ∧ Qd H) ∨ (J.go i H ∧ ∃ Nx : Hp → Prop, (∀ H', Nx H' → ∃ m', m' < m ∧ W (i + 1) m' H') ∧ ∀ x H', J.yld i H x H' → g x (wipe σ vs) H' fun σ2 H2 => wipe σ2 vs = wipe σ vs ∧ tt σ2 H2 fun b H3 =>
        if b = true then te σ2 H3 fun y H4 => ∃ acc, H4 D = some (.lst acc) ∧ acc.length < sizeLine ∧ Nx (upd H4 D (.lst (acc ++ [y]))) else Nx H3) := by
  refine ⟨fun i m H => m = n - i ∧ i ≤ n ∧ Pv i H, ⟨n, rfl, Nat.zero_le _, h0⟩, fun i m H ⟨em, hi, p⟩ => ?_⟩
  subst em
  have q := hG i H hi p
  rcases Nat.lt_or_ge i n with hlt | hge
  · exact .inr ⟨w.goes i H hlt q, Pv (i + 1), fun H' p' => ⟨n - (i + 1), by omega, rfl, hlt, p'⟩, fun x H' y => hs i x H H' hlt p (w.yields i H x H' hlt q y)⟩
  · have e : i = n := by omega
    subst e
    exact .inl ⟨w.stops H q, hd H p⟩
end
/-! ### isinstance of a caught error that has a dict -/
section
open PySem.Spec PyProof.Rows
def rIsED (K : PySem.W.Frag) (D a dd : Addr) : List V → Hp → VK → Prop := fun xs H Q => ∃ (c : V) (cv : Value) (b : Bool) (fs : List (Str × V)), xs = [.ref a, c] ∧ (∀ u, RelV c u → u = cv) ∧ PySem.W.kitOne K (.ref D) cv = some b ∧ H dd = some (.xd fs) ∧ Q (.bl b) H
theorem call_isED' {X : Cx} {a D dd : Addr} {oe : Obj} {pn : List (Addr × Obj)} (C : ExcC X.K D) (hz : Zc (.ref D) (some dd) oe) (hf : ∃ vs, oe.data = .fields vs) : CallR (X.suite a ((a, oe) :: pn)) (.builtin "isinstance") (rIsED X.K D a dd) := by
  intro pins s σ H xs us Q I r h
  obtain ⟨c, cv, b, fs, rfl, hcv, e, hxd, q⟩ := h
  cases r with
  | cons rx rr =>
    cases rr with
    | cons rt rr =>
      cases rr
      cases rx
      have ec := hcv _ rt
      subst ec
      obtain ⟨hget, _⟩ := I.pin (a, oe) (List.mem_append.mpr (.inl List.mem_cons_self))
      obtain ⟨vs, hv⟩ := hf
      obtain ⟨mA, hn, _⟩ := I.hok dd _ hxd
      obtain ⟨ox, es, ep, ho, _⟩ := hn
      have J : PySem.W.InstAt s.heap a oe D (some ox) := by
        obtain ⟨oc, od, oda, osl⟩ := oe
        obtain ⟨h1, h2⟩ := hz
        dsimp only at h1 h2 hv
        subst h1 h2 hv
        exact ⟨hget, rfl, rfl, ho⟩
      have hcl : (PySem.W.clsIn X.K D).isSome = true := by
        obtain ⟨cd, hc, _⟩ := PySem.W.any_some C.hd
        rw [hc]; rfl
      exact PySem.W.kia_one (PySem.W.kitx_exc hcl C.hg C.hk C.hs C.ha C.hn C.ht C.hm) I.kIn J e (fun z => nomatch z) fun tk => ⟨.bl b, H, I.kept (t' := tk) fun _ _ z => z, rfl, q⟩
/-- the same, the class and the dict of the caught error left to the reading -/
def rIsX (K : PySem.W.Frag) (cls : Value) (d : Option Addr) (a : Addr) : List V → Hp → VK → Prop := fun xs H Q => ∃ D dd, cls = .ref D ∧ d = some dd ∧ ExcC K D ∧ rIsED K D a dd xs H Q
theorem call_isX {X : Cx} {a : Addr} {cls : Value} {d : Option Addr} {oe : Obj} {pn : List (Addr × Obj)} (hz : Zc cls d oe) (hf : ∃ vs, oe.data = .fields vs) : CallR (X.suite a ((a, oe) :: pn)) (.builtin "isinstance") (rIsX X.K cls d a) := by
  intro pins s σ H xs us Q I r h
  obtain ⟨D, dd, rfl, rfl, C, h⟩ := h
  exact call_isED' C hz hf pins s σ H xs us Q I r h
end
def topS (i : Nat) : Stmt := PySem.Challenge.pw_latticewish_k04_down_sets.main.body.getD i (.Pass ⟨0, 0, 0, 0⟩)
abbrev St_first_place : Stmt := topS 8
abbrev N_first_place : List Str := ["sets", "wanted"]
theorem sc_first_place : FnScope N_first_place ["sets", "wanted"] (defScope St_first_place) := ⟨rfl, rfl, rfl, by decide +kernel, rfl, by decide +kernel, by decide +kernel⟩
abbrev St_closed_downs : Stmt := topS 9
abbrev N_closed_downs : List Str := ["names", "pairs", "lower", "upper", "downs", "place", "changed", "grown"]
theorem sc_closed_downs : FnScope N_closed_downs ["names", "pairs"] (defScope St_closed_downs) := ⟨rfl, rfl, rfl, by decide +kernel, rfl, by decide +kernel, by decide +kernel⟩
abbrev St_check_names : Stmt := topS 10
abbrev N_check_names : List Str := ["names", "most", "name", "letter"]
theorem sc_check_names : FnScope N_check_names ["names", "most"] (defScope St_check_names) := ⟨rfl, rfl, rfl, by decide +kernel, rfl, by decide +kernel, by decide +kernel⟩
abbrev St_pair_words : Stmt := topS 11
abbrev N_pair_words : List Str := ["pairs", "lower", "upper"]
theorem sc_pair_words : FnScope N_pair_words ["pairs"] (defScope St_pair_words) := ⟨rfl, rfl, rfl, by decide +kernel, rfl, by decide +kernel, by decide +kernel⟩
abbrev St_parts_among : Stmt := topS 14
abbrev N_parts_among : List Str := ["numbers", "number", "place", "other"]
theorem sc_parts_among : FnScope N_parts_among ["numbers", "number"] (defScope St_parts_among) := ⟨rfl, rfl, rfl, by decide +kernel, rfl, by decide +kernel, by decide +kernel⟩
abbrev St__law_cells : Stmt := topS 16
abbrev N__law_cells : List Str := ["script", "mixed", "cell"]
theorem sc__law_cells : FnScope N__law_cells ["script"] (defScope St__law_cells) := ⟨rfl, rfl, rfl, by decide +kernel, rfl, by decide +kernel, by decide +kernel⟩
abbrev St__law_pick : Stmt := topS 17
abbrev N__law_pick : List Str := ["source", "many", "digit", "number"]
theorem sc__law_pick : FnScope N__law_pick ["source", "many"] (defScope St__law_pick) := ⟨rfl, rfl, rfl, by decide +kernel, rfl, by decide +kernel, by decide +kernel⟩
abbrev St__law_like : Stmt := topS 18
abbrev N__law_like : List Str := ["found", "due", "pair", "k"]
theorem sc__law_like : FnScope N__law_like ["found", "due"] (defScope St__law_like) := ⟨rfl, rfl, rfl, by decide +kernel, rfl, by decide +kernel, by decide +kernel⟩
abbrev St__law_words : Stmt := topS 19
abbrev N__law_words : List Str := ["source", "many", "signs", "begin", "word", "k", "cut"]
theorem sc__law_words : FnScope N__law_words ["source", "many"] (defScope St__law_words) := ⟨rfl, rfl, rfl, by decide +kernel, rfl, by decide +kernel, by decide +kernel⟩
abbrev St__law_closed : Stmt := topS 20
abbrev N__law_closed : List Str := ["many", "pairs", "rows", "b", "a", "pair", "c"]
theorem sc__law_closed : FnScope N__law_closed ["many", "pairs"] (defScope St__law_closed) := ⟨rfl, rfl, rfl, by decide +kernel, rfl, by decide +kernel, by decide +kernel⟩
abbrev St__law_join : Stmt := topS 21
abbrev N__law_join : List Str := ["rows", "a", "b", "uppers", "c", "d"]
theorem sc__law_join : FnScope N__law_join ["rows", "a", "b"] (defScope St__law_join) := ⟨rfl, rfl, rfl, by decide +kernel, rfl, by decide +kernel, by decide +kernel⟩
abbrev St__law_flipped : Stmt := topS 22
abbrev N__law_flipped : List Str := ["rows", "b", "a"]
theorem sc__law_flipped : FnScope N__law_flipped ["rows"] (defScope St__law_flipped) := ⟨rfl, rfl, rfl, by decide +kernel, rfl, by decide +kernel, by decide +kernel⟩
abbrev St__law_low : Stmt := topS 24
abbrev N__law_low : List Str := ["rows", "a"]
theorem sc__law_low : FnScope N__law_low ["rows"] (defScope St__law_low) := ⟨rfl, rfl, rfl, by decide +kernel, rfl, by decide +kernel, by decide +kernel⟩
abbrev St__law_table : Stmt := topS 25
abbrev N__law_table : List Str := ["rows", "b", "a"]
theorem sc__law_table : FnScope N__law_table ["rows"] (defScope St__law_table) := ⟨rfl, rfl, rfl, by decide +kernel, rfl, by decide +kernel, by decide +kernel⟩
abbrev St__law_pieces : Stmt := topS 26
abbrev N__law_pieces : List Str := ["rows", "joins", "found", "a", "others", "b", "made", "c"]
theorem sc__law_pieces : FnScope N__law_pieces ["rows", "joins"] (defScope St__law_pieces) := ⟨rfl, rfl, rfl, by decide +kernel, rfl, by decide +kernel, by decide +kernel⟩
abbrev St__law_shows : Stmt := topS 27
abbrev N__law_shows : List Str := ["lattice", "names", "rows", "many", "back", "joins", "meets", "whole", "row", "a", "b", "found"]
theorem sc__law_shows : FnScope N__law_shows ["lattice", "names", "rows"] (defScope St__law_shows) := ⟨rfl, rfl, rfl, by decide +kernel, rfl, by decide +kernel, by decide +kernel⟩
abbrev St__law_heaps : Stmt := topS 28
abbrev N__law_heaps : List Str := ["many", "order", "heaps", "number", "members", "a", "lacking", "b"]
theorem sc__law_heaps : FnScope N__law_heaps ["many", "order"] (defScope St__law_heaps) := ⟨rfl, rfl, rfl, by decide +kernel, rfl, by decide +kernel, by decide +kernel⟩
abbrev St__law_spots : Stmt := topS 29
abbrev N__law_spots : List Str := ["state", "many", "left", "turn", "spots", "k", "a", "b"]
theorem sc__law_spots : FnScope N__law_spots ["state", "many"] (defScope St__law_spots) := ⟨rfl, rfl, rfl, by decide +kernel, rfl, by decide +kernel, by decide +kernel⟩
abbrev St__law_near_right : Stmt := topS 30
abbrev N__law_near_right : List Str := ["state", "lattice", "names", "name", "at", "parts", "words", "k", "word", "caught", "e"]
theorem sc__law_near_right : FnScope N__law_near_right ["state", "lattice", "names"] (defScope St__law_near_right) := ⟨rfl, rfl, rfl, by decide +kernel, rfl, by decide +kernel, by decide +kernel⟩
abbrev St__law_drawn_right : Stmt := topS 31
abbrev N__law_drawn_right : List Str := ["state", "lattice", "names", "heaps", "k", "a", "b", "found", "joined"]
theorem sc__law_drawn_right : FnScope N__law_drawn_right ["state", "lattice", "names", "heaps"] (defScope St__law_drawn_right) := ⟨rfl, rfl, rfl, by decide +kernel, rfl, by decide +kernel, by decide +kernel⟩
abbrev St_law : Stmt := topS 32
abbrev N_law : List Str := ["script", "state", "many", "words", "spots", "order", "heaps", "pairs", "spot", "given", "lattice", "label", "pair", "names", "number", "a", "pieces", "b", "piece", "rows"]
theorem sc_law : FnScope N_law ["script"] (defScope St_law) := ⟨rfl, rfl, rfl, by decide +kernel, rfl, by decide +kernel, by decide +kernel⟩
abbrev St_UnknownValue_init : Stmt := inClass (topS 4) 0
abbrev N_UnknownValue_init : List Str := ["self", "name"]
theorem sc_UnknownValue_init : FnScopeK N_UnknownValue_init ["self", "name"] (defScope St_UnknownValue_init) := ⟨rfl, rfl, rfl, by decide +kernel, rfl, by decide +kernel, by decide +kernel, by decide +kernel⟩
abbrev St_Lattice_init : Stmt := inClass (topS 7) 0
abbrev N_Lattice_init : List Str := ["self", "label", "names", "downs", "depth", "places", "b", "a", "whole"]
theorem sc_Lattice_init : FnScope N_Lattice_init ["self", "label", "names", "downs", "depth"] (defScope St_Lattice_init) := ⟨rfl, rfl, rfl, by decide +kernel, rfl, by decide +kernel, by decide +kernel⟩
abbrev St_Lattice_within_at : Stmt := inClass (topS 7) 1
abbrev N_Lattice_within_at : List Str := ["self", "first", "second"]
theorem sc_Lattice_within_at : FnScope N_Lattice_within_at ["self", "first", "second"] (defScope St_Lattice_within_at) := ⟨rfl, rfl, rfl, by decide +kernel, rfl, by decide +kernel, by decide +kernel⟩
abbrev St_Lattice_join_at : Stmt := inClass (topS 7) 2
abbrev N_Lattice_join_at : List Str := ["self", "first", "second"]
theorem sc_Lattice_join_at : FnScope N_Lattice_join_at ["self", "first", "second"] (defScope St_Lattice_join_at) := ⟨rfl, rfl, rfl, by decide +kernel, rfl, by decide +kernel, by decide +kernel⟩
abbrev St_Lattice_meet_at : Stmt := inClass (topS 7) 3
abbrev N_Lattice_meet_at : List Str := ["self", "first", "second"]
theorem sc_Lattice_meet_at : FnScope N_Lattice_meet_at ["self", "first", "second"] (defScope St_Lattice_meet_at) := ⟨rfl, rfl, rfl, by decide +kernel, rfl, by decide +kernel, by decide +kernel⟩
abbrev St_Lattice_name_at : Stmt := inClass (topS 7) 4
abbrev N_Lattice_name_at : List Str := ["self", "place"]
theorem sc_Lattice_name_at : FnScope N_Lattice_name_at ["self", "place"] (defScope St_Lattice_name_at) := ⟨rfl, rfl, rfl, by decide +kernel, rfl, by decide +kernel, by decide +kernel⟩
abbrev St_Lattice_at_name : Stmt := inClass (topS 7) 5
abbrev N_Lattice_at_name : List Str := ["self", "name"]
theorem sc_Lattice_at_name : FnScope N_Lattice_at_name ["self", "name"] (defScope St_Lattice_at_name) := ⟨rfl, rfl, rfl, by decide +kernel, rfl, by decide +kernel, by decide +kernel⟩
abbrev St_Lattice_irreducibles : Stmt := inClass (topS 7) 6
abbrev N_Lattice_irreducibles : List Str := ["self", "place"]
theorem sc_Lattice_irreducibles : FnScope N_Lattice_irreducibles ["self"] (defScope St_Lattice_irreducibles) := ⟨rfl, rfl, rfl, by decide +kernel, rfl, by decide +kernel, by decide +kernel⟩
abbrev St_DownLattice_init : Stmt := inClass (topS 13) 0
abbrev N_DownLattice_init : List Str := ["self", "names", "pairs", "order", "places", "row", "heaps", "number", "place", "words", "heap", "label", "word"]
theorem sc_DownLattice_init : FnScopeK N_DownLattice_init ["self", "names", "pairs"] (defScope St_DownLattice_init) := ⟨rfl, rfl, rfl, by decide +kernel, rfl, by decide +kernel, by decide +kernel, by decide +kernel⟩
abbrev PL : Program := PySem.Challenge.pw_latticewish_k04_down_sets
structure Tx (K : PySem.W.Frag) (mg : Str → Option Value) (W_ : World) where
  n_abs : mg "abs" = none
  n_all : mg "all" = none
  n_any : mg "any" = none
  n_bool : mg "bool" = none
  n_dict : mg "dict" = none
  n_enumerate : mg "enumerate" = none
  n_int : mg "int" = none
  n_isinstance : mg "isinstance" = none
  n_len : mg "len" = none
  n_list : mg "list" = none
  n_max : mg "max" = none
  n_min : mg "min" = none
  n_range : mg "range" = none
  n_sorted : mg "sorted" = none
  n_str : mg "str" = none
  n_sum : mg "sum" = none
  n_super : mg "super" = none
  n_tuple : mg "tuple" = none
  a_first_place : Addr
  d_first_place : FuncData
  F_first_place : Fun K "first_place" "first_place" St_first_place a_first_place d_first_place
  b_first_place : Binds K d_first_place ["sets", "wanted"] []
  g_first_place : mg "first_place" = some (.ref a_first_place)
  a_closed_downs : Addr
  d_closed_downs : FuncData
  F_closed_downs : Fun K "closed_downs" "closed_downs" St_closed_downs a_closed_downs d_closed_downs
  b_closed_downs : Binds K d_closed_downs ["names", "pairs"] []
  g_closed_downs : mg "closed_downs" = some (.ref a_closed_downs)
  a_check_names : Addr
  d_check_names : FuncData
  F_check_names : Fun K "check_names" "check_names" St_check_names a_check_names d_check_names
  b_check_names : Binds K d_check_names ["names", "most"] []
  g_check_names : mg "check_names" = some (.ref a_check_names)
  a_pair_words : Addr
  d_pair_words : FuncData
  F_pair_words : Fun K "pair_words" "pair_words" St_pair_words a_pair_words d_pair_words
  b_pair_words : Binds K d_pair_words ["pairs"] []
  g_pair_words : mg "pair_words" = some (.ref a_pair_words)
  a_parts_among : Addr
  d_parts_among : FuncData
  F_parts_among : Fun K "parts_among" "parts_among" St_parts_among a_parts_among d_parts_among
  b_parts_among : Binds K d_parts_among ["numbers", "number"] []
  g_parts_among : mg "parts_among" = some (.ref a_parts_among)
  a__law_cells : Addr
  d__law_cells : FuncData
  F__law_cells : Fun K "_law_cells" "_law_cells" St__law_cells a__law_cells d__law_cells
  b__law_cells : Binds K d__law_cells ["script"] []
  g__law_cells : mg "_law_cells" = some (.ref a__law_cells)
  a__law_pick : Addr
  d__law_pick : FuncData
  F__law_pick : Fun K "_law_pick" "_law_pick" St__law_pick a__law_pick d__law_pick
  b__law_pick : Binds K d__law_pick ["source", "many"] []
  g__law_pick : mg "_law_pick" = some (.ref a__law_pick)
  a__law_like : Addr
  d__law_like : FuncData
  F__law_like : Fun K "_law_like" "_law_like" St__law_like a__law_like d__law_like
  b__law_like : Binds K d__law_like ["found", "due"] []
  g__law_like : mg "_law_like" = some (.ref a__law_like)
  a__law_words : Addr
  d__law_words : FuncData
  F__law_words : Fun K "_law_words" "_law_words" St__law_words a__law_words d__law_words
  b__law_words : Binds K d__law_words ["source", "many"] []
  g__law_words : mg "_law_words" = some (.ref a__law_words)
  a__law_closed : Addr
  d__law_closed : FuncData
  F__law_closed : Fun K "_law_closed" "_law_closed" St__law_closed a__law_closed d__law_closed
  b__law_closed : Binds K d__law_closed ["many", "pairs"] []
  g__law_closed : mg "_law_closed" = some (.ref a__law_closed)
  a__law_join : Addr
  d__law_join : FuncData
  F__law_join : Fun K "_law_join" "_law_join" St__law_join a__law_join d__law_join
  b__law_join : Binds K d__law_join ["rows", "a", "b"] []
  g__law_join : mg "_law_join" = some (.ref a__law_join)
  a__law_flipped : Addr
  d__law_flipped : FuncData
  F__law_flipped : Fun K "_law_flipped" "_law_flipped" St__law_flipped a__law_flipped d__law_flipped
  b__law_flipped : Binds K d__law_flipped ["rows"] []
  g__law_flipped : mg "_law_flipped" = some (.ref a__law_flipped)
  a__law_low : Addr
  d__law_low : FuncData
  F__law_low : Fun K "_law_low" "_law_low" St__law_low a__law_low d__law_low
  b__law_low : Binds K d__law_low ["rows"] []
  g__law_low : mg "_law_low" = some (.ref a__law_low)
  a__law_table : Addr
  d__law_table : FuncData
  F__law_table : Fun K "_law_table" "_law_table" St__law_table a__law_table d__law_table
  b__law_table : Binds K d__law_table ["rows"] []
  g__law_table : mg "_law_table" = some (.ref a__law_table)
  a__law_pieces : Addr
  d__law_pieces : FuncData
  F__law_pieces : Fun K "_law_pieces" "_law_pieces" St__law_pieces a__law_pieces d__law_pieces
  b__law_pieces : Binds K d__law_pieces ["rows", "joins"] []
  g__law_pieces : mg "_law_pieces" = some (.ref a__law_pieces)
  a__law_shows : Addr
  d__law_shows : FuncData
  F__law_shows : Fun K "_law_shows" "_law_shows" St__law_shows a__law_shows d__law_shows
  b__law_shows : Binds K d__law_shows ["lattice", "names", "rows"] []
  g__law_shows : mg "_law_shows" = some (.ref a__law_shows)
  a__law_heaps : Addr
  d__law_heaps : FuncData
  F__law_heaps : Fun K "_law_heaps" "_law_heaps" St__law_heaps a__law_heaps d__law_heaps
  b__law_heaps : Binds K d__law_heaps ["many", "order"] []
  g__law_heaps : mg "_law_heaps" = some (.ref a__law_heaps)
  a__law_spots : Addr
  d__law_spots : FuncData
  F__law_spots : Fun K "_law_spots" "_law_spots" St__law_spots a__law_spots d__law_spots
  b__law_spots : Binds K d__law_spots ["state", "many"] []
  g__law_spots : mg "_law_spots" = some (.ref a__law_spots)
  a__law_near_right : Addr
  d__law_near_right : FuncData
  F__law_near_right : Fun K "_law_near_right" "_law_near_right" St__law_near_right a__law_near_right d__law_near_right
  b__law_near_right : Binds K d__law_near_right ["state", "lattice", "names"] []
  g__law_near_right : mg "_law_near_right" = some (.ref a__law_near_right)
  a__law_drawn_right : Addr
  d__law_drawn_right : FuncData
  F__law_drawn_right : Fun K "_law_drawn_right" "_law_drawn_right" St__law_drawn_right a__law_drawn_right d__law_drawn_right
  b__law_drawn_right : Binds K d__law_drawn_right ["state", "lattice", "names", "heaps"] []
  g__law_drawn_right : mg "_law_drawn_right" = some (.ref a__law_drawn_right)
  a_law : Addr
  d_law : FuncData
  F_law : Fun K "law" "law" St_law a_law d_law
  b_law : Binds K d_law ["script"] []
  g_law : mg "law" = some (.ref a_law)
  g_LETTERS : ∃ u, mg "LETTERS" = some (.str "abcdefghijklmnopqrstuvwxyz0123456789" u)
  a_Lattice : Addr
  g_Lattice : mg "Lattice" = some (.ref a_Lattice)
  c_Lattice : Cls K a_Lattice
  n_Lattice_label : NoAttr K a_Lattice "label"
  n_Lattice_size : NoAttr K a_Lattice "size"
  n_Lattice_depth : NoAttr K a_Lattice "depth"
  n_Lattice_value_names : NoAttr K a_Lattice "value_names"
  n_Lattice_downs : NoAttr K a_Lattice "downs"
  n_Lattice_ups : NoAttr K a_Lattice "ups"
  n_Lattice_bottom_at : NoAttr K a_Lattice "bottom_at"
  n_Lattice_top_at : NoAttr K a_Lattice "top_at"
  a_Lattice_init : Addr
  d_Lattice_init : FuncData
  t_Lattice_init : Addr
  F_Lattice_init : FunD K "__init__" "Lattice.__init__" St_Lattice_init a_Lattice_init d_Lattice_init t_Lattice_init
  dd_Lattice_init : ∃ n u0, K.lookup t_Lattice_init = some (⟨.type "tuple", none, .seq #[.int 1 u0] n, #[]⟩ : Obj)
  b4_Lattice_init : ∃ u0, Binds K d_Lattice_init ["self", "label", "names", "downs", "depth"] [.int 1 u0]
  b5_Lattice_init : Binds K d_Lattice_init ["self", "label", "names", "downs", "depth"] []
  M_Lattice : Mk K a_Lattice a_Lattice_init
  a_Lattice_within_at : Addr
  d_Lattice_within_at : FuncData
  F_Lattice_within_at : Fun K "within_at" "Lattice.within_at" St_Lattice_within_at a_Lattice_within_at d_Lattice_within_at
  b_Lattice_within_at : Binds K d_Lattice_within_at ["self", "first", "second"] []
  m_Lattice_within_at : Meth K a_Lattice "within_at" a_Lattice_within_at
  a_Lattice_join_at : Addr
  d_Lattice_join_at : FuncData
  F_Lattice_join_at : Fun K "join_at" "Lattice.join_at" St_Lattice_join_at a_Lattice_join_at d_Lattice_join_at
  b_Lattice_join_at : Binds K d_Lattice_join_at ["self", "first", "second"] []
  m_Lattice_join_at : Meth K a_Lattice "join_at" a_Lattice_join_at
  a_Lattice_meet_at : Addr
  d_Lattice_meet_at : FuncData
  F_Lattice_meet_at : Fun K "meet_at" "Lattice.meet_at" St_Lattice_meet_at a_Lattice_meet_at d_Lattice_meet_at
  b_Lattice_meet_at : Binds K d_Lattice_meet_at ["self", "first", "second"] []
  m_Lattice_meet_at : Meth K a_Lattice "meet_at" a_Lattice_meet_at
  a_Lattice_name_at : Addr
  d_Lattice_name_at : FuncData
  F_Lattice_name_at : Fun K "name_at" "Lattice.name_at" St_Lattice_name_at a_Lattice_name_at d_Lattice_name_at
  b_Lattice_name_at : Binds K d_Lattice_name_at ["self", "place"] []
  m_Lattice_name_at : Meth K a_Lattice "name_at" a_Lattice_name_at
  a_Lattice_at_name : Addr
  d_Lattice_at_name : FuncData
  F_Lattice_at_name : Fun K "at_name" "Lattice.at_name" St_Lattice_at_name a_Lattice_at_name d_Lattice_at_name
  b_Lattice_at_name : Binds K d_Lattice_at_name ["self", "name"] []
  m_Lattice_at_name : Meth K a_Lattice "at_name" a_Lattice_at_name
  a_Lattice_irreducibles : Addr
  d_Lattice_irreducibles : FuncData
  F_Lattice_irreducibles : Fun K "irreducibles" "Lattice.irreducibles" St_Lattice_irreducibles a_Lattice_irreducibles d_Lattice_irreducibles
  b_Lattice_irreducibles : Binds K d_Lattice_irreducibles ["self"] []
  m_Lattice_irreducibles : Meth K a_Lattice "irreducibles" a_Lattice_irreducibles
  a_DownLattice : Addr
  g_DownLattice : mg "DownLattice" = some (.ref a_DownLattice)
  c_DownLattice : Cls K a_DownLattice
  n_DownLattice_label : NoAttr K a_DownLattice "label"
  n_DownLattice_size : NoAttr K a_DownLattice "size"
  n_DownLattice_depth : NoAttr K a_DownLattice "depth"
  n_DownLattice_value_names : NoAttr K a_DownLattice "value_names"
  n_DownLattice_downs : NoAttr K a_DownLattice "downs"
  n_DownLattice_ups : NoAttr K a_DownLattice "ups"
  n_DownLattice_bottom_at : NoAttr K a_DownLattice "bottom_at"
  n_DownLattice_top_at : NoAttr K a_DownLattice "top_at"
  a_DownLattice_init : Addr
  d_DownLattice_init : FuncData
  F_DownLattice_init : FunK K PL "__init__" "DownLattice.__init__" St_DownLattice_init a_DownLattice_init d_DownLattice_init a_DownLattice
  b_DownLattice_init : Binds K d_DownLattice_init ["self", "names", "pairs"] []
  M_DownLattice : Mk K a_DownLattice a_DownLattice_init
  a_NameMissing : Addr
  g_NameMissing : mg "NameMissing" = some (.ref a_NameMissing)
  a_UnknownValue : Addr
  g_UnknownValue : mg "UnknownValue" = some (.ref a_UnknownValue)
  x_NameMissing : OexG "LookupError.__new__" [.type "LookupError", .type "Exception", .type "BaseException", .type "object"] K a_NameMissing
  f_NameMissing : XfC K a_NameMissing
  q_NameMissing : PySem.W.excIn K a_NameMissing [.type "LookupError", .type "Exception", .type "BaseException", .type "object"] "LookupError.__new__" = true
  r_NameMissing : PySem.W.subIn K (.ref a_NameMissing) (.type "BaseException") = some true ∧ PySem.W.typeIn K (.ref a_NameMissing) = some (.type "type") ∧ PySem.W.keepIn K (.ref a_NameMissing) = true
  x_UnknownValue : OexG "LookupError.__new__" [.type "LookupError", .type "Exception", .type "BaseException", .type "object"] K a_UnknownValue
  f_UnknownValue : XfC K a_UnknownValue
  te_UnknownValue_UnknownValue : PySem.W.exmOne K (.ref a_UnknownValue) (.ref a_UnknownValue) = some true
  a_UnknownValue_init : Addr
  d_UnknownValue_init : FuncData
  F_UnknownValue_init : FunK K PL "__init__" "UnknownValue.__init__" St_UnknownValue_init a_UnknownValue_init d_UnknownValue_init a_UnknownValue
  b_UnknownValue_init : Binds K d_UnknownValue_init ["self", "name"] []
  i_UnknownValue : PySem.W.findIn K (.ref a_UnknownValue) "__init__" = some (some (.ref a_UnknownValue_init))
  t_UnknownValue : PySem.W.typeIn K (.ref a_UnknownValue_init) = some (.type "function")
  mr_UnknownValue : PySem.W.mroIn K a_UnknownValue (.ref a_UnknownValue) = some true
  su_UnknownValue : PySem.W.ks_superIn K a_UnknownValue a_UnknownValue "__init__" = some (some (.builtin "LookupError.__init__"))
  ci_UnknownValue : ∃ cd, PySem.W.clsIn K a_UnknownValue = some cd
  na_UnknownValue : PySem.W.findIn K (.ref a_UnknownValue) "name" = some none
  mr_DownLattice : PySem.W.mroIn K a_DownLattice (.ref a_DownLattice) = some true
  su_DownLattice : PySem.W.ks_superIn K a_DownLattice a_DownLattice "__init__" = some (some (.ref a_Lattice_init))
  ci_DownLattice : ∃ cd, PySem.W.clsIn K a_DownLattice = some cd
  m_DownLattice_within_at : Meth K a_DownLattice "within_at" a_Lattice_within_at
  m_DownLattice_join_at : Meth K a_DownLattice "join_at" a_Lattice_join_at
  m_DownLattice_meet_at : Meth K a_DownLattice "meet_at" a_Lattice_meet_at
  m_DownLattice_name_at : Meth K a_DownLattice "name_at" a_Lattice_name_at
  m_DownLattice_at_name : Meth K a_DownLattice "at_name" a_Lattice_at_name
  m_DownLattice_irreducibles : Meth K a_DownLattice "irreducibles" a_Lattice_irreducibles
  ty_Lattice : PySem.W.typeIn K (.ref a_Lattice_init) = some (.type "function")
  fi_Lattice : PySem.W.fnIn K a_Lattice_init = true
  st_any : PySem.W.nsIn K PySem.cStatics "thirdparty.any" = some none
def Tx.mm {K : PySem.W.Frag} {mg : Str → Option Value} {W_ : World} (T : Tx K mg W_) : List (Str × Addr) := [("within_at", T.a_Lattice_within_at), ("join_at", T.a_Lattice_join_at), ("meet_at", T.a_Lattice_meet_at), ("name_at", T.a_Lattice_name_at), ("at_name", T.a_Lattice_at_name), ("irreducibles", T.a_Lattice_irreducibles)]
theorem Tx.in_within_at {K : PySem.W.Frag} {mg : Str → Option Value} {W_ : World} (T : Tx K mg W_) : ((("within_at" : Str), T.a_Lattice_within_at) : Str × Addr) ∈ T.mm := by simp [Tx.mm]
theorem Tx.in_join_at {K : PySem.W.Frag} {mg : Str → Option Value} {W_ : World} (T : Tx K mg W_) : ((("join_at" : Str), T.a_Lattice_join_at) : Str × Addr) ∈ T.mm := by simp [Tx.mm]
theorem Tx.in_meet_at {K : PySem.W.Frag} {mg : Str → Option Value} {W_ : World} (T : Tx K mg W_) : ((("meet_at" : Str), T.a_Lattice_meet_at) : Str × Addr) ∈ T.mm := by simp [Tx.mm]
theorem Tx.in_name_at {K : PySem.W.Frag} {mg : Str → Option Value} {W_ : World} (T : Tx K mg W_) : ((("name_at" : Str), T.a_Lattice_name_at) : Str × Addr) ∈ T.mm := by simp [Tx.mm]
theorem Tx.in_at_name {K : PySem.W.Frag} {mg : Str → Option Value} {W_ : World} (T : Tx K mg W_) : ((("at_name" : Str), T.a_Lattice_at_name) : Str × Addr) ∈ T.mm := by simp [Tx.mm]
theorem Tx.in_irreducibles {K : PySem.W.Frag} {mg : Str → Option Value} {W_ : World} (T : Tx K mg W_) : ((("irreducibles" : Str), T.a_Lattice_irreducibles) : Str × Addr) ∈ T.mm := by simp [Tx.mm]
theorem Tx.mm_out {K : PySem.W.Frag} {mg : Str → Option Value} {W_ : World} (T : Tx K mg W_) : ∀ q ∈ T.mm, q.1 ∉ latAttrs := by
  intro q hq
  simp only [Tx.mm, List.mem_cons, List.not_mem_nil, or_false] at hq
  rcases hq with rfl | rfl | rfl | rfl | rfl | rfl <;> (dsimp only; decide)
theorem Tx.mm_out' {K : PySem.W.Frag} {mg : Str → Option Value} {W_ : World} (T : Tx K mg W_) : ∀ q ∈ T.mm, q.1 ≠ "left" ∧ q.1 ≠ "right" ∧ q.1 ≠ "inner" := by
  intro q hq
  simp only [Tx.mm, List.mem_cons, List.not_mem_nil, or_false] at hq
  rcases hq with rfl | rfl | rfl | rfl | rfl | rfl <;> (dsimp only; decide)
theorem Tx.lc_DownLattice {K : PySem.W.Frag} {mg : Str → Option Value} {W_ : World} (T : Tx K mg W_) : LatC K T.mm T.a_DownLattice := ⟨T.c_DownLattice, fun f hf => by
  simp only [latAttrs, List.mem_cons, List.not_mem_nil, or_false] at hf
  rcases hf with rfl | rfl | rfl | rfl | rfl | rfl | rfl | rfl <;> first | exact T.n_DownLattice_label | exact T.n_DownLattice_size | exact T.n_DownLattice_depth | exact T.n_DownLattice_value_names | exact T.n_DownLattice_downs | exact T.n_DownLattice_ups | exact T.n_DownLattice_bottom_at | exact T.n_DownLattice_top_at, fun q hq => by
  simp only [Tx.mm, List.mem_cons, List.not_mem_nil, or_false] at hq
  rcases hq with rfl | rfl | rfl | rfl | rfl | rfl <;> first | exact T.m_DownLattice_within_at | exact T.m_DownLattice_join_at | exact T.m_DownLattice_meet_at | exact T.m_DownLattice_name_at | exact T.m_DownLattice_at_name | exact T.m_DownLattice_irreducibles, trivial⟩
def spLaw (K : PySem.W.Frag) : Sp := fun vs H Q _ => ∃ (a : Addr) (ns : List Int), vs = [.ref a] ∧ SqL K H a (ns.map V.int) ∧ ns.length ≤ 63 ∧ ∀ H', Q (.bl true) H'
theorem all_mk {l : PySem.W.OpenLaw} {W_ : World} {K : PySem.W.Frag} {h : Heap} {mg : Str → Option Value} {fa : Addr} (X : K.In h) (G : h.Ns mainGlobals mg) (hfa : mg "law" = some (.ref fa)) (F : ∀ (T : Tx K mg W_) (base : Heap), FnOk PL W_ K mg base L2.CX0 120 T.a_law T.d_law ["script"] (spLaw K))
    {f_first_place f_closed_downs f_check_names f_pair_words f_parts_among f__law_cells f__law_pick f__law_like f__law_words f__law_closed f__law_join f__law_flipped f__law_low f__law_table f__law_pieces f__law_shows f__law_heaps f__law_spots f__law_near_right f__law_drawn_right f_law f_Lattice f_Lattice_init td_Lattice_init f_Lattice_within_at f_Lattice_join_at f_Lattice_meet_at f_Lattice_name_at f_Lattice_at_name f_Lattice_irreducibles f_DownLattice f_DownLattice_init cda_DownLattice_init cc_DownLattice_init f_NameMissing f_UnknownValue f_UnknownValue_init cda_UnknownValue_init cc_UnknownValue_init : Addr}
    {od_first_place an_first_place : Option Addr} {sl_first_place : Array (Option Value)} {oc_first_place kV_first_place dc_first_place pm_first_place cd_first_place ct_first_place : Value} {od_closed_downs an_closed_downs : Option Addr} {sl_closed_downs : Array (Option Value)} {oc_closed_downs kV_closed_downs dc_closed_downs pm_closed_downs cd_closed_downs ct_closed_downs : Value} {od_check_names an_check_names : Option Addr} {sl_check_names : Array (Option Value)} {oc_check_names kV_check_names dc_check_names pm_check_names cd_check_names ct_check_names : Value} {od_pair_words an_pair_words : Option Addr} {sl_pair_words : Array (Option Value)} {oc_pair_words kV_pair_words dc_pair_words pm_pair_words cd_pair_words ct_pair_words : Value} {od_parts_among an_parts_among : Option Addr} {sl_parts_among : Array (Option Value)} {oc_parts_among kV_parts_among dc_parts_among pm_parts_among cd_parts_among ct_parts_among : Value} {od__law_cells an__law_cells : Option Addr} {sl__law_cells : Array (Option Value)} {oc__law_cells kV__law_cells dc__law_cells pm__law_cells cd__law_cells ct__law_cells : Value} {od__law_pick an__law_pick : Option Addr} {sl__law_pick : Array (Option Value)} {oc__law_pick kV__law_pick dc__law_pick pm__law_pick cd__law_pick ct__law_pick : Value} {od__law_like an__law_like : Option Addr} {sl__law_like : Array (Option Value)} {oc__law_like kV__law_like dc__law_like pm__law_like cd__law_like ct__law_like : Value} {od__law_words an__law_words : Option Addr} {sl__law_words : Array (Option Value)} {oc__law_words kV__law_words dc__law_words pm__law_words cd__law_words ct__law_words : Value} {od__law_closed an__law_closed : Option Addr} {sl__law_closed : Array (Option Value)} {oc__law_closed kV__law_closed dc__law_closed pm__law_closed cd__law_closed ct__law_closed : Value} {od__law_join an__law_join : Option Addr} {sl__law_join : Array (Option Value)} {oc__law_join kV__law_join dc__law_join pm__law_join cd__law_join ct__law_join : Value} {od__law_flipped an__law_flipped : Option Addr} {sl__law_flipped : Array (Option Value)} {oc__law_flipped kV__law_flipped dc__law_flipped pm__law_flipped cd__law_flipped ct__law_flipped : Value} {od__law_low an__law_low : Option Addr} {sl__law_low : Array (Option Value)} {oc__law_low kV__law_low dc__law_low pm__law_low cd__law_low ct__law_low : Value} {od__law_table an__law_table : Option Addr} {sl__law_table : Array (Option Value)} {oc__law_table kV__law_table dc__law_table pm__law_table cd__law_table ct__law_table : Value} {od__law_pieces an__law_pieces : Option Addr} {sl__law_pieces : Array (Option Value)} {oc__law_pieces kV__law_pieces dc__law_pieces pm__law_pieces cd__law_pieces ct__law_pieces : Value} {od__law_shows an__law_shows : Option Addr} {sl__law_shows : Array (Option Value)} {oc__law_shows kV__law_shows dc__law_shows pm__law_shows cd__law_shows ct__law_shows : Value} {od__law_heaps an__law_heaps : Option Addr} {sl__law_heaps : Array (Option Value)} {oc__law_heaps kV__law_heaps dc__law_heaps pm__law_heaps cd__law_heaps ct__law_heaps : Value} {od__law_spots an__law_spots : Option Addr} {sl__law_spots : Array (Option Value)} {oc__law_spots kV__law_spots dc__law_spots pm__law_spots cd__law_spots ct__law_spots : Value} {od__law_near_right an__law_near_right : Option Addr} {sl__law_near_right : Array (Option Value)} {oc__law_near_right kV__law_near_right dc__law_near_right pm__law_near_right cd__law_near_right ct__law_near_right : Value} {od__law_drawn_right an__law_drawn_right : Option Addr} {sl__law_drawn_right : Array (Option Value)} {oc__law_drawn_right kV__law_drawn_right dc__law_drawn_right pm__law_drawn_right cd__law_drawn_right ct__law_drawn_right : Value} {od_law an_law : Option Addr} {sl_law : Array (Option Value)} {oc_law kV_law dc_law pm_law cd_law ct_law : Value} {u_LETTERS : Tok} {od_Lattice_init an_Lattice_init : Option Addr} {sl_Lattice_init : Array (Option Value)} {oc_Lattice_init kV_Lattice_init dc_Lattice_init pm_Lattice_init cd_Lattice_init ct_Lattice_init : Value} {du0_Lattice_init : Tok} {dn_Lattice_init : Nat} {od_Lattice_within_at an_Lattice_within_at : Option Addr} {sl_Lattice_within_at : Array (Option Value)} {oc_Lattice_within_at kV_Lattice_within_at dc_Lattice_within_at pm_Lattice_within_at cd_Lattice_within_at ct_Lattice_within_at : Value} {od_Lattice_join_at an_Lattice_join_at : Option Addr} {sl_Lattice_join_at : Array (Option Value)} {oc_Lattice_join_at kV_Lattice_join_at dc_Lattice_join_at pm_Lattice_join_at cd_Lattice_join_at ct_Lattice_join_at : Value} {od_Lattice_meet_at an_Lattice_meet_at : Option Addr} {sl_Lattice_meet_at : Array (Option Value)} {oc_Lattice_meet_at kV_Lattice_meet_at dc_Lattice_meet_at pm_Lattice_meet_at cd_Lattice_meet_at ct_Lattice_meet_at : Value} {od_Lattice_name_at an_Lattice_name_at : Option Addr} {sl_Lattice_name_at : Array (Option Value)} {oc_Lattice_name_at kV_Lattice_name_at dc_Lattice_name_at pm_Lattice_name_at cd_Lattice_name_at ct_Lattice_name_at : Value} {od_Lattice_at_name an_Lattice_at_name : Option Addr} {sl_Lattice_at_name : Array (Option Value)} {oc_Lattice_at_name kV_Lattice_at_name dc_Lattice_at_name pm_Lattice_at_name cd_Lattice_at_name ct_Lattice_at_name : Value} {od_Lattice_irreducibles an_Lattice_irreducibles : Option Addr} {sl_Lattice_irreducibles : Array (Option Value)} {oc_Lattice_irreducibles kV_Lattice_irreducibles dc_Lattice_irreducibles pm_Lattice_irreducibles cd_Lattice_irreducibles ct_Lattice_irreducibles : Value} {od_DownLattice_init an_DownLattice_init vb_DownLattice_init cb_DownLattice_init : Option Addr} {sl_DownLattice_init ve_DownLattice_init ce_DownLattice_init : Array (Option Value)} {vs_DownLattice_init : Array Value} {fl_DownLattice_init : Str} {tf_DownLattice_init : Tok} {oc_DownLattice_init kV_DownLattice_init dc_DownLattice_init pm_DownLattice_init ct_DownLattice_init va_DownLattice_init ca_DownLattice_init : Value} {nm_NameMissing qn_NameMissing : Str} {ns_NameMissing : Addr} {bs_NameMissing sub_NameMissing : List Value} {sn_NameMissing : List Str} {ab_NameMissing : Bool} {col_NameMissing : Option Bool} {ddc_NameMissing : Option Addr} {k0_NameMissing k1_NameMissing k2_NameMissing k3_NameMissing k5_NameMissing : Option Value} {nm_UnknownValue qn_UnknownValue : Str} {ns_UnknownValue : Addr} {bs_UnknownValue sub_UnknownValue : List Value} {sn_UnknownValue : List Str} {ab_UnknownValue : Bool} {col_UnknownValue : Option Bool} {ddc_UnknownValue : Option Addr} {k0_UnknownValue k1_UnknownValue k2_UnknownValue k3_UnknownValue k5_UnknownValue : Option Value} {od_UnknownValue_init an_UnknownValue_init vb_UnknownValue_init cb_UnknownValue_init : Option Addr} {sl_UnknownValue_init ve_UnknownValue_init ce_UnknownValue_init : Array (Option Value)} {vs_UnknownValue_init : Array Value} {fl_UnknownValue_init : Str} {tf_UnknownValue_init : Tok} {oc_UnknownValue_init kV_UnknownValue_init dc_UnknownValue_init pm_UnknownValue_init ct_UnknownValue_init va_UnknownValue_init ca_UnknownValue_init : Value} {cd_UnknownValue : ClassData} {cd_DownLattice : ClassData}
    (z_abs : PySem.W.nsIn K mainGlobals "abs" = some none)
    (z_all : PySem.W.nsIn K mainGlobals "all" = some none)
    (z_any : PySem.W.nsIn K mainGlobals "any" = some none)
    (z_bool : PySem.W.nsIn K mainGlobals "bool" = some none)
    (z_dict : PySem.W.nsIn K mainGlobals "dict" = some none)
    (z_enumerate : PySem.W.nsIn K mainGlobals "enumerate" = some none)
    (z_int : PySem.W.nsIn K mainGlobals "int" = some none)
    (z_isinstance : PySem.W.nsIn K mainGlobals "isinstance" = some none)
    (z_len : PySem.W.nsIn K mainGlobals "len" = some none)
    (z_list : PySem.W.nsIn K mainGlobals "list" = some none)
    (z_max : PySem.W.nsIn K mainGlobals "max" = some none)
    (z_min : PySem.W.nsIn K mainGlobals "min" = some none)
    (z_range : PySem.W.nsIn K mainGlobals "range" = some none)
    (z_sorted : PySem.W.nsIn K mainGlobals "sorted" = some none)
    (z_str : PySem.W.nsIn K mainGlobals "str" = some none)
    (z_sum : PySem.W.nsIn K mainGlobals "sum" = some none)
    (z_super : PySem.W.nsIn K mainGlobals "super" = some none)
    (z_tuple : PySem.W.nsIn K mainGlobals "tuple" = some none)
    (g_first_place : PySem.W.nsIn K mainGlobals "first_place" = some (some (.ref f_first_place)))
    (l_first_place : K.lookup f_first_place = some ⟨oc_first_place, od_first_place, .func (PySem.W.fnOf "first_place" "first_place" (defArgs St_first_place) (defBody St_first_place) (defScope St_first_place) .none kV_first_place dc_first_place pm_first_place an_first_place cd_first_place ct_first_place), sl_first_place⟩)
    (c_first_place : PySem.W.codeIn K cd_first_place "first_place" = true)
    (k_first_place : PySem.W.keepIn K (.ref f_first_place) = true)
    (g_closed_downs : PySem.W.nsIn K mainGlobals "closed_downs" = some (some (.ref f_closed_downs)))
    (l_closed_downs : K.lookup f_closed_downs = some ⟨oc_closed_downs, od_closed_downs, .func (PySem.W.fnOf "closed_downs" "closed_downs" (defArgs St_closed_downs) (defBody St_closed_downs) (defScope St_closed_downs) .none kV_closed_downs dc_closed_downs pm_closed_downs an_closed_downs cd_closed_downs ct_closed_downs), sl_closed_downs⟩)
    (c_closed_downs : PySem.W.codeIn K cd_closed_downs "closed_downs" = true)
    (k_closed_downs : PySem.W.keepIn K (.ref f_closed_downs) = true)
    (g_check_names : PySem.W.nsIn K mainGlobals "check_names" = some (some (.ref f_check_names)))
    (l_check_names : K.lookup f_check_names = some ⟨oc_check_names, od_check_names, .func (PySem.W.fnOf "check_names" "check_names" (defArgs St_check_names) (defBody St_check_names) (defScope St_check_names) .none kV_check_names dc_check_names pm_check_names an_check_names cd_check_names ct_check_names), sl_check_names⟩)
    (c_check_names : PySem.W.codeIn K cd_check_names "check_names" = true)
    (k_check_names : PySem.W.keepIn K (.ref f_check_names) = true)
    (g_pair_words : PySem.W.nsIn K mainGlobals "pair_words" = some (some (.ref f_pair_words)))
    (l_pair_words : K.lookup f_pair_words = some ⟨oc_pair_words, od_pair_words, .func (PySem.W.fnOf "pair_words" "pair_words" (defArgs St_pair_words) (defBody St_pair_words) (defScope St_pair_words) .none kV_pair_words dc_pair_words pm_pair_words an_pair_words cd_pair_words ct_pair_words), sl_pair_words⟩)
    (c_pair_words : PySem.W.codeIn K cd_pair_words "pair_words" = true)
    (k_pair_words : PySem.W.keepIn K (.ref f_pair_words) = true)
    (g_parts_among : PySem.W.nsIn K mainGlobals "parts_among" = some (some (.ref f_parts_among)))
    (l_parts_among : K.lookup f_parts_among = some ⟨oc_parts_among, od_parts_among, .func (PySem.W.fnOf "parts_among" "parts_among" (defArgs St_parts_among) (defBody St_parts_among) (defScope St_parts_among) .none kV_parts_among dc_parts_among pm_parts_among an_parts_among cd_parts_among ct_parts_among), sl_parts_among⟩)
    (c_parts_among : PySem.W.codeIn K cd_parts_among "parts_among" = true)
    (k_parts_among : PySem.W.keepIn K (.ref f_parts_among) = true)
    (g__law_cells : PySem.W.nsIn K mainGlobals "_law_cells" = some (some (.ref f__law_cells)))
    (l__law_cells : K.lookup f__law_cells = some ⟨oc__law_cells, od__law_cells, .func (PySem.W.fnOf "_law_cells" "_law_cells" (defArgs St__law_cells) (defBody St__law_cells) (defScope St__law_cells) .none kV__law_cells dc__law_cells pm__law_cells an__law_cells cd__law_cells ct__law_cells), sl__law_cells⟩)
    (c__law_cells : PySem.W.codeIn K cd__law_cells "_law_cells" = true)
    (k__law_cells : PySem.W.keepIn K (.ref f__law_cells) = true)
    (g__law_pick : PySem.W.nsIn K mainGlobals "_law_pick" = some (some (.ref f__law_pick)))
    (l__law_pick : K.lookup f__law_pick = some ⟨oc__law_pick, od__law_pick, .func (PySem.W.fnOf "_law_pick" "_law_pick" (defArgs St__law_pick) (defBody St__law_pick) (defScope St__law_pick) .none kV__law_pick dc__law_pick pm__law_pick an__law_pick cd__law_pick ct__law_pick), sl__law_pick⟩)
    (c__law_pick : PySem.W.codeIn K cd__law_pick "_law_pick" = true)
    (k__law_pick : PySem.W.keepIn K (.ref f__law_pick) = true)
    (g__law_like : PySem.W.nsIn K mainGlobals "_law_like" = some (some (.ref f__law_like)))
    (l__law_like : K.lookup f__law_like = some ⟨oc__law_like, od__law_like, .func (PySem.W.fnOf "_law_like" "_law_like" (defArgs St__law_like) (defBody St__law_like) (defScope St__law_like) .none kV__law_like dc__law_like pm__law_like an__law_like cd__law_like ct__law_like), sl__law_like⟩)
    (c__law_like : PySem.W.codeIn K cd__law_like "_law_like" = true)
    (k__law_like : PySem.W.keepIn K (.ref f__law_like) = true)
    (g__law_words : PySem.W.nsIn K mainGlobals "_law_words" = some (some (.ref f__law_words)))
    (l__law_words : K.lookup f__law_words = some ⟨oc__law_words, od__law_words, .func (PySem.W.fnOf "_law_words" "_law_words" (defArgs St__law_words) (defBody St__law_words) (defScope St__law_words) .none kV__law_words dc__law_words pm__law_words an__law_words cd__law_words ct__law_words), sl__law_words⟩)
    (c__law_words : PySem.W.codeIn K cd__law_words "_law_words" = true)
    (k__law_words : PySem.W.keepIn K (.ref f__law_words) = true)
    (g__law_closed : PySem.W.nsIn K mainGlobals "_law_closed" = some (some (.ref f__law_closed)))
    (l__law_closed : K.lookup f__law_closed = some ⟨oc__law_closed, od__law_closed, .func (PySem.W.fnOf "_law_closed" "_law_closed" (defArgs St__law_closed) (defBody St__law_closed) (defScope St__law_closed) .none kV__law_closed dc__law_closed pm__law_closed an__law_closed cd__law_closed ct__law_closed), sl__law_closed⟩)
    (c__law_closed : PySem.W.codeIn K cd__law_closed "_law_closed" = true)
    (k__law_closed : PySem.W.keepIn K (.ref f__law_closed) = true)
    (g__law_join : PySem.W.nsIn K mainGlobals "_law_join" = some (some (.ref f__law_join)))
    (l__law_join : K.lookup f__law_join = some ⟨oc__law_join, od__law_join, .func (PySem.W.fnOf "_law_join" "_law_join" (defArgs St__law_join) (defBody St__law_join) (defScope St__law_join) .none kV__law_join dc__law_join pm__law_join an__law_join cd__law_join ct__law_join), sl__law_join⟩)
    (c__law_join : PySem.W.codeIn K cd__law_join "_law_join" = true)
    (k__law_join : PySem.W.keepIn K (.ref f__law_join) = true)
    (g__law_flipped : PySem.W.nsIn K mainGlobals "_law_flipped" = some (some (.ref f__law_flipped)))
    (l__law_flipped : K.lookup f__law_flipped = some ⟨oc__law_flipped, od__law_flipped, .func (PySem.W.fnOf "_law_flipped" "_law_flipped" (defArgs St__law_flipped) (defBody St__law_flipped) (defScope St__law_flipped) .none kV__law_flipped dc__law_flipped pm__law_flipped an__law_flipped cd__law_flipped ct__law_flipped), sl__law_flipped⟩)
    (c__law_flipped : PySem.W.codeIn K cd__law_flipped "_law_flipped" = true)
    (k__law_flipped : PySem.W.keepIn K (.ref f__law_flipped) = true)
    (g__law_low : PySem.W.nsIn K mainGlobals "_law_low" = some (some (.ref f__law_low)))
    (l__law_low : K.lookup f__law_low = some ⟨oc__law_low, od__law_low, .func (PySem.W.fnOf "_law_low" "_law_low" (defArgs St__law_low) (defBody St__law_low) (defScope St__law_low) .none kV__law_low dc__law_low pm__law_low an__law_low cd__law_low ct__law_low), sl__law_low⟩)
    (c__law_low : PySem.W.codeIn K cd__law_low "_law_low" = true)
    (k__law_low : PySem.W.keepIn K (.ref f__law_low) = true)
    (g__law_table : PySem.W.nsIn K mainGlobals "_law_table" = some (some (.ref f__law_table)))
    (l__law_table : K.lookup f__law_table = some ⟨oc__law_table, od__law_table, .func (PySem.W.fnOf "_law_table" "_law_table" (defArgs St__law_table) (defBody St__law_table) (defScope St__law_table) .none kV__law_table dc__law_table pm__law_table an__law_table cd__law_table ct__law_table), sl__law_table⟩)
    (c__law_table : PySem.W.codeIn K cd__law_table "_law_table" = true)
    (k__law_table : PySem.W.keepIn K (.ref f__law_table) = true)
    (g__law_pieces : PySem.W.nsIn K mainGlobals "_law_pieces" = some (some (.ref f__law_pieces)))
    (l__law_pieces : K.lookup f__law_pieces = some ⟨oc__law_pieces, od__law_pieces, .func (PySem.W.fnOf "_law_pieces" "_law_pieces" (defArgs St__law_pieces) (defBody St__law_pieces) (defScope St__law_pieces) .none kV__law_pieces dc__law_pieces pm__law_pieces an__law_pieces cd__law_pieces ct__law_pieces), sl__law_pieces⟩)
    (c__law_pieces : PySem.W.codeIn K cd__law_pieces "_law_pieces" = true)
    (k__law_pieces : PySem.W.keepIn K (.ref f__law_pieces) = true)
    (g__law_shows : PySem.W.nsIn K mainGlobals "_law_shows" = some (some (.ref f__law_shows)))
    (l__law_shows : K.lookup f__law_shows = some ⟨oc__law_shows, od__law_shows, .func (PySem.W.fnOf "_law_shows" "_law_shows" (defArgs St__law_shows) (defBody St__law_shows) (defScope St__law_shows) .none kV__law_shows dc__law_shows pm__law_shows an__law_shows cd__law_shows ct__law_shows), sl__law_shows⟩)
    (c__law_shows : PySem.W.codeIn K cd__law_shows "_law_shows" = true)
    (k__law_shows : PySem.W.keepIn K (.ref f__law_shows) = true)
    (g__law_heaps : PySem.W.nsIn K mainGlobals "_law_heaps" = some (some (.ref f__law_heaps)))
    (l__law_heaps : K.lookup f__law_heaps = some ⟨oc__law_heaps, od__law_heaps, .func (PySem.W.fnOf "_law_heaps" "_law_heaps" (defArgs St__law_heaps) (defBody St__law_heaps) (defScope St__law_heaps) .none kV__law_heaps dc__law_heaps pm__law_heaps an__law_heaps cd__law_heaps ct__law_heaps), sl__law_heaps⟩)
    (c__law_heaps : PySem.W.codeIn K cd__law_heaps "_law_heaps" = true)
    (k__law_heaps : PySem.W.keepIn K (.ref f__law_heaps) = true)
    (g__law_spots : PySem.W.nsIn K mainGlobals "_law_spots" = some (some (.ref f__law_spots)))
    (l__law_spots : K.lookup f__law_spots = some ⟨oc__law_spots, od__law_spots, .func (PySem.W.fnOf "_law_spots" "_law_spots" (defArgs St__law_spots) (defBody St__law_spots) (defScope St__law_spots) .none kV__law_spots dc__law_spots pm__law_spots an__law_spots cd__law_spots ct__law_spots), sl__law_spots⟩)
    (c__law_spots : PySem.W.codeIn K cd__law_spots "_law_spots" = true)
    (k__law_spots : PySem.W.keepIn K (.ref f__law_spots) = true)
    (g__law_near_right : PySem.W.nsIn K mainGlobals "_law_near_right" = some (some (.ref f__law_near_right)))
    (l__law_near_right : K.lookup f__law_near_right = some ⟨oc__law_near_right, od__law_near_right, .func (PySem.W.fnOf "_law_near_right" "_law_near_right" (defArgs St__law_near_right) (defBody St__law_near_right) (defScope St__law_near_right) .none kV__law_near_right dc__law_near_right pm__law_near_right an__law_near_right cd__law_near_right ct__law_near_right), sl__law_near_right⟩)
    (c__law_near_right : PySem.W.codeIn K cd__law_near_right "_law_near_right" = true)
    (k__law_near_right : PySem.W.keepIn K (.ref f__law_near_right) = true)
    (g__law_drawn_right : PySem.W.nsIn K mainGlobals "_law_drawn_right" = some (some (.ref f__law_drawn_right)))
    (l__law_drawn_right : K.lookup f__law_drawn_right = some ⟨oc__law_drawn_right, od__law_drawn_right, .func (PySem.W.fnOf "_law_drawn_right" "_law_drawn_right" (defArgs St__law_drawn_right) (defBody St__law_drawn_right) (defScope St__law_drawn_right) .none kV__law_drawn_right dc__law_drawn_right pm__law_drawn_right an__law_drawn_right cd__law_drawn_right ct__law_drawn_right), sl__law_drawn_right⟩)
    (c__law_drawn_right : PySem.W.codeIn K cd__law_drawn_right "_law_drawn_right" = true)
    (k__law_drawn_right : PySem.W.keepIn K (.ref f__law_drawn_right) = true)
    (g_law : PySem.W.nsIn K mainGlobals "law" = some (some (.ref f_law)))
    (l_law : K.lookup f_law = some ⟨oc_law, od_law, .func (PySem.W.fnOf "law" "law" (defArgs St_law) (defBody St_law) (defScope St_law) .none kV_law dc_law pm_law an_law cd_law ct_law), sl_law⟩)
    (c_law : PySem.W.codeIn K cd_law "law" = true)
    (k_law : PySem.W.keepIn K (.ref f_law) = true)
    (g_LETTERS : PySem.W.nsIn K mainGlobals "LETTERS" = some (some (.str "abcdefghijklmnopqrstuvwxyz0123456789" u_LETTERS)))
    (g_Lattice : PySem.W.nsIn K mainGlobals "Lattice" = some (some (.ref f_Lattice)))
    (pg_Lattice : PySem.W.plainGet K f_Lattice Str.empty = true)
    (hd_Lattice : PySem.W.hasDictIn K f_Lattice = true)
    (po_Lattice : PySem.W.plainOver K f_Lattice = true)
    (sa_Lattice : PySem.W.findIn K (.ref f_Lattice) "__setattr__" = some (some (.builtin "object.__setattr__")))
    (mk_Lattice : PySem.W.makesIn K f_Lattice = true)
    (kc_Lattice : PySem.W.keepIn K (.ref f_Lattice) = true)
    (na_Lattice_label : PySem.W.findIn K (.ref f_Lattice) "label" = some none)
    (na_Lattice_size : PySem.W.findIn K (.ref f_Lattice) "size" = some none)
    (na_Lattice_depth : PySem.W.findIn K (.ref f_Lattice) "depth" = some none)
    (na_Lattice_value_names : PySem.W.findIn K (.ref f_Lattice) "value_names" = some none)
    (na_Lattice_downs : PySem.W.findIn K (.ref f_Lattice) "downs" = some none)
    (na_Lattice_ups : PySem.W.findIn K (.ref f_Lattice) "ups" = some none)
    (na_Lattice_bottom_at : PySem.W.findIn K (.ref f_Lattice) "bottom_at" = some none)
    (na_Lattice_top_at : PySem.W.findIn K (.ref f_Lattice) "top_at" = some none)
    (h_Lattice_init : PySem.W.findIn K (.ref f_Lattice) "__init__" = some (some (.ref f_Lattice_init)))
    (i_Lattice_init : PySem.W.isFn K (.ref f_Lattice_init) = true)
    (l_Lattice_init : K.lookup f_Lattice_init = some ⟨oc_Lattice_init, od_Lattice_init, .func (PySem.W.fnOf "__init__" "Lattice.__init__" (defArgs St_Lattice_init) (defBody St_Lattice_init) (defScope St_Lattice_init) (.ref td_Lattice_init) kV_Lattice_init dc_Lattice_init pm_Lattice_init an_Lattice_init cd_Lattice_init ct_Lattice_init), sl_Lattice_init⟩)
    (c_Lattice_init : PySem.W.codeIn K cd_Lattice_init "Lattice.__init__" = true)
    (k_Lattice_init : PySem.W.keepIn K (.ref f_Lattice_init) = true)
    (dd_Lattice_init : K.lookup td_Lattice_init = some (⟨.type "tuple", none, .seq #[.int 1 du0_Lattice_init] dn_Lattice_init, #[]⟩ : Obj))
    (h_Lattice_within_at : PySem.W.findIn K (.ref f_Lattice) "within_at" = some (some (.ref f_Lattice_within_at)))
    (i_Lattice_within_at : PySem.W.isFn K (.ref f_Lattice_within_at) = true)
    (l_Lattice_within_at : K.lookup f_Lattice_within_at = some ⟨oc_Lattice_within_at, od_Lattice_within_at, .func (PySem.W.fnOf "within_at" "Lattice.within_at" (defArgs St_Lattice_within_at) (defBody St_Lattice_within_at) (defScope St_Lattice_within_at) .none kV_Lattice_within_at dc_Lattice_within_at pm_Lattice_within_at an_Lattice_within_at cd_Lattice_within_at ct_Lattice_within_at), sl_Lattice_within_at⟩)
    (c_Lattice_within_at : PySem.W.codeIn K cd_Lattice_within_at "Lattice.within_at" = true)
    (k_Lattice_within_at : PySem.W.keepIn K (.ref f_Lattice_within_at) = true)
    (h_Lattice_join_at : PySem.W.findIn K (.ref f_Lattice) "join_at" = some (some (.ref f_Lattice_join_at)))
    (i_Lattice_join_at : PySem.W.isFn K (.ref f_Lattice_join_at) = true)
    (l_Lattice_join_at : K.lookup f_Lattice_join_at = some ⟨oc_Lattice_join_at, od_Lattice_join_at, .func (PySem.W.fnOf "join_at" "Lattice.join_at" (defArgs St_Lattice_join_at) (defBody St_Lattice_join_at) (defScope St_Lattice_join_at) .none kV_Lattice_join_at dc_Lattice_join_at pm_Lattice_join_at an_Lattice_join_at cd_Lattice_join_at ct_Lattice_join_at), sl_Lattice_join_at⟩)
    (c_Lattice_join_at : PySem.W.codeIn K cd_Lattice_join_at "Lattice.join_at" = true)
    (k_Lattice_join_at : PySem.W.keepIn K (.ref f_Lattice_join_at) = true)
    (h_Lattice_meet_at : PySem.W.findIn K (.ref f_Lattice) "meet_at" = some (some (.ref f_Lattice_meet_at)))
    (i_Lattice_meet_at : PySem.W.isFn K (.ref f_Lattice_meet_at) = true)
    (l_Lattice_meet_at : K.lookup f_Lattice_meet_at = some ⟨oc_Lattice_meet_at, od_Lattice_meet_at, .func (PySem.W.fnOf "meet_at" "Lattice.meet_at" (defArgs St_Lattice_meet_at) (defBody St_Lattice_meet_at) (defScope St_Lattice_meet_at) .none kV_Lattice_meet_at dc_Lattice_meet_at pm_Lattice_meet_at an_Lattice_meet_at cd_Lattice_meet_at ct_Lattice_meet_at), sl_Lattice_meet_at⟩)
    (c_Lattice_meet_at : PySem.W.codeIn K cd_Lattice_meet_at "Lattice.meet_at" = true)
    (k_Lattice_meet_at : PySem.W.keepIn K (.ref f_Lattice_meet_at) = true)
    (h_Lattice_name_at : PySem.W.findIn K (.ref f_Lattice) "name_at" = some (some (.ref f_Lattice_name_at)))
    (i_Lattice_name_at : PySem.W.isFn K (.ref f_Lattice_name_at) = true)
    (l_Lattice_name_at : K.lookup f_Lattice_name_at = some ⟨oc_Lattice_name_at, od_Lattice_name_at, .func (PySem.W.fnOf "name_at" "Lattice.name_at" (defArgs St_Lattice_name_at) (defBody St_Lattice_name_at) (defScope St_Lattice_name_at) .none kV_Lattice_name_at dc_Lattice_name_at pm_Lattice_name_at an_Lattice_name_at cd_Lattice_name_at ct_Lattice_name_at), sl_Lattice_name_at⟩)
    (c_Lattice_name_at : PySem.W.codeIn K cd_Lattice_name_at "Lattice.name_at" = true)
    (k_Lattice_name_at : PySem.W.keepIn K (.ref f_Lattice_name_at) = true)
    (h_Lattice_at_name : PySem.W.findIn K (.ref f_Lattice) "at_name" = some (some (.ref f_Lattice_at_name)))
    (i_Lattice_at_name : PySem.W.isFn K (.ref f_Lattice_at_name) = true)
    (l_Lattice_at_name : K.lookup f_Lattice_at_name = some ⟨oc_Lattice_at_name, od_Lattice_at_name, .func (PySem.W.fnOf "at_name" "Lattice.at_name" (defArgs St_Lattice_at_name) (defBody St_Lattice_at_name) (defScope St_Lattice_at_name) .none kV_Lattice_at_name dc_Lattice_at_name pm_Lattice_at_name an_Lattice_at_name cd_Lattice_at_name ct_Lattice_at_name), sl_Lattice_at_name⟩)
    (c_Lattice_at_name : PySem.W.codeIn K cd_Lattice_at_name "Lattice.at_name" = true)
    (k_Lattice_at_name : PySem.W.keepIn K (.ref f_Lattice_at_name) = true)
    (h_Lattice_irreducibles : PySem.W.findIn K (.ref f_Lattice) "irreducibles" = some (some (.ref f_Lattice_irreducibles)))
    (i_Lattice_irreducibles : PySem.W.isFn K (.ref f_Lattice_irreducibles) = true)
    (l_Lattice_irreducibles : K.lookup f_Lattice_irreducibles = some ⟨oc_Lattice_irreducibles, od_Lattice_irreducibles, .func (PySem.W.fnOf "irreducibles" "Lattice.irreducibles" (defArgs St_Lattice_irreducibles) (defBody St_Lattice_irreducibles) (defScope St_Lattice_irreducibles) .none kV_Lattice_irreducibles dc_Lattice_irreducibles pm_Lattice_irreducibles an_Lattice_irreducibles cd_Lattice_irreducibles ct_Lattice_irreducibles), sl_Lattice_irreducibles⟩)
    (c_Lattice_irreducibles : PySem.W.codeIn K cd_Lattice_irreducibles "Lattice.irreducibles" = true)
    (k_Lattice_irreducibles : PySem.W.keepIn K (.ref f_Lattice_irreducibles) = true)
    (g_DownLattice : PySem.W.nsIn K mainGlobals "DownLattice" = some (some (.ref f_DownLattice)))
    (pg_DownLattice : PySem.W.plainGet K f_DownLattice Str.empty = true)
    (hd_DownLattice : PySem.W.hasDictIn K f_DownLattice = true)
    (po_DownLattice : PySem.W.plainOver K f_DownLattice = true)
    (sa_DownLattice : PySem.W.findIn K (.ref f_DownLattice) "__setattr__" = some (some (.builtin "object.__setattr__")))
    (mk_DownLattice : PySem.W.makesIn K f_DownLattice = true)
    (kc_DownLattice : PySem.W.keepIn K (.ref f_DownLattice) = true)
    (na_DownLattice_label : PySem.W.findIn K (.ref f_DownLattice) "label" = some none)
    (na_DownLattice_size : PySem.W.findIn K (.ref f_DownLattice) "size" = some none)
    (na_DownLattice_depth : PySem.W.findIn K (.ref f_DownLattice) "depth" = some none)
    (na_DownLattice_value_names : PySem.W.findIn K (.ref f_DownLattice) "value_names" = some none)
    (na_DownLattice_downs : PySem.W.findIn K (.ref f_DownLattice) "downs" = some none)
    (na_DownLattice_ups : PySem.W.findIn K (.ref f_DownLattice) "ups" = some none)
    (na_DownLattice_bottom_at : PySem.W.findIn K (.ref f_DownLattice) "bottom_at" = some none)
    (na_DownLattice_top_at : PySem.W.findIn K (.ref f_DownLattice) "top_at" = some none)
    (h_DownLattice_init : PySem.W.findIn K (.ref f_DownLattice) "__init__" = some (some (.ref f_DownLattice_init)))
    (i_DownLattice_init : PySem.W.isFn K (.ref f_DownLattice_init) = true)
    (l_DownLattice_init : K.lookup f_DownLattice_init = some ⟨oc_DownLattice_init, od_DownLattice_init, .func (PySem.W.ksFn "__init__" "DownLattice.__init__" (defArgs St_DownLattice_init) (defBody St_DownLattice_init) (defScope St_DownLattice_init) .none kV_DownLattice_init dc_DownLattice_init pm_DownLattice_init an_DownLattice_init (.ref cda_DownLattice_init) ct_DownLattice_init cc_DownLattice_init), sl_DownLattice_init⟩)
    (c_DownLattice_init : PySem.W.codeIn K (.ref cda_DownLattice_init) "DownLattice.__init__" = true)
    (k_DownLattice_init : PySem.W.keepIn K (.ref f_DownLattice_init) = true)
    (q_DownLattice_init : K.lookup cc_DownLattice_init = some ⟨ca_DownLattice_init, cb_DownLattice_init, .cell (some (.ref f_DownLattice)), ce_DownLattice_init⟩)
    (v_DownLattice_init : K.lookup cda_DownLattice_init = some ⟨va_DownLattice_init, vb_DownLattice_init, .fields vs_DownLattice_init, ve_DownLattice_init⟩)
    (vf_DownLattice_init : vs_DownLattice_init[2]? = some (.str fl_DownLattice_init tf_DownLattice_init))
    (vg_DownLattice_init : ((PL.main.file : Str) == fl_DownLattice_init) = true)
    (g_NameMissing : PySem.W.nsIn K mainGlobals "NameMissing" = some (some (.ref f_NameMissing)))
    (g_UnknownValue : PySem.W.nsIn K mainGlobals "UnknownValue" = some (some (.ref f_UnknownValue)))
    (xl_NameMissing : K.lookup f_NameMissing = some (excClassObj nm_NameMissing qn_NameMissing f_NameMissing ns_NameMissing bs_NameMissing [.type "LookupError", .type "Exception", .type "BaseException", .type "object"] true sn_NameMissing sub_NameMissing ab_NameMissing col_NameMissing ddc_NameMissing k0_NameMissing k1_NameMissing k2_NameMissing k3_NameMissing k5_NameMissing "LookupError.__new__"))
    (xsa_NameMissing : PySem.W.findIn K (.ref f_NameMissing) "__setattr__" = some (some (.builtin "object.__setattr__")))
    (xex_NameMissing : PySem.W.subIn K (.ref f_NameMissing) (.type "BaseException") = some true)
    (xty_NameMissing : PySem.W.typeIn K (.ref f_NameMissing) = some (.type "type"))
    (xkc_NameMissing : PySem.W.keepIn K (.ref f_NameMissing) = true)
    (xga_NameMissing : PySem.W.findIn K (.ref f_NameMissing) "__getattribute__" = some (some (.builtin "BaseException.__getattribute__")))
    (xgg_NameMissing : PySem.W.findIn K (.ref f_NameMissing) "__getattr__" = some none)
    (xhd_NameMissing : PySem.W.hasDictIn K f_NameMissing = true)
    (xq_NameMissing : PySem.W.excIn K f_NameMissing [.type "LookupError", .type "Exception", .type "BaseException", .type "object"] "LookupError.__new__" = true)
    (xl_UnknownValue : K.lookup f_UnknownValue = some (excClassObj nm_UnknownValue qn_UnknownValue f_UnknownValue ns_UnknownValue bs_UnknownValue [.ref f_NameMissing, .type "LookupError", .type "Exception", .type "BaseException", .type "object"] true sn_UnknownValue sub_UnknownValue ab_UnknownValue col_UnknownValue ddc_UnknownValue k0_UnknownValue k1_UnknownValue k2_UnknownValue k3_UnknownValue k5_UnknownValue "LookupError.__new__"))
    (xsa_UnknownValue : PySem.W.findIn K (.ref f_UnknownValue) "__setattr__" = some (some (.builtin "object.__setattr__")))
    (xex_UnknownValue : PySem.W.subIn K (.ref f_UnknownValue) (.type "BaseException") = some true)
    (xty_UnknownValue : PySem.W.typeIn K (.ref f_UnknownValue) = some (.type "type"))
    (xkc_UnknownValue : PySem.W.keepIn K (.ref f_UnknownValue) = true)
    (xga_UnknownValue : PySem.W.findIn K (.ref f_UnknownValue) "__getattribute__" = some (some (.builtin "BaseException.__getattribute__")))
    (xgg_UnknownValue : PySem.W.findIn K (.ref f_UnknownValue) "__getattr__" = some none)
    (xhd_UnknownValue : PySem.W.hasDictIn K f_UnknownValue = true)
    (sb_UnknownValue_UnknownValue : PySem.W.subIn K (.ref f_UnknownValue) (.ref f_UnknownValue) = some true)
    (h_UnknownValue_init : PySem.W.findIn K (.ref f_UnknownValue) "__init__" = some (some (.ref f_UnknownValue_init)))
    (l_UnknownValue_init : K.lookup f_UnknownValue_init = some ⟨oc_UnknownValue_init, od_UnknownValue_init, .func (PySem.W.ksFn "__init__" "UnknownValue.__init__" (defArgs St_UnknownValue_init) (defBody St_UnknownValue_init) (defScope St_UnknownValue_init) .none kV_UnknownValue_init dc_UnknownValue_init pm_UnknownValue_init an_UnknownValue_init (.ref cda_UnknownValue_init) ct_UnknownValue_init cc_UnknownValue_init), sl_UnknownValue_init⟩)
    (c_UnknownValue_init : PySem.W.codeIn K (.ref cda_UnknownValue_init) "UnknownValue.__init__" = true)
    (k_UnknownValue_init : PySem.W.keepIn K (.ref f_UnknownValue_init) = true)
    (q_UnknownValue_init : K.lookup cc_UnknownValue_init = some ⟨ca_UnknownValue_init, cb_UnknownValue_init, .cell (some (.ref f_UnknownValue)), ce_UnknownValue_init⟩)
    (v_UnknownValue_init : K.lookup cda_UnknownValue_init = some ⟨va_UnknownValue_init, vb_UnknownValue_init, .fields vs_UnknownValue_init, ve_UnknownValue_init⟩)
    (vf_UnknownValue_init : vs_UnknownValue_init[2]? = some (.str fl_UnknownValue_init tf_UnknownValue_init))
    (vg_UnknownValue_init : ((PL.main.file : Str) == fl_UnknownValue_init) = true)
    (xt_UnknownValue : PySem.W.typeIn K (.ref f_UnknownValue_init) = some (.type "function"))
    (mr_UnknownValue : PySem.W.mroIn K f_UnknownValue (.ref f_UnknownValue) = some true)
    (su_UnknownValue : PySem.W.ks_superIn K f_UnknownValue f_UnknownValue "__init__" = some (some (.builtin "LookupError.__init__")))
    (ci_UnknownValue : PySem.W.clsIn K f_UnknownValue = some cd_UnknownValue)
    (na_UnknownValue : PySem.W.findIn K (.ref f_UnknownValue) "name" = some none)
    (mr_DownLattice : PySem.W.mroIn K f_DownLattice (.ref f_DownLattice) = some true)
    (su_DownLattice : PySem.W.ks_superIn K f_DownLattice f_DownLattice "__init__" = some (some (.ref f_Lattice_init)))
    (ci_DownLattice : PySem.W.clsIn K f_DownLattice = some cd_DownLattice)
    (hh_DownLattice_within_at : PySem.W.findIn K (.ref f_DownLattice) "within_at" = some (some (.ref f_Lattice_within_at)))
    (hh_DownLattice_join_at : PySem.W.findIn K (.ref f_DownLattice) "join_at" = some (some (.ref f_Lattice_join_at)))
    (hh_DownLattice_meet_at : PySem.W.findIn K (.ref f_DownLattice) "meet_at" = some (some (.ref f_Lattice_meet_at)))
    (hh_DownLattice_name_at : PySem.W.findIn K (.ref f_DownLattice) "name_at" = some (some (.ref f_Lattice_name_at)))
    (hh_DownLattice_at_name : PySem.W.findIn K (.ref f_DownLattice) "at_name" = some (some (.ref f_Lattice_at_name)))
    (hh_DownLattice_irreducibles : PySem.W.findIn K (.ref f_DownLattice) "irreducibles" = some (some (.ref f_Lattice_irreducibles)))
    (ty_Lattice : PySem.W.typeIn K (.ref f_Lattice_init) = some (.type "function"))
    (fi_Lattice : PySem.W.fnIn K f_Lattice_init = true)
    (st_any : PySem.W.nsIn K PySem.cStatics "thirdparty.any" = some none)
    : ∃ fd : FuncData, (∀ (s : Shared) (v : Value), BindsTo s fd ⟨[v], []⟩ [("script", v)]) ∧ ∀ base : Heap, K.In base → base.Ns mainGlobals mg → FnOk PL W_ K mg base L2.CX0 120 fa fd ["script"] (spLaw K) := by
  have e := hfa.symm.trans (PySem.W.mg_of X G g_law)
  cases e
  have F_first_place := fun_mk (st := St_first_place) l_first_place c_first_place k_first_place
  have b_first_place := F_first_place.binds (ps := ["sets", "wanted"]) fun _ _ _ _ _ _ us hl => match us, hl with | [_, _], _ => rfl
  have F_closed_downs := fun_mk (st := St_closed_downs) l_closed_downs c_closed_downs k_closed_downs
  have b_closed_downs := F_closed_downs.binds (ps := ["names", "pairs"]) fun _ _ _ _ _ _ us hl => match us, hl with | [_, _], _ => rfl
  have F_check_names := fun_mk (st := St_check_names) l_check_names c_check_names k_check_names
  have b_check_names := F_check_names.binds (ps := ["names", "most"]) fun _ _ _ _ _ _ us hl => match us, hl with | [_, _], _ => rfl
  have F_pair_words := fun_mk (st := St_pair_words) l_pair_words c_pair_words k_pair_words
  have b_pair_words := F_pair_words.binds (ps := ["pairs"]) fun _ _ _ _ _ _ us hl => match us, hl with | [_], _ => rfl
  have F_parts_among := fun_mk (st := St_parts_among) l_parts_among c_parts_among k_parts_among
  have b_parts_among := F_parts_among.binds (ps := ["numbers", "number"]) fun _ _ _ _ _ _ us hl => match us, hl with | [_, _], _ => rfl
  have F__law_cells := fun_mk (st := St__law_cells) l__law_cells c__law_cells k__law_cells
  have b__law_cells := F__law_cells.binds (ps := ["script"]) fun _ _ _ _ _ _ us hl => match us, hl with | [_], _ => rfl
  have F__law_pick := fun_mk (st := St__law_pick) l__law_pick c__law_pick k__law_pick
  have b__law_pick := F__law_pick.binds (ps := ["source", "many"]) fun _ _ _ _ _ _ us hl => match us, hl with | [_, _], _ => rfl
  have F__law_like := fun_mk (st := St__law_like) l__law_like c__law_like k__law_like
  have b__law_like := F__law_like.binds (ps := ["found", "due"]) fun _ _ _ _ _ _ us hl => match us, hl with | [_, _], _ => rfl
  have F__law_words := fun_mk (st := St__law_words) l__law_words c__law_words k__law_words
  have b__law_words := F__law_words.binds (ps := ["source", "many"]) fun _ _ _ _ _ _ us hl => match us, hl with | [_, _], _ => rfl
  have F__law_closed := fun_mk (st := St__law_closed) l__law_closed c__law_closed k__law_closed
  have b__law_closed := F__law_closed.binds (ps := ["many", "pairs"]) fun _ _ _ _ _ _ us hl => match us, hl with | [_, _], _ => rfl
  have F__law_join := fun_mk (st := St__law_join) l__law_join c__law_join k__law_join
  have b__law_join := F__law_join.binds (ps := ["rows", "a", "b"]) fun _ _ _ _ _ _ us hl => match us, hl with | [_, _, _], _ => rfl
  have F__law_flipped := fun_mk (st := St__law_flipped) l__law_flipped c__law_flipped k__law_flipped
  have b__law_flipped := F__law_flipped.binds (ps := ["rows"]) fun _ _ _ _ _ _ us hl => match us, hl with | [_], _ => rfl
  have F__law_low := fun_mk (st := St__law_low) l__law_low c__law_low k__law_low
  have b__law_low := F__law_low.binds (ps := ["rows"]) fun _ _ _ _ _ _ us hl => match us, hl with | [_], _ => rfl
  have F__law_table := fun_mk (st := St__law_table) l__law_table c__law_table k__law_table
  have b__law_table := F__law_table.binds (ps := ["rows"]) fun _ _ _ _ _ _ us hl => match us, hl with | [_], _ => rfl
  have F__law_pieces := fun_mk (st := St__law_pieces) l__law_pieces c__law_pieces k__law_pieces
  have b__law_pieces := F__law_pieces.binds (ps := ["rows", "joins"]) fun _ _ _ _ _ _ us hl => match us, hl with | [_, _], _ => rfl
  have F__law_shows := fun_mk (st := St__law_shows) l__law_shows c__law_shows k__law_shows
  have b__law_shows := F__law_shows.binds (ps := ["lattice", "names", "rows"]) fun _ _ _ _ _ _ us hl => match us, hl with | [_, _, _], _ => rfl
  have F__law_heaps := fun_mk (st := St__law_heaps) l__law_heaps c__law_heaps k__law_heaps
  have b__law_heaps := F__law_heaps.binds (ps := ["many", "order"]) fun _ _ _ _ _ _ us hl => match us, hl with | [_, _], _ => rfl
  have F__law_spots := fun_mk (st := St__law_spots) l__law_spots c__law_spots k__law_spots
  have b__law_spots := F__law_spots.binds (ps := ["state", "many"]) fun _ _ _ _ _ _ us hl => match us, hl with | [_, _], _ => rfl
  have F__law_near_right := fun_mk (st := St__law_near_right) l__law_near_right c__law_near_right k__law_near_right
  have b__law_near_right := F__law_near_right.binds (ps := ["state", "lattice", "names"]) fun _ _ _ _ _ _ us hl => match us, hl with | [_, _, _], _ => rfl
  have F__law_drawn_right := fun_mk (st := St__law_drawn_right) l__law_drawn_right c__law_drawn_right k__law_drawn_right
  have b__law_drawn_right := F__law_drawn_right.binds (ps := ["state", "lattice", "names", "heaps"]) fun _ _ _ _ _ _ us hl => match us, hl with | [_, _, _, _], _ => rfl
  have F_law := fun_mk (st := St_law) l_law c_law k_law
  have b_law := F_law.binds (ps := ["script"]) fun _ _ _ _ _ _ us hl => match us, hl with | [_], _ => rfl
  have F_Lattice_init : FunD K "__init__" "Lattice.__init__" St_Lattice_init f_Lattice_init _ td_Lattice_init := ⟨⟨_, _, _, _, _, _, _, _, _, rfl, l_Lattice_init, c_Lattice_init⟩, k_Lattice_init⟩
  have b4_Lattice_init := F_Lattice_init.bindsD (ps := ["self", "label", "names", "downs", "depth"]) (its := [.int 1 du0_Lattice_init]) dd_Lattice_init 4 0 rfl fun _ _ _ _ _ _ us hl => match us, hl with | [_, _, _, _], _ => ⟨_, rfl, rfl⟩
  have b5_Lattice_init := F_Lattice_init.bindsD (ps := ["self", "label", "names", "downs", "depth"]) (its := [.int 1 du0_Lattice_init]) dd_Lattice_init 5 1 rfl fun _ _ _ _ _ _ us hl => match us, hl with | [_, _, _, _, _], _ => ⟨_, rfl, rfl⟩
  have F_Lattice_within_at := fun_mk (st := St_Lattice_within_at) l_Lattice_within_at c_Lattice_within_at k_Lattice_within_at
  have b_Lattice_within_at := F_Lattice_within_at.binds (ps := ["self", "first", "second"]) fun _ _ _ _ _ _ us hl => match us, hl with | [_, _, _], _ => rfl
  have F_Lattice_join_at := fun_mk (st := St_Lattice_join_at) l_Lattice_join_at c_Lattice_join_at k_Lattice_join_at
  have b_Lattice_join_at := F_Lattice_join_at.binds (ps := ["self", "first", "second"]) fun _ _ _ _ _ _ us hl => match us, hl with | [_, _, _], _ => rfl
  have F_Lattice_meet_at := fun_mk (st := St_Lattice_meet_at) l_Lattice_meet_at c_Lattice_meet_at k_Lattice_meet_at
  have b_Lattice_meet_at := F_Lattice_meet_at.binds (ps := ["self", "first", "second"]) fun _ _ _ _ _ _ us hl => match us, hl with | [_, _, _], _ => rfl
  have F_Lattice_name_at := fun_mk (st := St_Lattice_name_at) l_Lattice_name_at c_Lattice_name_at k_Lattice_name_at
  have b_Lattice_name_at := F_Lattice_name_at.binds (ps := ["self", "place"]) fun _ _ _ _ _ _ us hl => match us, hl with | [_, _], _ => rfl
  have F_Lattice_at_name := fun_mk (st := St_Lattice_at_name) l_Lattice_at_name c_Lattice_at_name k_Lattice_at_name
  have b_Lattice_at_name := F_Lattice_at_name.binds (ps := ["self", "name"]) fun _ _ _ _ _ _ us hl => match us, hl with | [_, _], _ => rfl
  have F_Lattice_irreducibles := fun_mk (st := St_Lattice_irreducibles) l_Lattice_irreducibles c_Lattice_irreducibles k_Lattice_irreducibles
  have b_Lattice_irreducibles := F_Lattice_irreducibles.binds (ps := ["self"]) fun _ _ _ _ _ _ us hl => match us, hl with | [_], _ => rfl
  have F_DownLattice_init := funK_mk (st := St_DownLattice_init) (PL := PL) l_DownLattice_init c_DownLattice_init k_DownLattice_init q_DownLattice_init v_DownLattice_init vf_DownLattice_init vg_DownLattice_init
  have b_DownLattice_init := F_DownLattice_init.binds (ps := ["self", "names", "pairs"]) fun _ _ _ _ _ _ _ us hl => match us, hl with | [_, _, _], _ => rfl
  have F_UnknownValue_init := funK_mk (st := St_UnknownValue_init) (PL := PL) l_UnknownValue_init c_UnknownValue_init k_UnknownValue_init q_UnknownValue_init v_UnknownValue_init vf_UnknownValue_init vg_UnknownValue_init
  have b_UnknownValue_init := F_UnknownValue_init.binds (ps := ["self", "name"]) fun _ _ _ _ _ _ _ us hl => match us, hl with | [_, _], _ => rfl
  let T : Tx K mg W_ := { n_abs := PySem.W.mg_none_of X G z_abs, n_all := PySem.W.mg_none_of X G z_all, n_any := PySem.W.mg_none_of X G z_any, n_bool := PySem.W.mg_none_of X G z_bool, n_dict := PySem.W.mg_none_of X G z_dict, n_enumerate := PySem.W.mg_none_of X G z_enumerate, n_int := PySem.W.mg_none_of X G z_int, n_isinstance := PySem.W.mg_none_of X G z_isinstance, n_len := PySem.W.mg_none_of X G z_len, n_list := PySem.W.mg_none_of X G z_list, n_max := PySem.W.mg_none_of X G z_max, n_min := PySem.W.mg_none_of X G z_min, n_range := PySem.W.mg_none_of X G z_range, n_sorted := PySem.W.mg_none_of X G z_sorted, n_str := PySem.W.mg_none_of X G z_str, n_sum := PySem.W.mg_none_of X G z_sum, n_super := PySem.W.mg_none_of X G z_super, n_tuple := PySem.W.mg_none_of X G z_tuple, a_first_place := f_first_place, d_first_place := _, F_first_place := F_first_place, b_first_place := b_first_place, g_first_place := PySem.W.mg_of X G g_first_place, a_closed_downs := f_closed_downs, d_closed_downs := _, F_closed_downs := F_closed_downs, b_closed_downs := b_closed_downs, g_closed_downs := PySem.W.mg_of X G g_closed_downs, a_check_names := f_check_names, d_check_names := _, F_check_names := F_check_names, b_check_names := b_check_names, g_check_names := PySem.W.mg_of X G g_check_names, a_pair_words := f_pair_words, d_pair_words := _, F_pair_words := F_pair_words, b_pair_words := b_pair_words, g_pair_words := PySem.W.mg_of X G g_pair_words, a_parts_among := f_parts_among, d_parts_among := _, F_parts_among := F_parts_among, b_parts_among := b_parts_among, g_parts_among := PySem.W.mg_of X G g_parts_among, a__law_cells := f__law_cells, d__law_cells := _, F__law_cells := F__law_cells, b__law_cells := b__law_cells, g__law_cells := PySem.W.mg_of X G g__law_cells, a__law_pick := f__law_pick, d__law_pick := _, F__law_pick := F__law_pick, b__law_pick := b__law_pick, g__law_pick := PySem.W.mg_of X G g__law_pick, a__law_like := f__law_like, d__law_like := _, F__law_like := F__law_like, b__law_like := b__law_like, g__law_like := PySem.W.mg_of X G g__law_like, a__law_words := f__law_words, d__law_words := _, F__law_words := F__law_words, b__law_words := b__law_words, g__law_words := PySem.W.mg_of X G g__law_words, a__law_closed := f__law_closed, d__law_closed := _, F__law_closed := F__law_closed, b__law_closed := b__law_closed, g__law_closed := PySem.W.mg_of X G g__law_closed, a__law_join := f__law_join, d__law_join := _, F__law_join := F__law_join, b__law_join := b__law_join, g__law_join := PySem.W.mg_of X G g__law_join, a__law_flipped := f__law_flipped, d__law_flipped := _, F__law_flipped := F__law_flipped, b__law_flipped := b__law_flipped, g__law_flipped := PySem.W.mg_of X G g__law_flipped, a__law_low := f__law_low, d__law_low := _, F__law_low := F__law_low, b__law_low := b__law_low, g__law_low := PySem.W.mg_of X G g__law_low, a__law_table := f__law_table, d__law_table := _, F__law_table := F__law_table, b__law_table := b__law_table, g__law_table := PySem.W.mg_of X G g__law_table, a__law_pieces := f__law_pieces, d__law_pieces := _, F__law_pieces := F__law_pieces, b__law_pieces := b__law_pieces, g__law_pieces := PySem.W.mg_of X G g__law_pieces, a__law_shows := f__law_shows, d__law_shows := _, F__law_shows := F__law_shows, b__law_shows := b__law_shows, g__law_shows := PySem.W.mg_of X G g__law_shows, a__law_heaps := f__law_heaps, d__law_heaps := _, F__law_heaps := F__law_heaps, b__law_heaps := b__law_heaps, g__law_heaps := PySem.W.mg_of X G g__law_heaps, a__law_spots := f__law_spots, d__law_spots := _, F__law_spots := F__law_spots, b__law_spots := b__law_spots, g__law_spots := PySem.W.mg_of X G g__law_spots, a__law_near_right := f__law_near_right, d__law_near_right := _, F__law_near_right := F__law_near_right, b__law_near_right := b__law_near_right, g__law_near_right := PySem.W.mg_of X G g__law_near_right, a__law_drawn_right := f__law_drawn_right, d__law_drawn_right := _, F__law_drawn_right := F__law_drawn_right, b__law_drawn_right := b__law_drawn_right, g__law_drawn_right := PySem.W.mg_of X G g__law_drawn_right, a_law := fa, d_law := _, F_law := F_law, b_law := b_law, g_law := PySem.W.mg_of X G g_law, g_LETTERS := ⟨_, PySem.W.mg_of X G g_LETTERS⟩, a_Lattice := f_Lattice, g_Lattice := PySem.W.mg_of X G g_Lattice, c_Lattice := ⟨pg_Lattice, hd_Lattice, po_Lattice, sa_Lattice⟩, n_Lattice_label := na_Lattice_label, n_Lattice_size := na_Lattice_size, n_Lattice_depth := na_Lattice_depth, n_Lattice_value_names := na_Lattice_value_names, n_Lattice_downs := na_Lattice_downs, n_Lattice_ups := na_Lattice_ups, n_Lattice_bottom_at := na_Lattice_bottom_at, n_Lattice_top_at := na_Lattice_top_at, b4_Lattice_init := ⟨_, b4_Lattice_init⟩, b5_Lattice_init := b5_Lattice_init, a_Lattice_init := f_Lattice_init, d_Lattice_init := _, t_Lattice_init := td_Lattice_init, F_Lattice_init := F_Lattice_init, dd_Lattice_init := ⟨_, _, dd_Lattice_init⟩, M_Lattice := ⟨mk_Lattice, h_Lattice_init, i_Lattice_init, kc_Lattice⟩, a_Lattice_within_at := f_Lattice_within_at, d_Lattice_within_at := _, F_Lattice_within_at := F_Lattice_within_at, b_Lattice_within_at := b_Lattice_within_at, m_Lattice_within_at := ⟨h_Lattice_within_at, i_Lattice_within_at, k_Lattice_within_at⟩, a_Lattice_join_at := f_Lattice_join_at, d_Lattice_join_at := _, F_Lattice_join_at := F_Lattice_join_at, b_Lattice_join_at := b_Lattice_join_at, m_Lattice_join_at := ⟨h_Lattice_join_at, i_Lattice_join_at, k_Lattice_join_at⟩, a_Lattice_meet_at := f_Lattice_meet_at, d_Lattice_meet_at := _, F_Lattice_meet_at := F_Lattice_meet_at, b_Lattice_meet_at := b_Lattice_meet_at, m_Lattice_meet_at := ⟨h_Lattice_meet_at, i_Lattice_meet_at, k_Lattice_meet_at⟩, a_Lattice_name_at := f_Lattice_name_at, d_Lattice_name_at := _, F_Lattice_name_at := F_Lattice_name_at, b_Lattice_name_at := b_Lattice_name_at, m_Lattice_name_at := ⟨h_Lattice_name_at, i_Lattice_name_at, k_Lattice_name_at⟩, a_Lattice_at_name := f_Lattice_at_name, d_Lattice_at_name := _, F_Lattice_at_name := F_Lattice_at_name, b_Lattice_at_name := b_Lattice_at_name, m_Lattice_at_name := ⟨h_Lattice_at_name, i_Lattice_at_name, k_Lattice_at_name⟩, a_Lattice_irreducibles := f_Lattice_irreducibles, d_Lattice_irreducibles := _, F_Lattice_irreducibles := F_Lattice_irreducibles, b_Lattice_irreducibles := b_Lattice_irreducibles, m_Lattice_irreducibles := ⟨h_Lattice_irreducibles, i_Lattice_irreducibles, k_Lattice_irreducibles⟩, a_DownLattice := f_DownLattice, g_DownLattice := PySem.W.mg_of X G g_DownLattice, c_DownLattice := ⟨pg_DownLattice, hd_DownLattice, po_DownLattice, sa_DownLattice⟩, n_DownLattice_label := na_DownLattice_label, n_DownLattice_size := na_DownLattice_size, n_DownLattice_depth := na_DownLattice_depth, n_DownLattice_value_names := na_DownLattice_value_names, n_DownLattice_downs := na_DownLattice_downs, n_DownLattice_ups := na_DownLattice_ups, n_DownLattice_bottom_at := na_DownLattice_bottom_at, n_DownLattice_top_at := na_DownLattice_top_at, a_DownLattice_init := f_DownLattice_init, d_DownLattice_init := _, F_DownLattice_init := F_DownLattice_init, b_DownLattice_init := b_DownLattice_init, M_DownLattice := ⟨mk_DownLattice, h_DownLattice_init, i_DownLattice_init, kc_DownLattice⟩, a_NameMissing := f_NameMissing, g_NameMissing := PySem.W.mg_of X G g_NameMissing, a_UnknownValue := f_UnknownValue, g_UnknownValue := PySem.W.mg_of X G g_UnknownValue, x_NameMissing := ⟨⟨_, _, _, _, _, _, _, _, _, _, _, _, _, _, _, xl_NameMissing, .nil⟩, xsa_NameMissing, xex_NameMissing, xty_NameMissing, xkc_NameMissing⟩, f_NameMissing := ⟨xga_NameMissing, xgg_NameMissing, xex_NameMissing, xhd_NameMissing⟩, q_NameMissing := xq_NameMissing, r_NameMissing := ⟨xex_NameMissing, xty_NameMissing, xkc_NameMissing⟩, x_UnknownValue := ⟨⟨_, _, _, _, _, _, _, _, _, _, _, _, _, _, _, xl_UnknownValue, (.cons .nil)⟩, xsa_UnknownValue, xex_UnknownValue, xty_UnknownValue, xkc_UnknownValue⟩, f_UnknownValue := ⟨xga_UnknownValue, xgg_UnknownValue, xex_UnknownValue, xhd_UnknownValue⟩, te_UnknownValue_UnknownValue := PySem.W.exm_ref xex_UnknownValue xhd_UnknownValue xty_UnknownValue sb_UnknownValue_UnknownValue, a_UnknownValue_init := f_UnknownValue_init, d_UnknownValue_init := _, F_UnknownValue_init := F_UnknownValue_init, b_UnknownValue_init := b_UnknownValue_init, i_UnknownValue := h_UnknownValue_init, t_UnknownValue := xt_UnknownValue, mr_UnknownValue := mr_UnknownValue, su_UnknownValue := su_UnknownValue, ci_UnknownValue := ⟨_, ci_UnknownValue⟩, na_UnknownValue := na_UnknownValue, mr_DownLattice := mr_DownLattice, su_DownLattice := su_DownLattice, ci_DownLattice := ⟨_, ci_DownLattice⟩, m_DownLattice_within_at := ⟨hh_DownLattice_within_at, i_Lattice_within_at, k_Lattice_within_at⟩, m_DownLattice_join_at := ⟨hh_DownLattice_join_at, i_Lattice_join_at, k_Lattice_join_at⟩, m_DownLattice_meet_at := ⟨hh_DownLattice_meet_at, i_Lattice_meet_at, k_Lattice_meet_at⟩, m_DownLattice_name_at := ⟨hh_DownLattice_name_at, i_Lattice_name_at, k_Lattice_name_at⟩, m_DownLattice_at_name := ⟨hh_DownLattice_at_name, i_Lattice_at_name, k_Lattice_at_name⟩, m_DownLattice_irreducibles := ⟨hh_DownLattice_irreducibles, i_Lattice_irreducibles, k_Lattice_irreducibles⟩, ty_Lattice := ty_Lattice, fi_Lattice := fi_Lattice, st_any := st_any }
  exact ⟨T.d_law, fun s v => .of_eq rfl, fun base _ _ => F T base⟩
def lo0 : List PySem.Str := ["LatticeError", "BadLattice", "NameMissing", "UnknownValue", "LETTERS", "Lattice", "first_place", "closed_downs", "check_names", "pair_words", "DownLattice", "parts_among", "_law_cells", "_law_pick", "_law_like", "_law_words", "_law_closed", "_law_join", "_law_flipped", "_law_meet", "_law_low", "_law_table", "_law_pieces", "_law_shows", "_law_heaps", "_law_spots", "_law_near_right", "_law_drawn_right"]
def lo : List PySem.Str := lo0
abbrev qv : Program := PySem.W.view PySem.Challenge.pw_latticewish_k04_down_sets [32]
end Lw
section
open PySem PySem.W PyProof.Rows
set_option hygiene false in
local macro_rules | `(tactic| o_headL $H:term) => `(tactic| exact h.elim)
set_option maxRecDepth 100000 in
set_option maxHeartbeats 0 in
theorem Lw.t0 (h : False) : PySem.Challenge.rw_latticewish_k04_down_sets.Holds := by
  w_on; o_law; k_headL
def Lw.asL : List Addr := [2, 3, 15, 22, 23, 24, 25, 28, 35, 36, 37, 40, 47, 48, 49, 50, 53, 56, 61, 62, 64, 65, 67, 68, 69, 70, 71, 81, 82, 85, 86, 87, 89, 90, 92, 93, 94, 96, 97, 99, 100, 101, 103, 104, 106, 107, 108, 110, 111, 113, 114, 115, 117, 118, 120, 121, 122, 125, 126, 127, 128, 129, 130, 131, 134, 136, 137, 139, 140, 141, 144, 145, 146, 149, 150, 151, 154, 155, 156, 159, 164, 165, 168, 169, 170, 171, 172, 175, 178, 179, 180, 183, 184, 185, 187, 188, 190, 191, 192, 195, 196, 197, 200, 201, 202, 205, 206, 207, 210, 211, 212, 215, 216, 224, 226, 227, 229, 230, 231, 234, 235, 236, 239, 240, 241, 244, 245, 246, 249, 250, 251, 253, 254, 256, 257, 258, 261, 262, 263, 265, 266, 268, 269, 270, 273, 274]
def Lw.RunE (w : World) : Prop := ∀ os : OsState, (HeadRun.endF (HeadRun.stepQ (HeadRun.denQ HeadRun.tabQ) (PySem.W.OpenLaw.row PySem.Challenge.rw_latticewish_k04_down_sets).prog w) 20000 (PySem.W.OpenLaw.row PySem.Challenge.rw_latticewish_k04_down_sets).prog w os).map (fun s => (HeadRun.looksF (PySem.W.OpenLaw.row PySem.Challenge.rw_latticewish_k04_down_sets).prog (boot_heap w.params) s.abs, HeadRun.seenQ Lw.qv Lw.lo (importedModules (PySem.W.OpenLaw.row PySem.Challenge.rw_latticewish_k04_down_sets).prog.main.body) (fun s => PySem.W.xlAt Lw.qv [] s && PySem.W.recOk (PySem.W.RowW.records (PySem.W.OpenRow.toRowW (PySem.W.OpenLaw.row PySem.Challenge.rw_latticewish_k04_down_sets))) s) s.abs, Lw.asL.map (HeadRun.getT s))) = some (true, openGood Lw.qv Lw.lo, (Lw.t0.heap_39 w.params).map fun x => some x.2)
set_option maxRecDepth 100000 in
theorem Lw.runF (w : World) : Lw.RunE (w.withFollow "special-get-raises" false) := by
  intro os
  kernel_rfl
set_option maxRecDepth 100000 in
theorem Lw.runT (w : World) : Lw.RunE (w.withFollow "special-get-raises" true) := by
  intro os
  kernel_rfl
theorem Lw.run (w : World) : Lw.RunE w := PySem.W.byRow2 "special-get-raises" Lw.runF Lw.runT w
set_option maxRecDepth 100000 in
set_option maxHeartbeats 0 in
theorem Lw.pre (F : ∀ (K : PySem.W.Frag) (mg : Str → Option Value) (w : World) (T : Lw.Tx K mg w) (base : Heap), L2.FnOk Lw.PL w K mg base L2.CX0 120 T.a_law T.d_law ["script"] (Lw.spLaw K)) : PySem.Challenge.rw_latticewish_k04_down_sets.Holds := by
  w_on; o_law
  refine PySem.W.holds_open (r := PySem.W.OpenLaw.row PySem.Challenge.rw_latticewish_k04_down_sets) (q := Lw.qv) (loose := Lw.lo) (Xt := (fun s => PySem.W.xlAt Lw.qv [] s && PySem.W.recOk (PySem.W.RowW.records (PySem.W.OpenRow.toRowW (PySem.W.OpenLaw.row PySem.Challenge.rw_latticewish_k04_down_sets))) s)) (XP := PySem.W.XL Lw.qv []) (Yf := PySem.W.Hook.obs (kHook Lw.t0.heap_39 Lw.asL (fun _ => by kernel_rfl))) (Ya := PySem.W.Hook.val (kHook Lw.t0.heap_39 Lw.asL (fun _ => by kernel_rfl))) (YP := PySem.W.Hook.says (kHook Lw.t0.heap_39 Lw.asL (fun _ => by kernel_rfl))) (N := 21000) ?hl (PySem.W.Hook.of (kHook Lw.t0.heap_39 Lw.asL (fun _ => by kernel_rfl))) (PySem.W.Hook.keeps (kHook Lw.t0.heap_39 Lw.asL (fun _ => by kernel_rfl))) (fun s e => PySem.W.xl_of s (Bool.and_eq_true_iff.mp e).1) PySem.W.XL.keeps (by rfl) (by rfl) (by rfl) (fun s e => PySem.W.recFacts_of (Bool.and_eq_true_iff.mp e).2) (by rfl) (by first | assumption | decide +kernel) (by decide +kernel) ⟨rfl, rfl, rfl, rfl, rfl, by decide +kernel⟩ ?hw ?hc
  case hl => exact HeadRun.left_oneK (M := 20000) (by kernel_rfl) (by rfl) (fun s => by kernel_rfl) (by rfl) (fun w os => Lw.run w os)
  case hw => ((try (rename_i sd; clear sd)); w_witness2)
  try (rename_i sd; clear sd)
  k_fill
  refine L2.walk_of (n := 63) (k := 120) (x := "script") (CX := fun w => L2.CX0) (sp := fun w => Lw.spLaw _) rfl (by decide) rfl ⟨rfl, by decide, by decide⟩ (fun w h Y => PySem.W.kIn_of Y) ?F (fun _ _ a ns hl _ hS => ⟨a, ns, rfl, hS, hl, fun _ => rfl⟩) fun _ _ _ _ _ z => z
  case F =>
    intro w mg fa h KX G hmg
    refine' Lw.all_mk (l := PySem.Challenge.rw_latticewish_k04_down_sets) KX G hmg (fun T base => F _ _ _ T base) ?z_abs ?z_all ?z_any ?z_bool ?z_dict ?z_enumerate ?z_int ?z_isinstance ?z_len ?z_list ?z_max ?z_min ?z_range ?z_sorted ?z_str ?z_sum ?z_super ?z_tuple ?g_first_place ?l_first_place ?c_first_place ?k_first_place ?g_closed_downs ?l_closed_downs ?c_closed_downs ?k_closed_downs ?g_check_names ?l_check_names ?c_check_names ?k_check_names ?g_pair_words ?l_pair_words ?c_pair_words ?k_pair_words ?g_parts_among ?l_parts_among ?c_parts_among ?k_parts_among ?g__law_cells ?l__law_cells ?c__law_cells ?k__law_cells ?g__law_pick ?l__law_pick ?c__law_pick ?k__law_pick ?g__law_like ?l__law_like ?c__law_like ?k__law_like ?g__law_words ?l__law_words ?c__law_words ?k__law_words ?g__law_closed ?l__law_closed ?c__law_closed ?k__law_closed ?g__law_join ?l__law_join ?c__law_join ?k__law_join ?g__law_flipped ?l__law_flipped ?c__law_flipped ?k__law_flipped ?g__law_low ?l__law_low ?c__law_low ?k__law_low ?g__law_table ?l__law_table ?c__law_table ?k__law_table ?g__law_pieces ?l__law_pieces ?c__law_pieces ?k__law_pieces ?g__law_shows ?l__law_shows ?c__law_shows ?k__law_shows ?g__law_heaps ?l__law_heaps ?c__law_heaps ?k__law_heaps ?g__law_spots ?l__law_spots ?c__law_spots ?k__law_spots ?g__law_near_right ?l__law_near_right ?c__law_near_right ?k__law_near_right ?g__law_drawn_right ?l__law_drawn_right ?c__law_drawn_right ?k__law_drawn_right ?g_law ?l_law ?c_law ?k_law ?g_LETTERS ?g_Lattice ?pg_Lattice ?hd_Lattice ?po_Lattice ?sa_Lattice ?mk_Lattice ?kc_Lattice ?na_Lattice_label ?na_Lattice_size ?na_Lattice_depth ?na_Lattice_value_names ?na_Lattice_downs ?na_Lattice_ups ?na_Lattice_bottom_at ?na_Lattice_top_at ?h_Lattice_init ?i_Lattice_init ?l_Lattice_init ?c_Lattice_init ?k_Lattice_init ?dd_Lattice_init ?h_Lattice_within_at ?i_Lattice_within_at ?l_Lattice_within_at ?c_Lattice_within_at ?k_Lattice_within_at ?h_Lattice_join_at ?i_Lattice_join_at ?l_Lattice_join_at ?c_Lattice_join_at ?k_Lattice_join_at ?h_Lattice_meet_at ?i_Lattice_meet_at ?l_Lattice_meet_at ?c_Lattice_meet_at ?k_Lattice_meet_at ?h_Lattice_name_at ?i_Lattice_name_at ?l_Lattice_name_at ?c_Lattice_name_at ?k_Lattice_name_at ?h_Lattice_at_name ?i_Lattice_at_name ?l_Lattice_at_name ?c_Lattice_at_name ?k_Lattice_at_name ?h_Lattice_irreducibles ?i_Lattice_irreducibles ?l_Lattice_irreducibles ?c_Lattice_irreducibles ?k_Lattice_irreducibles ?g_DownLattice ?pg_DownLattice ?hd_DownLattice ?po_DownLattice ?sa_DownLattice ?mk_DownLattice ?kc_DownLattice ?na_DownLattice_label ?na_DownLattice_size ?na_DownLattice_depth ?na_DownLattice_value_names ?na_DownLattice_downs ?na_DownLattice_ups ?na_DownLattice_bottom_at ?na_DownLattice_top_at ?h_DownLattice_init ?i_DownLattice_init ?l_DownLattice_init ?c_DownLattice_init ?k_DownLattice_init ?q_DownLattice_init ?v_DownLattice_init ?vf_DownLattice_init ?vg_DownLattice_init ?g_NameMissing ?g_UnknownValue ?xl_NameMissing ?xsa_NameMissing ?xex_NameMissing ?xty_NameMissing ?xkc_NameMissing ?xga_NameMissing ?xgg_NameMissing ?xhd_NameMissing ?xq_NameMissing ?xl_UnknownValue ?xsa_UnknownValue ?xex_UnknownValue ?xty_UnknownValue ?xkc_UnknownValue ?xga_UnknownValue ?xgg_UnknownValue ?xhd_UnknownValue ?sb_UnknownValue_UnknownValue ?h_UnknownValue_init ?l_UnknownValue_init ?c_UnknownValue_init ?k_UnknownValue_init ?q_UnknownValue_init ?v_UnknownValue_init ?vf_UnknownValue_init ?vg_UnknownValue_init ?xt_UnknownValue ?mr_UnknownValue ?su_UnknownValue ?ci_UnknownValue ?na_UnknownValue ?mr_DownLattice ?su_DownLattice ?ci_DownLattice ?hh_DownLattice_within_at ?hh_DownLattice_join_at ?hh_DownLattice_meet_at ?hh_DownLattice_name_at ?hh_DownLattice_at_name ?hh_DownLattice_irreducibles ?ty_Lattice ?fi_Lattice ?st_any
    (case z_abs => k_is)
    (case z_all => k_is)
    (case z_any => k_is)
    (case z_bool => k_is)
    (case z_dict => k_is)
    (case z_enumerate => k_is)
    (case z_int => k_is)
    (case z_isinstance => k_is)
    (case z_len => k_is)
    (case z_list => k_is)
    (case z_max => k_is)
    (case z_min => k_is)
    (case z_range => k_is)
    (case z_sorted => k_is)
    (case z_str => k_is)
    (case z_sum => k_is)
    (case z_super => k_is)
    (case z_tuple => k_is)
    (case g_first_place => k_is)
    (case l_first_place => k_is)
    (case c_first_place => k_is)
    (case k_first_place => k_is)
    (case g_closed_downs => k_is)
    (case l_closed_downs => k_is)
    (case c_closed_downs => k_is)
    (case k_closed_downs => k_is)
    (case g_check_names => k_is)
    (case l_check_names => k_is)
    (case c_check_names => k_is)
    (case k_check_names => k_is)
    (case g_pair_words => k_is)
    (case l_pair_words => k_is)
    (case c_pair_words => k_is)
    (case k_pair_words => k_is)
    (case g_parts_among => k_is)
    (case l_parts_among => k_is)
    (case c_parts_among => k_is)
    (case k_parts_among => k_is)
    (case g__law_cells => k_is)
    (case l__law_cells => k_is)
    (case c__law_cells => k_is)
    (case k__law_cells => k_is)
    (case g__law_pick => k_is)
    (case l__law_pick => k_is)
    (case c__law_pick => k_is)
    (case k__law_pick => k_is)
    (case g__law_like => k_is)
    (case l__law_like => k_is)
    (case c__law_like => k_is)
    (case k__law_like => k_is)
    (case g__law_words => k_is)
    (case l__law_words => k_is)
    (case c__law_words => k_is)
    (case k__law_words => k_is)
    (case g__law_closed => k_is)
    (case l__law_closed => k_is)
    (case c__law_closed => k_is)
    (case k__law_closed => k_is)
    (case g__law_join => k_is)
    (case l__law_join => k_is)
    (case c__law_join => k_is)
    (case k__law_join => k_is)
    (case g__law_flipped => k_is)
    (case l__law_flipped => k_is)
    (case c__law_flipped => k_is)
    (case k__law_flipped => k_is)
    (case g__law_low => k_is)
    (case l__law_low => k_is)
    (case c__law_low => k_is)
    (case k__law_low => k_is)
    (case g__law_table => k_is)
    (case l__law_table => k_is)
    (case c__law_table => k_is)
    (case k__law_table => k_is)
    (case g__law_pieces => k_is)
    (case l__law_pieces => k_is)
    (case c__law_pieces => k_is)
    (case k__law_pieces => k_is)
    (case g__law_shows => k_is)
    (case l__law_shows => k_is)
    (case c__law_shows => k_is)
    (case k__law_shows => k_is)
    (case g__law_heaps => k_is)
    (case l__law_heaps => k_is)
    (case c__law_heaps => k_is)
    (case k__law_heaps => k_is)
    (case g__law_spots => k_is)
    (case l__law_spots => k_is)
    (case c__law_spots => k_is)
    (case k__law_spots => k_is)
    (case g__law_near_right => k_is)
    (case l__law_near_right => k_is)
    (case c__law_near_right => k_is)
    (case k__law_near_right => k_is)
    (case g__law_drawn_right => k_is)
    (case l__law_drawn_right => k_is)
    (case c__law_drawn_right => k_is)
    (case k__law_drawn_right => k_is)
    (case g_law => k_is)
    (case l_law => k_is)
    (case c_law => k_is)
    (case k_law => k_is)
    (case g_LETTERS => k_is)
    (case g_Lattice => k_is)
    (case pg_Lattice => k_is)
    (case hd_Lattice => k_is)
    (case po_Lattice => k_is)
    (case sa_Lattice => k_is)
    (case mk_Lattice => k_is)
    (case kc_Lattice => k_is)
    (case na_Lattice_label => k_is)
    (case na_Lattice_size => k_is)
    (case na_Lattice_depth => k_is)
    (case na_Lattice_value_names => k_is)
    (case na_Lattice_downs => k_is)
    (case na_Lattice_ups => k_is)
    (case na_Lattice_bottom_at => k_is)
    (case na_Lattice_top_at => k_is)
    (case h_Lattice_init => k_is)
    (case i_Lattice_init => k_is)
    (case l_Lattice_init => k_is)
    (case c_Lattice_init => k_is)
    (case k_Lattice_init => k_is)
    (case dd_Lattice_init => k_is)
    (case h_Lattice_within_at => k_is)
    (case i_Lattice_within_at => k_is)
    (case l_Lattice_within_at => k_is)
    (case c_Lattice_within_at => k_is)
    (case k_Lattice_within_at => k_is)
    (case h_Lattice_join_at => k_is)
    (case i_Lattice_join_at => k_is)
    (case l_Lattice_join_at => k_is)
    (case c_Lattice_join_at => k_is)
    (case k_Lattice_join_at => k_is)
    (case h_Lattice_meet_at => k_is)
    (case i_Lattice_meet_at => k_is)
    (case l_Lattice_meet_at => k_is)
    (case c_Lattice_meet_at => k_is)
    (case k_Lattice_meet_at => k_is)
    (case h_Lattice_name_at => k_is)
    (case i_Lattice_name_at => k_is)
    (case l_Lattice_name_at => k_is)
    (case c_Lattice_name_at => k_is)
    (case k_Lattice_name_at => k_is)
    (case h_Lattice_at_name => k_is)
    (case i_Lattice_at_name => k_is)
    (case l_Lattice_at_name => k_is)
    (case c_Lattice_at_name => k_is)
    (case k_Lattice_at_name => k_is)
    (case h_Lattice_irreducibles => k_is)
    (case i_Lattice_irreducibles => k_is)
    (case l_Lattice_irreducibles => k_is)
    (case c_Lattice_irreducibles => k_is)
    (case k_Lattice_irreducibles => k_is)
    (case g_DownLattice => k_is)
    (case pg_DownLattice => k_is)
    (case hd_DownLattice => k_is)
    (case po_DownLattice => k_is)
    (case sa_DownLattice => k_is)
    (case mk_DownLattice => k_is)
    (case kc_DownLattice => k_is)
    (case na_DownLattice_label => k_is)
    (case na_DownLattice_size => k_is)
    (case na_DownLattice_depth => k_is)
    (case na_DownLattice_value_names => k_is)
    (case na_DownLattice_downs => k_is)
    (case na_DownLattice_ups => k_is)
    (case na_DownLattice_bottom_at => k_is)
    (case na_DownLattice_top_at => k_is)
    (case h_DownLattice_init => k_is)
    (case i_DownLattice_init => k_is)
    (case l_DownLattice_init => k_is)
    (case c_DownLattice_init => k_is)
    (case k_DownLattice_init => k_is)
    (case q_DownLattice_init => k_is)
    (case v_DownLattice_init => k_is)
    (case vf_DownLattice_init => rfl)
    (case vg_DownLattice_init => decide +kernel)
    (case g_NameMissing => k_is)
    (case g_UnknownValue => k_is)
    (case xl_NameMissing => k_is)
    (case xsa_NameMissing => k_is)
    (case xex_NameMissing => k_is)
    (case xty_NameMissing => k_is)
    (case xkc_NameMissing => k_is)
    (case xga_NameMissing => k_is)
    (case xgg_NameMissing => k_is)
    (case xhd_NameMissing => k_is)
    (case xq_NameMissing => k_exc)
    (case xl_UnknownValue => k_is)
    (case xsa_UnknownValue => k_is)
    (case xex_UnknownValue => k_is)
    (case xty_UnknownValue => k_is)
    (case xkc_UnknownValue => k_is)
    (case xga_UnknownValue => k_is)
    (case xgg_UnknownValue => k_is)
    (case xhd_UnknownValue => k_is)
    (case sb_UnknownValue_UnknownValue => first | rfl | k_is)
    (case h_UnknownValue_init => k_is)
    (case l_UnknownValue_init => k_is)
    (case c_UnknownValue_init => k_is)
    (case k_UnknownValue_init => k_is)
    (case q_UnknownValue_init => k_is)
    (case v_UnknownValue_init => k_is)
    (case vf_UnknownValue_init => rfl)
    (case vg_UnknownValue_init => decide +kernel)
    (case xt_UnknownValue => k_is)
    (case mr_UnknownValue => k_is)
    (case su_UnknownValue => ks_is)
    (case ci_UnknownValue => k_is)
    (case na_UnknownValue => k_is)
    (case mr_DownLattice => k_is)
    (case su_DownLattice => ks_is)
    (case ci_DownLattice => k_is)
    (case hh_DownLattice_within_at => k_is)
    (case hh_DownLattice_join_at => k_is)
    (case hh_DownLattice_meet_at => k_is)
    (case hh_DownLattice_name_at => k_is)
    (case hh_DownLattice_at_name => k_is)
    (case hh_DownLattice_irreducibles => k_is)
    (case ty_Lattice => k_is)
    (case fi_Lattice => k_is)
    (case st_any => k_is)
end
namespace Lw
open PySem L2
local macro_rules | `(tactic| walk_at "up") => `(tactic| first | assumption | (refine Same.at (by assumption) ?_; walk_at "up") | (refine Same.seq (by assumption) ?_; walk_at "up"))
local macro_rules | `(tactic| walk_at "rd") => `(tactic| repeat (first | (refine ⟨_, rfl, ?_⟩) | (refine ⟨_, _, rfl, rfl, ?_⟩) | (refine ⟨(by decide), ?_⟩)))
section
variable {P : Program} {w W_ : World} {K : PySem.W.Frag} {mg : Str → Option Value} {base : Heap}
/-! the law's draws -/
def sp_cells (K : PySem.W.Frag) : Sp := fun vs H Q _ => ∃ (a : Addr) (ns : List Int), vs = [.ref a] ∧ SqL K H a (ns.map V.int) ∧ ns.length ≤ 63 ∧
  ∀ (p c : Addr) (m : Int) (cs : List Int) (H' : Hp), Same H H' → c ≠ p → H' c = some (.lst (cs.map V.int)) → (∀ z ∈ cs, 0 ≤ z) → H' p = some (.lst [.ref c, .int 0, .int 1, .int m]) → 0 ≤ m → m < 2147483563 → Q (.ref p) H'
theorem ok__law_cells (T : Tx K mg W_) : FnOk P w K mg base CX0 1 T.a__law_cells T.d__law_cells ["script"] (sp_cells K) := by
  refine T.F__law_cells.ok sc__law_cells (fun vs H Q E h => ?_) (fun cdv A outer s H vs Q E hr h => ?_)
  · obtain ⟨a, ns, rfl, _⟩ := h
    rfl
  obtain ⟨a, ns, rfl, hS, h63, q⟩ := h
  refine ⟨_, pss_cons (ps_set (i := 1) sc__law_cells.nd rfl (Or.inl rfl) pe_int)
    (pss_cons (ps_for PassesOwn.never rfl (pi_list (pv 0)) (pg_name (i := 2) sc__law_cells.nd rfl (Or.inl rfl))
      (pss_one (ps_set (i := 1) sc__law_cells.nd rfl (Or.inl rfl) (pe_op op_mod (pe_callTy call_int1 (by rfl) T.n_int (by decide +kernel) (pa_cons (pe_op op_add (pe_op op_add (pe_op op_mul (pv 1) pe_int) (pe_op op_mul (pv 2) pe_int)) pe_int) pa_nil)) pe_int))))
    (pss_one (ps_ret (pe_lst (pa_cons (pe_lc (own := [("cell", 2)]) (g := gName 2) (tt := tYes) rfl sc__law_cells.nd (pi_list (pv 0)) (blkOk_by (N := ["script", "mixed", "cell"]) (sc := defScope St__law_cells) (by decide +kernel)) (fun _ _ _ _ _ => pg_name (i := 2) sc__law_cells.nd rfl (Or.inl rfl)) (fun _ _ _ _ _ => pts_nil)
        (fun _ _ _ _ _ => pe_callB call_abs (by rfl) T.n_abs (by decide +kernel) (pa_cons (pv 2) pa_nil)))
      (pa_cons pe_int (pa_cons pe_int (pa_cons (pv 1) pa_nil)))))))), ?_⟩
  refine ⟨_, rfl, a, rfl, ⟨_, hS⟩, for_list (K := K) (a := a) (xs := ns.map V.int) (fun i σ H2 => ∃ (m : Int) (v : Option V), σ = [some (.ref a), some (.int m), v] ∧ H2 = H ∧ 0 ≤ m ∧ m < 2147483563)
    ⟨3, none, rfl, rfl, by decide, by decide⟩ (fun i σ H2 _ ⟨_, _, _, e, _⟩ => by rw [e]; exact hS) ?_ ?_⟩
  · rintro i x σ H2 hi ⟨m, v, rfl, rfl, m0, m1⟩
    obtain ⟨z, _, rfl⟩ := map_at hi
    refine ⟨_, rfl, _, _, rfl, rfl, .inr (by decide), _, rfl, _, _, rfl, rfl, .inr (by decide), _, _, rfl, rfl, _, _, rfl, rfl, .inl ⟨_, rfl, _, _, rfl, rfl, (by show (0 : Int) < 2147483563; decide), ?_⟩⟩
    exact ⟨_, _, rfl, rfl, Int.emod_nonneg _ (by decide), Int.emod_lt_of_pos _ (by decide)⟩
  · rintro σ H2 ⟨m, v, rfl, rfl, m0, m1⟩
    refine ⟨_, rfl, a, rfl, ⟨_, hS⟩, fun D hD => lc_list (K := K) (a := a) (xs := ns.map V.int) (fun i H3 => Same H2 H3 ∧ H3 D = some (.lst (((ns.take i).map fun i : Int => if i < 0 then -i else i).map V.int)))
      ⟨Same.new hD _, upd_same⟩ (fun i H3 _ h => h.1.seq hS) ?_ ?_⟩
    · rintro i x H3 hi ⟨s3, h3⟩
      obtain ⟨z, hz, rfl⟩ := map_at hi
      have hl : i < ns.length := (List.getElem?_eq_some_iff.mp hz).1
      refine ⟨rfl, ?_⟩
      refine lcY ?_
      refine ⟨_, rfl, _, rfl, _, h3, ?_, s3.mut hD _, ?_⟩
      · rw [List.length_map, List.length_map, List.length_take]; exact small1000 (by omega)
      · rw [upd_same, take_snoc hz, List.map_append, List.map_append]; rfl
    · rintro H3 ⟨s3, h3⟩
      refine ⟨_, rfl, (by show 4 ≤ sizeLine; decide), newO fun p H4 hp s4 h4 => ?_⟩
      rw [List.length_map, List.take_length] at h3
      exact q p D m _ H4 (s3.trans s4) (ne_of_none h3 hp) (s4.at h3) (abs_map ns) h4 m0 m1
def sp_pick (K : PySem.W.Frag) : Sp := fun vs H Q _ => ∃ (p ce : Addr) (n : Int), vs = [.ref p, .int n] ∧ Src K ce H p ∧ n ≤ 10000000 ∧
  ∀ (d : Int) (H' : Hp), But p H H' → Src K ce H' p → 0 ≤ d → (d < n ∨ d = 0) → Q (.int d) H'
theorem ok__law_pick (T : Tx K mg W_) : FnOk P w K mg base CX0 1 T.a__law_pick T.d__law_pick ["source", "many"] (sp_pick K) := by
  refine T.F__law_pick.ok sc__law_pick (fun vs H Q E h => ?_) (fun cdv A outer s H vs Q E hr h => ?_)
  · obtain ⟨a, ce, n, rfl, _⟩ := h
    rfl
  obtain ⟨p, c, n, rfl, ⟨cs, i, l, m, S⟩, hn, q⟩ := h
  refine ⟨_, pss_cons (ps_if (pt_cmpR op_lt (pv 1) pe_int (nomark _)) (pss_one (ps_ret pe_int)) pss_nil)
    (pss_cons (ps_while PassesOwn.never (PW.pt (pw_and (pt_cmpR op_lt (pe_ix ix_list (pv 0) pe_int (fun _ _ => rfl)) pe_int (nomark _)) (pw_and1 (pt_cmpR op_lt (pe_ix ix_list (pv 0) pe_int (fun _ _ => rfl)) (pe_callB call_len_seq (by rfl) T.n_len PySem.boot_len (pa_cons (pe_ix ix_list (pv 0) pe_int (fun _ _ => rfl)) pa_nil)) (nomark _)))))
      (pss_cons (ps_asg (pe_ix ix_list (pe_ix ix_list (pv 0) pe_int (fun _ _ => rfl)) (pe_ix ix_list (pv 0) pe_int (fun _ _ => rfl)) (fun _ _ => rfl)) (pg_sub (pv 0) pe_int set_list))
      (pss_one (ps_asg (pe_op op_add (pe_ix ix_list (pv 0) pe_int (fun _ _ => rfl)) pe_int) (pg_sub (pv 0) pe_int set_list)))))
    (pss_cons (ps_if (pt_cmpR op_gt (pe_ix ix_list (pv 0) pe_int (fun _ _ => rfl)) pe_int (nomark _))
      (pss_cons (ps_set (i := 2) sc__law_pick.nd rfl (Or.inl rfl) (pe_op op_mod (pe_callTy call_int1 (by rfl) T.n_int (by decide +kernel) (pa_cons (pe_ix ix_list (pv 0) pe_int (fun _ _ => rfl)) pa_nil)) (pv 1)))
      (pss_cons (ps_asg (pe_op op_fdiv (pe_ix ix_list (pv 0) pe_int (fun _ _ => rfl)) (pv 1)) (pg_sub (pv 0) pe_int set_list))
      (pss_one (ps_ret (pv 2))))) pss_nil)
    (pss_cons (ps_asg (pe_op op_mod (pe_callTy call_int1 (by rfl) T.n_int (by decide +kernel) (pa_cons (pe_op op_add (pe_op op_mul (pe_ix ix_list (pv 0) pe_int (fun _ _ => rfl)) pe_int) pe_int) pa_nil)) pe_int) (pg_sub (pv 0) pe_int set_list))
    (pss_cons (ps_set (i := 3) sc__law_pick.nd rfl (Or.inl rfl) (pe_op op_fdiv (pe_ix ix_list (pv 0) pe_int (fun _ _ => rfl)) pe_int))
    (pss_cons (ps_if (pt_cmpR op_gt (pv 1) (pe_op op_pow pe_int pe_int) (nomark _)) (pss_one (ps_set (i := 3) sc__law_pick.nd rfl (Or.inl rfl) (pe_op op_pow (pv 3) pe_int))) pss_nil)
    (pss_one (ps_ret (pe_op op_mod (pe_callTy call_int1 (by rfl) T.n_int (by decide +kernel) (pa_cons (pv 3) pa_nil)) (pv 1))))))))), ?_⟩
  refine ⟨_, rfl, _, _, rfl, rfl, _, rfl, ?_⟩
  refine ite2 (fun c1 => ?_) (fun c1 => ?_)
  · exact q 0 H (But.refl p H) ⟨cs, i, l, m, S⟩ (by decide) (.inr rfl)
  have hn2 : 2 ≤ n := by have := of_decide_eq_false (Bool.eq_false_iff.mpr c1); omega
  refine ⟨fun k σ H2 => ∃ (i : Nat) (l : Int), k = cs.length - i ∧ σ = [some (.ref p), some (.int n), none, none] ∧ But p H H2 ∧ SrcIs K H2 p c cs i l m, ⟨_, i, l, rfl, rfl, But.refl p H, S⟩, ?_⟩
  rintro k σ H2 ⟨i, l, rfl, rfl, b, S⟩
  have sq := SqL.of (K := K) S.at_
  refine ans_run (b := decide (l < 2) && decide ((i : Int) < cs.length)) (fun Q' q' => ?_) ?_
  · refine ⟨_, rfl, _, _, _, _, rfl, rfl, sq, atI_nat (j := 2) rfl, _, _, rfl, rfl, _, rfl, ?_⟩
    refine ite2 (fun c2 => ?_) (fun c2 => ?_)
    · refine ⟨_, rfl, _, _, _, _, rfl, rfl, sq, atI_nat (j := 1) rfl, _, rfl, _, _, _, _, rfl, rfl, sq, atI_nat (j := 0) rfl, c, _, rfl, .inl S.cel, _, _, rfl, rfl, _, rfl, ?_⟩
      have e : (decide (l < 2) && decide ((i : Int) < cs.length)) = decide ((i : Int) < (cs.map V.int).length) := by rw [c2, Bool.true_and, List.length_map]
      rw [e] at q'
      exact q'
    · rw [Bool.eq_false_iff.mpr c2, Bool.false_and] at q'
      exact q'
  refine ite2 (fun c2 => ?_) (fun c2 => ?_)
  · obtain ⟨e1, e2⟩ := Bool.and_eq_true_iff.mp c2
    have e1 := of_decide_eq_true e1
    have e2 := of_decide_eq_true e2
    have hic : i < cs.length := by omega
    refine ⟨fun σ' H' => ∃ m' < cs.length - i, _, fun _ _ h => h, ?_⟩
    refine ⟨_, rfl, _, _, _, _, rfl, rfl, sq, atI_nat (j := 0) rfl, _, rfl, _, _, _, _, rfl, rfl, sq, atI_nat (j := 1) rfl, c, _, (i : Int), .int cs[i], rfl, rfl, S.cel, atI_nat (by rw [List.getElem?_map, List.getElem?_eq_getElem hic]; rfl), ?_⟩
    refine ⟨_, rfl, p, _, _, 2, rfl, rfl, S.at_, rfl, ?_⟩
    have S1 := S.put (i' := i) (l' := cs[i]) (m' := m) S.hi (S.hc _ (List.getElem_mem hic)) S.m0 S.m1
    refine ⟨_, rfl, _, _, _, _, rfl, rfl, SqL.of (K := K) S1.at_, atI_nat (j := 1) rfl, _, _, rfl, rfl, ?_⟩
    refine ⟨_, rfl, p, _, _, 1, rfl, rfl, S1.at_, rfl, ?_⟩
    exact ⟨_, by omega, i + 1, cs[i], rfl, rfl, (b.upd _).upd _, S1.put (i' := i + 1) (l' := cs[i]) (m' := m) hic S1.hl S1.m0 S1.m1⟩
  refine ⟨_, rfl, _, _, _, _, rfl, rfl, sq, atI_nat (j := 2) rfl, _, _, rfl, rfl, _, rfl, ?_⟩
  refine ite2 (fun c3 => ?_) (fun c3 => ?_)
  · have c3 := of_decide_eq_true c3
    refine ⟨_, rfl, _, _, _, _, rfl, rfl, sq, atI_nat (j := 2) rfl, .inl ⟨_, rfl, _, rfl, _, _, rfl, rfl, (by show 0 < n; omega), ?_⟩⟩
    refine ⟨_, rfl, _, _, _, _, rfl, rfl, sq, atI_nat (j := 2) rfl, _, rfl, _, _, rfl, rfl, ⟨by omega, by omega⟩, ?_⟩
    refine ⟨_, rfl, p, _, _, 2, rfl, rfl, S.at_, rfl, _, rfl, ?_⟩
    exact q _ _ (b.upd _) ⟨cs, i, l / n, m, S.put S.hi (Int.ediv_nonneg S.hl (by omega)) S.m0 S.m1⟩ (Int.emod_nonneg _ (by omega)) (.inl (Int.emod_lt_of_pos _ (by omega)))
  refine ⟨_, rfl, _, _, _, _, rfl, rfl, sq, atI_nat (j := 3) rfl, _, _, rfl, rfl, .inr (by decide), _, _, rfl, rfl, .inl ⟨_, rfl, _, _, rfl, rfl, (by show (0 : Int) < 2147483563; decide), ?_⟩⟩
  refine ⟨_, rfl, p, _, _, 3, rfl, rfl, S.at_, rfl, ?_⟩
  have S1 := S.put (i' := i) (l' := l) (m' := (m * 40014 + 12345) % 2147483563) S.hi S.hl (Int.emod_nonneg _ (by decide)) (Int.emod_lt_of_pos _ (by decide))
  refine ⟨_, rfl, _, _, _, _, rfl, rfl, SqL.of (K := K) S1.at_, atI_nat (j := 3) rfl, _, _, rfl, rfl, ⟨by decide, by decide⟩, ?_⟩
  refine ⟨_, rfl, _, _, rfl, rfl, (by show CPow 10 7; exact ⟨by decide, by decide, by decide⟩), _, _, rfl, rfl, _, rfl, ?_⟩
  refine iteN (by show ¬ (10 : Int) ^ (7 : Int).toNat < n; have : (10 : Int) ^ (7 : Int).toNat = 10000000 := by decide
                  omega) ?_
  refine ⟨_, rfl, .inl ⟨_, rfl, _, rfl, _, _, rfl, rfl, (by show 0 < n; omega), ?_⟩⟩
  exact q _ _ (b.upd _) ⟨cs, i, l, _, S1⟩ (Int.emod_nonneg _ (by omega)) (.inl (Int.emod_lt_of_pos _ (by omega)))
end
section
variable {K : PySem.W.Frag}
theorem tyx_tup {H : Hp} {p : Addr} {xs : List V} (h : SqT K H p xs) : TyX K H (.ref p) (.type "tuple") := by
  rcases h with (h | ⟨o, h⟩) | ⟨o, its, n, h, c, _⟩
  · exact .base (.tup h)
  · exact .fTuple h
  · exact .kTuple h c
theorem kit_tt : PySem.W.kitOne K (.type "tuple") (.type "tuple") = some true := kit_ty (by decide +kernel)
theorem kit_st : PySem.W.kitOne K (.type "str") (.type "tuple") = some false := kit_ty (by decide +kernel)
end
/-! ### _law_like: what is found is what is due -/
section
variable {P : Program} {w W_ : World} {K : PySem.W.Frag} {mg : Str → Option Value} {base : Heap}
/-- data: a value as it stands -/
inductive Dv where
  | non
  | bl (b : Bool)
  | int (i : Int)
  | str (s : Str)
  | lst (l : List Dv)
  | tup (l : List Dv)
mutual
def Ld (K : PySem.W.Frag) (H : Hp) : Dv → V → Prop
  | .non, v => v = .non
  | .bl b, v => v = .bl b
  | .int i, v => v = .int i
  | .str s, v => v = .str s
  | .lst l, v => ∃ a xs, v = .ref a ∧ H a = some (.lst xs) ∧ LdA K H l xs
  | .tup l, v => ∃ a xs, v = .ref a ∧ SqT K H a xs ∧ LdA K H l xs
def LdA (K : PySem.W.Frag) (H : Hp) : List Dv → List V → Prop
  | [], xs => xs = []
  | d :: ds, xs => ∃ y ys, xs = y :: ys ∧ Ld K H d y ∧ LdA K H ds ys
end
mutual
theorem Ld.same {H H' : Hp} (s : Same H H') : ∀ {d : Dv} {v : V}, Ld K H d v → Ld K H' d v
  | .non, _, h | .bl _, _, h | .int _, _, h | .str _, _, h => h
  | .lst l, _, ⟨a, xs, e, h, r⟩ => ⟨a, xs, e, s _ _ h, LdA.same s r⟩
  | .tup l, _, ⟨a, xs, e, h, r⟩ => ⟨a, xs, e, s.keeps.sqT h, LdA.same s r⟩
theorem LdA.same {H H' : Hp} (s : Same H H') : ∀ {l : List Dv} {xs : List V}, LdA K H l xs → LdA K H' l xs
  | [], _, h => h
  | _ :: _, _, ⟨y, ys, e, h, r⟩ => ⟨y, ys, e, Ld.same s h, LdA.same s r⟩
end
theorem LdA.length {H : Hp} : ∀ {l : List Dv} {xs : List V}, LdA K H l xs → xs.length = l.length
  | [], _, h => by rw [show _ = ([] : List V) from h]; rfl
  | _ :: _, _, ⟨y, ys, e, h, r⟩ => by rw [e, List.length_cons, List.length_cons, LdA.length r]
theorem LdA.get {H : Hp} : ∀ {l : List Dv} {xs : List V}, LdA K H l xs → ∀ {i : Nat}, i < l.length → ∃ d v, l[i]? = some d ∧ xs[i]? = some v ∧ Ld K H d v
  | [], _, _, i, hi => absurd hi (Nat.not_lt_zero _)
  | d :: ds, _, ⟨y, ys, e, h, r⟩, i, hi => by
    subst e
    cases i with
    | zero => exact ⟨d, y, rfl, rfl, h⟩
    | succ i => exact LdA.get r (Nat.lt_of_succ_lt_succ hi)
mutual
def Dv.depth : Dv → Nat
  | .lst l | .tup l => Dv.depthA l + 1
  | _ => 1
def Dv.depthA : List Dv → Nat
  | [] => 0
  | d :: ds => max d.depth (Dv.depthA ds)
end
theorem Dv.depth_pos : ∀ d : Dv, 1 ≤ d.depth
  | .non | .bl _ | .int _ | .str _ => by simp [Dv.depth]
  | .lst _ | .tup _ => by simp [Dv.depth]
theorem Dv.depth_at {d : Dv} : ∀ {l : List Dv} {i : Nat}, l[i]? = some d → d.depth ≤ Dv.depthA l
  | [], _, h => by simp at h
  | e :: es, 0, h => by cases h; simp [Dv.depthA]; omega
  | e :: es, i + 1, h => by have := Dv.depth_at (l := es) (i := i) (by simpa using h); simp [Dv.depthA]; omega
/-- its class -/
def Dv.cls : Dv → String
  | .non => "NoneType"
  | .bl _ => "bool"
  | .int _ => "int"
  | .str _ => "str"
  | .lst _ => "list"
  | .tup _ => "tuple"
theorem Ld.ty {H : Hp} : ∀ {d : Dv} {v : V}, Ld K H d v → TyX K H v (.type d.cls)
  | .non, _, h => by rw [show _ = V.non from h]; exact .base .non
  | .bl b, _, h => by rw [show _ = V.bl b from h]; exact .base (.bl b)
  | .int i, _, h => by rw [show _ = V.int i from h]; exact .base (.int i)
  | .str s, _, h => by rw [show _ = V.str s from h]; exact .base (.str s)
  | .lst l, _, ⟨a, xs, e, h, r⟩ => by rw [e]; exact .base (.lst h)
  | .tup l, _, ⟨a, xs, e, h, r⟩ => by rw [e]; exact tyx_tup h
/-- whether it is one of the class -/
def Dv.is (d : Dv) (n : String) : Bool := d.cls == n
theorem Dv.kit (d : Dv) {n : String} (hn : n ∈ ["bool", "str", "list", "tuple", "dict"]) : PySem.W.kitOne K (.type d.cls) (.type n) = some (d.is n) := by
  simp only [List.mem_cons, List.not_mem_nil, or_false] at hn
  rcases hn with rfl | rfl | rfl | rfl | rfl <;> cases d <;> exact kit_ty (by dsimp only [Dv.cls, Dv.is]; decide +kernel)
theorem LdA.at2 {H : Hp} {l : List Dv} {xs ys : List V} (h1 : LdA K H l xs) (h2 : LdA K H l ys) {i : Nat} (hi : i < l.length) : ∃ d x y, l[i]? = some d ∧ xs[i]? = some x ∧ ys[i]? = some y ∧ Ld K H d x ∧ Ld K H d y := by
  obtain ⟨d, x, e1, e2, e3⟩ := h1.get hi
  obtain ⟨d', y, f1, f2, f3⟩ := h2.get hi
  rw [e1] at f1
  cases f1
  exact ⟨d, x, y, e1, e2, f2, e3, f3⟩
mutual
def Dv.wide : Dv → Prop
  | .lst l | .tup l => l.length ≤ 100000 ∧ Dv.wideA l
  | _ => True
def Dv.wideA : List Dv → Prop
  | [] => True
  | d :: ds => d.wide ∧ Dv.wideA ds
end
theorem Dv.wide_at {d : Dv} : ∀ {l : List Dv} {i : Nat}, Dv.wideA l → l[i]? = some d → d.wide
  | [], _, _, h => by simp at h
  | e :: es, 0, w, h => by cases h; exact w.1
  | e :: es, i + 1, w, h => Dv.wide_at (l := es) (i := i) w.2 (by simpa using h)
def sp_like (K : PySem.W.Frag) (n : Nat) : Sp := fun vs H Q _ => ∃ (d : Dv) (x y : V), vs = [x, y] ∧ Ld K H d x ∧ Ld K H d y ∧ d.depth ≤ n ∧ d.wide ∧ ∀ H', Same H H' → Q (.bl true) H'
end
section
variable {P : Program} {w W_ : World} {K : PySem.W.Frag} {mg : Str → Option Value} {base : Heap}
theorem kany_lt (d : Dv) : PySem.W.kitAny K (.type d.cls) [.type "list", .type "tuple"] = some (d.is "list" || d.is "tuple") := by
  unfold PySem.W.kitAny
  rw [d.kit (n := "list") (by simp)]
  cases h : d.is "list" with
  | true => rfl
  | false =>
    show PySem.W.kitAny K (.type d.cls) [.type "tuple"] = _
    unfold PySem.W.kitAny
    rw [d.kit (n := "tuple") (by simp)]
    cases h2 : d.is "tuple" <;> rfl
theorem Ld.isN {H : Hp} : ∀ {d : Dv} {v : V}, Ld K H d v → decide (v = V.non) = d.is "NoneType"
  | .non, _, h => by rw [show _ = V.non from h]; rfl
  | .bl b, _, h => by rw [show _ = V.bl b from h]; rfl
  | .int i, _, h => by rw [show _ = V.int i from h]; rfl
  | .str s, _, h => by rw [show _ = V.str s from h]; rfl
  | .lst l, _, ⟨a, xs, e, h, r⟩ => by rw [e]; rfl
  | .tup l, _, ⟨a, xs, e, h, r⟩ => by rw [e]; rfl
theorem inV_falses (n : Nat) : inV (.bl false) (List.replicate n (V.bl true)) = false := inV_trues n
theorem ok_like (T : Tx K mg W_) : ∀ n, FnOk P w K mg base CX0 (n + 1) T.a__law_like T.d__law_like ["found", "due"] (sp_like K n)
  | 0 => by
    have no : ∀ vs H Q E, ¬ sp_like K 0 vs H Q E := fun vs H Q E ⟨d, x, y, _, _, _, hd, _⟩ => by have := d.depth_pos; omega
    exact ⟨fun vs H Q E h => absurd h (no vs H Q E), fun A outer s H args us vs Q E _ _ _ _ h => absurd h (no vs H Q E)⟩
  | n + 1 => by
    have G__law_like := ok_like T n
    refine T.F__law_like.ok sc__law_like (fun vs H Q E h => ?_) (fun cdv A outer s H vs Q E hr h => ?_)
    · obtain ⟨d, x, y, rfl, _⟩ := h
      rfl
    obtain ⟨d, x, y, rfl, hx, hy, hd, hw, q⟩ := h
    refine ⟨_, pss_cons (ps_if (pt_cmpR op_isN (pv 1) pe_non (nomark _)) (pss_one (ps_ret (pe_cmpR op_isN (pv 0) pe_non (nomark _)))) pss_nil)
    (pss_cons (ps_for PassesOwn.never rfl (pi_list (pe_lst (pa_cons (pe_lst (pa_cons (pe_callB call_isi (by rfl) T.n_isinstance (by decide +kernel) (pa_cons (pv 0) (pa_cons (pe_bltn (v := .ty "bool") (u := .type "bool") (by rfl) T.n_bool (by decide +kernel) rfl) pa_nil))) (pa_cons (pe_callB call_isi (by rfl) T.n_isinstance (by decide +kernel) (pa_cons (pv 1) (pa_cons (pe_bltn (v := .ty "bool") (u := .type "bool") (by rfl) T.n_bool (by decide +kernel) rfl) pa_nil))) pa_nil))) (pa_cons (pe_lst (pa_cons (pe_callB call_isi (by rfl) T.n_isinstance (by decide +kernel) (pa_cons (pv 0) (pa_cons (pe_bltn (v := .ty "str") (u := .type "str") (by rfl) T.n_str (by decide +kernel) rfl) pa_nil))) (pa_cons (pe_callB call_isi (by rfl) T.n_isinstance (by decide +kernel) (pa_cons (pv 1) (pa_cons (pe_bltn (v := .ty "str") (u := .type "str") (by rfl) T.n_str (by decide +kernel) rfl) pa_nil))) pa_nil))) pa_nil)))) (pg_name (i := 2) sc__law_like.nd rfl (Or.inl rfl)) (pss_one (ps_if (pt_cmpR op_ne (pe_ix ix_list (pv 2) pe_int (fun _ _ => rfl)) (pe_ix ix_list (pv 2) pe_int (fun _ _ => rfl)) (nomark _)) (pss_one (ps_ret pe_bl)) pss_nil)))
    (pss_cons (ps_if (PW.pt (pw_or (pt_cmpR op_ne (pe_callB call_isi (by rfl) T.n_isinstance (by decide +kernel) (pa_cons (pv 0) (pa_cons (pe_bltn (v := .ty "list") (u := .type "list") (by rfl) T.n_list (by decide +kernel) rfl) pa_nil))) (pe_callB call_isi (by rfl) T.n_isinstance (by decide +kernel) (pa_cons (pv 1) (pa_cons (pe_bltn (v := .ty "list") (u := .type "list") (by rfl) T.n_list (by decide +kernel) rfl) pa_nil))) (nomark _)) (pw_or1 (pt_cmpR op_ne (pe_callB call_isi (by rfl) T.n_isinstance (by decide +kernel) (pa_cons (pv 0) (pa_cons (pe_bltn (v := .ty "tuple") (u := .type "tuple") (by rfl) T.n_tuple (by decide +kernel) rfl) pa_nil))) (pe_callB call_isi (by rfl) T.n_isinstance (by decide +kernel) (pa_cons (pv 1) (pa_cons (pe_bltn (v := .ty "tuple") (u := .type "tuple") (by rfl) T.n_tuple (by decide +kernel) rfl) pa_nil))) (nomark _))))) (pss_one (ps_ret pe_bl)) pss_nil)
    (pss_cons (ps_if (pt_val (pe_callB call_isi (by rfl) T.n_isinstance (by decide +kernel) (pa_cons (pv 1) (pa_cons (pe_bltn (v := .ty "dict") (u := .type "dict") (by rfl) T.n_dict (by decide +kernel) rfl) pa_nil)))) (pss_cons ps_dead (pss_one ps_dead)) pss_nil)
    (pss_cons (ps_if (pt_val (pe_callB call_isiT (by rfl) T.n_isinstance (by decide +kernel) (pa_cons (pv 1) (pa_cons (pe_tup (pa_cons (pe_bltn (v := .ty "list") (u := .type "list") (by rfl) T.n_list (by decide +kernel) rfl) (pa_cons (pe_bltn (v := .ty "tuple") (u := .type "tuple") (by rfl) T.n_tuple (by decide +kernel) rfl) pa_nil))) pa_nil)))) (pss_cons (ps_if (pt_cmpR op_ne (pe_callB call_len_seq (by rfl) T.n_len (by decide +kernel) (pa_cons (pv 0) pa_nil)) (pe_callB call_len_seq (by rfl) T.n_len (by decide +kernel) (pa_cons (pv 1) pa_nil)) (nomark _)) (pss_one (ps_ret pe_bl)) pss_nil)
    (pss_one (ps_ret (pe_cmpR op_notIn_seq pe_bl (pe_lc (own := [("k", 3)]) (g := gName 3) (tt := tYes) rfl sc__law_like.nd (pi_range1 (by rfl) T.n_range (pa_cons (pe_callB call_len_seq (by rfl) T.n_len (by decide +kernel) (pa_cons (pv 1) pa_nil)) pa_nil)) (blkOk_by (N := N__law_like) (sc := defScope St__law_like) (by decide +kernel)) (fun _ _ _ _ _ => (pg_name (i := 3) sc__law_like.nd rfl (Or.inl rfl))) (fun _ _ _ _ _ => pts_nil) (fun _ _ _ _ _ => (pe_call G__law_like (hr.mono (by omega)) (by rfl) T.g__law_like T.F__law_like.kp T.b__law_like .nil pass0 (pa_cons (pe_ix (kx_ix_seq K) (pv 0) (pv 3) (fun _ _ => rfl)) (pa_cons (pe_ix (kx_ix_seq K) (pv 1) (pv 3) (fun _ _ => rfl)) pa_nil))))) (by rfl))))) pss_nil)
    (pss_one (ps_ret (pe_cmpR op_eq (pv 0) (pv 1) (nomark _)))))))), ?_⟩
    refine ⟨_, rfl, rfl, _, rfl, ?_⟩
    show if decide (y = V.non) = true then _ else _
    rw [hy.isN]
    refine ite2 (fun cn => ?_) (fun cn => ?_)
    · refine ⟨_, rfl, rfl, ?_⟩
      have := q H (Same.refl _)
      rw [← cn, ← hx.isN] at this
      exact this
    -- the classes of both
    have kb := d.kit (K := K) (n := "bool") (by simp)
    have ks := d.kit (K := K) (n := "str") (by simp)
    refine ⟨_, rfl, x, _, _, _, _, rfl, .ty "bool", hx.ty, kb, _, rfl, y, _, _, _, _, rfl, .ty "bool", hy.ty, kb, (by show 2 ≤ sizeLine; decide), newQ (.lst [.bl (d.is "bool"), .bl (d.is "bool")]) fun l1 hl1 s1 h1 => ?_⟩
    generalize upd H l1 (.lst [.bl (d.is "bool"), .bl (d.is "bool")]) = H1 at s1 h1 ⊢
    refine ⟨_, rfl, x, _, _, _, _, rfl, .ty "str", (hx.same s1).ty, ks, _, rfl, y, _, _, _, _, rfl, .ty "str", (hy.same s1).ty, ks, (by show 2 ≤ sizeLine; decide), newQ (.lst [.bl (d.is "str"), .bl (d.is "str")]) fun l2 hl2 s2 h2 => ?_⟩
    generalize upd H1 l2 (.lst [.bl (d.is "str"), .bl (d.is "str")]) = H2 at s2 h2 ⊢
    refine ⟨(by show 2 ≤ sizeLine; decide), newQ (.lst [.ref l1, .ref l2]) fun l3 hl3 s3 h3 => ?_⟩
    generalize upd H2 l3 (.lst [.ref l1, .ref l2]) = H3 at s3 h3 ⊢
    have s03 := (s1.trans s2).trans s3
    have g1 := s3 _ _ (s2 _ _ h1)
    have g2 := s3 _ _ h2
    refine ⟨l3, rfl, ⟨_, SqL.of (K := K) h3⟩, for_list (K := K) (a := l3) (xs := [.ref l1, .ref l2]) (fun i σ H' => ∃ v, σ = [some x, some y, v, none] ∧ H' = H3) ⟨none, rfl, rfl⟩ (fun i σ H' _ ⟨_, _, e⟩ => by rw [e]; exact SqL.of h3) ?_ ?_⟩
    · rintro i z σ H' hz ⟨v, rfl, rfl⟩
      obtain ⟨l, b, rfl, hl⟩ : ∃ l b, z = .ref l ∧ H' l = some (.lst [V.bl b, V.bl b]) := by
        match i, hz with
        | 0, e => cases e; exact ⟨_, _, rfl, g1⟩
        | 1, e => cases e; exact ⟨_, _, rfl, g2⟩
        | i + 2, e => simp at e
      refine ⟨_, rfl, l, _, _, _, rfl, rfl, SqL.of (K := K) hl, atI_nat (j := 0) rfl, _, rfl, l, _, _, _, rfl, rfl, SqL.of (K := K) hl, atI_nat (j := 1) rfl, rfl, _, rfl, ?_⟩
      rw [decide_eq_true rfl]
      refine iteF ?_
      exact ⟨_, rfl, rfl⟩
    rintro σ H' ⟨v, rfl, eH⟩
    obtain rfl : H3 = H' := eH.symm
    have x3 := hx.same s03
    have y3 := hy.same s03
    have kl := d.kit (K := K) (n := "list") (by simp)
    have kt := d.kit (K := K) (n := "tuple") (by simp)
    have kd := d.kit (K := K) (n := "dict") (by simp)
    refine ⟨_, rfl, x, _, _, _, _, rfl, .ty "list", x3.ty, kl, _, rfl, y, _, _, _, _, rfl, .ty "list", y3.ty, kl, rfl, _, rfl, ?_⟩
    rw [decide_eq_true rfl]
    refine iteF ?_
    refine ⟨_, rfl, x, _, _, _, _, rfl, .ty "tuple", x3.ty, kt, _, rfl, y, _, _, _, _, rfl, .ty "tuple", y3.ty, kt, rfl, _, rfl, ?_⟩
    rw [decide_eq_true rfl]
    refine iteF ?_
    refine ⟨_, rfl, y, _, _, _, _, rfl, .ty "dict", y3.ty, kd, _, rfl, ?_⟩
    rw [show d.is "dict" = false from by cases d <;> rfl]
    refine iteF ?_
    refine ⟨_, rfl, (by show 2 ≤ sizeLine; decide), newQ (.tup [.ty "list", .ty "tuple"]) fun t4 hl4 s4 h4 => ?_⟩
    generalize upd H3 t4 (.tup [.ty "list", .ty "tuple"]) = H4 at s4 h4 ⊢
    refine ⟨y, t4, _, _, _, _, rfl, h4, .cons (.ty "list") (.cons (.ty "tuple") .nil), (y3.same s4).ty, kany_lt d, _, rfl, ?_⟩
    have x4 := x3.same s4
    have y4 := y3.same s4
    have s04 := s03.trans s4
    have flat : (d.is "list" || d.is "tuple") = false → scal x y = true ∧ decide (x = y) = true := fun c => by
      cases d with
      | non => simp [Dv.is, Dv.cls] at cn
      | bl b => rw [show x = V.bl b from hx, show y = V.bl b from hy]; exact ⟨rfl, decide_eq_true rfl⟩
      | int b => rw [show x = V.int b from hx, show y = V.int b from hy]; exact ⟨rfl, decide_eq_true rfl⟩
      | str b => rw [show x = V.str b from hx, show y = V.str b from hy]; exact ⟨rfl, decide_eq_true rfl⟩
      | lst l => simp [Dv.is, Dv.cls] at c
      | tup l => simp [Dv.is, Dv.cls] at c
    refine ite2 (fun c => ?_) (fun c => ?_)
    · obtain ⟨l, a, b, xs, ys, ex, ey, qx, qy, rx, ry, dl, wl, wl2⟩ : ∃ (l : List Dv) (a b : Addr) (xs ys : List V), x = .ref a ∧ y = .ref b ∧ (SqL K H4 a xs ∨ SqT K H4 a xs) ∧ (SqL K H4 b ys ∨ SqT K H4 b ys) ∧ LdA K H4 l xs ∧ LdA K H4 l ys ∧ Dv.depthA l ≤ n ∧ l.length ≤ 100000 ∧ Dv.wideA l := by
        cases d with
        | lst l =>
          obtain ⟨a, xs, ex, qx, rx⟩ := x4
          obtain ⟨b, ys, ey, qy, ry⟩ := y4
          exact ⟨l, a, b, xs, ys, ex, ey, .inl (SqL.of qx), .inl (SqL.of qy), rx, ry, by simp [Dv.depth] at hd; omega, hw.1, hw.2⟩
        | tup l =>
          obtain ⟨a, xs, ex, qx, rx⟩ := x4
          obtain ⟨b, ys, ey, qy, ry⟩ := y4
          exact ⟨l, a, b, xs, ys, ex, ey, .inr qx, .inr qy, rx, ry, by simp [Dv.depth] at hd; omega, hw.1, hw.2⟩
        | non | bl _ | int _ | str _ => simp [Dv.is, Dv.cls] at c
      subst ex ey
      have lx := rx.length
      have ly := ry.length
      refine ⟨_, rfl, a, xs, rfl, qx, _, rfl, b, ys, rfl, qy, rfl, _, rfl, ?_⟩
      rw [lx, ly, decide_eq_true rfl]
      refine iteF ?_
      refine ⟨_, rfl, b, ys, rfl, qy, _, rfl, by omega, by omega, fun D hD => ?_⟩
      rw [ly]
      refine lc_fold walk_range hD (fun i _ ys => i ≤ l.length ∧ ys = List.replicate i (V.bl true)) (fun _ => ⟨Nat.zero_le _, rfl⟩) (fun i _ _ xs _ h => h) ?_ (fun _ _ => trivial) ?_ ?_
      · rintro i _ ys ⟨hi, rfl⟩
        rw [List.length_replicate]; omega
      · rintro i z H5 H6 zs Nx Ex hi s5 ⟨_, rfl⟩ ⟨rfl, ez⟩ k1 k2
        have hi : i < l.length := hi
        obtain rfl := yfn0 ez
        refine ⟨rfl, ?_⟩
        refine lcY ?_
        obtain ⟨e, x1, y1, g0, gx, gy, ex, ey⟩ := rx.at2 ry hi
        have seqs : ∀ {p : Addr} {ws : List V}, (SqL K H4 p ws ∨ SqT K H4 p ws) → (SqL K H6 p ws ∨ SqT K H6 p ws) := fun h => h.imp (fun z => s5.seq z) (fun z => s5.keeps.sqT z)
        have rd : ∀ {p : Addr} {ws : List V} {w' : V} {R : V → Hp → Prop}, (SqL K H4 p ws ∨ SqT K H4 p ws) → ws[i]? = some w' → R w' H6 → rIx K (.ref p) (.int (i : Nat)) H6 R := fun h hw q => by
          rcases seqs h with h | h
          · exact .inl ⟨_, _, _, _, rfl, rfl, h, atI_nat hw, q⟩
          · exact .inr (.inl ⟨_, _, _, _, rfl, rfl, h, atI_nat hw, q⟩)
        refine ⟨_, rfl, _, rfl, rd qx gx ⟨_, rfl, _, rfl, rd qy gy ?_⟩⟩
        refine ⟨e, x1, y1, rfl, ex.same s5, ey.same s5, Nat.le_trans (Dv.depth_at g0) dl, Dv.wide_at wl2 g0, fun H7 s7 => k1 _ _ s7 ⟨hi, ?_⟩⟩
        rw [List.replicate_succ']
      · rintro H5 zs s5 h5 ⟨_, rfl⟩
        refine ⟨D, _, rfl, .inl (SqL.of (K := K) h5), rfl, flat_trues _, ?_⟩
        have e : (if true = true then !inV (.bl false) (List.replicate l.length (V.bl true)) else inV (.bl false) (List.replicate l.length (V.bl true))) = true := by
          show (!inV (.bl false) (List.replicate l.length (V.bl true))) = true
          rw [inV_trues]; rfl
        have := q H5 (s04.trans s5)
        rw [← e] at this
        exact this
    · obtain ⟨f1, f2⟩ := flat (Bool.eq_false_iff.mpr c)
      refine ⟨_, rfl, _, rfl, f1, ?_⟩
      have := q H4 s04
      rw [← f2] at this
      exact this
end
section
variable {K : PySem.W.Frag} {H : Hp}
def Dv.ints (l : List Nat) : List Dv := l.map fun i => Dv.int (i : Nat)
theorem lda_ints : ∀ l : List Nat, LdA K H (Dv.ints l) (natV l)
  | [] => rfl
  | i :: l => ⟨_, _, rfl, rfl, lda_ints l⟩
theorem Dv.ints_depth : ∀ l : List Nat, Dv.depthA (Dv.ints l) ≤ 1
  | [] => by simp [Dv.ints, Dv.depthA]
  | i :: l => by
    have := Dv.ints_depth l
    unfold Dv.ints at this
    simp [Dv.ints, Dv.depthA, Dv.depth]
    omega
theorem Dv.ints_wide : ∀ l : List Nat, Dv.wideA (Dv.ints l)
  | [] => by simp [Dv.ints, Dv.wideA]
  | i :: l => by
    have := Dv.ints_wide l
    unfold Dv.ints at this
    simp [Dv.ints, Dv.wideA, Dv.wide]
    simpa using this
def Dv.strs (l : List Str) : List Dv := l.map Dv.str
theorem lda_strs : ∀ l : List Str, LdA K H (Dv.strs l) (l.map V.str)
  | [] => rfl
  | i :: l => ⟨_, _, rfl, rfl, lda_strs l⟩
end
section
variable {P : Program} {w W_ : World} {K : PySem.W.Frag} {mg : Str → Option Value} {base : Heap}
def sp_first (K : PySem.W.Frag) : Sp := fun vs H Q _ => ∃ (p : Addr) (n m : Nat) (f : Nat → Nat), vs = [.ref p, .int (m : Nat)] ∧ NdT K H p ∧ SqT K H p ((List.range n).map fun i => V.int (f i : Nat)) ∧ n ≤ 1000 ∧ ∀ H', Same H H' → Q (optV (first n fun k => f k == m)) H'
theorem ok_first (T : Tx K mg W_) : FnOk P w K mg base CX0 1 T.a_first_place T.d_first_place ["sets", "wanted"] (sp_first K) := by
  refine T.F_first_place.ok sc_first_place (fun vs H Q E h => ?_) (fun cdv A outer s H vs Q E hr h => ?_)
  · obtain ⟨p, n, m, f, rfl, _⟩ := h
    rfl
  obtain ⟨p, n, m, f, rfl, hn, hs, hz, q⟩ := h
  refine ⟨_, pss_one (ps_ret (pe_ifExp (pt_cmpR op_in_seq (pv 1) (pv 0) (by rfl)) (pe_tbm PySem.F.plainAttrs_tuple PySem.F.slot_tuple_index PySem.F.type_tuple_index mt_tindexF (pv 0) (pa_cons (pv 1) pa_nil)) pe_non)), ?_⟩
  refine ⟨_, rfl, _, rfl, p, _, rfl, .inr hs, rfl, flat_ints _ _, _, rfl, ?_⟩
  have e : (if false = true then !inV (.int (m : Nat)) ((List.range n).map fun i => V.int (f i : Nat)) else inV (.int (m : Nat)) ((List.range n).map fun i => V.int (f i : Nat))) = (first n fun k => f k == m).isSome := inV_map m n f
  rw [e]
  cases e2 : first n fun k => f k == m with
  | none => exact iteF (by have := q H (Same.refl _); rw [e2] at this; exact this)
  | some k =>
    obtain ⟨h1, h2, h3⟩ := first_some e2
    refine iteT ⟨_, rfl, p, _, rfl, hn, hs, _, rfl, p, _, _, k, _, rfl, rfl, hs, rfl, flat_ints _ _, at_map h1, (by rw [eqV_nat]; exact h2), fun j z hj hz => ?_, ?_⟩
    · obtain ⟨_, rfl⟩ := at_map' hz
      rw [eqV_nat]; exact h3 j hj
    · have := q H (Same.refl _)
      rw [e2] at this; exact this
end
section
variable {P : Program} {w W_ : World} {K : PySem.W.Frag} {mg : Str → Option Value} {base : Heap}
def sp_within (K : PySem.W.Frag) (mm : List (Str × Addr)) : Sp := fun vs H Q _ => ∃ (p : Addr) (L : Lt) (a b : Nat), vs = [.ref p, .int (a : Nat), .int (b : Nat)] ∧ IsLat K mm H p L ∧ a < L.n ∧ b < L.n ∧ ∀ H', Same H H' → Q (.bl (L.le a b)) H'
theorem ok_within (T : Tx K mg W_) : FnOk P w K mg base CX0 1 T.a_Lattice_within_at T.d_Lattice_within_at ["self", "first", "second"] (sp_within K T.mm) := by
  refine T.F_Lattice_within_at.ok sc_Lattice_within_at (fun vs H Q E h => ?_) (fun cdv A outer s H vs Q E hr h => ?_)
  · obtain ⟨p, L, a, b, rfl, _⟩ := h
    rfl
  obtain ⟨p, L, a, b, rfl, ⟨C, dx, fs, tn, td, tu, A⟩, ha, hb, q⟩ := h
  refine ⟨_, pss_one (ps_ret (pe_cmpR op_eq (pe_op op_and (pe_op op_shr (pe_ix ix_tup (pe_fld (pv 0) rfl) (pv 2) (fun _ _ => rfl)) (pv 1)) pe_int) pe_int (nomark _))), ?_⟩
  refine ⟨_, rfl, p, C, dx, fs, _, rfl, A.at_, A.c.cl, A.c.na _ (by decide), A.downs, _, rfl, td, _, _, _, rfl, rfl, A.td.2, atI_nat (at_map hb), _, rfl, _, _, rfl, rfl, Int.natCast_nonneg _, _, _, rfl, rfl, rfl, ?_⟩
  have e : decide (V.int (Builtin.bitAnd ((L.down b : Int) / 2 ^ ((a : Int)).toNat) 1) = V.int 1) = L.le a b := by
    rw [dec_int, Int.toNat_natCast, bit_is]
    show (mask L.n fun i => L.le i b).testBit a = _
    rw [mask_bit, decide_eq_true ha, Bool.true_and]
  have := q H (Same.refl _)
  rw [← e] at this
  exact this
end
section
variable {P : Program} {w W_ : World} {K : PySem.W.Frag} {mg : Str → Option Value} {base : Heap}
def sp_join (K : PySem.W.Frag) (mm : List (Str × Addr)) : Sp := fun vs H Q _ => ∃ (p : Addr) (L : Lt) (a b : Nat), vs = [.ref p, .int (a : Nat), .int (b : Nat)] ∧ IsLat K mm H p L ∧ L.n ≤ 1000 ∧ a < L.n ∧ b < L.n ∧ ∀ H', Same H H' → Q (optV (L.join a b)) H'
theorem ok_join (T : Tx K mg W_) : FnOk P w K mg base CX0 2 T.a_Lattice_join_at T.d_Lattice_join_at ["self", "first", "second"] (sp_join K T.mm) := by
  have G_first_place := ok_first (P := P) (w := w) (base := base) T
  refine T.F_Lattice_join_at.ok sc_Lattice_join_at (fun vs H Q E h => ?_) (fun cdv A outer s H vs Q E hr h => ?_)
  · obtain ⟨p, L, a, b, rfl, _⟩ := h
    rfl
  obtain ⟨p, L, a, b, rfl, ⟨C, dx, fs, tn, td, tu, A⟩, hn, ha, hb, q⟩ := h
  refine ⟨_, pss_one (ps_ret (pe_call G_first_place (hr.mono (by omega)) (by rfl) T.g_first_place T.F_first_place.kp T.b_first_place .nil pass0 (pa_cons (pe_fld (pv 0) rfl) (pa_cons (pe_op op_and (pe_ix ix_tup (pe_fld (pv 0) rfl) (pv 1) (fun _ _ => rfl)) (pe_ix ix_tup (pe_fld (pv 0) rfl) (pv 2) (fun _ _ => rfl))) pa_nil)))), ?_⟩
  refine ⟨_, rfl, p, C, dx, fs, _, rfl, A.at_, A.c.cl, A.c.na _ (by decide), A.ups, ?_⟩
  refine ⟨_, rfl, p, C, dx, fs, _, rfl, A.at_, A.c.cl, A.c.na _ (by decide), A.ups, _, rfl, tu, _, _, _, rfl, rfl, A.tu.2, atI_nat (at_map ha), ?_⟩
  refine ⟨_, rfl, p, C, dx, fs, _, rfl, A.at_, A.c.cl, A.c.na _ (by decide), A.ups, _, rfl, tu, _, _, _, rfl, rfl, A.tu.2, atI_nat (at_map hb), _, _, rfl, rfl, ?_⟩
  exact ⟨tu, L.n, L.up a &&& L.up b, L.up, (by rw [← and_int_nat]; rfl), A.tu.1, A.tu.2, hn, q⟩
end
section
variable {P : Program} {w W_ : World} {K : PySem.W.Frag} {mg : Str → Option Value} {base : Heap}
def sp_meet (K : PySem.W.Frag) (mm : List (Str × Addr)) : Sp := fun vs H Q _ => ∃ (p : Addr) (L : Lt) (a b : Nat), vs = [.ref p, .int (a : Nat), .int (b : Nat)] ∧ IsLat K mm H p L ∧ L.n ≤ 1000 ∧ a < L.n ∧ b < L.n ∧ ∀ H', Same H H' → Q (optV (L.meet a b)) H'
theorem ok_meet (T : Tx K mg W_) : FnOk P w K mg base CX0 2 T.a_Lattice_meet_at T.d_Lattice_meet_at ["self", "first", "second"] (sp_meet K T.mm) := by
  have G_first_place := ok_first (P := P) (w := w) (base := base) T
  refine T.F_Lattice_meet_at.ok sc_Lattice_meet_at (fun vs H Q E h => ?_) (fun cdv A outer s H vs Q E hr h => ?_)
  · obtain ⟨p, L, a, b, rfl, _⟩ := h
    rfl
  obtain ⟨p, L, a, b, rfl, ⟨C, dx, fs, tn, td, tu, A⟩, hn, ha, hb, q⟩ := h
  refine ⟨_, pss_one (ps_ret (pe_call G_first_place (hr.mono (by omega)) (by rfl) T.g_first_place T.F_first_place.kp T.b_first_place .nil pass0 (pa_cons (pe_fld (pv 0) rfl) (pa_cons (pe_op op_and (pe_ix ix_tup (pe_fld (pv 0) rfl) (pv 1) (fun _ _ => rfl)) (pe_ix ix_tup (pe_fld (pv 0) rfl) (pv 2) (fun _ _ => rfl))) pa_nil)))), ?_⟩
  refine ⟨_, rfl, p, C, dx, fs, _, rfl, A.at_, A.c.cl, A.c.na _ (by decide), A.downs, ?_⟩
  refine ⟨_, rfl, p, C, dx, fs, _, rfl, A.at_, A.c.cl, A.c.na _ (by decide), A.downs, _, rfl, td, _, _, _, rfl, rfl, A.td.2, atI_nat (at_map ha), ?_⟩
  refine ⟨_, rfl, p, C, dx, fs, _, rfl, A.at_, A.c.cl, A.c.na _ (by decide), A.downs, _, rfl, td, _, _, _, rfl, rfl, A.td.2, atI_nat (at_map hb), _, _, rfl, rfl, ?_⟩
  exact ⟨td, L.n, L.down a &&& L.down b, L.down, (by rw [← and_int_nat]; rfl), A.td.1, A.td.2, hn, q⟩
end
section
variable {P : Program} {w W_ : World} {K : PySem.W.Frag} {mg : Str → Option Value} {base : Heap}
def sp_name_at (K : PySem.W.Frag) (mm : List (Str × Addr)) : Sp := fun vs H Q _ => ∃ (p : Addr) (L : Lt) (a : Nat) (x : Str), vs = [.ref p, .int (a : Nat)] ∧ IsLat K mm H p L ∧ L.names[a]? = some x ∧ ∀ H', Same H H' → Q (.str x) H'
theorem ok_name_at (T : Tx K mg W_) : FnOk P w K mg base CX0 1 T.a_Lattice_name_at T.d_Lattice_name_at ["self", "place"] (sp_name_at K T.mm) := by
  refine T.F_Lattice_name_at.ok sc_Lattice_name_at (fun vs H Q E h => ?_) (fun cdv A outer s H vs Q E hr h => ?_)
  · obtain ⟨p, L, a, x, rfl, _⟩ := h
    rfl
  obtain ⟨p, L, a, x, rfl, ⟨C, dx, fs, tn, td, tu, A⟩, hx, q⟩ := h
  refine ⟨_, pss_one (ps_ret (pe_ix ix_tup (pe_fld (pv 0) rfl) (pv 1) (fun _ _ => rfl))), ?_⟩
  exact ⟨_, rfl, p, C, dx, fs, _, rfl, A.at_, A.c.cl, A.c.na _ (by decide), A.names, _, rfl, tn, _, _, _, rfl, rfl, A.tn.2, atI_nat (by rw [List.getElem?_map, hx]; rfl), q H (Same.refl _)⟩
end
section
variable {P : Program} {w W_ : World} {K : PySem.W.Frag} {mg : Str → Option Value} {base : Heap}
theorem eqV_str (a b : Str) : eqV (.str a) (.str b) = (a == b) := rfl
/-- at_name of a name that is there -/
def sp_at_name (K : PySem.W.Frag) (mm : List (Str × Addr)) : Sp := fun vs H Q _ => ∃ (p : Addr) (L : Lt) (a : Nat) (x : Str), vs = [.ref p, .str x] ∧ IsLat K mm H p L ∧ L.names.Nodup ∧ L.names[a]? = some x ∧ ∀ H', Same H H' → Q (.int (a : Nat)) H'
theorem nodup_at {α : Type} {l : List α} (nd : l.Nodup) {i j : Nat} {x : α} (h1 : l[i]? = some x) (h2 : l[j]? = some x) : i = j := by
  obtain ⟨l1, e1⟩ := List.getElem?_eq_some_iff.mp h1
  obtain ⟨l2, e2⟩ := List.getElem?_eq_some_iff.mp h2
  rcases Nat.lt_trichotomy i j with c | c | c
  · exact absurd (e1.trans e2.symm) (List.pairwise_iff_getElem.mp nd i j l1 l2 c)
  · exact c
  · exact absurd (e2.trans e1.symm) (List.pairwise_iff_getElem.mp nd j i l2 l1 c)
theorem ok_at_name (T : Tx K mg W_) : FnOk P w K mg base CX0 1 T.a_Lattice_at_name T.d_Lattice_at_name ["self", "name"] (sp_at_name K T.mm) := by
  refine T.F_Lattice_at_name.ok sc_Lattice_at_name (fun vs H Q E h => ?_) (fun cdv A outer s H vs Q E hr h => ?_)
  · obtain ⟨p, L, a, x, rfl, _⟩ := h
    rfl
  obtain ⟨p, L, a, x, rfl, ⟨C, dx, fs, tn, td, tu, A⟩, nd, hx, q⟩ := h
  refine ⟨_, pss_cons (ps_if (pt_cmpR op_notIn_seq (pv 1) (pe_fld (pv 0) rfl) (by rfl)) (pss_one ps_dead) pss_nil)
    (pss_one (ps_ret (pe_tbm PySem.F.plainAttrs_tuple PySem.F.slot_tuple_index PySem.F.type_tuple_index mt_tindexF (pe_fld (pv 0) rfl) (pa_cons (pv 1) pa_nil)))), ?_⟩
  refine ⟨_, rfl, _, rfl, p, C, dx, fs, _, rfl, A.at_, A.c.cl, A.c.na _ (by decide), A.names, tn, _, rfl, .inr A.tn.2, rfl, flat_strs _, _, rfl, ?_⟩
  have e : (if true = true then !inV (.str x) (L.names.map V.str) else inV (.str x) (L.names.map V.str)) = false := by
    show (!inV (.str x) (L.names.map V.str)) = false
    rw [inV_strs, decide_eq_true (List.mem_of_getElem? hx)]; rfl
  rw [e]
  refine iteF ?_
  refine ⟨_, rfl, p, C, dx, fs, _, rfl, A.at_, A.c.cl, A.c.na _ (by decide), A.names, tn, _, rfl, A.tn.1, A.tn.2, _, rfl, tn, _, _, a, _, rfl, rfl, A.tn.2, rfl, flat_strs _, (by rw [List.getElem?_map, hx]; rfl), (by rw [eqV_str]; exact beq_self_eq_true x), fun j z hj hz => ?_, q H (Same.refl _)⟩
  rw [List.getElem?_map] at hz
  obtain ⟨y, hy, rfl⟩ := Option.map_eq_some_iff.mp hz
  rw [eqV_str]
  exact beq_eq_false_iff_ne.mpr fun z => by
    subst z
    have := nodup_at nd hy hx
    omega
end
section
variable {P : Program} {w W_ : World} {K : PySem.W.Frag} {mg : Str → Option Value} {base : Heap}
def sp_irr (K : PySem.W.Frag) (mm : List (Str × Addr)) : Sp := fun vs H Q _ => ∃ (p : Addr) (L : Lt), vs = [.ref p] ∧ IsLat K mm H p L ∧ L.n ≤ 1000 ∧ ∀ l H', Same H H' → H l = none → H' l = some (.lst (natV L.irrs)) → Q (.ref l) H'
theorem ok_irr (T : Tx K mg W_) : FnOk P w K mg base CX0 1 T.a_Lattice_irreducibles T.d_Lattice_irreducibles ["self"] (sp_irr K T.mm) := by
  refine T.F_Lattice_irreducibles.ok sc_Lattice_irreducibles (fun vs H Q E h => ?_) (fun cdv A outer s H vs Q E hr h => ?_)
  · obtain ⟨p, L, rfl, _⟩ := h
    rfl
  obtain ⟨p, L, rfl, ⟨C, dx, fs, tn, td, tu, A⟩, hn, q⟩ := h
  refine ⟨_, pss_one (ps_ret (pe_lc (own := [("place", 1)]) (g := gName 1) rfl sc_Lattice_irreducibles.nd (pi_range1 (by rfl) T.n_range (pa_cons (pe_fld (pv 0) rfl) pa_nil)) (blkOk_by (N := N_Lattice_irreducibles) (sc := defScope St_Lattice_irreducibles) (by decide +kernel)) (fun _ _ _ _ _ => (pg_name (i := 1) sc_Lattice_irreducibles.nd rfl (Or.inl rfl))) (fun _ _ _ _ _ => (pts_one (pt_cmpR (kx_op_in_seq K) (pe_op op_and (pe_ix (kx_ix_tup K) (kx_pe_fld K (pe_fld (pv 0) rfl)) (pv 1) (fun _ _ => rfl)) (pe_un un_inv (pe_op op_shl pe_int (pv 1)))) (kx_pe_fld K (pe_fld (pv 0) rfl)) (by rfl)))) (fun _ _ _ _ _ => (pv 1)))), ?_⟩
  refine ⟨_, rfl, p, C, dx, fs, _, rfl, A.at_, A.c.cl, A.c.na _ (by decide), A.size, _, rfl, by omega, by omega, fun D hD => ?_⟩
  refine lc_fold walk_range hD (fun i _ ys => i ≤ L.n ∧ ys = natV ((List.range i).filter L.irr)) (fun _ => ⟨Nat.zero_le _, rfl⟩) (fun i _ _ xs _ h => h) ?_ (fun _ _ => trivial) ?_ ?_
  · rintro i _ ys ⟨hi, rfl⟩
    rw [natV_length]
    have := filter_le L.irr i
    omega
  · rintro i x H2 H3 ys Nx Ex hi s2 ⟨_, rfl⟩ ⟨rfl, ex⟩ k1 k2
    have hi : i < L.n := hi
    obtain rfl := yfn0 ex
    have A2 := A.same s2
    refine ⟨rfl, ?_⟩
    refine ⟨_, rfl, p, C, dx, fs, _, rfl, A2.at_, A.c.cl, A.c.na _ (by decide), A.downs, _, rfl, td, _, _, _, rfl, rfl, A2.td.2, atI_nat (at_map hi), ?_⟩
    refine ⟨_, rfl, _, _, rfl, rfl, ⟨Int.natCast_nonneg _, by omega, by decide⟩, _, rfl, _, _, rfl, rfl, ?_⟩
    refine ⟨_, rfl, p, C, dx, fs, _, rfl, A2.at_, A.c.cl, A.c.na _ (by decide), A.downs, td, _, rfl, .inr A2.td.2, rfl, flat_ints _ _, _, rfl, ?_⟩
    have e : (if false = true then !inV (V.int (Builtin.bitAnd (L.down i : Int) (Builtin.bitNot (1 * 2 ^ ((i : Int)).toNat)))) (downsV L) else inV (V.int (Builtin.bitAnd (L.down i : Int) (Builtin.bitNot (1 * 2 ^ ((i : Int)).toNat)))) (downsV L)) = L.irr i := by
      show inV (V.int (Builtin.bitAnd (L.down i : Int) (Builtin.bitNot (1 * 2 ^ ((i : Int)).toNat)))) (downsV L) = L.irr i
      rw [one_shl, ← mask_one hi]
      show inV (V.int (Builtin.bitAnd (mask L.n (fun a => L.le a i) : Int) (Builtin.bitNot (mask L.n (fun j => j == i) : Int)))) (downsV L) = L.irr i
      rw [andnot_int]
      show inV _ ((List.range L.n).map fun b => V.int (L.down b : Nat)) = _
      rw [inV_map]
      exact (any_first _ _).symm
    rw [e]
    refine ite2 (fun c => ?_) (fun c => ?_)
    · refine ⟨_, rfl, k1 _ _ (Same.refl _) ⟨hi, ?_⟩⟩
      rw [filter_snoc, if_pos c, natV_append]
      rfl
    · refine k2 _ (Same.refl _) ⟨hi, ?_⟩
      rw [filter_snoc, if_neg c, List.append_nil]
  · rintro H2 ys s2 h2 ⟨_, rfl⟩
    exact q D H2 s2 hD h2
end
section
variable {P : Program} {w W_ : World} {K : PySem.W.Frag} {mg : Str → Option Value} {base : Heap}
/-- parts_among(numbers, number): which of the numbers lie within one -/
def sp_parts (K : PySem.W.Frag) : Sp := fun vs H Q _ => ∃ (a : Addr) (n g : Nat) (f : Nat → Nat), vs = [.ref a, .int (g : Nat)] ∧ SqL K H a ((List.range n).map fun i => V.int (f i : Nat)) ∧ n ≤ 1000 ∧
  ∀ H', Same H H' → Q (.int (mask n fun i => part (f i) g : Nat)) H'
theorem ok_parts (T : Tx K mg W_) : FnOk P w K mg base CX0 1 T.a_parts_among T.d_parts_among ["numbers", "number"] (sp_parts K) := by
  refine T.F_parts_among.ok sc_parts_among (fun vs H Q E h => ?_) (fun cdv A outer s H vs Q E hr h => ?_)
  · obtain ⟨a, n, g, f, rfl, _⟩ := h
    rfl
  obtain ⟨a, n, g, f, rfl, hs, hn, q⟩ := h
  refine ⟨_, pss_one (ps_ret (pe_callB (cr_sum rfl) (by rfl) T.n_sum (by decide +kernel) (pa_cons (pe_lc (own := [("place", 2), ("other", 3)]) (g := gTup K 2 (gCons (gName 2) (gCons (gName 3) gNil))) rfl sc_parts_among.nd (pi_enum (by rfl) T.n_enumerate (pa_cons (pv 0) pa_nil)) (blkOk_by (N := N_parts_among) (sc := defScope St_parts_among) (by decide +kernel)) (fun _ _ _ _ _ => (pg_tup rfl (pgs_cons (pg_name (i := 2) sc_parts_among.nd rfl (Or.inl rfl)) (pgs_cons (pg_name (i := 3) sc_parts_among.nd rfl (Or.inl rfl)) pgs_nil)))) (fun _ _ _ _ _ => (pts_one (pt_cmpR op_eq (pe_op op_and (pv 3) (pe_un un_inv (pv 1))) pe_int (nomark _)))) (fun _ _ _ _ _ => (pe_op op_shl pe_int (pv 2)))) pa_nil))), ?_⟩
  refine ⟨_, rfl, a, _, rfl, hs, fun D hD => ?_⟩
  refine lc_fold walk_enum hD (fun i _ ys => i ≤ n ∧ ys = (((List.range i).filter fun i => part (f i) g).map fun i => ((2 ^ i : Nat) : Int)).map V.int) (fun _ => ⟨Nat.zero_le _, rfl⟩) (fun i _ _ xs _ h => h) ?_ (fun H2 s2 => (s2.seq hs)) ?_ ?_
  · rintro i _ ys ⟨hi, rfl⟩
    rw [List.length_map, List.length_map]
    have := filter_le (fun i => part (f i) g) i
    omega
  · rintro i x H2 H3 ys Nx Ex hi s2 ⟨_, rfl⟩ ⟨t, x1, x2, rfl, ht, rfl, e1, e2⟩ k1 k2
    cases e1
    obtain ⟨hi, rfl⟩ := at_map' e2
    have s3 : Same H2 (upd H2 t (.tup [.int (i : Nat), .int (f i : Nat)])) := Same.new ht _
    have h3 : upd H2 t (.tup [.int (i : Nat), .int (f i : Nat)]) t = some (.tup [.int (i : Nat), .int (f i : Nat)]) := upd_same
    generalize upd H2 t (.tup [.int (i : Nat), .int (f i : Nat)]) = H3 at s3 h3 ⊢
    refine ⟨t, _, rfl, SqT.of (K := K) h3, rfl, _, _, rfl, _, _, rfl, ⟨rfl, rfl, ?_⟩⟩
    refine ⟨_, rfl, _, rfl, _, rfl, _, _, rfl, rfl, rfl, _, rfl, ?_⟩
    rw [part_is]
    refine ite2 (fun c => ?_) (fun c => ?_)
    · refine ⟨_, rfl, _, _, rfl, rfl, ⟨Int.natCast_nonneg _, by omega, by decide⟩, k1 _ _ s3 ⟨hi, ?_⟩⟩
      rw [filter_snoc, if_pos c, List.map_append, List.map_append]
      show _ ++ [V.int (1 * 2 ^ ((i : Int)).toNat)] = _
      rw [one_shl]
      rfl
    · refine k2 _ s3 ⟨hi, ?_⟩
      rw [filter_snoc, if_neg c, List.append_nil]
  · rintro H2 ys s2 h2 ⟨_, rfl⟩
    rw [List.length_map, List.length_range] at h2
    refine ⟨D, _, rfl, SqL.of (K := K) h2, ?_⟩
    rw [sum_mask]
    exact q H2 s2
end
section
variable {P : Program} {w W_ : World} {K : PySem.W.Frag} {mg : Str → Option Value} {base : Heap}
local macro_rules | `(tactic| walk_at "lk") => `(tactic| (simp only [lookup_putF]; repeat (first | rw [if_pos rfl] | rw [if_neg (by decide)])))
/-- what stands at b but for p and its changes -/
theorem upd_at {H : Hp} {p b : Addr} {o u : HO} (n : b ≠ p) (h : H b = some u) : upd H p o b = some u := by rw [upd_ne n]; exact h
theorem put_len (f : Str) (v : V) (fs : List (Str × V)) : (putF f v fs).length ≤ fs.length + 1 := by have := length_putF f v fs; omega
def sp_lat_init (K : PySem.W.Frag) (mm : List (Str × Addr)) : Sp := fun vs H Q _ => ∃ (p na da C dx : Addr) (fs0 : List (Str × V)) (L : Lt), vs = [.ref p, .str L.label, .ref na, .ref da, .int (L.depth : Nat)] ∧ H p = some (.ins C dx fs0) ∧ LatC K mm C ∧ fs0.length ≤ 10 ∧
  (∀ q ∈ mm, fs0.lookup q.1 = none) ∧ na ≠ p ∧ SqL K H na (L.names.map V.str) ∧ ((da ≠ p ∧ SqL K H da (downsV L)) ∨ (NdT K H da ∧ SqT K H da (downsV L))) ∧ L.n ≤ 64 ∧
  ∀ H' fs tn td tu, But p H H' → LatAt K mm H' p L C dx fs tn td tu → (∀ f, f ∉ latAttrs → fs.lookup f = fs0.lookup f) → Q .non H'
theorem ok_lat_init (T : Tx K mg W_) : FnOk P w K mg base CX0 2 T.a_Lattice_init T.d_Lattice_init ["self", "label", "names", "downs", "depth"] (sp_lat_init K T.mm) := by
  have G_first_place := ok_first (P := P) (w := w) (base := base) T
  refine T.F_Lattice_init.ok sc_Lattice_init (fun vs H Q E h => ?_) (fun cdv A outer s H vs Q E hr h => ?_)
  · obtain ⟨p, na, da, C, dx, fs0, L, rfl, _⟩ := h
    rfl
  obtain ⟨p, na, da, C, dx, fs0, L, rfl, hp, lc, z0, no, nna, hna, hda, hn, q⟩ := h
  refine ⟨_, pss_cons (ps_set (i := 5) sc_Lattice_init.nd rfl (Or.inr rfl) (pe_listRg rfl (by rfl) T.n_list (prg_1 (by rfl) T.n_range (pe_callB call_len_seq (by rfl) T.n_len (by decide +kernel) (pa_cons (pv 2) pa_nil)))))
    (pss_cons (ps_fld (pv 0) (pv 1) rfl)
    (pss_cons (ps_fld (pv 0) (pe_callB call_len_seq (by rfl) T.n_len (by decide +kernel) (pa_cons (pv 2) pa_nil)) rfl)
    (pss_cons (ps_fld (pv 0) (pv 4) rfl)
    (pss_cons (ps_fld (pv 0) (pe_callTy call_tupleN (by rfl) T.n_tuple (by decide +kernel) (pa_cons (pv 2) pa_nil)) rfl)
    (pss_cons (ps_fld (pv 0) (pe_callTy call_tupleN (by rfl) T.n_tuple (by decide +kernel) (pa_cons (pv 3) pa_nil)) rfl)
    (pss_cons (ps_fld (pv 0) (pe_callTy call_tupleN (by rfl) T.n_tuple (by decide +kernel) (pa_cons (pe_lc (own := [("a", 7)]) (g := gName 7) (tt := tYes) rfl sc_Lattice_init.nd (pi_list (pv 5)) (blkOk_by (N := N_Lattice_init) (sc := defScope St_Lattice_init) (by decide +kernel)) (fun _ _ _ _ _ => (pg_name (i := 7) sc_Lattice_init.nd rfl (Or.inr rfl))) (fun _ _ _ _ _ => pts_nil) (fun _ _ _ _ _ => (pe_callB (kx_cr_sum K) (by rfl) T.n_sum (by decide +kernel) (pa_cons (pe_lc (own := [("b", 6)]) (g := gName 6) rfl sc_Lattice_init.nd (kx_pi_list K (pi_list (pv 5))) (blkOk_by (N := N_Lattice_init) (by first | rfl | kernel_rfl)) (fun _ _ _ _ _ => (pg_name (i := 6) sc_Lattice_init.nd rfl (Or.inl rfl))) (fun _ _ _ _ _ => (pts_one (pt_cmpR op_eq (pe_op op_and (pe_op op_shr (pe_ix (kx_ix_seq K) (pv 3) (pv 6) (fun _ _ => rfl)) (pv 7)) pe_int) pe_int (nomark _)))) (fun _ _ _ _ _ => (pe_op op_shl pe_int (pv 6)))) pa_nil)))) pa_nil)) rfl)
    (pss_cons (ps_set (i := 8) sc_Lattice_init.nd rfl (Or.inl rfl) (pe_op op_sub (pe_op op_shl pe_int (pe_callB call_len_seq (by rfl) T.n_len (by decide +kernel) (pa_cons (pv 2) pa_nil))) pe_int))
    (pss_cons (ps_fld (pv 0) (pe_call G_first_place (hr.mono (by omega)) (by rfl) T.g_first_place T.F_first_place.kp T.b_first_place .nil pass0 (pa_cons (pe_fld (pv 0) rfl) (pa_cons (pv 8) pa_nil))) rfl)
    (pss_one (ps_fld (pv 0) (pe_call G_first_place (hr.mono (by omega)) (by rfl) T.g_first_place T.F_first_place.kp T.b_first_place .nil pass0 (pa_cons (pe_fld (pv 0) rfl) (pa_cons (pv 8) pa_nil))) rfl)))))))))), ?_⟩
  have en : ((L.names.map V.str).length : Nat) = L.n := List.length_map _
  refine ⟨_, rfl, na, _, rfl, .inl hna, _, rfl, ?_⟩
  rw [en]
  refine ⟨RgOk.of_le (by decide) (by omega) (by decide) (by omega), newQ (.lst (rgV 0 (L.n : Nat))) fun pl hpl s1 h1 => ?_⟩
  rw [rg_nat] at s1 h1
  rw [rg_nat]
  generalize upd H pl (.lst (natV (List.range L.n))) = H1 at s1 h1 ⊢
  -- label
  have p1 := s1 _ _ hp
  have na1 : SqL K H1 na _ := s1.seq hna
  have da1 : (da ≠ p ∧ SqL K H1 da (downsV L)) ∨ (NdT K H1 da ∧ SqT K H1 da (downsV L)) := hda.imp (fun x => ⟨x.1, s1.seq x.2⟩) (fun x => ⟨x.1.keep s1.keeps, s1.keeps.sqT x.2⟩)
  have b1 : But p H H1 := s1.but p
  have npl : pl ≠ p := ne_of h1 p1 (by intro z; cases z)
  refine ⟨_, rfl, _, rfl, p, C, dx, _, rfl, p1, lc.cl, lc.na _ (by decide), by omega, ?_⟩
  have b2 := b1.upd (.ins C dx (putF "label" (.str L.label) fs0))
  have p2 : upd H1 p (.ins C dx (putF "label" (.str L.label) fs0)) p = _ := upd_same
  have c2 : But p H1 (upd H1 p (.ins C dx (putF "label" (.str L.label) fs0))) := (But.refl p H1).upd _
  generalize upd H1 p (.ins C dx (putF "label" (.str L.label) fs0)) = H2 at b2 p2 c2 ⊢
  have na2 : SqL K H2 na _ := c2.seq nna na1
  have k2 := c2.keeps p1 trivial
  have da2 : (da ≠ p ∧ SqL K H2 da (downsV L)) ∨ (NdT K H2 da ∧ SqT K H2 da (downsV L)) := da1.imp (fun x => ⟨x.1, c2.seq x.1 x.2⟩) (fun x => ⟨x.1.keep k2, k2.sqT x.2⟩)
  have h2 := c2 _ _ npl h1
  -- size
  have z1 := put_len "label" (.str L.label) fs0
  generalize hf1 : putF "label" (.str L.label) fs0 = fs1 at p2 z1
  refine ⟨_, rfl, na, _, rfl, .inl na2, _, rfl, p, C, dx, _, rfl, p2, lc.cl, lc.na _ (by decide), by omega, ?_⟩
  rw [en]
  have b3 := b2.upd (.ins C dx (putF "size" (.int (L.n : Nat)) fs1))
  have p3 : upd H2 p (.ins C dx (putF "size" (.int (L.n : Nat)) fs1)) p = _ := upd_same
  have c3 : But p H2 (upd H2 p (.ins C dx (putF "size" (.int (L.n : Nat)) fs1))) := (But.refl p H2).upd _
  generalize upd H2 p (.ins C dx (putF "size" (.int (L.n : Nat)) fs1)) = H3 at b3 p3 c3 ⊢
  have z2 := put_len "size" (.int (L.n : Nat)) fs1
  generalize hf2 : putF "size" (.int (L.n : Nat)) fs1 = fs2 at p3 z2
  -- depth
  refine ⟨_, rfl, _, rfl, p, C, dx, _, rfl, p3, lc.cl, lc.na _ (by decide), by omega, ?_⟩
  have b4 := b3.upd (.ins C dx (putF "depth" (.int (L.depth : Nat)) fs2))
  have p4 : upd H3 p (.ins C dx (putF "depth" (.int (L.depth : Nat)) fs2)) p = _ := upd_same
  have c4 : But p H2 (upd H3 p (.ins C dx (putF "depth" (.int (L.depth : Nat)) fs2))) := c3.upd _
  generalize upd H3 p (.ins C dx (putF "depth" (.int (L.depth : Nat)) fs2)) = H4 at b4 p4 c4 ⊢
  have z3 := put_len "depth" (.int (L.depth : Nat)) fs2
  generalize hf3 : putF "depth" (.int (L.depth : Nat)) fs2 = fs3 at p4 z3
  have k4 := c4.keeps p2 trivial
  have na4 : SqL K H4 na _ := c4.seq nna na2
  have da4 : (da ≠ p ∧ SqL K H4 da (downsV L)) ∨ (NdT K H4 da ∧ SqT K H4 da (downsV L)) := da2.imp (fun x => ⟨x.1, c4.seq x.1 x.2⟩) (fun x => ⟨x.1.keep k4, k4.sqT x.2⟩)
  have h4 := c4 _ _ npl h2
  -- value_names
  refine ⟨_, rfl, na, _, rfl, .inl ⟨na4, fun tn on htn dtn => ?_⟩⟩
  have s5 : Same H4 (upd H4 tn (.frz on (.tup (L.names.map V.str)))) := Same.new htn _
  have t5 : upd H4 tn (.frz on (.tup (L.names.map V.str))) tn = _ := upd_same
  generalize upd H4 tn (.frz on (.tup (L.names.map V.str))) = H5 at s5 t5 ⊢
  have p5 := s5 _ _ p4
  refine ⟨_, rfl, p, C, dx, _, rfl, p5, lc.cl, lc.na _ (by decide), by omega, ?_⟩
  have c6 : But p H5 (upd H5 p (.ins C dx (putF "value_names" (.ref tn) fs3))) := (But.refl p H5).upd _
  have b6 := (b4.trans (s5.but p)).trans c6
  have p6 : upd H5 p (.ins C dx (putF "value_names" (.ref tn) fs3)) p = _ := upd_same
  generalize upd H5 p (.ins C dx (putF "value_names" (.ref tn) fs3)) = H6 at b6 p6 c6 ⊢
  have k6 := c6.keeps p5 trivial
  have z4 := put_len "value_names" (.ref tn) fs3
  generalize hf4 : putF "value_names" (.ref tn) fs3 = fs4 at p6 z4
  have tn6 : NdT K H6 tn ∧ SqT K H6 tn (L.names.map V.str) := ⟨.inl ⟨on, _, k6.frz _ _ _ t5, dtn⟩, .inl (.inr ⟨on, k6.frz _ _ _ t5⟩)⟩
  have da6 : (da ≠ p ∧ SqL K H6 da (downsV L)) ∨ (NdT K H6 da ∧ SqT K H6 da (downsV L)) := da4.imp (fun x => ⟨x.1, c6.seq x.1 (s5.seq x.2)⟩) (fun x => ⟨(x.1.keep s5.keeps).keep k6, k6.sqT (s5.keeps.sqT x.2)⟩)
  have h6 := c6 _ _ npl (s5 _ _ h4)
  have na6 : SqL K H6 na _ := c6.seq nna (s5.seq na4)
  -- downs
  dsimp only
  refine fld_run (fun v H' => ∃ td, v = .ref td ∧ Same H6 H' ∧ NdT K H' td ∧ SqT K H' td (downsV L)) (fun Q' q' => ?_) ?_
  · refine ⟨_, rfl, da, downsV L, rfl, da6.imp (fun x => ⟨x.2, fun td o ht dt => q' _ _ ⟨td, rfl, Same.new ht _, .inl ⟨o, _, upd_same, dt⟩, .inl (.inr ⟨o, upd_same⟩)⟩⟩) (fun x => ⟨x.2, q' _ _ ⟨da, rfl, Same.refl _, x⟩⟩)⟩
  rintro _ H7 ⟨td, rfl, s7, td7⟩
  have p7 := s7 _ _ p6
  refine ⟨_, rfl, p, C, dx, _, rfl, p7, lc.cl, lc.na _ (by decide), by omega, ?_⟩
  have c8 : But p H7 (upd H7 p (.ins C dx (putF "downs" (.ref td) fs4))) := (But.refl p H7).upd _
  have b8 := (b6.trans (s7.but p)).trans c8
  have p8 : upd H7 p (.ins C dx (putF "downs" (.ref td) fs4)) p = _ := upd_same
  generalize upd H7 p (.ins C dx (putF "downs" (.ref td) fs4)) = H8 at b8 p8 c8 ⊢
  have k8 := c8.keeps p7 trivial
  have k68 : Keeps H6 H8 := s7.keeps.trans k8
  have z5 := put_len "downs" (.ref td) fs4
  generalize hf5 : putF "downs" (.ref td) fs4 = fs5 at p8 z5
  have tn8 : NdT K H8 tn ∧ SqT K H8 tn (L.names.map V.str) := ⟨tn6.1.keep k68, k68.sqT tn6.2⟩
  have td8 : NdT K H8 td ∧ SqT K H8 td (downsV L) := ⟨td7.1.keep k8, k8.sqT td7.2⟩
  have da8 : SqL K H8 da (downsV L) ∨ SqT K H8 da (downsV L) := da6.imp (fun x => c8.seq x.1 (s7.seq x.2)) (fun x => k68.sqT x.2)
  have h8 := c8 _ _ npl (s7 _ _ h6)
  have na8 : SqL K H8 na _ := c8.seq nna (s7.seq na6)
  -- ups
  refine ⟨_, rfl, pl, rfl, ⟨_, SqL.of (K := K) h8⟩, fun D hD => ?_⟩
  refine lc_fold (walk_list (K := K) (a := pl) (xs := natV (List.range L.n))) hD (fun i _ ys => i ≤ L.n ∧ ys = (List.range i).map fun a => V.int (L.up a : Nat)) (fun _ => ⟨Nat.zero_le _, rfl⟩) (fun i _ _ xs _ h => h) ?_ (fun H9 s9 => s9.seq (SqL.of (K := K) h8)) ?_ ?_
  · rintro i _ ys ⟨hi, rfl⟩
    rw [List.length_map, List.length_range]; omega
  · rintro i x H9 _ ys Nx Ex hi s9 ⟨_, rfl⟩ ⟨rfl, ex⟩ k1 k2'
    obtain ⟨hi, rfl⟩ := at_map' ex
    refine ⟨rfl, ?_⟩
    refine lcY ?_
    refine ⟨_, rfl, pl, rfl, ⟨_, SqL.of (K := K) (s9 _ _ h8)⟩, fun D2 hD2 => ?_⟩
    refine lc_fold (walk_list (K := K) (a := pl) (xs := natV (List.range L.n))) hD2 (fun j _ ys => j ≤ L.n ∧ ys = (((List.range j).filter fun b => L.le i b).map fun b => ((2 ^ b : Nat) : Int)).map V.int) (fun _ => ⟨Nat.zero_le _, rfl⟩) (fun i _ _ xs _ h => h) ?_ (fun H10 s10 => s10.seq (SqL.of (K := K) (s9 _ _ h8))) ?_ ?_
    · rintro j _ ys ⟨hj, rfl⟩
      rw [List.length_map, List.length_map]
      have := filter_le (fun b => L.le i b) j
      omega
    · rintro j x H10 _ ys Nx2 Ex2 hj s10 ⟨_, rfl⟩ ⟨rfl, ex⟩ k3 k4'
      obtain ⟨hj, rfl⟩ := at_map' ex
      refine ⟨rfl, ?_⟩
      refine ans_run (b := L.le i j) (fun Q' q' => ?_) ?_
      · have e : decide (V.int (Builtin.bitAnd ((L.down j : Int) / 2 ^ ((i : Int)).toNat) 1) = V.int 1) = L.le i j := by
          rw [dec_int, Int.toNat_natCast, bit_is]
          show (mask L.n fun i => L.le i j).testBit i = _
          rw [mask_bit, decide_eq_true hi, Bool.true_and]
        rw [← e] at q'
        refine ⟨_, rfl, _, rfl, ?_⟩
        rcases da8 with d | d
        · exact .inl ⟨da, _, _, _, rfl, rfl, (s9.trans s10).seq d, atI_nat (at_map hj), _, rfl, _, _, rfl, rfl, Int.natCast_nonneg _, _, _, rfl, rfl, rfl, _, rfl, q'⟩
        · exact .inr (.inl ⟨da, _, _, _, rfl, rfl, (s9.trans s10).keeps.sqT d, atI_nat (at_map hj), _, rfl, _, _, rfl, rfl, Int.natCast_nonneg _, _, _, rfl, rfl, rfl, _, rfl, q'⟩)
      · refine ite2 (fun c => ?_) (fun c => ?_)
        · refine ⟨_, rfl, _, _, rfl, rfl, ⟨Int.natCast_nonneg _, by omega, by decide⟩, k3 _ _ (Same.refl _) ⟨hj, ?_⟩⟩
          rw [filter_snoc, if_pos c, List.map_append, List.map_append]
          show _ ++ [V.int (1 * 2 ^ ((j : Int)).toNat)] = _
          rw [one_shl]
          rfl
        · refine k4' _ (Same.refl _) ⟨hj, ?_⟩
          rw [filter_snoc, if_neg c, List.append_nil]
    · rintro H10 ys s10 h10 ⟨_, rfl⟩
      rw [natV_length, List.length_range] at h10
      refine ⟨D2, _, rfl, SqL.of (K := K) h10, ?_⟩
      rw [sum_mask]
      refine k1 _ _ s10 ⟨hi, ?_⟩
      rw [List.range_succ, List.map_append]
      rfl
  rintro H9 ys s9 h9 ⟨_, rfl⟩
  rw [natV_length, List.length_range] at h9
  refine ⟨D, _, rfl, .inl ⟨SqL.of (K := K) h9, fun tu ou htu dtu => ?_⟩⟩
  have s10 : Same H9 (upd H9 tu (.frz ou (.tup (upsV L)))) := Same.new htu _
  have t10 : upd H9 tu (.frz ou (.tup (upsV L))) tu = _ := upd_same
  show (_ : Hp → Prop) (upd H9 tu (.frz ou (.tup (upsV L))))
  generalize upd H9 tu (.frz ou (.tup (upsV L))) = H10 at s10 t10 ⊢
  have p10 := s10 _ _ (s9 _ _ p8)
  refine ⟨_, rfl, p, C, dx, _, rfl, p10, lc.cl, lc.na _ (by decide), by omega, ?_⟩
  have c11 : But p H10 (upd H10 p (.ins C dx (putF "ups" (.ref tu) fs5))) := (But.refl p H10).upd _
  have b11 := (b8.trans ((s9.trans s10).but p)).trans c11
  have p11 : upd H10 p (.ins C dx (putF "ups" (.ref tu) fs5)) p = _ := upd_same
  generalize upd H10 p (.ins C dx (putF "ups" (.ref tu) fs5)) = H11 at b11 p11 c11 ⊢
  have k11 := c11.keeps p10 trivial
  have k811 : Keeps H8 H11 := (s9.trans s10).keeps.trans k11
  have z6 := put_len "ups" (.ref tu) fs5
  generalize hf6 : putF "ups" (.ref tu) fs5 = fs6 at p11 z6
  have tn11 : NdT K H11 tn ∧ SqT K H11 tn (L.names.map V.str) := ⟨tn8.1.keep k811, k811.sqT tn8.2⟩
  have td11 : NdT K H11 td ∧ SqT K H11 td (downsV L) := ⟨td8.1.keep k811, k811.sqT td8.2⟩
  have tu11 : NdT K H11 tu ∧ SqT K H11 tu (upsV L) := ⟨.inl ⟨ou, _, k11.frz _ _ _ t10, dtu⟩, .inl (.inr ⟨ou, k11.frz _ _ _ t10⟩)⟩
  have na11 : SqL K H11 na _ := c11.seq nna (s10.seq (s9.seq na8))
  -- whole
  refine ⟨_, rfl, na, _, rfl, .inl na11, ?_⟩
  rw [en]
  refine ⟨_, _, rfl, rfl, ⟨Int.natCast_nonneg _, by omega, by decide⟩, _, _, rfl, rfl, ?_⟩
  have ew : (1 : Int) * 2 ^ ((L.n : Int)).toNat - 1 = ((2 ^ L.n - 1 : Nat) : Int) := by
    rw [one_shl]
    have : 1 ≤ 2 ^ L.n := Nat.one_le_two_pow
    omega
  -- bottom_at
  refine ⟨_, rfl, p, C, dx, fs6, _, rfl, p11, lc.cl, lc.na _ (by decide), (by rw [← hf6, lookup_putF, if_pos rfl]), _, rfl, tu, L.n, 2 ^ L.n - 1, L.up, (by rw [← ew]; rfl), tu11.1, tu11.2, by omega, fun H12 s12 => ?_⟩
  have p12 := s12 _ _ p11
  refine ⟨_, rfl, p, C, dx, _, rfl, p12, lc.cl, lc.na _ (by decide), by omega, ?_⟩
  have c13 : But p H12 (upd H12 p (.ins C dx (putF "bottom_at" (optV L.bot) fs6))) := (But.refl p H12).upd _
  have b13 := (b11.trans (s12.but p)).trans c13
  have p13 : upd H12 p (.ins C dx (putF "bottom_at" (optV L.bot) fs6)) p = _ := upd_same
  show (_ : Hp → Prop) (upd H12 p (.ins C dx (putF "bottom_at" (optV L.bot) fs6)))
  generalize upd H12 p (.ins C dx (putF "bottom_at" (optV L.bot) fs6)) = H13 at b13 p13 c13 ⊢
  have k13 := c13.keeps p12 trivial
  have k1113 : Keeps H11 H13 := s12.keeps.trans k13
  have z7 := put_len "bottom_at" (optV L.bot) fs6
  generalize hf7 : putF "bottom_at" (optV L.bot) fs6 = fs7 at p13 z7
  -- top_at
  refine ⟨_, rfl, p, C, dx, fs7, _, rfl, p13, lc.cl, lc.na _ (by decide), (by rw [← hf7, lookup_putF, if_neg (by decide), ← hf6, lookup_putF, if_neg (by decide), ← hf5, lookup_putF, if_pos rfl]), _, rfl, td, L.n, 2 ^ L.n - 1, L.down, (by rw [← ew]; rfl), td11.1.keep k1113, k1113.sqT td11.2, by omega, fun H14 s14 => ?_⟩
  have p14 := s14 _ _ p13
  refine ⟨_, rfl, p, C, dx, _, rfl, p14, lc.cl, lc.na _ (by decide), by omega, ?_⟩
  have c15 : But p H14 (upd H14 p (.ins C dx (putF "top_at" (optV L.top) fs7))) := (But.refl p H14).upd _
  have b15 := (b13.trans (s14.but p)).trans c15
  have p15 : upd H14 p (.ins C dx (putF "top_at" (optV L.top) fs7)) p = _ := upd_same
  show (_ : Hp → Prop) (upd H14 p (.ins C dx (putF "top_at" (optV L.top) fs7)))
  generalize upd H14 p (.ins C dx (putF "top_at" (optV L.top) fs7)) = H15 at b15 p15 c15 ⊢
  have k15 : Keeps H11 H15 := (k1113.trans s14.keeps).trans (c15.keeps p14 trivial)
  have look : ∀ f, (putF "top_at" (optV L.top) fs7).lookup f = if f = "top_at" then some (optV L.top) else if f = "bottom_at" then some (optV L.bot) else if f = "ups" then some (.ref tu) else if f = "downs" then some (.ref td) else
      if f = "value_names" then some (.ref tn) else if f = "depth" then some (.int (L.depth : Nat)) else if f = "size" then some (.int (L.n : Nat)) else if f = "label" then some (.str L.label) else fs0.lookup f := fun f => by
    rw [lookup_putF, ← hf7, lookup_putF, ← hf6, lookup_putF, ← hf5, lookup_putF, ← hf4, lookup_putF, ← hf3, lookup_putF, ← hf2, lookup_putF, ← hf1, lookup_putF]
  have other : ∀ f, f ∉ latAttrs → (putF "top_at" (optV L.top) fs7).lookup f = fs0.lookup f := fun f hf => by
    simp only [latAttrs, List.mem_cons, List.not_mem_nil, or_false, not_or] at hf
    obtain ⟨e1, e2, e3, e4, e5, e6, e7, e8⟩ := hf
    rw [look, if_neg e8, if_neg e7, if_neg e6, if_neg e5, if_neg e4, if_neg e3, if_neg e2, if_neg e1]
  refine q H15 _ tn td tu b15 ⟨p15, lc, fun x hx => ?_, ?_, ?_, ?_, ?_, ?_, ?_, ?_, ?_, ⟨tn11.1.keep k15, k15.sqT tn11.2⟩, ⟨td11.1.keep k15, k15.sqT td11.2⟩, ⟨tu11.1.keep k15, k15.sqT tu11.2⟩⟩ other
  · rw [other _ (T.mm_out x hx)]
    exact no x hx
  all_goals (rw [look]; repeat (first | rw [if_pos rfl] | rw [if_neg (by decide)]))
end
section
variable {w W_ : World} {K : PySem.W.Frag} {mg : Str → Option Value} {base : Heap}
def sp_chain (K : PySem.W.Frag) (mm : List (Str × Addr)) (C : Addr) : Sp := fun vs H Q _ => ∃ (p dx : Addr) (n : Nat), vs = [.ref p, .int (n : Nat)] ∧ H p = some (.ins C dx []) ∧ 1 ≤ n ∧ n ≤ 64 ∧
  ∀ H', But p H H' → IsLat K mm H' p (chainL n) → Q .non H'
end
section
variable {w W_ : World} {K : PySem.W.Frag} {mg : Str → Option Value} {base : Heap}
def sp_sets (K : PySem.W.Frag) (mm : List (Str × Addr)) (C : Addr) : Sp := fun vs H Q _ => ∃ (p dx : Addr) (c : Nat), vs = [.ref p, .int (c : Nat)] ∧ H p = some (.ins C dx []) ∧ 1 ≤ c ∧ c ≤ 6 ∧
  ∀ H', But p H H' → IsLat K mm H' p (setsL c) → Q .non H'
end
/-! ### orders: names, pairs, closed_downs -/
section
variable {P : Program} {w W_ : World} {K : PySem.W.Frag} {mg : Str → Option Value} {base : Heap}
def lettersS : Str := "abcdefghijklmnopqrstuvwxyz0123456789"
structure NameW (x : Str) : Prop where
  pos : 1 ≤ x.length
  le : x.length ≤ 12
  all : ∀ c ∈ x.cps.toList, c ∈ lettersS.cps.toList
theorem count_strs (x : Str) (xs : List Str) : (xs.map V.str).countP (fun z => eqV z (.str x)) = xs.count x := by
  rw [List.countP_map]
  rfl
theorem any_falses : ∀ n : Nat, (List.replicate n false).any id = false
  | 0 => rfl
  | n + 1 => by rw [List.replicate_succ, List.any_cons, any_falses n]; rfl
def sp_check (K : PySem.W.Frag) : Sp := fun vs H Q _ => ∃ (a : Addr) (xs : List Str) (m : Nat), vs = [.ref a, .int (m : Nat)] ∧ SqL K H a (xs.map V.str) ∧ 1 ≤ xs.length ∧ xs.length ≤ m ∧ xs.Nodup ∧ (∀ x ∈ xs, NameW x) ∧ ∀ H', Same H H' → Q .non H'
theorem ok_check (T : Tx K mg W_) : FnOk P w K mg base CX0 1 T.a_check_names T.d_check_names ["names", "most"] (sp_check K) := by
  refine T.F_check_names.ok sc_check_names (fun vs H Q E h => ?_) (fun cdv A outer s H vs Q E hr h => ?_)
  · obtain ⟨a, xs, m, rfl, _⟩ := h
    rfl
  obtain ⟨a, xs, m, rfl, ha, n1, nm, nd, nw, q⟩ := h
  refine ⟨_, pss_cons (ps_if (pt_not (pt_chain op_le op_le pe_int (pe_callB call_len_seq (by rfl) T.n_len (by decide +kernel) (pa_cons (pv 0) pa_nil)) (pv 1))) (pss_one ps_dead) pss_nil)
    (pss_one (ps_for PassesOwn.never rfl (pi_list (pv 0)) (pg_name (i := 2) sc_check_names.nd rfl (Or.inl rfl)) (pss_cons (ps_if (PW.pt (pw_or (pt_not (pt_chain op_le op_le pe_int (pe_callB call_len_str (by rfl) T.n_len (by decide +kernel) (pa_cons (pv 2) pa_nil)) pe_int)) (pw_or1 (pt_cmpR op_gt (pe_bm PySem.F.plainAttrs_list PySem.F.slot_list_count PySem.F.type_list_count mt_countF (pv 0) (pa_cons (pv 2) pa_nil)) pe_int (nomark _))))) (pss_one ps_dead) pss_nil)
    (pss_one (ps_if (pt_val (pe_callB (cr_any rfl) (by rfl) T.n_any (by decide +kernel) (pa_cons (pe_lc (own := [("letter", 3)]) (g := gName 3) (tt := tYes) rfl sc_check_names.nd (pi_str (pv 2)) (blkOk_by (N := N_check_names) (sc := defScope St_check_names) (by decide +kernel)) (fun _ _ _ _ _ => (pg_name (i := 3) sc_check_names.nd rfl (Or.inl rfl))) (fun _ _ _ _ _ => pts_nil) (fun _ _ _ _ _ => (pe_cmpR op_notIn_sign (pv 3) (pe_glob (v := .str "abcdefghijklmnopqrstuvwxyz0123456789") (by rfl) T.g_LETTERS.choose_spec ⟨_, rfl⟩) rfl))) pa_nil))) (pss_one ps_dead) pss_nil))))), ?_⟩
  refine ⟨_, rfl, a, _, rfl, .inl ha, _, _, rfl, rfl, _, rfl, ?_⟩
  rw [List.length_map]
  refine iteY (by omega) ?_
  refine ⟨_, rfl, _, _, rfl, rfl, _, rfl, ?_⟩
  rw [decide_eq_true (by omega : (xs.length : Int) ≤ m)]
  refine iteF ?_
  refine ⟨_, rfl, a, rfl, ⟨_, ha⟩, for_list (K := K) (a := a) (xs := xs.map V.str) (fun i σ H2 => ∃ v2 v3, σ = [some (.ref a), some (.int (m : Nat)), v2, v3] ∧ Same H H2) ⟨_, _, rfl, Same.refl _⟩ (fun i σ H2 _ ⟨_, _, _, s⟩ => s.seq ha) ?_ ?_⟩
  · rintro i x σ H2 hx ⟨v2, v3, rfl, s2⟩
    rw [List.getElem?_map] at hx
    obtain ⟨y, hy, rfl⟩ := Option.map_eq_some_iff.mp hx
    have ym := List.mem_of_getElem? hy
    have w := nw y ym
    have w1 := w.pos
    have w2 := w.le
    refine ⟨_, rfl, _, rfl, small_line (by omega), _, _, rfl, rfl, _, rfl, ?_⟩
    refine iteY (by omega) ?_
    refine ⟨_, _, rfl, rfl, _, rfl, ?_⟩
    rw [decide_eq_true (by omega : (y.length : Int) ≤ 12)]
    refine iteF ?_
    refine ⟨_, rfl, .inl ⟨rfl, _, s2.seq ha⟩, _, rfl, a, _, _, rfl, rfl, s2.seq ha, rfl, flat_strs _, _, _, rfl, rfl, _, rfl, ?_⟩
    have c1 : xs.count y ≤ 1 := List.nodup_iff_count.mp nd y
    rw [count_strs]
    refine iteN (by omega) ?_
    refine ⟨_, rfl, _, rfl, fun D hD => ?_⟩
    refine lc_fold walk_str hD (fun i _ ys => i ≤ y.cps.size ∧ ys = List.replicate i (V.bl false)) (fun _ => ⟨Nat.zero_le _, rfl⟩) (fun i _ _ xs _ h => h) ?_ (fun _ _ => trivial) ?_ ?_
    · rintro i _ ys ⟨hi, rfl⟩
      rw [List.length_replicate]
      have : y.cps.size = y.length := rfl
      omega
    · rintro i x H3 H4 ys Nx Ex hi s3 ⟨_, rfl⟩ ⟨rfl, c, hc, rfl⟩ k1 k2
      refine ⟨rfl, ?_⟩
      refine lcY ?_
      have cm : c ∈ y.cps.toList := by
        rw [Array.mem_toList_iff]
        exact Array.mem_of_getElem? hc
      refine ⟨_, rfl, c, lettersS, rfl, rfl, k1 _ _ (Same.refl _) ⟨hi, ?_⟩⟩
      rw [decide_eq_true (w.all c cm), List.replicate_succ']
      rfl
    · rintro H3 ys s3 h3 ⟨_, rfl⟩
      refine ⟨D, List.replicate y.cps.size false, rfl, SqL.of (K := K) (by rw [h3, List.map_replicate]), _, rfl, ?_⟩
      rw [any_falses]
      refine iteF ?_
      exact ⟨_, _, rfl, s2.trans s3⟩
  · rintro σ H2 ⟨v2, v3, rfl, s2⟩
    exact q H2 s2
/-- the pairs of a list, by the places of their names -/
def PairsAt (K : PySem.W.Frag) (H : Hp) (b : Addr) (xs : List Str) (ps : List (Nat × Nat)) : Prop := ∃ vs : List V, SqL K H b vs ∧ vs.length = ps.length ∧ ∀ (i : Nat) (q : Nat × Nat), ps[i]? = some q → ∃ (t : Addr) (x y : Str), vs[i]? = some (.ref t) ∧ SqT K H t [.str x, .str y] ∧ xs[q.1]? = some x ∧ xs[q.2]? = some y
theorem PairsAt.to {H H' : Hp} {b : Addr} {xs : List Str} {ps : List (Nat × Nat)} (h : PairsAt K H b xs ps) (k : Keeps H H') (e : ∀ vs, SqL K H b vs → SqL K H' b vs) : PairsAt K H' b xs ps := by
  obtain ⟨vs, h1, h2, h3⟩ := h
  refine ⟨vs, e _ h1, h2, fun i q hq => ?_⟩
  obtain ⟨t, x, y, a1, a2, a3⟩ := h3 i q hq
  exact ⟨t, x, y, a1, k.sqT a2, a3⟩
theorem PairsAt.same {H H' : Hp} {b : Addr} {xs : List Str} {ps : List (Nat × Nat)} (h : PairsAt K H b xs ps) (s : Same H H') : PairsAt K H' b xs ps := h.to s.keeps fun _ q => s.seq q
/-- how labels tell the pairs -/
def pairW (xs : List Str) (ps : List (Nat × Nat)) : List Str := ps.map fun q => xs.getD q.1 Str.empty ++ (" " : Str) ++ xs.getD q.2 Str.empty
def sp_pwords (K : PySem.W.Frag) : Sp := fun vs H Q _ => ∃ (b : Addr) (xs : List Str) (ps : List (Nat × Nat)), vs = [.ref b] ∧ PairsAt K H b xs ps ∧ ps.length ≤ 1000 ∧ (∀ x ∈ xs, x.length ≤ 12) ∧ ∀ H', Same H H' → Q (.str (PySem.Txt.join " " (pairW xs ps))) H'
theorem pairW_len {xs : List Str} (hx : ∀ x ∈ xs, x.length ≤ 12) (ps : List (Nat × Nat)) : ∀ z ∈ pairW xs ps, z.length ≤ 25 := by
  intro z hz
  obtain ⟨q, _, rfl⟩ := List.mem_map.mp hz
  have l : ∀ i, (xs.getD i Str.empty).length ≤ 12 := fun i => by
    rw [List.getD_eq_getElem?_getD]
    cases e : xs[i]? with
    | none => exact Nat.zero_le _
    | some x => exact hx x (List.mem_of_getElem? e)
  have l1 := l q.1
  have l2 := l q.2
  have o : (" " : Str).length = 1 := rfl
  rw [Str.length_append, Str.length_append]
  omega
theorem sum_bound {xs : List Str} {m : Nat} (h : ∀ z ∈ xs, z.length ≤ m) : (xs.map (·.length)).sum ≤ xs.length * m := by
  induction xs with
  | nil => simp
  | cons x xs ih =>
    have h1 := h x (.head _)
    have h2 := ih fun z hz => h z (.tail _ hz)
    rw [List.map_cons, List.sum_cons, List.length_cons, Nat.succ_mul]
    omega
theorem ok_pwords (T : Tx K mg W_) : FnOk P w K mg base CX0 1 T.a_pair_words T.d_pair_words ["pairs"] (sp_pwords K) := by
  refine T.F_pair_words.ok sc_pair_words (fun vs H Q E h => ?_) (fun cdv A outer s H vs Q E hr h => ?_)
  · obtain ⟨b, xs, ps, rfl, _⟩ := h
    rfl
  obtain ⟨b, xs, ps, rfl, hp, hz, hx, q⟩ := h
  refine ⟨_, pss_one (ps_ret (pe_join pe_str (pe_lc (own := [("lower", 1), ("upper", 2)]) (g := gTup K 2 (gCons (gName 1) (gCons (gName 2) gNil))) (tt := tYes) rfl sc_pair_words.nd (pi_list (pv 0)) (blkOk_by (N := N_pair_words) (sc := defScope St_pair_words) (by decide +kernel)) (fun _ _ _ _ _ => (pg_tup rfl (pgs_cons (pg_name (i := 1) sc_pair_words.nd rfl (Or.inl rfl)) (pgs_cons (pg_name (i := 2) sc_pair_words.nd rfl (Or.inl rfl)) pgs_nil)))) (fun _ _ _ _ _ => pts_nil) (fun _ _ _ _ _ => (pe_joinedT (.cons (pe_fmt (pv 1)) (.cons pe_str (.cons (pe_fmt (pv 2)) PJ.nil)))))))), ?_⟩
  obtain ⟨vs, h1, h2, h3⟩ := hp
  refine ⟨⟨_, rfl⟩, _, rfl, b, rfl, ⟨_, h1⟩, fun D hD => ?_⟩
  refine lc_fold (walk_list (K := K) (a := b) (xs := vs)) hD (fun i _ ys => i ≤ ps.length ∧ ys = ((pairW xs ps).take i).map V.str) (fun _ => ⟨Nat.zero_le _, rfl⟩) (fun i _ _ xs _ h => h) ?_ (fun H2 s2 => s2.seq h1) ?_ ?_
  · rintro i _ ys ⟨hi, rfl⟩
    rw [List.length_map, List.length_take]; omega
  · rintro i x H2 H3 ys Nx Ex hi s2 ⟨_, rfl⟩ ⟨rfl, ex⟩ k1 k2
    rw [h2] at hi
    obtain ⟨t, x1, y1, e1, e2, e3, e4⟩ := h3 i ps[i] (List.getElem?_eq_getElem hi)
    rw [ex] at e1
    cases e1
    refine ⟨t, _, rfl, s2.keeps.sqT e2, rfl, _, _, rfl, _, _, rfl, ⟨rfl, rfl, ?_⟩⟩
    refine lcY ?_
    have lx := hx x1 (List.mem_of_getElem? e3)
    have ly := hx y1 (List.mem_of_getElem? e4)
    have o : (" " : Str).length = 1 := rfl
    have o0 : (Str.empty).length = 0 := rfl
    refine ⟨_, rfl, .inl ⟨x1, rfl, small_line (by omega), x1, rfl, small_line (by rw [Str.length_append]; omega), " ", rfl, small_line (by rw [Str.length_append, Str.length_append]; omega), _, rfl, .inl ⟨y1, rfl, small_line (by omega), y1, rfl, small_line (by rw [Str.length_append, Str.length_append, Str.length_append]; omega), k1 _ _ (Same.refl _) ⟨hi, ?_⟩⟩⟩⟩
    have e : (pairW xs ps)[i]? = some (x1 ++ (" " : Str) ++ y1) := by
      unfold pairW
      rw [List.getElem?_map, List.getElem?_eq_getElem hi, Option.map_some, List.getD_eq_getElem?_getD, List.getD_eq_getElem?_getD, e3, e4]
      rfl
    rw [take_snoc e, List.map_append, empty_app]
    rfl
  · rintro H2 ys s2 h2' ⟨_, rfl⟩
    have lp : (pairW xs ps).length = ps.length := List.length_map _
    have et : (pairW xs ps).take vs.length = pairW xs ps := by rw [h2, ← lp]; exact List.take_length
    rw [et] at h2'
    refine ⟨" ", D, pairW xs ps, rfl, rfl, .inl (SqL.of (K := K) h2'), ?_, q H2 s2⟩
    have := sum_bound (pairW_len hx ps)
    have o : (" " : Str).length = 1 := rfl
    rw [lp] at this ⊢
    rw [o]
    omega
end
section
variable {P : Program} {w W_ : World} {K : PySem.W.Frag} {mg : Str → Option Value} {base : Heap}
theorem map_set {n u : Nat} {f g : Nat → V} {v : V} (hu : u < n) (h1 : g u = v) (h2 : ∀ i, i ≠ u → g i = f i) : ((List.range n).map f).set u v = (List.range n).map g := by
  refine List.ext_getElem? fun i => ?_
  rw [List.getElem?_set]
  by_cases e : u = i
  · subst e
    rw [if_pos rfl, List.length_map, List.length_range, if_pos hu, at_map hu, h1]
  · rw [if_neg e, List.getElem?_map, List.getElem?_map]
    by_cases hi : i < n
    · rw [List.getElem?_range hi, Option.map_some, Option.map_some, h2 i (Ne.symm e)]
    · rw [List.getElem?_eq_none (by rw [List.length_range]; omega)]; rfl
/-- what the rows of sets know while they grow -/
structure Grow (n : Nat) (ps : List (Nat × Nat)) (p : Nat → Nat → Bool) : Prop where
  refl : ∀ b, b < n → p b b = true
  sound : ∀ b a, b < n → a < n → p b a = true → Reach ps a b
theorem grow0 (n : Nat) (ps : List (Nat × Nat)) : Grow n ps (fun b a => a == b) := by
  refine ⟨fun b _ => beq_self_eq_true b, fun b a _ _ h => ?_⟩
  have e : a = b := by simpa using h
  subst e
  exact .here
def maskV (n : Nat) (p : Nat → Nat → Bool) : List V := (List.range n).map fun b => V.int ((mask n (p b) : Nat) : Int)
def growOne (p : Nat → Nat → Bool) (l u : Nat) : Nat → Nat → Bool := fun b a => if b = u then p u a || p l a else p b a
theorem Grow.one {n : Nat} {ps : List (Nat × Nat)} {p : Nat → Nat → Bool} (g : Grow n ps p) {l u : Nat} (hm : (l, u) ∈ ps) (hl : l < n) (hu : u < n) : Grow n ps (growOne p l u) := by
  refine ⟨fun b hb => ?_, fun b a hb ha h => ?_⟩
  · unfold growOne
    split
    · rename_i e; subst e; rw [g.refl b hb]; rfl
    · exact g.refl b hb
  · unfold growOne at h
    split at h
    · rename_i e
      subst e
      rw [Bool.or_eq_true] at h
      rcases h with h | h
      · exact g.sound b a hb ha h
      · exact .step (g.sound l a hl ha h) hm
    · exact g.sound b a hb ha h
theorem Grow.done {n : Nat} {ps : List (Nat × Nat)} {p : Nat → Nat → Bool} (g : Grow n ps p) (hn : ∀ q ∈ ps, q.1 < n ∧ q.2 < n) (hc : ∀ l u, (l, u) ∈ ps → ∀ a, a < n → p l a = true → p u a = true) {b : Nat} (hb : b < n) :
    mask n (p b) = mask n fun a => reachB ps a b := by
  refine mask_ext fun a ha => ?_
  rw [Bool.eq_iff_iff, reachB_iff]
  refine ⟨g.sound b a hb ha, fun h => ?_⟩
  exact Reach.of_closed (fun b => p b a = true) (g.refl a ha) (fun l u m h => hc l u m a ha h) h
theorem inV_strs' {xs : List Str} {x : Str} {i : Nat} (h : xs[i]? = some x) : (if true = true then !inV (.str x) (xs.map V.str) else inV (.str x) (xs.map V.str)) = false := by
  show (!inV (.str x) (xs.map V.str)) = false
  rw [inV_strs, decide_eq_true (List.mem_of_getElem? h)]; rfl
/-- names.index(x): the first place of x -/
theorem index_at {xs : List Str} {x : Str} {i : Nat} (nd : xs.Nodup) (hx : xs[i]? = some x) : (xs.map V.str)[i]? = some (.str x) ∧ eqV (.str x) (.str x) = true ∧ ∀ (m : Nat) (z' : V), m < i → (xs.map V.str)[m]? = some z' → eqV z' (.str x) = false := by
  refine ⟨by rw [List.getElem?_map, hx]; rfl, by rw [eqV_str']; exact beq_self_eq_true x, fun j z hj hz => ?_⟩
  rw [List.getElem?_map] at hz
  obtain ⟨y, hy, rfl⟩ := Option.map_eq_some_iff.mp hz
  exact beq_eq_false_iff_ne.mpr fun z => by
    subst z
    have := nodup_at' nd hy hx
    omega
def sp_closed (K : PySem.W.Frag) : Sp := fun vs H Q _ => ∃ (a b : Addr) (xs : List Str) (ps : List (Nat × Nat)), vs = [.ref a, .ref b] ∧ SqL K H a (xs.map V.str) ∧ PairsAt K H b xs ps ∧ xs.Nodup ∧ xs.length ≤ 60 ∧ ps.length ≤ 1000 ∧
  ∀ l H', Same H H' → H l = none → H' l = some (.lst (maskV xs.length fun b a => reachB ps a b)) → Q (.ref l) H'
theorem ok_closed (T : Tx K mg W_) : FnOk P w K mg base CX0 1 T.a_closed_downs T.d_closed_downs ["names", "pairs"] (sp_closed K) := by
  refine T.F_closed_downs.ok sc_closed_downs (fun vs H Q E h => ?_) (fun cdv A outer s H vs Q E hr h => ?_)
  · obtain ⟨a, b, xs, ps, rfl, _⟩ := h
    rfl
  obtain ⟨a, b, xs, ps, rfl, ha, ⟨vs, h1, h2, h3⟩, nd, n60, pz, q⟩ := h
  refine ⟨_, pss_cons (ps_for PassesOwn.never rfl (pi_list (pv 1)) (pg_tup rfl (pgs_cons (pg_name (i := 2) sc_closed_downs.nd rfl (Or.inl rfl)) (pgs_cons (pg_name (i := 3) sc_closed_downs.nd rfl (Or.inl rfl)) pgs_nil))) (pss_one (ps_if (PW.pt (pw_or (pt_cmpR op_notIn_seq (pv 2) (pv 0) (by rfl)) (pw_or1 (pt_cmpR op_notIn_seq (pv 3) (pv 0) (by rfl))))) (pss_one ps_dead) pss_nil)))
    (pss_cons (ps_setLc (i := 4) (own := [("place", 5)]) (g := gName 5) (tt := tYes) rfl sc_closed_downs.nd rfl rfl (sw_true rfl rfl rfl (by decide +kernel)) (pi_range1 (by rfl) T.n_range (pa_cons (pe_callB call_len_seq (by rfl) T.n_len (by decide +kernel) (pa_cons (pv 0) pa_nil)) pa_nil)) (blkOk_by (N := N_closed_downs) (sc := defScope St_closed_downs) (by decide +kernel)) (fun _ _ _ _ _ => (pg_name (i := 5) sc_closed_downs.nd rfl (Or.inl rfl))) (fun _ _ _ _ _ => pts_nil) (fun _ _ _ _ _ => (pe_op op_shl pe_int (pv 5))))
    (pss_cons (ps_set (i := 6) sc_closed_downs.nd rfl (Or.inl rfl) pe_bl)
    (pss_cons (ps_while PassesOwn.never (pt_val (pv 6)) (pss_cons (ps_set (i := 6) sc_closed_downs.nd rfl (Or.inl rfl) pe_bl)
    (pss_one (ps_for PassesOwn.never rfl (pi_list (pv 1)) (pg_tup rfl (pgs_cons (pg_name (i := 2) sc_closed_downs.nd rfl (Or.inl rfl)) (pgs_cons (pg_name (i := 3) sc_closed_downs.nd rfl (Or.inl rfl)) pgs_nil))) (pss_cons (ps_set (i := 7) sc_closed_downs.nd rfl (Or.inl rfl) (pe_op op_or (pe_ix ix_list (pv 4) (pe_bm PySem.F.plainAttrs_list PySem.F.slot_list_index PySem.F.type_list_index mt_index (pv 0) (pa_cons (pv 3) pa_nil)) (fun _ _ => rfl)) (pe_ix ix_list (pv 4) (pe_bm PySem.F.plainAttrs_list PySem.F.slot_list_index PySem.F.type_list_index mt_index (pv 0) (pa_cons (pv 2) pa_nil)) (fun _ _ => rfl))))
    (pss_one (ps_if (pt_cmpR op_ne (pv 7) (pe_ix ix_list (pv 4) (pe_bm PySem.F.plainAttrs_list PySem.F.slot_list_index PySem.F.type_list_index mt_index (pv 0) (pa_cons (pv 3) pa_nil)) (fun _ _ => rfl)) (nomark _)) (pss_cons (ps_asg (pv 7) (pg_sub (pv 4) (pe_bm PySem.F.plainAttrs_list PySem.F.slot_list_index PySem.F.type_list_index mt_index (pv 0) (pa_cons (pv 3) pa_nil)) set_list))
    (pss_one (ps_set (i := 6) sc_closed_downs.nd rfl (Or.inl rfl) pe_bl))) pss_nil)))))))
    (pss_one (ps_ret (pv 4)))))), ?_⟩
  refine ⟨_, rfl, b, rfl, ⟨_, h1⟩, for_list (K := K) (a := b) (xs := vs) (fun i σ H2 => ∃ v2 v3, σ = [some (.ref a), some (.ref b), v2, v3, none, none, none, none] ∧ Same H H2) ⟨_, _, rfl, Same.refl _⟩ (fun i σ H2 _ ⟨_, _, _, s⟩ => s.seq h1) ?_ ?_⟩
  · rintro i x σ H2 hx ⟨v2, v3, rfl, s2⟩
    have hi := (List.getElem?_eq_some_iff.mp hx).1
    rw [h2] at hi
    obtain ⟨t, x1, y1, e1, e2, e3, e4⟩ := h3 i ps[i] (List.getElem?_eq_getElem hi)
    rw [hx] at e1
    cases e1
    refine ⟨t, _, rfl, s2.keeps.sqT e2, rfl, _, _, rfl, _, _, rfl, ⟨rfl, ?_⟩⟩
    refine ⟨_, rfl, _, rfl, a, _, rfl, .inl (s2.seq ha), rfl, flat_strs _, _, rfl, ?_⟩
    rw [inV_strs' e3]
    refine iteF ?_
    refine ⟨_, rfl, _, rfl, a, _, rfl, .inl (s2.seq ha), rfl, flat_strs _, _, rfl, ?_⟩
    rw [inV_strs' e4]
    refine iteF ?_
    exact ⟨_, _, rfl, s2⟩
  rintro σ H2 ⟨v2, v3, rfl, s2⟩
  have pn : ∀ q ∈ ps, q.1 < xs.length ∧ q.2 < xs.length := fun q hq => by
    obtain ⟨i, hi⟩ := List.getElem?_of_mem hq
    obtain ⟨t, x1, y1, e1, e2, e3, e4⟩ := h3 i q hi
    exact ⟨(List.getElem?_eq_some_iff.mp e3).1, (List.getElem?_eq_some_iff.mp e4).1⟩
  generalize hn : xs.length = n at pn n60
  refine ⟨_, rfl, a, _, rfl, .inl (s2.seq ha), _, rfl, by rw [List.length_map, hn]; omega, by rw [List.length_map, hn]; omega, fun D hD => ?_⟩
  rw [List.length_map, hn]
  refine lc_fold walk_range hD (fun i _ ys => i ≤ n ∧ ys = (List.range i).map fun b => V.int ((mask n (fun a => a == b) : Nat) : Int)) (fun _ => ⟨Nat.zero_le _, rfl⟩) (fun i _ _ xs _ h => h) ?_ (fun _ _ => trivial) ?_ ?_
  · rintro i _ ys ⟨hi, rfl⟩
    rw [List.length_map, List.length_range]; omega
  · rintro i x H3 H4 ys Nx Ex hi s3 ⟨_, rfl⟩ ⟨rfl, ex⟩ k1 k2
    have hi : i < n := hi
    obtain rfl := yfn0 ex
    refine ⟨rfl, ?_⟩
    refine lcY ?_
    refine ⟨_, rfl, _, _, rfl, rfl, ⟨Int.natCast_nonneg _, by omega, by decide⟩, k1 _ _ (Same.refl _) ⟨hi, ?_⟩⟩
    rw [List.range_succ, List.map_append]
    show _ ++ [V.int (1 * 2 ^ ((i : Int)).toNat)] = _ ++ [V.int ((mask n (fun a => a == i) : Nat) : Int)]
    rw [one_shl, mask_one hi]
  rintro H3 ys s3 h3' ⟨_, rfl⟩
  have s03 := s2.trans s3
  have nD : ∀ {c : Addr} {o : HO}, H2 c = some o → c ≠ D := fun h => ne_of_none h hD
  refine ⟨fun k σ H4 => ∃ (p : Nat → Nat → Bool) (ch : Bool) (v2 v3 v5 v7 : Option V), k = 2 * (n * n - marks n p) + (if ch then 1 else 0) ∧ σ = [some (.ref a), some (.ref b), v2, v3, some (.ref D), v5, some (.bl ch), v7] ∧ But D H3 H4 ∧ H4 D = some (.lst (maskV n p)) ∧ Grow n ps p ∧
      (ch = false → ∀ l u, (l, u) ∈ ps → ∀ a, a < n → p l a = true → p u a = true), ⟨_, fun b a => a == b, true, _, _, _, _, rfl, rfl, But.refl _ _, h3', grow0 n ps, fun z => nomatch z⟩, ?_⟩
  rintro k σ H4 ⟨p, ch, v2, v3, v5, v7, rfl, rfl, b4, d4, g, hc⟩
  refine ⟨_, rfl, _, rfl, ?_⟩
  cases ch with
  | false =>
    refine iteF ?_
    refine ⟨_, rfl, q D H4 (fun c o hc' => ?_) ?_ ?_⟩
    · have := s03 c o hc'
      exact b4 c o (ne_of_none (s2 c o hc') hD) this
    · cases e : H D with
      | none => rfl
      | some o => have := s2 D o e; rw [hD] at this; cases this
    · rw [d4, hn]
      congr 2
      unfold maskV
      refine List.map_congr_left fun b hb => ?_
      rw [g.done pn (hc rfl) (List.mem_range.mp hb)]
  | true =>
    refine iteT ?_
    refine ⟨fun σ' H' => ∃ m' < _, _, fun _ _ h => h, ?_⟩
    dsimp only
    have bD : ∀ {H5 : Hp}, But D H3 H5 → SqL K H5 a (xs.map V.str) ∧ SqL K H5 b vs ∧ ∀ t ws, SqT K H t ws → SqT K H5 t ws := fun {H5} b5 => by
      have b25 : But D H2 H5 := fun c o nc hc => b5 c o nc (s3 c o hc)
      have sq : ∀ c zs, SqL K H c zs → SqL K H5 c zs := fun c zs h => by
        rcases s2.seq h with (h | ⟨o, h⟩) | h
        · exact .inl (.inl (b25 _ _ (ne_of_none h hD) h))
        · exact .inl (.inr ⟨o, b25 _ _ (ne_of_none h hD) h⟩)
        · exact .inr h
      refine ⟨sq _ _ ha, sq _ _ h1, fun t ws h => ?_⟩
      rcases s2.keeps.sqT h with (h | ⟨o, h⟩) | h
      · exact .inl (.inl (b25 _ _ (ne_of_none h hD) h))
      · exact .inl (.inr ⟨o, b25 _ _ (ne_of_none h hD) h⟩)
      · exact .inr h
    refine ⟨_, rfl, b, rfl, ⟨_, (bD b4).2.1⟩, for_list (K := K) (a := b) (xs := vs) (fun i σ H5 => ∃ (p' : Nat → Nat → Bool) (ch : Bool) (v2 v3 v5 v7 : Option V), σ = [some (.ref a), some (.ref b), v2, v3, some (.ref D), v5, some (.bl ch), v7] ∧ But D H3 H5 ∧ H5 D = some (.lst (maskV n p')) ∧ Grow n ps p' ∧
        (ch = false → (∀ l u, (l, u) ∈ ps.take i → ∀ a, a < n → p' l a = true → p' u a = true) ∧ marks n p ≤ marks n p') ∧ (ch = true → marks n p < marks n p')) ?_ (fun i σ H5 _ ⟨_, _, _, _, _, _, _, b5, _⟩ => (bD b5).2.1) ?_ ?_⟩
    · exact ⟨p, false, _, _, _, _, rfl, b4, d4, g, fun _ => ⟨fun l u h => by simp at h, Nat.le_refl _⟩, fun z => nomatch z⟩
    · rintro i x σ H5 hx ⟨p', ch, v2, v3, v5, v7, rfl, b5, d5, g5, c1, c2⟩
      have hi := (List.getElem?_eq_some_iff.mp hx).1
      rw [h2] at hi
      obtain ⟨t, x1, y1, e1, e2, e3, e4⟩ := h3 i ps[i] (List.getElem?_eq_getElem hi)
      rw [hx] at e1
      cases e1
      obtain ⟨ha5, hb5, ht5⟩ := bD b5
      have pm : ps[i] ∈ ps := List.getElem_mem hi
      generalize hq : ps[i] = lu at e3 e4 pm
      obtain ⟨l, u⟩ := lu
      obtain ⟨ln, un⟩ := pn _ pm
      dsimp only at e3 e4 ln un
      refine ⟨t, _, rfl, ht5 _ _ e2, rfl, _, _, rfl, _, _, rfl, ⟨rfl, ?_⟩⟩
      have dq : SqL K H5 D (maskV n p') := SqL.of d5
      have at5 : ∀ {j : Nat}, j < n → atI (maskV n p') (j : Int) = some (.int ((mask n (p' j) : Nat) : Int)) := fun hj => atI_nat (at_map hj)
      obtain ⟨iu1, iu2, iu3⟩ := index_at nd e4
      obtain ⟨il1, il2, il3⟩ := index_at nd e3
      refine ⟨_, rfl, _, rfl, .inl ⟨rfl, _, ha5⟩, _, rfl, a, _, _, u, _, rfl, rfl, ha5, rfl, flat_strs _, iu1, iu2, iu3, ?_⟩
      refine ⟨D, _, _, _, rfl, rfl, dq, at5 un, ?_⟩
      refine ⟨_, rfl, _, rfl, .inl ⟨rfl, _, ha5⟩, _, rfl, a, _, _, l, _, rfl, rfl, ha5, rfl, flat_strs _, il1, il2, il3, ?_⟩
      refine ⟨D, _, _, _, rfl, rfl, dq, at5 ln, _, _, rfl, rfl, ?_⟩
      have eg : Builtin.bitOr ((mask n (p' u) : Nat) : Int) ((mask n (p' l) : Nat) : Int) = ((mask n (fun a => p' u a || p' l a) : Nat) : Int) := by rw [or_int_nat, mask_or]
      refine ⟨_, rfl, _, rfl, _, rfl, .inl ⟨rfl, _, ha5⟩, _, rfl, a, _, _, u, _, rfl, rfl, ha5, rfl, flat_strs _, iu1, iu2, iu3, ?_⟩
      refine ⟨D, _, _, _, rfl, rfl, dq, at5 un, rfl, _, rfl, ?_⟩
      have et : (!decide (V.int (Builtin.bitOr ((mask n (p' u) : Nat) : Int) ((mask n (p' l) : Nat) : Int)) = V.int ((mask n (p' u) : Nat) : Int))) = !(mask n (fun a => p' u a || p' l a) == mask n (p' u)) := by rw [eg, int_ext]
      show if (!decide (V.int (Builtin.bitOr ((mask n (p' u) : Nat) : Int) ((mask n (p' l) : Nat) : Int)) = V.int ((mask n (p' u) : Nat) : Int))) = true then _ else _
      rw [et]
      have two : ∀ l' u', (l', u') ∈ ps.take (i + 1) → (l', u') ∈ ps.take i ∨ (l', u') = (l, u) := fun l' u' h => by
        rw [take_snoc (by rw [List.getElem?_eq_getElem hi, hq])] at h
        rcases List.mem_append.mp h with h | h
        · exact .inl h
        · exact .inr (by simpa using h)
      by_cases hs : mask n (fun a => p' u a || p' l a) = mask n (p' u)
      · rw [beq_iff_eq.mpr hs]
        refine iteF ?_
        refine ⟨p', ch, _, _, _, _, rfl, b5, d5, g5, fun z => ⟨fun l' u' h a' ha' h2 => ?_, (c1 z).2⟩, c2⟩
        rcases two l' u' h with h | h
        · exact (c1 z).1 l' u' h a' ha' h2
        · cases h
          have := mask_eq.mp hs a' ha'
          rw [h2, Bool.or_true] at this
          exact this.symm
      · rw [beq_eq_false_iff_ne.mpr hs]
        refine iteT ?_
        refine ⟨_, rfl, _, rfl, _, rfl, .inl ⟨rfl, _, ha5⟩, _, rfl, a, _, _, u, _, rfl, rfl, ha5, rfl, flat_strs _, iu1, iu2, iu3, ?_⟩
        refine ⟨D, _, _, u, rfl, rfl, d5, ixN_nat (Int.natCast_nonneg _) (by unfold maskV; rw [List.length_map, List.length_range]; exact un), ?_⟩
        have es : (maskV n p').set u (.int (Builtin.bitOr ((mask n (p' u) : Nat) : Int) ((mask n (p' l) : Nat) : Int))) = maskV n (growOne p' l u) := by
          rw [eg]
          refine map_set un ?_ fun j hj => ?_
          · unfold growOne
            congr 3
            funext a
            rw [if_pos rfl]
          · unfold growOne
            congr 3
            funext a
            rw [if_neg hj]
        rw [es]
        have up : ∀ b a, b < n → a < n → p' b a = true → growOne p' l u b a = true := fun b a _ _ h => by
          unfold growOne
          split
          · rename_i e; subst e; rw [h]; rfl
          · exact h
        obtain ⟨a', ha', hne⟩ : ∃ a', a' < n ∧ (p' u a' || p' l a') ≠ p' u a' := by
          refine Classical.byContradiction fun z => hs (mask_ext fun i hi => Classical.byContradiction fun z2 => z ⟨i, hi, z2⟩)
        have pu : p' u a' = false := by cases h : p' u a' with
          | false => rfl
          | true => rw [h] at hne; exact absurd rfl hne
        have pl : p' l a' = true := by cases h : p' l a' with
          | true => rfl
          | false => rw [pu, h] at hne; exact absurd rfl hne
        have lt : marks n p' < marks n (growOne p' l u) := marks_lt up un ha' pu (by unfold growOne; rw [if_pos rfl, pl, Bool.or_true])
        have le : marks n p ≤ marks n p' := by cases ch with
          | false => exact (c1 rfl).2
          | true => exact Nat.le_of_lt (c2 rfl)
        exact ⟨growOne p' l u, true, _, _, _, _, rfl, b5.upd _, upd_same, g5.one pm ln un, (fun z => Bool.noConfusion z), (fun _ => Nat.lt_of_le_of_lt le lt)⟩
    · rintro σ H5 ⟨p', ch, v2, v3, v5, v7, rfl, b5, d5, g5, c1, c2⟩
      have mle := marks_le n p'
      have mle2 := marks_le n p
      refine ⟨_, ?_, p', ch, _, _, _, _, rfl, rfl, b5, d5, g5, fun z l u hm => (c1 z).1 l u (by rw [h2, List.take_length]; exact hm)⟩
      cases ch with
      | false => have := (c1 rfl).2; simp; omega
      | true => have := c2 rfl; simp; omega
end
section
theorem join_len (sep : Str) (xs : List Str) : (PySem.Txt.join sep xs).length ≤ (xs.map (·.length)).sum + xs.length * sep.length := by
  rw [show PySem.Txt.join sep xs = Str.join sep xs from StrLaws.glued_eq_join _ _]
  exact StrLaws.join_length_le sep xs
theorem join_le {sep : Str} {xs : List Str} {m n : Nat} (hs : sep.length ≤ 1) (h : ∀ z ∈ xs, z.length ≤ m) (hn : xs.length ≤ n) : (PySem.Txt.join sep xs).length ≤ n * (m + 1) ∧ (xs.map (·.length)).sum + xs.length * sep.length ≤ n * (m + 1) := by
  have h1 := join_len sep xs
  have h2 := sum_bound h
  have h3 : xs.length * sep.length ≤ xs.length * 1 := Nat.mul_le_mul_left _ hs
  have h4 : xs.length * (m + 1) ≤ n * (m + 1) := Nat.mul_le_mul_right _ hn
  have h5 : xs.length * (m + 1) = xs.length * m + xs.length * 1 := Nat.mul_add _ _ _
  omega
noncomputable def orderL (xs : List Str) (ps : List (Nat × Nat)) : Lt :=
  { label := ("(order (" : Str) ++ PySem.Txt.join " " xs ++ (") (" : Str) ++ PySem.Txt.join " " (pairW xs ps) ++ ("))" : Str), names := xs, le := fun a b => reachB ps a b, depth := 1 }
variable {w W_ : World} {K : PySem.W.Frag} {mg : Str → Option Value} {base : Heap}
def sp_order (K : PySem.W.Frag) (mm : List (Str × Addr)) (C : Addr) : Sp := fun vs H Q _ => ∃ (p dx a b : Addr) (xs : List Str) (ps : List (Nat × Nat)), vs = [.ref p, .ref a, .ref b] ∧ H p = some (.ins C dx []) ∧ SqL K H a (xs.map V.str) ∧ PairsAt K H b xs ps ∧ a ≠ p ∧ b ≠ p ∧ 1 ≤ xs.length ∧ xs.length ≤ 16 ∧ xs.Nodup ∧ (∀ x ∈ xs, NameW x) ∧ ps.length ≤ 1000 ∧
  ∀ H', But p H H' → IsLat K mm H' p (orderL xs ps) → Q .non H'
end
section
def turnL (L : Lt) : Lt := { label := ("(turned " : Str) ++ L.label ++ (")" : Str), names := L.names, le := fun a b => L.le b a, depth := L.depth + 1 }
/-- a label is not too long, nor are the names -/
structure Lt.Fit (L : Lt) : Prop where
  lab : L.label.length ≤ 20000
  nam : ∀ x ∈ L.names, x.length ≤ 5000
/-- a field of an instance -/
def FldAt (H : Hp) (p : Addr) (f : Str) (v : V) : Prop := ∃ C dx fs, H p = some (.ins C dx fs) ∧ fs.lookup f = some v
/-- the same, its class told -/
def FldC (H : Hp) (p C : Addr) (f : Str) (v : V) : Prop := ∃ dx fs, H p = some (.ins C dx fs) ∧ fs.lookup f = some v
theorem FldC.fld {H : Hp} {p C : Addr} {f : Str} {v : V} (h : FldC H p C f v) : FldAt H p f v := by
  obtain ⟨dx, fs, a, b⟩ := h
  exact ⟨C, dx, fs, a, b⟩
theorem FldC.same {H H' : Hp} {p C : Addr} {f : Str} {v : V} (h : FldC H p C f v) (s : Same H H') : FldC H' p C f v := by
  obtain ⟨dx, fs, a, b⟩ := h
  exact ⟨dx, fs, s _ _ a, b⟩
def foldD : Nat → List Lt → Nat := List.foldl fun d L => if L.depth ≥ d then L.depth + 1 else d
variable {w W_ : World} {K : PySem.W.Frag} {mg : Str → Option Value} {base : Heap}
def sp_cdepth (K : PySem.W.Frag) (mm : List (Str × Addr)) : Sp := fun vs H Q _ => ∃ (z : Nat) (a : Addr) (ls : List (Addr × Lt)), vs = [.int (z : Nat), .ref a] ∧ SqL K H a (ls.map fun q => V.ref q.1) ∧ (∀ q ∈ ls, IsLat K mm H q.1 q.2) ∧ z ≤ 64 ∧ foldD 1 (ls.map (·.2)) ≤ 10 ∧
  ∀ H', Same H H' → Q (.int (foldD 1 (ls.map (·.2)) : Nat)) H'
def sp_turn (K : PySem.W.Frag) (mm : List (Str × Addr)) (C : Addr) : Sp := fun vs H Q _ => ∃ (p dx z : Addr) (L : Lt), vs = [.ref p, .ref z] ∧ H p = some (.ins C dx []) ∧ IsLat K mm H z L ∧ z ≠ p ∧ L.n ≤ 64 ∧ L.depth ≤ 9 ∧ 1 ≤ L.depth ∧ L.Fit ∧
  ∀ H', But p H H' → IsLat K mm H' p (turnL L) → FldC H' p C "inner" (.ref z) → Q .non H'
end
section
/-- pairs: the place is a * (size of the right one) + b -/
def pairNm (L R : Lt) (k : Nat) : Str := ("<" : Str) ++ L.names.getD (k / R.n) Str.empty ++ ("/" : Str) ++ R.names.getD (k % R.n) Str.empty ++ (">" : Str)
def pairL (L R : Lt) : Lt where
  label := ("(pair " : Str) ++ L.label ++ (" " : Str) ++ R.label ++ (")" : Str)
  names := (List.range (L.n * R.n)).map (pairNm L R)
  le := fun a b => L.le (a / R.n) (b / R.n) && R.le (a % R.n) (b % R.n)
  depth := foldD 1 [L, R]
theorem pairL_n (L R : Lt) : (pairL L R).n = L.n * R.n := by simp [pairL, Lt.n]
variable {w W_ : World} {K : PySem.W.Frag} {mg : Str → Option Value} {base : Heap}
/-- the k-th pair of places -/
def pr (m k : Nat) : List V := [.int ((k / m : Nat) : Int), .int ((k % m : Nat) : Int)]
/-- pairs of places in the heap: n of them -/
def PrsAt (K : PySem.W.Frag) (H : Hp) (b : Addr) (m n : Nat) : Prop := ∃ vs : List V, SqL K H b vs ∧ vs.length = n ∧ ∀ k, k < n → ∃ t, vs[k]? = some (.ref t) ∧ SqT K H t (pr m k)
theorem PrsAt.same {H H' : Hp} {b : Addr} {m n : Nat} (h : PrsAt K H b m n) (s : Same H H') : PrsAt K H' b m n := by
  obtain ⟨vs, h1, h2, h3⟩ := h
  refine ⟨vs, s.seq h1, h2, fun k hk => ?_⟩
  obtain ⟨t, e1, e2⟩ := h3 k hk
  exact ⟨t, e1, s.keeps.sqT e2⟩
theorem mask_succ (i : Nat) (p : Nat → Bool) : mask (i + 1) p = if p i then mask i p ||| 2 ^ i else mask i p := by
  show mask i p + (if p i = true then 2 ^ i else 0) = _
  by_cases c : p i = true
  · rw [if_pos c, if_pos c, Nat.or_comm, Nat.add_comm]
    have h := mask_lt p i
    have := Nat.two_pow_add_eq_or_of_lt h 1
    rw [Nat.mul_one] at this
    exact this
  · rw [if_neg c, if_neg c, Nat.add_zero]
def sp_prw (K : PySem.W.Frag) (mm : List (Str × Addr)) (C : Addr) : Sp := fun vs H Q _ => ∃ (p dx b t x y : Addr) (fs : List (Str × V)) (L R : Lt) (k : Nat), vs = [.ref p, .ref b, .ref t] ∧ H p = some (.ins C dx fs) ∧ fs.lookup ("left" : Str) = some (.ref x) ∧ fs.lookup ("right" : Str) = some (.ref y) ∧ IsLat K mm H x L ∧ IsLat K mm H y R ∧
  1 ≤ R.n ∧ L.n * R.n ≤ 64 ∧ k < L.n * R.n ∧ PrsAt K H b R.n (L.n * R.n) ∧ SqT K H t (pr R.n k) ∧ ∀ H', Same H H' → Q (.int ((pairL L R).down k : Nat)) H'
theorem div_lt' {k m n : Nat} (hm : 1 ≤ m) (h : k < n * m) : k / m < n := by rw [Nat.div_lt_iff_lt_mul hm]; exact h
end
section
variable {w W_ : World} {K : PySem.W.Frag} {mg : Str → Option Value} {base : Heap}
/-- the list of pairs while it is made -/
def PrsL (K : PySem.W.Frag) (H : Hp) (D : Addr) (m n : Nat) : Prop := ∃ vs : List V, H D = some (.lst vs) ∧ vs.length = n ∧ ∀ k, k < n → ∃ t, vs[k]? = some (.ref t) ∧ SqT K H t (pr m k)
theorem PrsL.at {H : Hp} {D : Addr} {m n : Nat} (h : PrsL K H D m n) : PrsAt K H D m n := by
  obtain ⟨vs, h1, h2, h3⟩ := h
  exact ⟨vs, SqL.of (K := K) h1, h2, h3⟩
theorem PrsL.same {H H' : Hp} {D : Addr} {m n : Nat} (h : PrsL K H D m n) (s : Same H H') : PrsL K H' D m n := by
  obtain ⟨vs, h1, h2, h3⟩ := h
  refine ⟨vs, s _ _ h1, h2, fun k hk => ?_⟩
  obtain ⟨t, e1, e2⟩ := h3 k hk
  exact ⟨t, e1, s.keeps.sqT e2⟩
theorem PrsL.snoc {H : Hp} {D u : Addr} {m n : Nat} {vs : List V} (h : PrsL K H D m n) (e : H D = some (.lst vs)) (hu : SqT K H u (pr m n)) : vs.length = n ∧ PrsL K (upd H D (.lst (vs ++ [.ref u]))) D m (n + 1) := by
  obtain ⟨vs', h1, h2, h3⟩ := h
  rw [e] at h1
  cases h1
  have kp : Keeps H (upd H D (.lst (vs ++ [.ref u]))) := ((But.refl D H).upd _).keeps e trivial
  refine ⟨h2, _, upd_same, by rw [List.length_append, h2]; rfl, fun k hk => ?_⟩
  rcases Nat.lt_or_ge k n with l | l
  · obtain ⟨t, e1, e2⟩ := h3 k l
    exact ⟨t, by rw [List.getElem?_append_left (by omega)]; exact e1, kp.sqT e2⟩
  · have : k = n := by omega
    subst this
    exact ⟨u, by rw [← h2, List.getElem?_append_right (Nat.le_refl _), Nat.sub_self]; rfl, kp.sqT hu⟩
def sp_pairl (K : PySem.W.Frag) (mm : List (Str × Addr)) (C : Addr) : Sp := fun vs H Q _ => ∃ (p dx x y : Addr) (L R : Lt), vs = [.ref p, .ref x, .ref y] ∧ H p = some (.ins C dx []) ∧ IsLat K mm H x L ∧ IsLat K mm H y R ∧ x ≠ p ∧ y ≠ p ∧ 1 ≤ L.n ∧ 1 ≤ R.n ∧ L.n * R.n ≤ 64 ∧ foldD 1 [L, R] ≤ 10 ∧ L.Fit ∧ R.Fit ∧
  ∀ H', But p H H' → IsLat K mm H' p (pairL L R) → FldC H' p C "left" (.ref x) → FldC H' p C "right" (.ref y) → Q .non H'
end
section
/-- the names within the name b, as places -/
noncomputable def dn (n : Nat) (ps : List (Nat × Nat)) (b : Nat) : Nat := mask n fun a => reachB ps a b
/-- the set h holds with each name all names within it -/
noncomputable def heapB (n : Nat) (ps : List (Nat × Nat)) (h : Nat) : Bool := ((List.range n).filter h.testBit).all fun a => part (dn n ps a) h
noncomputable def heaps (n : Nat) (ps : List (Nat × Nat)) : List Nat := (List.range (2 ^ n)).filter (heapB n ps)
def heapIn (xs : List Str) (h : Nat) : List Str := ((List.range xs.length).filter h.testBit).map fun a => xs.getD a Str.empty
def heapNm (xs : List Str) (h : Nat) : Str := ("{" : Str) ++ PySem.Txt.join "," (heapIn xs h) ++ ("}" : Str)
noncomputable def downL (xs : List Str) (ps : List (Nat × Nat)) : Lt where
  label := ("(downs (" : Str) ++ PySem.Txt.join " " xs ++ (") (" : Str) ++ PySem.Txt.join " " (pairW xs ps) ++ ("))" : Str)
  names := (heaps xs.length ps).map (heapNm xs)
  le := fun i j => part ((heaps xs.length ps).getD i 0) ((heaps xs.length ps).getD j 0)
  depth := 1
theorem downL_n (xs : List Str) (ps : List (Nat × Nat)) : (downL xs ps).n = (heaps xs.length ps).length := by
  show ((heaps xs.length ps).map (heapNm xs)).length = _
  rw [List.length_map]
theorem heaps_le (n : Nat) (ps : List (Nat × Nat)) : (heaps n ps).length ≤ 2 ^ n := filter_le _ _
/-- no two names lie within each other -/
def Anti (n : Nat) (ps : List (Nat × Nat)) : Prop := ∀ a b, a < n → b < n → Reach ps a b → Reach ps b a → a = b
theorem dn_inj {n : Nat} {ps : List (Nat × Nat)} (h : Anti n ps) {a b : Nat} (ha : a < n) (hb : b < n) (e : dn n ps a = dn n ps b) : a = b := by
  have e := mask_eq.mp e
  refine h a b ha hb (reachB_iff.mp ?_) (reachB_iff.mp ?_)
  · rw [← e a ha]; exact reachB_iff.mpr .here
  · rw [e b hb]; exact reachB_iff.mpr .here
theorem count_dn {n : Nat} {f : Nat → Nat} (h : ∀ a b, a < n → b < n → f a = f b → a = b) {i : Nat} (hi : i < n) : ((List.range n).map fun b => V.int (f b : Nat)).countP (fun z => eqV z (.int (f i : Nat))) ≤ 1 := by
  rw [List.countP_map]
  have e : (List.range n).countP ((fun z => eqV z (.int (f i : Nat))) ∘ fun b => V.int (f b : Nat)) = (List.range n).count i := by
    refine List.countP_congr fun b hb => ?_
    show eqV (.int (f b : Nat)) (.int (f i : Nat)) = true ↔ (b == i) = true
    rw [eqV_nat, beq_iff_eq, beq_iff_eq]
    exact ⟨fun z => h b i (List.mem_range.mp hb) hi z, fun z => by rw [z]⟩
  rw [e]
  exact List.nodup_iff_count.mp List.nodup_range i
variable {w W_ : World} {K : PySem.W.Frag} {mg : Str → Option Value} {base : Heap}
theorem seq_new {H0 H H' : Hp} {p a : Addr} {xs : List V} (n : H0 p = none) (s : Same H0 H) (e : But p H H') (h : SqL K H0 a xs) : SqL K H' a xs := by
  rcases h with h | h
  · have ne : a ≠ p := fun z => by
      rcases h with h | ⟨o, h⟩ <;> (rw [z, n] at h; cases h)
    exact e.seq ne (s.seq (.inl h))
  · exact .inr h
def sp_downl (K : PySem.W.Frag) (mm : List (Str × Addr)) (C : Addr) : Sp := fun vs H Q _ => ∃ (p dx a b : Addr) (xs : List Str) (ps : List (Nat × Nat)), vs = [.ref p, .ref a, .ref b] ∧ H p = some (.ins C dx []) ∧ SqL K H a (xs.map V.str) ∧ PairsAt K H b xs ps ∧ a ≠ p ∧ b ≠ p ∧ 1 ≤ xs.length ∧ xs.length ≤ 6 ∧ xs.Nodup ∧ (∀ x ∈ xs, NameW x) ∧ ps.length ≤ 1000 ∧ Anti xs.length ps ∧
  ∀ H', But p H H' → IsLat K mm H' p (downL xs ps) → Q .non H'
theorem ok_downl (T : Tx K mg W_) : FnOk PL w K mg base CX0 3 T.a_DownLattice_init T.d_DownLattice_init ["self", "names", "pairs"] (sp_downl K T.mm T.a_DownLattice) := by
  have G_Lattice_init := ok_lat_init (P := PL) (w := w) (base := base) T
  have G_check_names := ok_check (P := PL) (w := w) (base := base) T
  have G_closed_downs := ok_closed (P := PL) (w := w) (base := base) T
  have G_pair_words := ok_pwords (P := PL) (w := w) (base := base) T
  have G_parts_among := ok_parts (P := PL) (w := w) (base := base) T
  obtain ⟨u4, B4⟩ := T.b4_Lattice_init
  refine T.F_DownLattice_init.ok sc_DownLattice_init (by rfl) (by rfl) (by rfl) ⟨_, rfl, rfl⟩ (by decide +kernel) T.ci_DownLattice T.n_super T.st_any (fun vs H Q E h => ?_) (fun cda cc A outer s H vs Q E hr S h => ?_)
  · obtain ⟨p, dx, a, b, xs, ps, rfl, _⟩ := h
    rfl
  obtain ⟨p, dx, a, b, xs, ps, rfl, hp, ha, hb, na, nb, n1, n6, nd, nw, pz, anti, q⟩ := h
  refine ⟨_, psa_cons (ps_expr (pe_call G_check_names (hr.mono (by omega)) (by rfl) T.g_check_names T.F_check_names.kp T.b_check_names .nil pass0 (pa_cons (pv 1) (pa_cons pe_int pa_nil))))
    (psa_cons (ps_set (i := 3) sc_DownLattice_init.nd rfl (Or.inr rfl) (pe_call G_closed_downs (hr.mono (by omega)) (by rfl) T.g_closed_downs T.F_closed_downs.kp T.b_closed_downs .nil pass0 (pa_cons (pv 1) (pa_cons (pv 2) pa_nil))))
    (psa_cons (ps_set (i := 4) sc_DownLattice_init.nd rfl (Or.inr rfl) (pe_listRg rfl (by rfl) T.n_list (prg_1 (by rfl) T.n_range (pe_callB call_len_seq (by rfl) T.n_len (by decide +kernel) (pa_cons (pv 1) pa_nil)))))
    (psa_cons (ps_if (pt_val (pe_callB (cr_any rfl) (by rfl) T.n_any (by decide +kernel) (pa_cons (pe_lc (own := [("row", 5)]) (g := gName 5) (tt := tYes) rfl sc_DownLattice_init.nd (pi_list (pv 3)) (blkOk_by (N := N_DownLattice_init) (sc := defScope St_DownLattice_init) (by decide +kernel)) (fun _ _ _ _ _ => (pg_name (i := 5) sc_DownLattice_init.nd rfl (Or.inl rfl))) (fun _ _ _ _ _ => pts_nil) (fun _ _ _ _ _ => (pe_cmpR op_gt (kx_bm K (pe_bm PySem.F.plainAttrs_list PySem.F.slot_list_count PySem.F.type_list_count (kx_mt_countF K) (pv 3) (pa_cons (pv 5) pa_nil))) pe_int (nomark _)))) pa_nil))) (pss_one ps_dead) pss_nil)
    (psa_cons (ps_set (i := 6) sc_DownLattice_init.nd rfl (Or.inr rfl) (pe_lst pa_nil))
    (psa_cons (ps_for (passes_of rfl) rfl (pi_range1 (by rfl) T.n_range (pa_cons (pe_op op_shl pe_int (pe_callB call_len_seq (by rfl) T.n_len (by decide +kernel) (pa_cons (pv 1) pa_nil))) pa_nil)) (pg_name (i := 7) sc_DownLattice_init.nd rfl (Or.inr rfl)) (pss_one (ps_if (pt_val (pe_callB (cr_all rfl) (by rfl) T.n_all (by decide +kernel) (pa_cons (pe_lc (own := [("place", 8)]) (g := gName 8) rfl sc_DownLattice_init.nd (pi_list (pv 4)) (blkOk_by (N := N_DownLattice_init) (sc := defScope St_DownLattice_init) (by decide +kernel)) (fun _ _ _ _ _ => (pg_name (i := 8) sc_DownLattice_init.nd rfl (Or.inl rfl))) (fun _ _ _ _ _ => (pts_one (pt_cmpR op_eq (pe_op op_and (pe_op op_shr (pv 7) (pv 8)) pe_int) pe_int (nomark _)))) (fun _ _ _ _ _ => (pe_cmpR op_eq (pe_op op_and (pe_ix (kx_ix_list K) (pv 3) (pv 8) (fun _ _ => rfl)) (pe_un un_inv (pv 7))) pe_int (nomark _)))) pa_nil))) (pss_one (ps_expr (pe_bm PySem.F.plainAttrs_list PySem.F.slot_list_append PySem.F.type_list_append mt_append (pv 6) (pa_cons (pv 7) pa_nil)))) pss_nil)))
    (psa_cons (ps_setLc (i := 9) (own := [("heap", 10)]) (g := gName 10) (tt := tYes) rfl sc_DownLattice_init.nd rfl rfl (sw_true rfl rfl rfl (by decide +kernel)) (pi_list (pv 6)) (blkOk_by (N := N_DownLattice_init) (sc := defScope St_DownLattice_init) (by decide +kernel)) (fun _ _ _ _ _ => (pg_name (i := 10) sc_DownLattice_init.nd rfl (Or.inr rfl))) (fun _ _ _ _ _ => pts_nil) (fun _ _ _ _ _ => (kx_pe_join K (pe_join pe_str (pe_lc (own := [("place", 8)]) (g := gName 8) rfl sc_DownLattice_init.nd (kx_pi_list K (pi_list (pv 4))) (blkOk_by (N := N_DownLattice_init) (by first | rfl | kernel_rfl)) (fun _ _ _ _ _ => (pg_name (i := 8) sc_DownLattice_init.nd rfl (Or.inl rfl))) (fun _ _ _ _ _ => (pts_one (pt_cmpR op_eq (pe_op op_and (pe_op op_shr (pv 10) (pv 8)) pe_int) pe_int (nomark _)))) (fun _ _ _ _ _ => (pe_ix (kx_ix_list K) (pv 1) (pv 8) (fun _ _ => rfl))))))))
    (psa_cons (ps_set (i := 11) sc_DownLattice_init.nd rfl (Or.inl rfl) (pe_joinedT (.cons pe_str (.cons (pe_fmt (pe_join pe_str (pv 1))) (.cons pe_str (.cons (pe_fmt (pe_call G_pair_words (hr.mono (by omega)) (by rfl) T.g_pair_words T.F_pair_words.kp T.b_pair_words .nil pass0 (pa_cons (pv 2) pa_nil))) (.cons pe_str PJ.nil)))))))
    (psa_super (dvs := [.int 1]) S rfl (pa_cons (pv 11) (pa_cons (pe_lc (own := [("word", 12)]) (g := gName 12) (tt := tYes) rfl sc_DownLattice_init.nd (pi_list (pv 9)) (blkOk_by (N := N_DownLattice_init) (sc := defScope St_DownLattice_init) (by decide +kernel)) (fun _ _ _ _ _ => (pg_name (i := 12) sc_DownLattice_init.nd rfl (Or.inl rfl))) (fun _ _ _ _ _ => pts_nil) (fun _ _ _ _ _ => (pe_op op_add_str (pe_op op_add_str pe_str (pv 12)) pe_str))) (pa_cons (pe_lc (own := [("heap", 10)]) (g := gName 10) (tt := tYes) rfl sc_DownLattice_init.nd (pi_list (pv 6)) (blkOk_by (N := N_DownLattice_init) (sc := defScope St_DownLattice_init) (by decide +kernel)) (fun _ _ _ _ _ => (pg_name (i := 10) sc_DownLattice_init.nd rfl (Or.inl rfl))) (fun _ _ _ _ _ => pts_nil) (fun _ _ _ _ _ => (pe_call G_parts_among (hr.mono (by omega)) (by rfl) T.g_parts_among T.F_parts_among.kp T.b_parts_among .nil pass0 (pa_cons (pv 6) (pa_cons (pv 10) pa_nil))))) pa_nil))) G_Lattice_init (hr.mono (by omega)) B4 (.cons ⟨_, rfl⟩ .nil) pass0 T.ty_Lattice T.fi_Lattice (by decide) rfl rfl rfl rfl rfl (psa_any pss_nil))))))))), ?_⟩
  refine ⟨_, rfl, a, xs, 6, rfl, ha, n1, n6, nd, nw, fun H1 s1 => ?_⟩
  refine ⟨_, rfl, _, rfl, a, b, xs, ps, rfl, s1.seq ha, hb.same s1, nd, by omega, pz, fun l H2 s2 hl h2 => ?_⟩
  have p2 := s2 _ _ (s1 _ _ hp)
  have s02 := s1.trans s2
  have ha2 := s02.seq ha
  have lpn : l ≠ p := ne_of h2 p2 (by intro z; cases z)
  refine ⟨_, rfl, a, _, rfl, .inl ha2, ?_⟩
  rw [List.length_map]
  refine ⟨_, rfl, RgOk.of_le (by decide) (by omega) (by decide) (by omega), newQ (.lst (rgV 0 (xs.length : Nat))) fun pl hpl s3 h3 => ?_⟩
  rw [rg_nat] at s3 h3
  rw [rg_nat]
  generalize upd H2 pl (.lst (natV (List.range xs.length))) = H3 at s3 h3 ⊢
  have p3 := s3 _ _ p2
  have h23 := s3 _ _ h2
  have s03 := s02.trans s3
  have ha3 := s03.seq ha
  have fd : ∀ z ∈ List.range xs.length, V.int ((mask xs.length fun a => reachB ps a z : Nat) : Int) = V.int (dn xs.length ps z : Nat) := fun _ _ => rfl
  have em : maskV xs.length (fun b a => reachB ps a b) = (List.range xs.length).map fun b => V.int (dn xs.length ps b : Nat) := rfl
  rw [em] at h23
  have hl3 : SqL K H3 l _ := SqL.of (K := K) h23
  refine ⟨_, rfl, l, rfl, ⟨_, hl3⟩, fun D hD => ?_⟩
  refine lc_fold (walk_list (K := K) (a := l) (xs := (List.range xs.length).map fun b => V.int (dn xs.length ps b : Nat))) hD (fun i _ ys => i ≤ xs.length ∧ ys = List.replicate i (V.bl false)) (fun _ => ⟨Nat.zero_le _, rfl⟩) (fun i _ _ xs _ h => h) ?_ (fun H9 s9 => s9.seq hl3) ?_ ?_
  · rintro i _ ys ⟨hi, rfl⟩
    rw [List.length_replicate]; omega
  · rintro i x H4 H5 ys Nx Ex hi s4 ⟨_, rfl⟩ ⟨rfl, ex⟩ k1 k2
    obtain ⟨hi, rfl⟩ := at_map' ex
    refine ⟨rfl, ?_⟩
    refine lcY ?_
    refine ⟨_, rfl, .inl ⟨rfl, _, s4.seq hl3⟩, _, rfl, l, _, _, rfl, rfl, s4.seq hl3, rfl, flat_ints _ _, _, _, rfl, rfl, k1 _ _ (Same.refl _) ⟨hi, ?_⟩⟩
    have c := count_dn (f := dn xs.length ps) (fun a b => dn_inj anti) hi
    rw [List.replicate_succ']
    have e : decide ((1 : Int) < (((List.range xs.length).map fun b => V.int (dn xs.length ps b : Nat)).countP (fun z => eqV z (.int (dn xs.length ps i : Nat))) : Nat)) = false := decide_eq_false (by omega)
    show _ ++ [V.bl (decide ((1 : Int) < _))] = _
    rw [e]
  rintro H4 ys s4 h4 ⟨_, rfl⟩
  rw [List.length_map, List.length_range] at h4
  refine ⟨D, List.replicate xs.length false, rfl, SqL.of (K := K) (by rw [h4, List.map_replicate]), _, rfl, ?_⟩
  rw [any_falses]
  refine iteF ?_
  refine ⟨by show 0 ≤ sizeLine; decide, newQ (.lst []) fun hh hhn s5 h5 => ?_⟩
  generalize upd H4 hh (.lst []) = H5 at s5 h5 ⊢
  have s35 := s4.trans s5
  have s05 := s03.trans s35
  have ha5 := s05.seq ha
  have two : 2 ^ xs.length ≤ 64 := Nat.le_trans (Nat.pow_le_pow_right (by decide) n6) (by decide)
  refine ⟨_, rfl, a, _, rfl, .inl ha5, _, _, rfl, rfl, ?_⟩
  rw [List.length_map]
  refine ⟨⟨Int.natCast_nonneg _, by omega, by decide⟩, ?_⟩
  refine ⟨((2 ^ xs.length : Nat) : Int), by show [V.int ((1 : Int) * 2 ^ ((xs.length : Int)).toNat)] = _; rw [one_shl], Int.le_trans (by decide) (Int.natCast_nonneg _), Int.lt_of_le_of_lt (Int.ofNat_le.mpr two) (by decide), ?_⟩
  have pl3 : SqL K H3 pl (natV (List.range xs.length)) := SqL.of (K := K) h3
  have pl5 := s35.seq pl3
  have hl5 := s35.seq hl3
  refine for_it walk_range (fun i σ H6 => ∃ v7 v8, σ = [some (.ref p), some (.ref a), some (.ref b), some (.ref l), some (.ref pl), none, some (.ref hh), v7, v8, none, none, none, none] ∧ But hh H5 H6 ∧ H6 hh = some (.lst (natV ((List.range i).filter (heapB xs.length ps))))) ⟨_, _, rfl, But.refl _ _, h5⟩ (fun _ _ _ _ _ => trivial) ?_ ?_
  · rintro h x σ H6 H7 hi ⟨v7, v8, rfl, b6, h6⟩ ⟨rfl, ex⟩
    obtain rfl := yfn0 ex
    have hi : h < 2 ^ xs.length := hi
    have npl : pl ≠ hh := fun z => by have := s4 _ _ h3; rw [z, hhn] at this; cases this
    have nl : l ≠ hh := fun z => by have := s4 _ _ h23; rw [z, hhn] at this; cases this
    have pl7 := b6.seq npl pl5
    have hl7 := b6.seq nl hl5
    refine ⟨_, rfl, pl, rfl, ⟨_, pl7⟩, fun D2 hD2 => ?_⟩
    refine lc_fold (walk_list (K := K) (a := pl) (xs := natV (List.range xs.length))) hD2 (fun j _ ys => j ≤ xs.length ∧ ys = (((List.range j).filter h.testBit).map fun a => part (dn xs.length ps a) h).map V.bl) (fun _ => ⟨Nat.zero_le _, rfl⟩) (fun i _ _ xs _ h => h) ?_ (fun H9 s9 => s9.seq pl7) ?_ ?_
    · rintro j _ ys ⟨hj, rfl⟩
      rw [List.length_map, List.length_map]
      have := filter_le h.testBit j
      omega
    · rintro j x H8 H9 ys Nx Ex hj s8 ⟨_, rfl⟩ ⟨rfl, ex⟩ k1 k2
      obtain ⟨hj, rfl⟩ := at_map' ex
      refine ⟨rfl, ?_⟩
      refine ⟨_, rfl, _, rfl, _, _, rfl, rfl, Int.natCast_nonneg _, _, _, rfl, rfl, rfl, _, rfl, ?_⟩
      show if decide (V.int (Builtin.bitAnd ((h : Int) / 2 ^ ((j : Nat) : Int).toNat) 1) = V.int 1) = true then _ else _
      rw [dec_int, Int.toNat_natCast, bit_is]
      refine ite2 (fun c => ?_) (fun c => ?_)
      · refine ⟨_, rfl, _, rfl, l, _, _, _, rfl, rfl, s8.seq hl7, atI_nat (at_map hj), _, rfl, _, rfl, _, _, rfl, rfl, rfl, k1 _ _ (Same.refl _) ⟨hj, ?_⟩⟩
        rw [filter_snoc, if_pos c, List.map_append, List.map_append]
        exact congrArg (fun z => List.map V.bl (List.map (fun a => part (dn xs.length ps a) h) (List.filter h.testBit (List.range j))) ++ [V.bl z]) (part_is _ _)
      · refine k2 _ (Same.refl _) ⟨hj, ?_⟩
        rw [filter_snoc, if_neg c, List.append_nil]
    · rintro H8 ys s8 h8 ⟨_, rfl⟩
      rw [natV_length, List.length_range] at h8
      refine ⟨D2, _, rfl, SqL.of (K := K) h8, _, rfl, ?_⟩
      have e : List.all (((List.range xs.length).filter h.testBit).map fun a => part (dn xs.length ps a) h) id = heapB xs.length ps h := by
        unfold heapB
        rw [List.all_map]
        rfl
      rw [e]
      have b8 : But hh H5 H8 := b6.trans (s8.but hh)
      have h68 := s8 _ _ h6
      refine ite2 (fun c => ?_) (fun c => ?_)
      · refine ⟨_, rfl, .inl ⟨rfl, _, SqL.of (K := K) h68⟩, _, rfl, hh, _, _, rfl, rfl, h68, ?_, ?_⟩
        · rw [natV_length]
          exact Nat.lt_of_le_of_lt (Nat.le_trans (filter_le _ _) (Nat.le_of_lt hi)) (Nat.lt_of_le_of_lt two (by decide))
        · refine ⟨some (.int (h : Nat)), v8, rfl, b8.upd _, ?_⟩
          rw [upd_same, filter_snoc, if_pos c, natV_append]
          rfl
      · refine ⟨_, _, rfl, b8, ?_⟩
        rw [filter_snoc, if_neg c, List.append_nil]
        exact h68
  rintro σ H6 ⟨v7, v8, rfl, b6, h6⟩
  have npl : pl ≠ hh := fun z => by have := s4 _ _ h3; rw [z, hhn] at this; cases this
  have ha6 : SqL K H6 a (xs.map V.str) := seq_new hhn s5 b6 (s03.trans s4 |>.seq ha)
  have k46 : Keeps H4 H6 := s5.keeps.trans (b6.keeps h5 trivial)
  have hb6 : PairsAt K H6 b xs ps := (hb.same (s03.trans s4)).to k46 fun _ q => seq_new hhn s5 b6 q
  have nph : p ≠ hh := fun z => by have := s4 _ _ p3; rw [z, hhn] at this; cases this
  have p6 := b6 _ _ nph (s35 _ _ p3)
  have h6 : H6 hh = some (.lst (natV (heaps xs.length ps))) := h6
  have lh : (heaps xs.length ps).length ≤ 64 := Nat.le_trans (heaps_le _ _) two
  have pl6 := b6.seq npl pl5
  have b46 : Same H4 H6 := fun z o e => b6 _ _ (fun y => by subst y; rw [hhn] at e; cases e) (s5 _ _ e)
  have s06 := (s03.trans s4).trans b46
  generalize hhs : heaps xs.length ps = hs at h6 lh
  have hsd : ∀ g, ∀ z ∈ heapIn xs g, z.length ≤ 12 := fun g z hz => by
    obtain ⟨c, hc, rfl⟩ := List.mem_map.mp hz
    have hc := List.mem_range.mp (List.mem_filter.mp hc).1
    rw [List.getD_eq_getElem?_getD, List.getElem?_eq_getElem hc]
    exact (nw _ (List.getElem_mem hc)).le
  have hsl : ∀ g, (heapIn xs g).length ≤ 6 := fun g => by
    unfold heapIn
    rw [List.length_map]
    exact Nat.le_trans (filter_le _ _) n6
  refine ⟨_, rfl, hh, rfl, ⟨_, SqL.of (K := K) h6⟩, fun D1 hD1 => ?_⟩
  refine lc_fold (walk_list (K := K) (a := hh) (xs := natV hs)) hD1 (fun i _ ys => i ≤ hs.length ∧ ys = (hs.take i).map fun g => V.str (PySem.Txt.join "," (heapIn xs g))) (fun _ => ⟨Nat.zero_le _, rfl⟩) (fun i _ _ xs _ h => h) ?_ (fun H9 s9 => s9.seq (SqL.of (K := K) h6)) ?_ ?_
  · rintro i _ ys ⟨hi, rfl⟩
    rw [List.length_map, List.length_take]; omega
  · rintro i x H7 H8 ys Nx Ex hi s7 ⟨_, rfl⟩ ⟨rfl, ex⟩ k1 k2
    rw [natV_length] at hi
    have eg : hs[i]? = some hs[i] := List.getElem?_eq_getElem hi
    generalize hs[i] = g at eg
    have ex : x = .int (g : Nat) := by
      have : (natV hs)[i]? = some x := ex
      unfold natV at this
      rw [List.getElem?_map, eg] at this
      exact (Option.some.inj this).symm
    subst ex
    refine ⟨rfl, ?_⟩
    refine lcY ?_
    refine ⟨⟨_, rfl⟩, ?_⟩
    refine ⟨_, rfl, pl, rfl, ⟨_, s7.seq pl6⟩, fun D2 hD2 => ?_⟩
    refine lc_fold (walk_list (K := K) (a := pl) (xs := natV (List.range xs.length))) hD2 (fun j _ ys => j ≤ xs.length ∧ ys = (((List.range j).filter g.testBit).map fun a => xs.getD a Str.empty).map V.str) (fun _ => ⟨Nat.zero_le _, rfl⟩) (fun i _ _ xs _ h => h) ?_ (fun H9 s9 => s9.seq (s7.seq pl6)) ?_ ?_
    · rintro j _ ys ⟨hj, rfl⟩
      rw [List.length_map, List.length_map]
      have := filter_le g.testBit j
      omega
    · rintro j x H9 H10 ys Nx2 Ex2 hj s9 ⟨_, rfl⟩ ⟨e10, ex⟩ k3 k4
      obtain rfl : H9 = H10 := e10.symm
      obtain ⟨hj, rfl⟩ := at_map' ex
      refine ⟨rfl, ?_⟩
      refine ⟨_, rfl, _, rfl, _, _, rfl, rfl, Int.natCast_nonneg _, _, _, rfl, rfl, rfl, _, rfl, ?_⟩
      show if decide (V.int (Builtin.bitAnd ((g : Int) / 2 ^ ((j : Nat) : Int).toNat) 1) = V.int 1) = true then _ else _
      rw [dec_int, Int.toNat_natCast, bit_is]
      have ha9 := (s7.trans s9).seq ha6
      refine ite2 (fun c => ?_) (fun c => ?_)
      · have aj : (xs.map V.str)[j]? = some (.str xs[j]) := by rw [List.getElem?_map, List.getElem?_eq_getElem hj]; rfl
        refine ⟨_, rfl, _, rfl, a, _, _, _, rfl, rfl, ha9, atI_nat aj, k3 _ _ (Same.refl _) ⟨hj, ?_⟩⟩
        rw [filter_snoc, if_pos c, List.map_append, List.map_append]
        show _ ++ [V.str xs[j]] = _ ++ [V.str (xs.getD j Str.empty)]
        rw [List.getD_eq_getElem?_getD, List.getElem?_eq_getElem hj]
        rfl
      · refine k4 _ (Same.refl _) ⟨hj, ?_⟩
        rw [filter_snoc, if_neg c, List.append_nil]
    · rintro H9 ys s9 h9 ⟨_, rfl⟩
      rw [natV_length, List.length_range] at h9
      refine ⟨",", D2, heapIn xs g, rfl, rfl, .inl (SqL.of (K := K) h9), Nat.le_trans (join_le (sep := ",") (by decide) (hsd g) (hsl g)).2 (by decide), k1 _ _ s9 ⟨hi, ?_⟩⟩
      rw [take_snoc eg, List.map_append]
      rfl
  rintro H7 ys s7 h7 ⟨_, rfl⟩
  rw [natV_length, List.take_length] at h7
  have hj7 : H7 D1 = some (.lst (hs.map fun g => V.str (PySem.Txt.join "," (heapIn xs g)))) := h7
  have p7 := s7 _ _ p6
  have ha7 := s7.seq ha6
  have hb7 := hb6.same s7
  have h67 := s7 _ _ h6
  have lx : ∀ x ∈ xs, x.length ≤ 12 := fun x hx => (nw x hx).le
  obtain ⟨j1, j2⟩ := join_le (sep := " ") (by decide) lx n6
  obtain ⟨k1, k2⟩ := join_le (sep := " ") (by decide) (pairW_len lx ps) (by show (List.map _ ps).length ≤ 1000; rw [List.length_map]; exact pz)
  have o0 : (Str.empty).length = 0 := rfl
  have o1 : ("(downs (" : Str).length = 8 := rfl
  have o2 : (") (" : Str).length = 3 := rfl
  have o3 : ("))" : Str).length = 2 := rfl
  refine ⟨"(downs (", rfl, by decide, ⟨_, rfl⟩, _, rfl, " ", a, xs, rfl, rfl, .inl ha7, by omega, .inl ⟨_, rfl, small_line (by omega), _, rfl, small_line (by rw [Str.length_append, Str.length_append]; omega), ") (", rfl, small_line (by rw [Str.length_append, Str.length_append, Str.length_append]; omega), ?_⟩⟩
  refine ⟨_, rfl, b, xs, ps, rfl, hb7, pz, lx, fun H8 s8 => .inl ⟨_, rfl, small_line (by omega), _, rfl, small_line (by rw [Str.length_append, Str.length_append, Str.length_append, Str.length_append]; omega), "))", rfl, small_line (by rw [Str.length_append, Str.length_append, Str.length_append, Str.length_append, Str.length_append]; omega), ?_⟩⟩
  have p8 := s8 _ _ p7
  have w8 := s8 _ _ hj7
  have h68 := s8 _ _ h67
  have s08 := (s06.trans s7).trans s8
  refine ⟨p, _, dx, _, rfl, p8, T.mr_DownLattice, T.su_DownLattice, ?_⟩
  refine ⟨_, rfl, ?_⟩
  refine ⟨_, rfl, D1, rfl, ⟨_, SqL.of (K := K) w8⟩, fun D2 hD2 => ?_⟩
  refine lc_fold (walk_list (K := K) (a := D1) (xs := hs.map fun g => V.str (PySem.Txt.join "," (heapIn xs g)))) hD2 (fun i _ ys => i ≤ hs.length ∧ ys = (hs.take i).map fun g => V.str (heapNm xs g)) (fun _ => ⟨Nat.zero_le _, rfl⟩) (fun i _ _ xs _ h => h) ?_ (fun H9 s9 => s9.seq (SqL.of (K := K) w8)) ?_ ?_
  · rintro i _ ys ⟨hi, rfl⟩
    rw [List.length_map, List.length_take]; omega
  · rintro i x H9 H10 ys Nx Ex hi s9 ⟨_, rfl⟩ ⟨e10, ex⟩ k1 k2
    obtain rfl : H9 = H10 := e10.symm
    rw [List.length_map] at hi
    have eg : hs[i]? = some hs[i] := List.getElem?_eq_getElem hi
    generalize hs[i] = g at eg
    have ex : x = .str (PySem.Txt.join "," (heapIn xs g)) := by
      have : (hs.map fun g => V.str (PySem.Txt.join "," (heapIn xs g)))[i]? = some x := ex
      rw [List.getElem?_map, eg] at this
      exact (Option.some.inj this).symm
    subst ex
    refine ⟨rfl, ?_⟩
    refine lcY ?_
    have jl := (join_le (sep := ",") (by decide) (hsd g) (hsl g)).1
    have o4 : ("{" : Str).length = 1 := rfl
    have o5 : ("}" : Str).length = 1 := rfl
    refine ⟨_, rfl, _, _, rfl, rfl, small_line (by omega), _, _, rfl, rfl, small_line (by rw [Str.length_append]; omega), k1 _ _ (Same.refl _) ⟨hi, ?_⟩⟩
    rw [take_snoc eg, List.map_append]
    rfl
  rintro H9 ys s9 h9 ⟨_, rfl⟩
  rw [List.length_map, List.take_length] at h9
  have h69 := s9 _ _ h68
  refine ⟨_, rfl, hh, rfl, ⟨_, SqL.of (K := K) h69⟩, fun D3 hD3 => ?_⟩
  refine lc_fold (walk_list (K := K) (a := hh) (xs := natV hs)) hD3 (fun i _ ys => i ≤ hs.length ∧ ys = (List.range i).map fun b => V.int ((downL xs ps).down b : Nat)) (fun _ => ⟨Nat.zero_le _, rfl⟩) (fun i _ _ xs _ h => h) ?_ (fun H9 s9 => s9.seq (SqL.of (K := K) h69)) ?_ ?_
  · rintro i _ ys ⟨hi, rfl⟩
    rw [List.length_map, List.length_range]; omega
  · rintro i x H10 H11 ys Nx Ex hi s10 ⟨_, rfl⟩ ⟨e11, ex⟩ k1 k2
    obtain rfl : H10 = H11 := e11.symm
    rw [natV_length] at hi
    have eg : hs[i]? = some hs[i] := List.getElem?_eq_getElem hi
    have ex : x = .int (hs.getD i 0 : Nat) := by
      have : (natV hs)[i]? = some x := ex
      unfold natV at this
      rw [List.getElem?_map, eg] at this
      rw [List.getD_eq_getElem?_getD, eg]
      exact (Option.some.inj this).symm
    subst ex
    refine ⟨rfl, ?_⟩
    refine lcY ?_
    have hv : natV hs = (List.range hs.length).map fun i => V.int (hs.getD i 0 : Nat) := by
      refine List.ext_getElem? fun k => ?_
      unfold natV
      rw [List.getElem?_map, List.getElem?_map]
      rcases Nat.lt_or_ge k hs.length with z | z
      · rw [List.getElem?_range z, List.getElem?_eq_getElem z]
        show some _ = some (V.int (hs.getD k 0 : Nat))
        rw [List.getD_eq_getElem?_getD, List.getElem?_eq_getElem z]
        rfl
      · rw [List.getElem?_eq_none z, List.getElem?_eq_none (by rw [List.length_range]; exact z)]
        rfl
    refine ⟨_, rfl, _, rfl, hh, hs.length, hs.getD i 0, fun i => hs.getD i 0, rfl, by rw [← hv]; exact s10.seq (SqL.of (K := K) h69), by omega, fun H12 s12 => k1 _ _ s12 ⟨hi, ?_⟩⟩
    rw [List.range_succ, List.map_append]
    show _ = _ ++ [V.int ((mask (downL xs ps).n fun a => part ((heaps xs.length ps).getD a 0) ((heaps xs.length ps).getD i 0) : Nat) : Int)]
    rw [downL_n, hhs]
  rintro H10 ys s10 h10 ⟨_, rfl⟩
  rw [natV_length] at h10
  have p10 := s10 _ _ (s9 _ _ p8)
  have h910 := s10 _ _ h9
  have en : (downL xs ps).names.map V.str = hs.map fun g => V.str (heapNm xs g) := by
    show ((heaps xs.length ps).map (heapNm xs)).map V.str = _
    rw [hhs, List.map_map]
    rfl
  refine ⟨p, D2, D3, _, dx, [], downL xs ps, ?_, p10, T.lc_DownLattice, by decide, fun _ _ => rfl, ne_of h910 p10 (by intro z; cases z), SqL.of (K := K) (by rw [en]; exact h910), .inl ⟨ne_of h10 p10 (by intro z; cases z), SqL.of (K := K) (by rw [h10]; unfold downsV; rw [downL_n, hhs])⟩, by rw [downL_n, hhs]; exact lh, fun H11 fs tn td tu b11 A _ => ?_⟩
  · rw [empty_app]; rfl
  · exact q H11 (((s08.trans (s9.trans s10)).but p).trans b11) ⟨_, _, _, _, _, _, A⟩
end
/-! ### the plain law: regular lattices -/
namespace Lt
def IsJ (L : Lt) (a b k : Nat) : Prop := k < L.n ∧ ∀ i, i < L.n → L.le k i = (L.le a i && L.le b i)
def IsM (L : Lt) (a b k : Nat) : Prop := k < L.n ∧ ∀ i, i < L.n → L.le i k = (L.le i a && L.le i b)
structure Reg (L : Lt) : Prop where
  ord : L.Ord
  trans : ∀ a b c, a < L.n → b < L.n → c < L.n → L.le a b = true → L.le b c = true → L.le a c = true
  bot : ∃ k, k < L.n ∧ ∀ i, i < L.n → L.le k i = true
  top : ∃ k, k < L.n ∧ ∀ i, i < L.n → L.le i k = true
  J : ∀ a b, a < L.n → b < L.n → ∃ k, L.IsJ a b k
  M : ∀ a b, a < L.n → b < L.n → ∃ k, L.IsM a b k
  dist : ∀ a b c j m1 m2 r x, a < L.n → b < L.n → c < L.n → x < L.n → L.IsJ b c j → L.IsM a b m1 → L.IsM a c m2 → L.IsJ m1 m2 r → L.le x a = true → L.le x j = true → L.le x r = true
  codist : ∀ a b c j m1 m2 r x, a < L.n → b < L.n → c < L.n → x < L.n → L.IsM b c j → L.IsJ a b m1 → L.IsJ a c m2 → L.IsM m1 m2 r → L.le a x = true → L.le j x = true → L.le r x = true
def jn (L : Lt) (a b : Nat) : Nat := (L.join a b).getD 0
def mt (L : Lt) (a b : Nat) : Nat := (L.meet a b).getD 0
def low (L : Lt) : Nat := L.bot.getD 0
def high (L : Lt) : Nat := L.top.getD 0
namespace Reg
variable {L : Lt} (R : L.Reg)
include R
theorem refl {a : Nat} (h : a < L.n) : L.le a a = true := R.ord.refl a h
theorem pos : 1 ≤ L.n := by
  obtain ⟨k, h, _⟩ := R.bot
  omega
theorem isJ {a b : Nat} (ha : a < L.n) (hb : b < L.n) : L.join a b = some (L.jn a b) ∧ L.IsJ a b (L.jn a b) := by
  obtain ⟨k, hk, h⟩ := R.J a b ha hb
  have e := R.ord.join hk h
  unfold Lt.jn
  rw [e]
  exact ⟨rfl, hk, h⟩
theorem isM {a b : Nat} (ha : a < L.n) (hb : b < L.n) : L.meet a b = some (L.mt a b) ∧ L.IsM a b (L.mt a b) := by
  obtain ⟨k, hk, h⟩ := R.M a b ha hb
  have e := R.ord.meet hk h
  unfold Lt.mt
  rw [e]
  exact ⟨rfl, hk, h⟩
theorem isLow : L.bot = some L.low ∧ L.low < L.n ∧ ∀ i, i < L.n → L.le L.low i = true := by
  obtain ⟨k, hk, h⟩ := R.bot
  have e := R.ord.bot hk h
  unfold Lt.low
  rw [e]
  exact ⟨rfl, hk, h⟩
theorem isHigh : L.top = some L.high ∧ L.high < L.n ∧ ∀ i, i < L.n → L.le i L.high = true := by
  obtain ⟨k, hk, h⟩ := R.top
  have e := R.ord.top hk h
  unfold Lt.high
  rw [e]
  exact ⟨rfl, hk, h⟩
theorem jlt {a b : Nat} (ha : a < L.n) (hb : b < L.n) : L.jn a b < L.n := (R.isJ ha hb).2.1
theorem mlt {a b : Nat} (ha : a < L.n) (hb : b < L.n) : L.mt a b < L.n := (R.isM ha hb).2.1
theorem jle {a b i : Nat} (ha : a < L.n) (hb : b < L.n) (hi : i < L.n) : L.le (L.jn a b) i = (L.le a i && L.le b i) := (R.isJ ha hb).2.2 i hi
theorem mle {a b i : Nat} (ha : a < L.n) (hb : b < L.n) (hi : i < L.n) : L.le i (L.mt a b) = (L.le i a && L.le i b) := (R.isM ha hb).2.2 i hi
theorem eqUp {a b : Nat} (ha : a < L.n) (hb : b < L.n) (h : ∀ i, i < L.n → L.le a i = L.le b i) : a = b :=
  R.ord.anti a b ha hb (by rw [h b hb]; exact R.refl hb) (by rw [← h a ha]; exact R.refl ha)
theorem eqDn {a b : Nat} (ha : a < L.n) (hb : b < L.n) (h : ∀ i, i < L.n → L.le i a = L.le i b) : a = b :=
  R.ord.anti a b ha hb (by rw [← h a ha]; exact R.refl ha) (by rw [h b hb]; exact R.refl hb)
theorem jl {a b : Nat} (ha : a < L.n) (hb : b < L.n) : L.le a (L.jn a b) = true ∧ L.le b (L.jn a b) = true := by
  have := R.jle ha hb (R.jlt ha hb)
  rw [R.refl (R.jlt ha hb)] at this
  simpa using this.symm
theorem ml {a b : Nat} (ha : a < L.n) (hb : b < L.n) : L.le (L.mt a b) a = true ∧ L.le (L.mt a b) b = true := by
  have := R.mle ha hb (R.mlt ha hb)
  rw [R.refl (R.mlt ha hb)] at this
  simpa using this.symm
theorem jj {a : Nat} (ha : a < L.n) : L.jn a a = a := R.eqUp (R.jlt ha ha) ha fun i hi => by rw [R.jle ha ha hi, Bool.and_self]
theorem mm {a : Nat} (ha : a < L.n) : L.mt a a = a := R.eqDn (R.mlt ha ha) ha fun i hi => by rw [R.mle ha ha hi, Bool.and_self]
theorem jc {a b : Nat} (ha : a < L.n) (hb : b < L.n) : L.jn a b = L.jn b a := R.eqUp (R.jlt ha hb) (R.jlt hb ha) fun i hi => by rw [R.jle ha hb hi, R.jle hb ha hi, Bool.and_comm]
theorem mc {a b : Nat} (ha : a < L.n) (hb : b < L.n) : L.mt a b = L.mt b a := R.eqDn (R.mlt ha hb) (R.mlt hb ha) fun i hi => by rw [R.mle ha hb hi, R.mle hb ha hi, Bool.and_comm]
theorem ja {a b c : Nat} (ha : a < L.n) (hb : b < L.n) (hc : c < L.n) : L.jn (L.jn a b) c = L.jn a (L.jn b c) :=
  R.eqUp (R.jlt (R.jlt ha hb) hc) (R.jlt ha (R.jlt hb hc)) fun i hi => by rw [R.jle (R.jlt ha hb) hc hi, R.jle ha hb hi, R.jle ha (R.jlt hb hc) hi, R.jle hb hc hi, Bool.and_assoc]
theorem ma {a b c : Nat} (ha : a < L.n) (hb : b < L.n) (hc : c < L.n) : L.mt (L.mt a b) c = L.mt a (L.mt b c) :=
  R.eqDn (R.mlt (R.mlt ha hb) hc) (R.mlt ha (R.mlt hb hc)) fun i hi => by rw [R.mle (R.mlt ha hb) hc hi, R.mle ha hb hi, R.mle ha (R.mlt hb hc) hi, R.mle hb hc hi, Bool.and_assoc]
/-- a ≤ b just if their join is b -/
theorem le_j {a b : Nat} (ha : a < L.n) (hb : b < L.n) : L.le a b = true ↔ L.jn a b = b := by
  constructor
  · intro h
    exact R.eqUp (R.jlt ha hb) hb fun i hi => by
      rw [R.jle ha hb hi, Bool.eq_iff_iff, Bool.and_eq_true]
      exact ⟨fun z => z.2, fun z => ⟨R.trans a b i ha hb hi h z, z⟩⟩
  · intro h
    have := (R.jl ha hb).1
    rw [h] at this
    exact this
theorem le_m {a b : Nat} (ha : a < L.n) (hb : b < L.n) : L.le a b = true ↔ L.mt a b = a := by
  constructor
  · intro h
    exact R.eqDn (R.mlt ha hb) ha fun i hi => by
      rw [R.mle ha hb hi, Bool.eq_iff_iff, Bool.and_eq_true]
      exact ⟨fun z => z.1, fun z => ⟨z, R.trans i a b hi ha hb z h⟩⟩
  · intro h
    have := (R.ml ha hb).2
    rw [h] at this
    exact this
theorem jm {a b : Nat} (ha : a < L.n) (hb : b < L.n) : L.jn a (L.mt a b) = a := by
  rw [R.jc ha (R.mlt ha hb)]
  exact (R.le_j (R.mlt ha hb) ha).mp (R.ml ha hb).1
theorem mj {a b : Nat} (ha : a < L.n) (hb : b < L.n) : L.mt a (L.jn a b) = a := (R.le_m ha (R.jlt ha hb)).mp (R.jl ha hb).1
theorem mdist {a b c : Nat} (ha : a < L.n) (hb : b < L.n) (hc : c < L.n) : L.mt a (L.jn b c) = L.jn (L.mt a b) (L.mt a c) := by
  have hj := R.jlt hb hc
  have h1 := R.mlt ha hb
  have h2 := R.mlt ha hc
  have hr := R.jlt h1 h2
  refine R.ord.anti _ _ (R.mlt ha hj) hr ?_ ?_
  · exact R.dist a b c _ _ _ _ _ ha hb hc (R.mlt ha hj) (R.isJ hb hc).2 (R.isM ha hb).2 (R.isM ha hc).2 (R.isJ h1 h2).2 (R.ml ha hj).1 (R.ml ha hj).2
  · rw [R.jle h1 h2 (R.mlt ha hj), R.mle ha hj h1, R.mle ha hj h2, (R.ml ha hb).1, (R.ml ha hc).1,
      R.trans _ b _ h1 hb hj (R.ml ha hb).2 (R.jl hb hc).1, R.trans _ c _ h2 hc hj (R.ml ha hc).2 (R.jl hb hc).2]
    rfl
theorem jdist {a b c : Nat} (ha : a < L.n) (hb : b < L.n) (hc : c < L.n) : L.jn a (L.mt b c) = L.mt (L.jn a b) (L.jn a c) := by
  have hj := R.mlt hb hc
  have h1 := R.jlt ha hb
  have h2 := R.jlt ha hc
  have hr := R.mlt h1 h2
  refine R.ord.anti _ _ (R.jlt ha hj) hr ?_ ?_
  · rw [R.mle h1 h2 (R.jlt ha hj), R.jle ha hj h1, R.jle ha hj h2, (R.jl ha hb).1, (R.jl ha hc).1,
      R.trans _ b _ hj hb h1 (R.ml hb hc).1 (R.jl ha hb).2, R.trans _ c _ hj hc h2 (R.ml hb hc).2 (R.jl ha hc).2]
    rfl
  · exact R.codist a b c _ _ _ _ _ ha hb hc (R.jlt ha hj) (R.isM hb hc).2 (R.isJ ha hb).2 (R.isJ ha hc).2 (R.isM h1 h2).2 (R.jl ha hj).1 (R.jl ha hj).2
theorem jlow {a : Nat} (ha : a < L.n) : L.jn a L.low = a := by
  rw [R.jc ha R.isLow.2.1]
  exact (R.le_j R.isLow.2.1 ha).mp (R.isLow.2.2 a ha)
theorem mlow {a : Nat} (ha : a < L.n) : L.mt a L.low = L.low := by
  rw [R.mc ha R.isLow.2.1]
  exact (R.le_m R.isLow.2.1 ha).mp (R.isLow.2.2 a ha)
theorem jhigh {a : Nat} (ha : a < L.n) : L.jn a L.high = L.high := (R.le_j ha R.isHigh.2.1).mp (R.isHigh.2.2 a ha)
theorem mhigh {a : Nat} (ha : a < L.n) : L.mt a L.high = a := (R.le_m ha R.isHigh.2.1).mp (R.isHigh.2.2 a ha)
end Reg
end Lt
/-! #### turned ones -/
theorem turn_n (L : Lt) : (turnL L).n = L.n := rfl
theorem turn_j (L : Lt) (a b k : Nat) : (turnL L).IsJ a b k ↔ L.IsM a b k := Iff.rfl
theorem turn_m (L : Lt) (a b k : Nat) : (turnL L).IsM a b k ↔ L.IsJ a b k := Iff.rfl
theorem Lt.Reg.turn {L : Lt} (R : L.Reg) : (turnL L).Reg where
  ord := ⟨fun a h => R.ord.refl a h, fun a b ha hb h1 h2 => R.ord.anti a b ha hb h2 h1⟩
  trans a b c ha hb hc h1 h2 := R.trans c b a hc hb ha h2 h1
  bot := R.top
  top := R.bot
  J := R.M
  M := R.J
  dist := R.codist
  codist := R.dist
/-! #### chains -/
theorem chain_isJ {n a b k : Nat} (ha : a < (chainL n).n) (hb : b < (chainL n).n) (h : (chainL n).IsJ a b k) : k = max a b := by
  have e := (chain_ord n).join h.1 h.2
  rw [chainL_n] at ha hb
  rw [chain_join ha hb] at e
  exact (Option.some.inj e).symm
theorem chain_isM {n a b k : Nat} (ha : a < (chainL n).n) (hb : b < (chainL n).n) (h : (chainL n).IsM a b k) : k = min a b := by
  have e := (chain_ord n).meet h.1 h.2
  rw [chainL_n] at ha hb
  rw [chain_meet ha hb] at e
  exact (Option.some.inj e).symm
theorem chain_reg {n : Nat} (h : 1 ≤ n) : (chainL n).Reg where
  ord := chain_ord n
  trans a b c _ _ _ h1 h2 := by
    simp only [chainL, decide_eq_true_eq] at h1 h2 ⊢
    omega
  bot := ⟨0, by rw [chainL_n]; omega, fun i _ => by simp [chainL]⟩
  top := ⟨n - 1, by rw [chainL_n]; omega, fun i hi => by rw [chainL_n] at hi; simp [chainL]; omega⟩
  J a b ha hb := ⟨max a b, by rw [chainL_n] at *; omega, fun i hi => by
    rw [Bool.eq_iff_iff]; simp only [chainL, Bool.and_eq_true, decide_eq_true_eq]; omega⟩
  M a b ha hb := ⟨min a b, by rw [chainL_n] at *; omega, fun i hi => by
    rw [Bool.eq_iff_iff]; simp only [chainL, Bool.and_eq_true, decide_eq_true_eq]; omega⟩
  dist a b c j m1 m2 r x ha hb hc hx hj h1 h2 hr xa xj := by
    have e := chain_isJ hb hc hj
    have e1 := chain_isM ha hb h1
    have e2 := chain_isM ha hc h2
    have e3 := chain_isJ h1.1 h2.1 hr
    have xa : x ≤ a := of_decide_eq_true xa
    have xj : x ≤ j := of_decide_eq_true xj
    exact decide_eq_true (show x ≤ r by omega)
  codist a b c j m1 m2 r x ha hb hc hx hj h1 h2 hr xa xj := by
    have e := chain_isM hb hc hj
    have e1 := chain_isJ ha hb h1
    have e2 := chain_isJ ha hc h2
    have e3 := chain_isM h1.1 h2.1 hr
    have xa : a ≤ x := of_decide_eq_true xa
    have xj : j ≤ x := of_decide_eq_true xj
    exact decide_eq_true (show r ≤ x by omega)
/-! #### rings of sets: hs are the sets, as numbers -/
structure Ring (hs : List Nat) (w : Nat) : Prop where
  nd : hs.Nodup
  lt : ∀ h ∈ hs, h < 2 ^ w
  zero : 0 ∈ hs
  all : 2 ^ w - 1 ∈ hs
  or : ∀ g ∈ hs, ∀ h ∈ hs, g ||| h ∈ hs
  and : ∀ g ∈ hs, ∀ h ∈ hs, g &&& h ∈ hs
theorem getD_mem {hs : List Nat} {i : Nat} (h : i < hs.length) : hs.getD i 0 ∈ hs := by
  rw [List.getD_eq_getElem?_getD, List.getElem?_eq_getElem h]
  exact List.getElem_mem h
theorem mem_getD {hs : List Nat} {g : Nat} (h : g ∈ hs) : ∃ i, i < hs.length ∧ hs.getD i 0 = g := by
  obtain ⟨i, hi, e⟩ := List.mem_iff_getElem.mp h
  exact ⟨i, hi, by rw [List.getD_eq_getElem?_getD, List.getElem?_eq_getElem hi]; exact e⟩
theorem getD_inj {hs : List Nat} (nd : hs.Nodup) {i j : Nat} (hi : i < hs.length) (hj : j < hs.length) (e : hs.getD i 0 = hs.getD j 0) : i = j := by
  rw [List.getD_eq_getElem?_getD, List.getElem?_eq_getElem hi, List.getD_eq_getElem?_getD, List.getElem?_eq_getElem hj] at e
  have e : hs[i] = hs[j] := e
  exact nodup_at' nd (List.getElem?_eq_getElem hi) (by rw [List.getElem?_eq_getElem hj, e])
theorem ring_reg {L : Lt} {hs : List Nat} {w : Nat} (R : Ring hs w) (hn : L.n = hs.length) (hl : ∀ i j, i < L.n → j < L.n → L.le i j = part (hs.getD i 0) (hs.getD j 0)) : L.Reg := by
  have mem : ∀ {i}, i < L.n → hs.getD i 0 ∈ hs := fun h => getD_mem (hn ▸ h)
  have get : ∀ {g}, g ∈ hs → ∃ i, i < L.n ∧ hs.getD i 0 = g := fun h => by rw [hn]; exact mem_getD h
  have toJ : ∀ {a b k}, a < L.n → b < L.n → L.IsJ a b k → hs.getD k 0 = hs.getD a 0 ||| hs.getD b 0 := fun {a b k} ha hb h => by
    obtain ⟨i, hi, e⟩ := get (R.or _ (mem ha) _ (mem hb))
    refine part_anti ?_ ?_
    · have := h.2 i hi
      rw [hl _ _ h.1 hi, hl _ _ ha hi, hl _ _ hb hi, e, ← part_or, part_refl] at this
      exact this
    · have := h.2 k h.1
      rw [hl _ _ h.1 h.1, hl _ _ ha h.1, hl _ _ hb h.1, part_refl, ← part_or] at this
      exact this.symm
  have toM : ∀ {a b k}, a < L.n → b < L.n → L.IsM a b k → hs.getD k 0 = hs.getD a 0 &&& hs.getD b 0 := fun {a b k} ha hb h => by
    obtain ⟨i, hi, e⟩ := get (R.and _ (mem ha) _ (mem hb))
    refine part_anti ?_ ?_
    · have := h.2 k h.1
      rw [hl _ _ h.1 h.1, hl _ _ h.1 ha, hl _ _ h.1 hb, part_refl, ← part_and] at this
      exact this.symm
    · have := h.2 i hi
      rw [hl _ _ hi h.1, hl _ _ hi ha, hl _ _ hi hb, e, ← part_and, part_refl] at this
      exact this
  refine ⟨⟨fun a ha => by rw [hl _ _ ha ha]; exact part_refl _, fun a b ha hb h1 h2 => ?_⟩, fun a b c ha hb hc h1 h2 => ?_, ?_, ?_, fun a b ha hb => ?_, fun a b ha hb => ?_, fun a b c j m1 m2 r x ha hb hc hx hj h1 h2 hr xa xj => ?_, fun a b c j m1 m2 r x ha hb hc hx hj h1 h2 hr xa xj => ?_⟩
  · rw [hl _ _ ha hb] at h1
    rw [hl _ _ hb ha] at h2
    exact getD_inj R.nd (hn ▸ ha) (hn ▸ hb) (part_anti h1 h2)
  · rw [hl _ _ ha hb] at h1
    rw [hl _ _ hb hc] at h2
    rw [hl _ _ ha hc]
    exact part_bits.mpr fun k hk => part_bits.mp h2 k (part_bits.mp h1 k hk)
  · obtain ⟨k, hk, e⟩ := get R.zero
    exact ⟨k, hk, fun i hi => by rw [hl _ _ hk hi, e]; exact part_bits.mpr fun j h => by simp at h⟩
  · obtain ⟨k, hk, e⟩ := get R.all
    refine ⟨k, hk, fun i hi => ?_⟩
    rw [hl _ _ hi hk, e]
    refine part_bits.mpr fun j h => ?_
    rw [Nat.testBit_two_pow_sub_one]
    refine decide_eq_true (Nat.lt_of_not_le fun z => ?_)
    rw [Nat.testBit_lt_two_pow (Nat.lt_of_lt_of_le (R.lt _ (mem hi)) (Nat.pow_le_pow_right (by decide) z))] at h
    cases h
  · obtain ⟨k, hk, e⟩ := get (R.or _ (mem ha) _ (mem hb))
    exact ⟨k, hk, fun i hi => by rw [hl _ _ hk hi, hl _ _ ha hi, hl _ _ hb hi, e, part_or]⟩
  · obtain ⟨k, hk, e⟩ := get (R.and _ (mem ha) _ (mem hb))
    exact ⟨k, hk, fun i hi => by rw [hl _ _ hi hk, hl _ _ hi ha, hl _ _ hi hb, e, part_and]⟩
  · rw [hl _ _ hx ha] at xa
    rw [hl _ _ hx hj.1, toJ hb hc hj] at xj
    rw [hl _ _ hx hr.1, toJ h1.1 h2.1 hr, toM ha hb h1, toM ha hc h2]
    refine part_bits.mpr fun k hk => ?_
    have p1 := part_bits.mp xa k hk
    have p2 := part_bits.mp xj k hk
    rw [Nat.testBit_or] at p2
    rw [Nat.testBit_or, Nat.testBit_and, Nat.testBit_and, p1]
    simpa using p2
  · rw [hl _ _ ha hx] at xa
    rw [hl _ _ hj.1 hx, toM hb hc hj] at xj
    rw [hl _ _ hr.1 hx, toM h1.1 h2.1 hr, toJ ha hb h1, toJ ha hc h2]
    refine part_bits.mpr fun k hk => ?_
    rw [Nat.testBit_and, Nat.testBit_or, Nat.testBit_or] at hk
    cases e : (hs.getD a 0).testBit k with
    | true => exact part_bits.mp xa k e
    | false =>
      rw [e] at hk
      refine part_bits.mp xj k ?_
      rw [Nat.testBit_and]
      simpa using hk
theorem sets_reg (c : Nat) : (setsL c).Reg := by
  refine ring_reg (hs := List.range (2 ^ c)) (w := c) ⟨List.nodup_range, fun h hh => List.mem_range.mp hh, ?_, ?_, fun g hg h hh => ?_, fun g hg h hh => ?_⟩ (by rw [setsL_n, List.length_range]) fun i j hi hj => ?_
  · exact List.mem_range.mpr (Nat.pow_pos (by decide))
  · have := Nat.pow_pos (n := c) (show 0 < 2 by decide)
    exact List.mem_range.mpr (by omega)
  · exact List.mem_range.mpr (Nat.or_lt_two_pow (List.mem_range.mp hg) (List.mem_range.mp hh))
  · exact List.mem_range.mpr (Nat.lt_of_le_of_lt Nat.and_le_left (List.mem_range.mp hg))
  · rw [setsL_n] at hi hj
    have g : ∀ {i}, i < 2 ^ c → (List.range (2 ^ c)).getD i 0 = i := fun h => by rw [List.getD_eq_getElem?_getD, List.getElem?_range h]; rfl
    rw [g hi, g hj]
    rfl
theorem heap_mem {n h : Nat} {ps : List (Nat × Nat)} : h ∈ heaps n ps ↔ h < 2 ^ n ∧ ∀ a, a < n → h.testBit a = true → ∀ b, b < n → Reach ps b a → h.testBit b = true := by
  unfold heaps heapB
  rw [List.mem_filter, List.mem_range, List.all_eq_true]
  refine and_congr_right fun _ => ⟨fun h a ha hb b hbn r => ?_, fun h a ha => ?_⟩
  · have := part_bits.mp (h a (List.mem_filter.mpr ⟨List.mem_range.mpr ha, hb⟩)) b
    refine this ?_
    unfold dn
    rw [mask_bit, decide_eq_true hbn, Bool.true_and]
    exact reachB_iff.mpr r
  · obtain ⟨ha, hb⟩ := List.mem_filter.mp ha
    refine part_bits.mpr fun b z => ?_
    unfold dn at z
    rw [mask_bit, Bool.and_eq_true, decide_eq_true_eq] at z
    exact h a (List.mem_range.mp ha) hb b z.1 (reachB_iff.mp z.2)
theorem down_ring (n : Nat) (ps : List (Nat × Nat)) : Ring (heaps n ps) n where
  nd := List.nodup_range.filter _
  lt h hh := (heap_mem.mp hh).1
  zero := heap_mem.mpr ⟨Nat.pow_pos (by decide), fun a _ z => by simp at z⟩
  all := heap_mem.mpr ⟨by have := Nat.pow_pos (n := n) (show 0 < 2 by decide); omega, fun a _ _ b hb _ => by rw [Nat.testBit_two_pow_sub_one]; exact decide_eq_true hb⟩
  or g hg h hh := by
    have hg := heap_mem.mp hg
    have hh := heap_mem.mp hh
    refine heap_mem.mpr ⟨Nat.or_lt_two_pow hg.1 hh.1, fun a ha z b hb r => ?_⟩
    rw [Nat.testBit_or, Bool.or_eq_true] at z ⊢
    exact z.imp (fun y => hg.2 a ha y b hb r) fun y => hh.2 a ha y b hb r
  and g hg h hh := by
    have hg := heap_mem.mp hg
    have hh := heap_mem.mp hh
    refine heap_mem.mpr ⟨Nat.lt_of_le_of_lt Nat.and_le_left hg.1, fun a ha z b hb r => ?_⟩
    rw [Nat.testBit_and, Bool.and_eq_true] at z ⊢
    exact ⟨hg.2 a ha z.1 b hb r, hh.2 a ha z.2 b hb r⟩
theorem down_reg (xs : List Str) (ps : List (Nat × Nat)) : (downL xs ps).Reg :=
  ring_reg (down_ring xs.length ps) (downL_n xs ps) fun _ _ _ _ => rfl
/-! #### pairs -/
theorem pair_reg {L R : Lt} (A : L.Reg) (B : R.Reg) : (pairL L R).Reg := by
  have r1 := B.pos
  have dl : ∀ {k}, k < (pairL L R).n → k / R.n < L.n := fun h => div_lt' r1 (by rw [pairL_n] at h; exact h)
  have dm : ∀ k, k % R.n < R.n := fun k => Nat.mod_lt _ r1
  have mk : ∀ {i j}, i < L.n → j < R.n → i * R.n + j < (pairL L R).n ∧ (i * R.n + j) / R.n = i ∧ (i * R.n + j) % R.n = j := fun {i j} hi hj => by
    refine ⟨?_, ?_, ?_⟩
    · rw [pairL_n]
      have := Nat.mul_le_mul_right R.n (show i + 1 ≤ L.n from hi)
      rw [Nat.succ_mul] at this
      omega
    · rw [Nat.mul_comm, Nat.mul_add_div (by omega), Nat.div_eq_of_lt hj, Nat.add_zero]
    · rw [Nat.mul_comm, Nat.mul_add_mod, Nat.mod_eq_of_lt hj]
  have ext : ∀ {a b : Nat}, a / R.n = b / R.n → a % R.n = b % R.n → a = b := fun {a b} h1 h2 => by
    rw [← Nat.div_add_mod a R.n, ← Nat.div_add_mod b R.n, h1, h2]
  have le : ∀ a b, (pairL L R).le a b = (L.le (a / R.n) (b / R.n) && R.le (a % R.n) (b % R.n)) := fun _ _ => rfl
  have toJ : ∀ {a b k}, a < (pairL L R).n → b < (pairL L R).n → (pairL L R).IsJ a b k → L.IsJ (a / R.n) (b / R.n) (k / R.n) ∧ R.IsJ (a % R.n) (b % R.n) (k % R.n) := fun {a b k} ha hb h => by
    obtain ⟨i, hi1, hi2⟩ := A.J _ _ (dl ha) (dl hb)
    obtain ⟨j, hj1, hj2⟩ := B.J _ _ (dm a) (dm b)
    obtain ⟨m1, m2, m3⟩ := mk hi1 hj1
    have e1 := h.2 _ m1
    rw [le, le, le, m2, m3] at e1
    have a1 := hi2 i hi1
    have b1 := hj2 j hj1
    rw [A.refl hi1] at a1
    rw [B.refl hj1] at b1
    have a1 := a1.symm
    have b1 := b1.symm
    rw [Bool.and_eq_true] at a1 b1
    rw [a1.1, a1.2, b1.1, b1.2] at e1
    simp only [Bool.and_self] at e1
    rw [Bool.and_eq_true] at e1
    have e2 := h.2 k h.1
    rw [le, le, le, A.refl (dl h.1), B.refl (dm k)] at e2
    have e2 := e2.symm
    simp only [Bool.and_self, Bool.and_eq_true] at e2
    have ek : k / R.n = i := A.ord.anti _ _ (dl h.1) hi1 e1.1 (by rw [hi2 _ (dl h.1), e2.1.1, e2.2.1]; rfl)
    have ek2 : k % R.n = j := B.ord.anti _ _ (dm k) hj1 e1.2 (by rw [hj2 _ (dm k), e2.1.2, e2.2.2]; rfl)
    rw [ek, ek2]
    exact ⟨⟨hi1, hi2⟩, hj1, hj2⟩
  have toM : ∀ {a b k}, a < (pairL L R).n → b < (pairL L R).n → (pairL L R).IsM a b k → L.IsM (a / R.n) (b / R.n) (k / R.n) ∧ R.IsM (a % R.n) (b % R.n) (k % R.n) := fun {a b k} ha hb h => by
    obtain ⟨i, hi1, hi2⟩ := A.M _ _ (dl ha) (dl hb)
    obtain ⟨j, hj1, hj2⟩ := B.M _ _ (dm a) (dm b)
    obtain ⟨m1, m2, m3⟩ := mk hi1 hj1
    have e1 := h.2 _ m1
    rw [le, le, le, m2, m3] at e1
    have a1 := hi2 i hi1
    have b1 := hj2 j hj1
    rw [A.refl hi1] at a1
    rw [B.refl hj1] at b1
    have a1 := a1.symm
    have b1 := b1.symm
    rw [Bool.and_eq_true] at a1 b1
    rw [a1.1, a1.2, b1.1, b1.2] at e1
    simp only [Bool.and_self] at e1
    rw [Bool.and_eq_true] at e1
    have e2 := h.2 k h.1
    rw [le, le, le, A.refl (dl h.1), B.refl (dm k)] at e2
    have e2 := e2.symm
    simp only [Bool.and_self, Bool.and_eq_true] at e2
    have ek : k / R.n = i := A.ord.anti _ _ (dl h.1) hi1 (by rw [hi2 _ (dl h.1), e2.1.1, e2.2.1]; rfl) e1.1
    have ek2 : k % R.n = j := B.ord.anti _ _ (dm k) hj1 (by rw [hj2 _ (dm k), e2.1.2, e2.2.2]; rfl) e1.2
    rw [ek, ek2]
    exact ⟨⟨hi1, hi2⟩, hj1, hj2⟩
  refine ⟨⟨fun a ha => ?_, fun a b ha hb h1 h2 => ?_⟩, fun a b c ha hb hc h1 h2 => ?_, ?_, ?_, fun a b ha hb => ?_, fun a b ha hb => ?_, fun a b c j m1 m2 r x ha hb hc hx hj h1 h2 hr xa xj => ?_, fun a b c j m1 m2 r x ha hb hc hx hj h1 h2 hr xa xj => ?_⟩
  · rw [le, A.refl (dl ha), B.refl (dm a)]; rfl
  · rw [le, Bool.and_eq_true] at h1 h2
    exact ext (A.ord.anti _ _ (dl ha) (dl hb) h1.1 h2.1) (B.ord.anti _ _ (dm a) (dm b) h1.2 h2.2)
  · rw [le, Bool.and_eq_true] at h1 h2 ⊢
    exact ⟨A.trans _ _ _ (dl ha) (dl hb) (dl hc) h1.1 h2.1, B.trans _ _ _ (dm a) (dm b) (dm c) h1.2 h2.2⟩
  · obtain ⟨i, hi1, hi2⟩ := A.bot
    obtain ⟨j, hj1, hj2⟩ := B.bot
    obtain ⟨m1, m2, m3⟩ := mk hi1 hj1
    exact ⟨_, m1, fun x hx => by rw [le, m2, m3, hi2 _ (dl hx), hj2 _ (dm x)]; rfl⟩
  · obtain ⟨i, hi1, hi2⟩ := A.top
    obtain ⟨j, hj1, hj2⟩ := B.top
    obtain ⟨m1, m2, m3⟩ := mk hi1 hj1
    exact ⟨_, m1, fun x hx => by rw [le, m2, m3, hi2 _ (dl hx), hj2 _ (dm x)]; rfl⟩
  · obtain ⟨i, hi1, hi2⟩ := A.J _ _ (dl ha) (dl hb)
    obtain ⟨j, hj1, hj2⟩ := B.J _ _ (dm a) (dm b)
    obtain ⟨m1, m2, m3⟩ := mk hi1 hj1
    exact ⟨_, m1, fun x hx => by
      rw [le, le, le, m2, m3, hi2 _ (dl hx), hj2 _ (dm x)]
      simp only [Bool.and_assoc, Bool.and_left_comm]⟩
  · obtain ⟨i, hi1, hi2⟩ := A.M _ _ (dl ha) (dl hb)
    obtain ⟨j, hj1, hj2⟩ := B.M _ _ (dm a) (dm b)
    obtain ⟨m1, m2, m3⟩ := mk hi1 hj1
    exact ⟨_, m1, fun x hx => by
      rw [le, le, le, m2, m3, hi2 _ (dl hx), hj2 _ (dm x)]
      simp only [Bool.and_assoc, Bool.and_left_comm]⟩
  · rw [le, Bool.and_eq_true] at xa xj ⊢
    obtain ⟨j1, j2⟩ := toJ hb hc hj
    obtain ⟨p1, p2⟩ := toM ha hb h1
    obtain ⟨q1, q2⟩ := toM ha hc h2
    obtain ⟨r1', r2⟩ := toJ h1.1 h2.1 hr
    exact ⟨A.dist _ _ _ _ _ _ _ _ (dl ha) (dl hb) (dl hc) (dl hx) j1 p1 q1 r1' xa.1 xj.1, B.dist _ _ _ _ _ _ _ _ (dm a) (dm b) (dm c) (dm x) j2 p2 q2 r2 xa.2 xj.2⟩
  · rw [le, Bool.and_eq_true] at xa xj ⊢
    obtain ⟨j1, j2⟩ := toM hb hc hj
    obtain ⟨p1, p2⟩ := toJ ha hb h1
    obtain ⟨q1, q2⟩ := toJ ha hc h2
    obtain ⟨r1', r2⟩ := toM h1.1 h2.1 hr
    exact ⟨A.codist _ _ _ _ _ _ _ _ (dl ha) (dl hb) (dl hc) (dl hx) j1 p1 q1 r1' xa.1 xj.1, B.codist _ _ _ _ _ _ _ _ (dm a) (dm b) (dm c) (dm x) j2 p2 q2 r2 xa.2 xj.2⟩
/-! ### a method that may raise, called in a try; the errors' __init__ -/
section
open PySem.Spec PyProof.Rows
variable {X : Cx}
/-- o.m(e, ..) where what is raised is wished for at the slots -/
def tMethGS (K : PySem.W.Frag) (m : Str) (f : Addr) (sp : Sp) (E : L2.St → XK) (ta : TE) (t : TA) : TE := fun σ H Q => ta σ H fun x H1 => ∃ a C dx fs, x = .ref a ∧ H1 a = some (.ins C dx fs) ∧ Cls K C ∧ Meth K C m f ∧ fs.lookup m = none ∧
  t σ H1 fun vs H2 => sp (x :: vs) H2 Q (E σ)
theorem pe_methGS {o e : Expr} {es : List Expr} {ta : TE} {t : TA} {m : Str} {apos pos : Pos} {CX : CXT} {k : Nat} {f : Addr} {fd : FuncData} {ps : List Str} {sp : Sp} {E : L2.St → XK} {pl : Sem Bool} (he : PE X o ta) (F : FnOk X.prog X.w X.K X.mg X.base CX k f fd ps sp) (hr : Room k X.A) (hb : Binds X.K fd ps []) (hx : ∀ σ, PassesAt CX X σ (E σ)) (ha : PA X (e :: es) t)
    (hst : starEach (e :: es) X.env = (false, eval e X.env) :: starEach es X.env := by rfl) (hpl : (backTo pos (starEach es X.env)).any (·.1) = false := by rfl)
    (ht : eval (.Call (.Attribute o m apos) (e :: es) [] pos) X.env = (do
      let ov ← eval o X.env
      standAt apos.atName
      let (g, first) ← holding [ov] (getMethod ov m pl)
      callWith pos g first (backTo pos (starEach (e :: es) X.env)) (backToKw pos (keywordEach [] X.env))) := by rfl) :
    PE X (.Call (.Attribute o m apos) (e :: es) [] pos) (tMethGS X.K m f sp E ta t) := by
  refine ⟨fun pins s σ H Q I h => ?_⟩
  refine PySem.W.methodCall_KW (pl := pl) (thn (he.run pins s σ H _ I h) fun u s1 ⟨x, H1, I1, rx, a, C, dx, fs, ex, ea, c, hm, l, q⟩ => ?_) ht
  subst ex
  obtain rfl : u = Value.ref a := rx
  refine getmeth_ok I1 ea c hm l (PySem.W.callWith_K (first := [.ref a]) (h₀ := X.base) I.ok.mod.kin hm.kp (thn (ha.run pos pins s1 σ H1 _ I1 q) fun us s2 ⟨vs, H2, I2, r, q2⟩ => ⟨I2.kIn, ?_⟩) hst hpl)
  exact run_fnS (us := .ref a :: us) (vs := .ref a :: vs) F hr hb (hx σ) I2 (.cons rfl r) q2
theorem kx_methGS {X : Cx} (K : PySem.W.Frag) {e : Expr} {ta : TE} {t : TA} {m : Str} {f : Addr} {sp : Sp} {E : L2.St → XK} (p : PE X e (tMethGS X.K m f sp E ta t)) (h : X.K = K := by rfl) : PE X e (tMethGS K m f sp E ta t) := h ▸ p
/-- the __init__ of an error with a name, at an error that is being made -/
def sp_xname (C : Addr) (n : Str) : Sp := fun vs H Q _ => ∃ (a : Addr) (v : V), vs = [.ref a, v] ∧ H a = some (exo a C none) ∧ ∀ d, H d = none → d ≠ a → Q .non (upd (upd H d (exd d [(n, v)])) a (exo a C (some d)))
/-- what stands behind a raise -/
theorem made_xd {H : Hp} {a d C : Addr} {fs : List (Str × V)} (ha : H a = none) (hd : upd H a (exo a C none) d = none) (ne : d ≠ a) :
    Same H (upd (del (upd (upd (upd H a (exo a C none)) d (exd d fs)) a (exo a C (some d))) a) d (.xd fs)) ∧ H d = none := by
  have hd' : H d = none := by rw [upd_ne ne] at hd; exact hd
  refine ⟨fun b o hb => ?_, hd'⟩
  have nb : b ≠ a := ne_of_none hb ha
  have nd : b ≠ d := ne_of_none hb hd'
  rw [upd_ne nd, del_ne nb, upd_ne nb, upd_ne nd, upd_ne nb]
  exact hb
end
section
variable {w W_ : World} {K : PySem.W.Frag} {mg : Str → Option Value} {base : Heap}
theorem ok_UnknownValue (T : Tx K mg W_) : FnOk PL w K mg base CX0 1 T.a_UnknownValue_init T.d_UnknownValue_init ["self", "name"] (sp_xname T.a_UnknownValue "name") := by
  refine T.F_UnknownValue_init.ok sc_UnknownValue_init (by rfl) (by rfl) (by rfl) ⟨_, rfl, rfl⟩ (by decide +kernel) T.ci_UnknownValue T.n_super T.st_any (fun vs H Q E h => ?_) (fun cda cc A outer s H vs Q E hr S h => ?_)
  · obtain ⟨a, v, rfl, _⟩ := h
    rfl
  obtain ⟨a, v, rfl, ha, q⟩ := h
  refine ⟨_, psa_superG xb_LE S rfl (pa_cons pe_str pa_nil) (by decide) rfl rfl rfl rfl rfl (psa_any (pss_one (ps_setG xb_LE (pv 0) (pv 1) rfl))), ?_⟩
  refine ⟨a, T.a_UnknownValue, rfl, ha, T.x_UnknownValue, T.mr_UnknownValue, T.su_UnknownValue, by decide, ha, ?_⟩
  exact ⟨_, rfl, _, rfl, a, T.a_UnknownValue, rfl, T.x_UnknownValue, T.na_UnknownValue, ha, q⟩
/-- at_name of any name -/
def sp_at_nameX (K : PySem.W.Frag) (mm : List (Str × Addr)) (C : Addr) : Sp := fun vs H Q E => ∃ (p : Addr) (L : Lt) (x : Str), vs = [.ref p, .str x] ∧ IsLat K mm H p L ∧ L.names.Nodup ∧ (∀ a H', L.names[a]? = some x → Same H H' → Q (.int (a : Nat)) H') ∧
  (x ∉ L.names → ∀ d H', H d = none → Same H H' → H' d = some (.xd [(("name" : Str), .str x)]) → E (.ref C) (some d) H')
theorem ok_at_nameX (T : Tx K mg W_) : FnOk PL w K mg base (L2.CX PL w) 3 T.a_Lattice_at_name T.d_Lattice_at_name ["self", "name"] (sp_at_nameX K T.mm T.a_UnknownValue) := by
  have G_UnknownValue_init := ok_UnknownValue (w := w) (base := base) T
  refine T.F_Lattice_at_name.okX sc_Lattice_at_name (fun vs H Q E h => ?_) (fun cdv A outer s H vs Q E hr h => ?_)
  · obtain ⟨p, L, x, rfl, _⟩ := h
    rfl
  obtain ⟨p, L, x, rfl, ⟨C, dx, fs, tn, td, tu, A⟩, nd, q, qe⟩ := h
  refine ⟨_, pss_cons (ps_if (pt_cmpR op_notIn_seq (pv 1) (pe_fld (pv 0) rfl) (by rfl)) (pss_one (ps_raise rfl (takes_of rfl rfl rfl rfl) (pmk_G xb_LE T.x_UnknownValue T.i_UnknownValue T.t_UnknownValue G_UnknownValue_init (hr.mono (by omega)) T.b_UnknownValue_init .nil pass0 (by rfl) T.g_UnknownValue (pa_cons (pv 1) pa_nil)))) pss_nil)
    (pss_one (ps_ret (pe_tbm PySem.F.plainAttrs_tuple PySem.F.slot_tuple_index PySem.F.type_tuple_index mt_tindexF (pe_fld (pv 0) rfl) (pa_cons (pv 1) pa_nil)))), ?_⟩
  refine ⟨_, rfl, _, rfl, p, C, dx, fs, _, rfl, A.at_, A.c.cl, A.c.na _ (by decide), A.names, tn, _, rfl, .inr A.tn.2, rfl, flat_strs _, _, rfl, ?_⟩
  have e : (if true = true then !inV (.str x) (L.names.map V.str) else inV (.str x) (L.names.map V.str)) = !decide (x ∈ L.names) := by
    show (!inV (.str x) (L.names.map V.str)) = _
    rw [inV_strs]
  rw [e]
  by_cases hx : x ∈ L.names
  · rw [decide_eq_true hx]
    refine iteF ?_
    obtain ⟨a, ha⟩ := List.getElem?_of_mem hx
    refine ⟨_, rfl, p, C, dx, fs, _, rfl, A.at_, A.c.cl, A.c.na _ (by decide), A.names, tn, _, rfl, A.tn.1, A.tn.2, _, rfl, tn, _, _, a, _, rfl, rfl, A.tn.2, rfl, flat_strs _, (by rw [List.getElem?_map, ha]; rfl), (by rw [eqV_str]; exact beq_self_eq_true x), fun j z hj hz => ?_, q a H ha (Same.refl _)⟩
    rw [List.getElem?_map] at hz
    obtain ⟨y, hy, rfl⟩ := Option.map_eq_some_iff.mp hz
    rw [eqV_str]
    exact beq_eq_false_iff_ne.mpr fun z => by
      subst z
      have := nodup_at nd hy ha
      omega
  · rw [decide_eq_false hx]
    refine iteT ?_
    refine ⟨_, rfl, (by show 1 ≤ 1000; decide), fun a ha => ⟨a, _, rfl, upd_same, fun d hd ne => ⟨rfl, d, _, upd_same, (by rw [upd_ne ne]; exact upd_same), ?_, ?_⟩⟩⟩
    · exact (made_xd (fs := []) ha hd ne).2
    · obtain ⟨s1, hd0⟩ := made_xd (fs := [(("name" : Str), V.str x)]) ha hd ne
      exact qe hx d _ hd0 s1 upd_same
end
/-! ### lattices made by C(..) -/
section
variable {K : PySem.W.Frag} {mm : List (Str × Addr)} {C : Addr} {H : Hp} {Q : VK} {E : XK}
theorem made_same2 {x dx : Addr} {H2 : Hp} {C : Addr} (hx : H x = none) (hd : H dx = none) (ne : dx ≠ x) (b : But x (upd (upd H dx (.own x)) x (.ins C dx [])) H2) : Same H H2 := fun z o e => by
  have n1 : z ≠ x := fun y => by rw [y, hx] at e; cases e
  have n2 : z ≠ dx := fun y => by rw [y, hd] at e; cases e
  exact b _ _ n1 (by rw [upd_ne n1, upd_ne n2]; exact e)
theorem in_same2 {x dx : Addr} {C : Addr} (hx : H x = none) (hd : H dx = none) : Same H (upd (upd H dx (.own x)) x (.ins C dx [])) := fun z o e => by
  have n1 : z ≠ x := fun y => by rw [y, hx] at e; cases e
  have n2 : z ≠ dx := fun y => by rw [y, hd] at e; cases e
  rw [upd_ne n1, upd_ne n2]; exact e
theorem IsLat.ne {z x : Addr} {L : Lt} (h : IsLat K mm H z L) (hx : H x = none) : z ≠ x := fun e => by
  obtain ⟨C, dx, fs, tn, td, tu, A⟩ := h
  have := A.at_
  rw [e, hx] at this
  cases this
theorem same_skip {H A B : Hp} {l : Addr} (s : Same H A) (hl : H l = none) (b : But l A B) : Same H B := fun z o e => b _ _ (fun y => by rw [y, hl] at e; cases e) (s _ _ e)
theorem IsLat.app {H' : Hp} {z l : Addr} {L : Lt} {xs : List V} (h : IsLat K mm H z L) (hl : H l = some (.lst xs)) (b : But l H H') : IsLat K mm H' z L := h.but b hl trivial fun e => by
  obtain ⟨C, dx, fs, tn, td, tu, A⟩ := h
  have := A.at_
  rw [e, hl] at this
  cases this
theorem mk_chain {i : Int} {n : Nat} (e : i = (n : Nat)) (h1 : 1 ≤ n) (h64 : n ≤ 64) {x dx : Addr} (hx : H x = none) (hd : H dx = none) (ne : dx ≠ x) (q : ∀ H2, Same H H2 → IsLat K mm H2 x (chainL n) → Q .non H2) :
    sp_chain K mm C [.ref x, .int i] (upd (upd H dx (.own x)) x (.ins C dx [])) Q E := by
  subst e
  exact ⟨x, dx, n, rfl, upd_same, h1, h64, fun H2 b hL => q H2 (made_same2 hx hd ne b) hL⟩
theorem mk_sets {i : Int} {n : Nat} (e : i = (n : Nat)) (h1 : 1 ≤ n) (h6 : n ≤ 6) {x dx : Addr} (hx : H x = none) (hd : H dx = none) (ne : dx ≠ x) (q : ∀ H2, Same H H2 → IsLat K mm H2 x (setsL n) → Q .non H2) :
    sp_sets K mm C [.ref x, .int i] (upd (upd H dx (.own x)) x (.ins C dx [])) Q E := by
  subst e
  exact ⟨x, dx, n, rfl, upd_same, h1, h6, fun H2 b hL => q H2 (made_same2 hx hd ne b) hL⟩
theorem mk_turn {z : Addr} {L : Lt} (hz : IsLat K mm H z L) (n64 : L.n ≤ 64) (d9 : L.depth ≤ 9) (d1 : 1 ≤ L.depth) (fit : L.Fit) {x dx : Addr} (hx : H x = none) (hd : H dx = none) (ne : dx ≠ x) (q : ∀ H2, Same H H2 → IsLat K mm H2 x (turnL L) → FldAt H2 x "inner" (.ref z) → Q .non H2) :
    sp_turn K mm C [.ref x, .ref z] (upd (upd H dx (.own x)) x (.ins C dx [])) Q E :=
  ⟨x, dx, z, L, rfl, upd_same, hz.same (in_same2 hx hd), hz.ne hx, n64, d9, d1, fit, fun H2 b hL f => q H2 (made_same2 hx hd ne b) hL f.fld⟩
theorem mk_turnC {z : Addr} {L : Lt} (hz : IsLat K mm H z L) (n64 : L.n ≤ 64) (d9 : L.depth ≤ 9) (d1 : 1 ≤ L.depth) (fit : L.Fit) {x dx : Addr} (hx : H x = none) (hd : H dx = none) (ne : dx ≠ x) (q : ∀ H2, Same H H2 → IsLat K mm H2 x (turnL L) → FldC H2 x C "inner" (.ref z) → Q .non H2) :
    sp_turn K mm C [.ref x, .ref z] (upd (upd H dx (.own x)) x (.ins C dx [])) Q E :=
  ⟨x, dx, z, L, rfl, upd_same, hz.same (in_same2 hx hd), hz.ne hx, n64, d9, d1, fit, fun H2 b hL f => q H2 (made_same2 hx hd ne b) hL f⟩
theorem mk_pairl {y z : Addr} {L R : Lt} (hy : IsLat K mm H y L) (hz : IsLat K mm H z R) (l1 : 1 ≤ L.n) (r1 : 1 ≤ R.n) (n64 : L.n * R.n ≤ 64) (dd : foldD 1 [L, R] ≤ 10) (fl : L.Fit) (fr : R.Fit)
    {x dx : Addr} (hx : H x = none) (hd : H dx = none) (ne : dx ≠ x) (q : ∀ H2, Same H H2 → IsLat K mm H2 x (pairL L R) → FldAt H2 x "left" (.ref y) → FldAt H2 x "right" (.ref z) → Q .non H2) :
    sp_pairl K mm C [.ref x, .ref y, .ref z] (upd (upd H dx (.own x)) x (.ins C dx [])) Q E :=
  ⟨x, dx, y, z, L, R, rfl, upd_same, hy.same (in_same2 hx hd), hz.same (in_same2 hx hd), hy.ne hx, hz.ne hx, l1, r1, n64, dd, fl, fr, fun H2 b hL f1 f2 => q H2 (made_same2 hx hd ne b) hL f1.fld f2.fld⟩
theorem mk_pairlC {y z : Addr} {L R : Lt} (hy : IsLat K mm H y L) (hz : IsLat K mm H z R) (l1 : 1 ≤ L.n) (r1 : 1 ≤ R.n) (n64 : L.n * R.n ≤ 64) (dd : foldD 1 [L, R] ≤ 10) (fl : L.Fit) (fr : R.Fit)
    {x dx : Addr} (hx : H x = none) (hd : H dx = none) (ne : dx ≠ x) (q : ∀ H2, Same H H2 → IsLat K mm H2 x (pairL L R) → FldC H2 x C "left" (.ref y) → FldC H2 x C "right" (.ref z) → Q .non H2) :
    sp_pairl K mm C [.ref x, .ref y, .ref z] (upd (upd H dx (.own x)) x (.ins C dx [])) Q E :=
  ⟨x, dx, y, z, L, R, rfl, upd_same, hy.same (in_same2 hx hd), hz.same (in_same2 hx hd), hy.ne hx, hz.ne hx, l1, r1, n64, dd, fl, fr, fun H2 b hL f1 f2 => q H2 (made_same2 hx hd ne b) hL f1 f2⟩
theorem mk_order {a b : Addr} {xs : List Str} {ps : List (Nat × Nat)} {ob : HO} (ha : H a = some (.lst (xs.map V.str))) (hb : PairsAt K H b xs ps) (hob : H b = some ob) (n1 : 1 ≤ xs.length) (n16 : xs.length ≤ 16) (nd : xs.Nodup) (nw : ∀ x ∈ xs, NameW x) (pz : ps.length ≤ 1000)
    {x dx : Addr} (hx : H x = none) (hd : H dx = none) (ne : dx ≠ x) (q : ∀ H2, Same H H2 → IsLat K mm H2 x (orderL xs ps) → Q .non H2) :
    sp_order K mm C [.ref x, .ref a, .ref b] (upd (upd H dx (.own x)) x (.ins C dx [])) Q E :=
  ⟨x, dx, a, b, xs, ps, rfl, upd_same, SqL.of (K := K) (in_same2 hx hd _ _ ha), hb.same (in_same2 hx hd), fun z => (by rw [z, hx] at ha; cases ha), fun z => (by rw [z, hx] at hob; cases hob), n1, n16, nd, nw, pz, fun H2 b hL => q H2 (made_same2 hx hd ne b) hL⟩
theorem mk_downl {a b : Addr} {xs : List Str} {ps : List (Nat × Nat)} {ob : HO} (ha : H a = some (.lst (xs.map V.str))) (hb : PairsAt K H b xs ps) (hob : H b = some ob) (n1 : 1 ≤ xs.length) (n6 : xs.length ≤ 6) (nd : xs.Nodup) (nw : ∀ x ∈ xs, NameW x) (pz : ps.length ≤ 1000) (anti : Anti xs.length ps)
    {x dx : Addr} (hx : H x = none) (hd : H dx = none) (ne : dx ≠ x) (q : ∀ H2, Same H H2 → IsLat K mm H2 x (downL xs ps) → Q .non H2) :
    sp_downl K mm C [.ref x, .ref a, .ref b] (upd (upd H dx (.own x)) x (.ins C dx [])) Q E :=
  ⟨x, dx, a, b, xs, ps, rfl, upd_same, SqL.of (K := K) (in_same2 hx hd _ _ ha), hb.same (in_same2 hx hd), fun z => (by rw [z, hx] at ha; cases ha), fun z => (by rw [z, hx] at hob; cases hob), n1, n6, nd, nw, pz, anti, fun H2 b hL => q H2 (made_same2 hx hd ne b) hL⟩
end
/-! ### lists of places, compared -/
section
variable {K : PySem.W.Frag}
def natD (xs : List Nat) : List PyData := xs.map fun i => PyData.int (i : Nat)
theorem dpAll_nats {H : Hp} : ∀ xs : List Nat, DpAll K H (natV xs) (natD xs)
  | [] => .nil
  | x :: xs => .cons (.int _) (dpAll_nats xs)
theorem dp_nats {H : Hp} {a : Addr} {xs : List Nat} (h : SqL K H a (natV xs)) : Dp K H (.ref a) (.list (natD xs)) := .lst h (dpAll_nats xs)
theorem eqvAll_nats : ∀ xs ys : List Nat, PyData.eqvAll (natD xs) (natD ys) = decide (xs = ys)
  | [], [] => by simp [natD, PyData.eqvAll]
  | [], y :: ys => by simp [natD, PyData.eqvAll]
  | x :: xs, [] => by simp [natD, PyData.eqvAll]
  | x :: xs, y :: ys => by
    have h := eqvAll_nats xs ys
    unfold natD at h ⊢
    simp only [List.map_cons, PyData.eqvAll, PyData.eqv, h]
    by_cases c : x = y
    · subst c; simp
    · have : ((x : Nat) : Int) ≠ (y : Nat) := fun z => c (by omega)
      simp [c, this]
theorem eqv_nats (xs ys : List Nat) : PyData.eqv (.list (natD xs)) (.list (natD ys)) = decide (xs = ys) := by
  rw [← eqvAll_nats]
  simp [PyData.eqv]
theorem depth_nats : ∀ xs : List Nat, PyData.depthAll (natD xs) ≤ 1
  | [] => by simp [natD, PyData.depthAll]
  | x :: xs => by have := depth_nats xs; simp [natD, PyData.depthAll, PyData.depth] at this ⊢; omega
theorem lay_nats : ∀ xs : List Nat, PyData.canLayAll0 (natD xs) = true
  | [] => by simp [natD, PyData.canLayAll0]
  | x :: xs => by have := lay_nats xs; simp [natD, PyData.canLayAll0, PyData.canLay0] at this ⊢; exact this
theorem shp_nats {xs : List Nat} : Shp 190 (.list (natD xs)) :=
  ⟨by simp [PyData.canLay0, lay_nats xs], by have := depth_nats xs; simp [PyData.depth]; omega⟩
theorem if_end {c : TT} {t u : TS} {D : Ends} {σ : L2.St} {H : Hp} (Pv : Bool → Hp → Prop) (h : ∀ Q' : Bool → Hp → Prop, (∀ b H', Pv b H' → Q' b H') → c σ H Q')
    (q : ∀ b H', Pv b H' → if b = true then t D σ H' else u D σ H') : tIfS c t u D σ H := h _ fun b H' p => q b H' p
theorem nat_at {xs : List Nat} {j : Nat} {x : V} (hx : (natV xs)[j]? = some x) : ∃ b, xs[j]? = some b ∧ x = .int (b : Nat) := by
  unfold natV at hx
  rw [List.getElem?_map] at hx
  cases e : xs[j]? with
  | none => rw [e] at hx; cases hx
  | some b => rw [e] at hx; cases hx; exact ⟨b, rfl, rfl⟩
theorem ft_no {p : Nat → Bool} {xs : List Nat} {i c : Nat} (hc : xs[i]? = some c) (h : p c = false) : natV ((xs.take i).filter p) = natV ((xs.take (i + 1)).filter p) := by
  rw [List.take_add_one, hc, List.filter_append, show (some c).toList = [c] from rfl, List.filter_cons_of_neg (by rw [h]; decide), List.filter_nil, List.append_nil]
theorem ft_yes {p : Nat → Bool} {xs : List Nat} {i c : Nat} (hc : xs[i]? = some c) (h : p c = true) : natV ((xs.take i).filter p) ++ [V.int (c : Nat)] = natV ((xs.take (i + 1)).filter p) := by
  rw [List.take_add_one, hc, List.filter_append, show (some c).toList = [c] from rfl, List.filter_cons_of_pos h, List.filter_nil]
  unfold natV
  rw [List.map_append]
  rfl
theorem fr_no {p : Nat → Bool} {i : Nat} (h : p i = false) : natV ((List.range i).filter p) = natV ((List.range (i + 1)).filter p) := by
  rw [List.range_succ, List.filter_append, List.filter_cons_of_neg (by rw [h]; decide), List.filter_nil, List.append_nil]
theorem fr_yes {p : Nat → Bool} {i : Nat} (h : p i = true) : natV ((List.range i).filter p) ++ [V.int (i : Nat)] = natV ((List.range (i + 1)).filter p) := by
  rw [List.range_succ, List.filter_append, List.filter_cons_of_pos h, List.filter_nil]
  unfold natV
  rw [List.map_append]
  rfl
theorem inV_nats (x : Nat) : ∀ xs : List Nat, inV (.int (x : Nat)) (natV xs) = decide (x ∈ xs)
  | [] => rfl
  | y :: ys => by
    show (eqV (.int (y : Nat)) (.int (x : Nat)) || inV (.int (x : Nat)) (natV ys)) = _
    rw [inV_nats x ys, eqV_nat]
    by_cases h : y = x
    · subst h; simp
    · have h' : ¬ x = y := fun e => h e.symm
      simp [h, h']
theorem flat_nats : ∀ xs : List Nat, (natV xs).all flatV = true
  | [] => rfl
  | _ :: ys => flat_nats ys
theorem shp_int {i : Int} : Shp 190 (.int i) := ⟨by simp [PyData.canLay0], by simp [PyData.depth]⟩
theorem kit_ll : PySem.W.kitOne K (.type "list") (.type "list") = some true := kit_ty (by decide +kernel)
theorem Src.but {H H' : Hp} {p ce D : Addr} (s : Src K ce H p) (h1 : D ≠ p) (h2 : D ≠ ce) (b : But D H H') : Src K ce H' p := by
  obtain ⟨cs, i, l, m, S⟩ := s
  exact ⟨cs, i, l, m, ⟨b _ _ h1.symm S.at_, b.seq h2.symm S.cel, S.ne, S.hi, S.hl, S.hc, S.m0, S.m1⟩⟩
end
/-! ### irreducible values of a regular lattice -/
namespace Lt
variable {L : Lt}
/-- the join of a row of values -/
def sup (L : Lt) (xs : List Nat) : Nat := xs.foldl L.jn L.low
namespace Reg
variable (R : L.Reg)
include R
theorem fold_lt : ∀ (xs : List Nat) {z : Nat}, z < L.n → (∀ x ∈ xs, x < L.n) → xs.foldl L.jn z < L.n
  | [], _, h, _ => h
  | x :: xs, _, h, hs => fold_lt xs (R.jlt h (hs x (.head _))) fun y hy => hs y (.tail _ hy)
theorem fold_le : ∀ (xs : List Nat) {z i : Nat}, z < L.n → i < L.n → (∀ x ∈ xs, x < L.n) → (L.le (xs.foldl L.jn z) i = true ↔ L.le z i = true ∧ ∀ x ∈ xs, L.le x i = true)
  | [], z, i, h, hi, _ => ⟨fun g => ⟨g, fun _ y => nomatch y⟩, fun g => g.1⟩
  | x :: xs, z, i, h, hi, hs => by
    have hx := hs x (.head _)
    rw [List.foldl_cons, fold_le xs (R.jlt h hx) hi fun y hy => hs y (.tail _ hy), R.jle h hx hi, Bool.and_eq_true]
    constructor
    · rintro ⟨⟨g1, g2⟩, g3⟩
      exact ⟨g1, fun y hy => by cases hy with
        | head => exact g2
        | tail _ q => exact g3 y q⟩
    · rintro ⟨g1, g2⟩
      exact ⟨⟨g1, g2 x (.head _)⟩, fun y hy => g2 y (.tail _ hy)⟩
theorem sup_lt {xs : List Nat} (h : ∀ x ∈ xs, x < L.n) : L.sup xs < L.n := R.fold_lt xs R.isLow.2.1 h
theorem sup_le {xs : List Nat} {i : Nat} (hi : i < L.n) (h : ∀ x ∈ xs, x < L.n) : L.le (L.sup xs) i = true ↔ ∀ x ∈ xs, L.le x i = true := by
  unfold sup
  rw [R.fold_le xs R.isLow.2.1 hi h]
  exact ⟨fun g => g.2, fun g => ⟨R.isLow.2.2 i hi, g⟩⟩
theorem le_sup {xs : List Nat} {x : Nat} (h : ∀ x ∈ xs, x < L.n) (hx : x ∈ xs) : L.le x (L.sup xs) = true :=
  (R.sup_le (R.sup_lt h) h).mp (R.refl (R.sup_lt h)) x hx
theorem irr_low : L.irr L.low = false := Bool.eq_false_iff.mpr fun h => by
  obtain ⟨k, hk, hl⟩ := (irr_iff L _).mp h
  have h1 := hl k hk
  rw [R.refl hk] at h1
  rw [Bool.true_eq, Bool.and_eq_true, Bool.not_eq_true', beq_eq_false_iff_ne] at h1
  exact h1.2 (R.ord.anti k L.low hk R.isLow.2.1 h1.1 (R.isLow.2.2 k hk))
theorem irr_not {p k : Nat} (hp : p < L.n) (hl : ∀ i, i < L.n → L.le i k = (L.le i p && !(i == p))) : L.le p k = false := by
  rw [hl p hp, beq_self_eq_true]
  exact Bool.and_false _
/-- one within a join lies within one side -/
theorem irr_prime {p a b : Nat} (hp : p < L.n) (ha : a < L.n) (hb : b < L.n) (h : L.irr p = true) : L.le p (L.jn a b) = (L.le p a || L.le p b) := by
  rw [Bool.eq_iff_iff, Bool.or_eq_true]
  constructor
  · intro g
    obtain ⟨k, hk, hl⟩ := (irr_iff L p).mp h
    have np := R.irr_not hp hl
    have cut : ∀ {x}, x < L.n → L.le p x ≠ true → L.le (L.mt p x) k = true := fun {x} hx nx => by
      rw [hl _ (R.mlt hp hx), (R.ml hp hx).1, Bool.true_and, Bool.not_eq_true', beq_eq_false_iff_ne]
      exact fun e => nx ((R.le_m hp hx).mpr e)
    by_cases ca : L.le p a = true
    · exact .inl ca
    · by_cases cb : L.le p b = true
      · exact .inr cb
      · exfalso
        have e := (R.le_m hp (R.jlt ha hb)).mp g
        rw [R.mdist hp ha hb] at e
        have : L.le (L.jn (L.mt p a) (L.mt p b)) k = true := by rw [R.jle (R.mlt hp ha) (R.mlt hp hb) hk, cut ha ca, cut hb cb]; rfl
        rw [e, np] at this
        cases this
  · rintro (g | g)
    · exact R.trans p a _ hp ha (R.jlt ha hb) g (R.jl ha hb).1
    · exact R.trans p b _ hp hb (R.jlt ha hb) g (R.jl ha hb).2
theorem irr_join {a b : Nat} (ha : a < L.n) (hb : b < L.n) (h : L.irr (L.jn a b) = true) : L.jn a b = a ∨ L.jn a b = b := by
  have hj := R.jlt ha hb
  have := R.irr_prime hj ha hb h
  rw [R.refl hj, Bool.true_eq, Bool.or_eq_true] at this
  rcases this with g | g
  · exact .inl (R.ord.anti _ _ hj ha g (R.jl ha hb).1)
  · exact .inr (R.ord.anti _ _ hj hb g (R.jl ha hb).2)
theorem irrs_lt {x : Nat} (h : x ∈ L.irrs) : x < L.n := List.mem_range.mp (List.mem_filter.mp h).1
theorem mem_irrs {x : Nat} : x ∈ L.irrs ↔ x < L.n ∧ L.irr x = true := by
  unfold irrs
  rw [List.mem_filter, List.mem_range]
theorem le_lt {a b : Nat} (ha : a < L.n) (hb : b < L.n) (h : L.le b a = true) (ne : b ≠ a) : ((List.range L.n).filter fun x => L.le x b).length < ((List.range L.n).filter fun x => L.le x a).length := by
  refine filter_len_lt (fun x hx g => R.trans x b a (List.mem_range.mp hx) hb ha g h) ⟨a, List.mem_range.mpr ha, ?_, R.refl ha⟩
  exact Bool.eq_false_iff.mpr fun g => ne (R.ord.anti b a hb ha h g)
/-- every value is the join of the irreducible ones within it -/
theorem sup_irrs {a : Nat} (ha : a < L.n) : L.sup (L.irrs.filter fun p => L.le p a) = a := by
  have lt : ∀ a, ∀ x ∈ L.irrs.filter (fun p => L.le p a), x < L.n := fun a x hx => R.irrs_lt (List.mem_filter.mp hx).1
  have key : ∀ k a, a < L.n → ((List.range L.n).filter fun x => L.le x a).length ≤ k → L.le a (L.sup (L.irrs.filter fun p => L.le p a)) = true := fun k => by
    induction k with
    | zero =>
      intro a ha hk
      have := List.length_pos_of_mem (List.mem_filter.mpr ⟨List.mem_range.mpr ha, R.refl ha⟩ : a ∈ (List.range L.n).filter fun x => L.le x a)
      omega
    | succ k ih =>
      intro a ha hk
      have ht := R.sup_lt (lt a)
      have ta : L.le (L.sup (L.irrs.filter fun p => L.le p a)) a = true := (R.sup_le ha (lt a)).mpr fun x hx => (List.mem_filter.mp hx).2
      by_cases ne : L.sup (L.irrs.filter fun p => L.le p a) = a
      · rw [ne]; exact R.refl ha
      · refine R.le_sup (lt a) (List.mem_filter.mpr ⟨R.mem_irrs.mpr ⟨ha, (irr_iff L a).mpr ⟨_, ht, fun b hb => ?_⟩⟩, R.refl ha⟩)
        rw [Bool.eq_iff_iff, Bool.and_eq_true, Bool.not_eq_true', beq_eq_false_iff_ne]
        constructor
        · intro g
          refine ⟨R.trans b _ a hb ht ha g ta, fun e => ?_⟩
          rw [e] at g
          exact ne (R.ord.anti _ _ ht ha ta g)
        · rintro ⟨g, nb⟩
          have h1 := ih b hb (by have := R.le_lt ha hb g nb; omega)
          refine R.trans b _ _ hb (R.sup_lt (lt b)) ht h1 ((R.sup_le ht (lt b)).mpr fun x hx => R.le_sup (lt a) ?_)
          obtain ⟨m1, m2⟩ := List.mem_filter.mp hx
          exact List.mem_filter.mpr ⟨m1, R.trans x b a (R.irrs_lt m1) hb ha m2 g⟩
  refine R.ord.anti _ _ (R.sup_lt (lt a)) ha ((R.sup_le ha (lt a)).mpr fun x hx => (List.mem_filter.mp hx).2) (key _ a ha (Nat.le_refl _))
theorem irrs_inj {a b : Nat} (ha : a < L.n) (hb : b < L.n) (h : L.irrs.filter (fun p => L.le p a) = L.irrs.filter (fun p => L.le p b)) : a = b := by
  rw [← R.sup_irrs ha, h, R.sup_irrs hb]
end Reg
end Lt
/-! ### their number in lattices of down-sets -/
section
theorem irr_count {L : Lt} {m : Nat} (f : Nat → Nat) (h1 : ∀ c, c < m → f c < L.n ∧ L.irr (f c) = true) (inj : ∀ c d, c < m → d < m → f c = f d → c = d) (h2 : ∀ i, i < L.n → L.irr i = true → ∃ c, c < m ∧ f c = i) : L.irrs.length = m := by
  have nd : ((List.range m).map f).Nodup := by
    rw [List.nodup_iff_pairwise_ne, List.pairwise_map]
    exact List.nodup_range.imp_of_mem fun {a b} ha hb ne e => ne (inj a b (List.mem_range.mp ha) (List.mem_range.mp hb) e)
  have nd2 : L.irrs.Nodup := List.nodup_range.filter _
  have p : L.irrs.Perm ((List.range m).map f) := (List.perm_ext_iff_of_nodup nd2 nd).mpr fun i => by
    unfold Lt.irrs
    rw [List.mem_filter, List.mem_range, List.mem_map]
    constructor
    · rintro ⟨hi, hr⟩
      obtain ⟨c, hc, e⟩ := h2 i hi hr
      exact ⟨c, List.mem_range.mpr hc, e⟩
    · rintro ⟨c, hc, rfl⟩
      exact h1 c (List.mem_range.mp hc)
  rw [p.length_eq, List.length_map, List.length_range]
theorem pr_mem {n : Nat} {ps : List (Nat × Nat)} (p : Nat → Bool) (h : ∀ a b, a < n → b < n → Reach ps b a → p a = true → p b = true) : mask n p ∈ heaps n ps :=
  heap_mem.mpr ⟨mask_lt p n, fun a ha m b hb r => by
    rw [mask_bit, decide_eq_true ha, Bool.true_and] at m
    rw [mask_bit, decide_eq_true hb, Bool.true_and]
    exact h a b ha hb r m⟩
theorem at_bit {n i : Nat} {p : Nat → Bool} (h : i < n) : (mask n p).testBit i = p i := by rw [mask_bit, decide_eq_true h, Bool.true_and]
theorem part_in {n a b : Nat} (h : a < 2 ^ n) : part a b = true ↔ ∀ j, j < n → a.testBit j = true → b.testBit j = true :=
  part_bits.trans ⟨fun g j _ => g j, fun g j hj => g j (Nat.lt_of_not_le fun l => by rw [Nat.testBit_lt_two_pow (Nat.lt_of_lt_of_le h (Nat.pow_le_pow_right (by decide) l))] at hj; cases hj) hj⟩
theorem reachB_self {ps : List (Nat × Nat)} {c : Nat} : reachB ps c c = true := reachB_iff.mpr .here
theorem down_count {xs : List Str} {ps : List (Nat × Nat)} (A : Anti xs.length ps) : (downL xs ps).irrs.length = xs.length := by
  have R := down_reg xs ps
  have W := down_ring xs.length ps
  have hn := downL_n xs ps
  have le : ∀ i j, (downL xs ps).le i j = part ((heaps xs.length ps).getD i 0) ((heaps xs.length ps).getD j 0) := fun _ _ => rfl
  generalize xs.length = n at *
  generalize downL xs ps = L at *
  generalize hH : heaps n ps = hs at *
  have lt : ∀ {i}, i < L.n → hs.getD i 0 < 2 ^ n := fun hi => W.lt _ (getD_mem (hn ▸ hi))
  have hp : ∀ {i a b}, i < L.n → a < n → b < n → Reach ps b a → (hs.getD i 0).testBit a = true → (hs.getD i 0).testBit b = true := fun {i a b} hi ha hb r z => by
    have m : hs.getD i 0 ∈ heaps n ps := by rw [hH]; exact getD_mem (hn ▸ hi)
    exact (heap_mem.mp m).2 a ha z b hb r
  have idx : ∀ {g}, g ∈ heaps n ps → ∃ i, i < L.n ∧ hs.getD i 0 = g := fun {g} h => by
    rw [hH] at h
    obtain ⟨i, hi, e⟩ := mem_getD h
    exact ⟨i, hn ▸ hi, e⟩
  have inj : ∀ {i j}, i < L.n → j < L.n → hs.getD i 0 = hs.getD j 0 → i = j := fun hi hj e => getD_inj W.nd (hn ▸ hi) (hn ▸ hj) e
  obtain ⟨f, hf⟩ : ∃ f : Nat → Nat, ∀ c, c < n → f c < L.n ∧ hs.getD (f c) 0 = mask n (fun a => reachB ps a c) := (Classical.skolem (b := fun _ => Nat) (p := fun c i => c < n → i < L.n ∧ hs.getD i 0 = mask n (fun a => reachB ps a c))).mp fun c => by
    obtain ⟨i, hi, e⟩ := idx (pr_mem (n := n) (fun a => reachB ps a c) fun a b _ _ r z => reachB_iff.mpr (r.trans (reachB_iff.mp z)))
    exact ⟨i, fun _ => ⟨hi, e⟩⟩
  refine irr_count f (fun c hc => ⟨(hf c hc).1, (Lt.irr_iff L _).mpr ?_⟩) (fun c d hc hd e => ?_) (fun i hi h => ?_)
  · obtain ⟨k, hk, ek⟩ := idx (pr_mem (n := n) (fun a => reachB ps a c && !(a == c)) fun a b ha hb r z => by
      rw [Bool.and_eq_true, Bool.not_eq_true', beq_eq_false_iff_ne] at z ⊢
      refine ⟨reachB_iff.mpr (r.trans (reachB_iff.mp z.1)), fun e => z.2 ?_⟩
      subst e
      exact A a b ha hb (reachB_iff.mp z.1) r)
    refine ⟨k, hk, fun i hi => ?_⟩
    obtain ⟨h1, h2⟩ := hf c hc
    rw [le, le, ek, h2, Bool.eq_iff_iff, Bool.and_eq_true, Bool.not_eq_true', beq_eq_false_iff_ne, part_in (lt hi), part_in (lt hi)]
    constructor
    · intro g
      refine ⟨fun j hj z => ?_, fun e => ?_⟩
      · have := g j hj z
        rw [at_bit hj, Bool.and_eq_true] at this
        rw [at_bit hj]
        exact this.1
      · have := g c hc (by rw [e, h2, at_bit hc]; exact reachB_self)
        rw [at_bit hc, beq_self_eq_true] at this
        simp at this
    · rintro ⟨g, ne⟩ j hj z
      rw [at_bit hj, Bool.and_eq_true, Bool.not_eq_true', beq_eq_false_iff_ne]
      have gj := g j hj z
      rw [at_bit hj] at gj
      refine ⟨gj, fun e => ne ?_⟩
      subst e
      refine inj hi h1 (part_anti ((part_in (lt hi)).mpr ?_) ((part_in (lt h1)).mpr fun a ha za => ?_))
      · rw [h2]; exact g
      · rw [h2, at_bit ha] at za
        exact hp hi hj ha (reachB_iff.mp za) z
  · have e := (hf c hc).2.symm.trans ((congrArg (fun i => hs.getD i 0) e).trans (hf d hd).2)
    have e := mask_eq.mp e
    have e1 := e c hc
    have e2 := e d hd
    rw [reachB_self] at e1 e2
    exact A c d hc hd (reachB_iff.mp e1.symm) (reachB_iff.mp e2)
  · obtain ⟨k, hk, hl⟩ := (Lt.irr_iff L i).mp h
    have np := R.irr_not hi hl
    obtain ⟨c, hc, z1, z2⟩ : ∃ c, c < n ∧ (hs.getD i 0).testBit c = true ∧ (hs.getD k 0).testBit c ≠ true := Classical.byContradiction fun no => by
      have : L.le i k = true := by
        rw [le, part_in (lt hi)]
        exact fun j hj z => Classical.byContradiction fun y => no ⟨j, hj, z, y⟩
      rw [np] at this
      cases this
    obtain ⟨h1, h2⟩ := hf c hc
    refine ⟨c, hc, Classical.byContradiction fun ne => z2 ?_⟩
    have l1 : L.le (f c) i = true := by
      rw [le, part_in (lt h1), h2]
      intro a ha za
      rw [at_bit ha] at za
      exact hp hi hc ha (reachB_iff.mp za) z1
    have l2 : L.le (f c) k = true := by
      rw [hl _ h1, l1, beq_false_of_ne ne]
      rfl
    rw [le, part_in (lt h1), h2] at l2
    exact l2 c hc (by rw [at_bit hc]; exact reachB_self)
theorem downT_count {xs : List Str} {ps : List (Nat × Nat)} (A : Anti xs.length ps) : (turnL (downL xs ps)).irrs.length = xs.length := by
  have R := (down_reg xs ps).turn
  have W := down_ring xs.length ps
  have hn : (turnL (downL xs ps)).n = _ := downL_n xs ps
  have le : ∀ i j, (turnL (downL xs ps)).le i j = part ((heaps xs.length ps).getD j 0) ((heaps xs.length ps).getD i 0) := fun _ _ => rfl
  generalize xs.length = n at *
  generalize turnL (downL xs ps) = L at *
  generalize hH : heaps n ps = hs at *
  have lt : ∀ {i}, i < L.n → hs.getD i 0 < 2 ^ n := fun hi => W.lt _ (getD_mem (hn ▸ hi))
  have hp : ∀ {i a b}, i < L.n → a < n → b < n → Reach ps b a → (hs.getD i 0).testBit a = true → (hs.getD i 0).testBit b = true := fun {i a b} hi ha hb r z => by
    have m : hs.getD i 0 ∈ heaps n ps := by rw [hH]; exact getD_mem (hn ▸ hi)
    exact (heap_mem.mp m).2 a ha z b hb r
  have idx : ∀ {g}, g ∈ heaps n ps → ∃ i, i < L.n ∧ hs.getD i 0 = g := fun {g} h => by
    rw [hH] at h
    obtain ⟨i, hi, e⟩ := mem_getD h
    exact ⟨i, hn ▸ hi, e⟩
  have inj : ∀ {i j}, i < L.n → j < L.n → hs.getD i 0 = hs.getD j 0 → i = j := fun hi hj e => getD_inj W.nd (hn ▸ hi) (hn ▸ hj) e
  obtain ⟨f, hf⟩ : ∃ f : Nat → Nat, ∀ c, c < n → f c < L.n ∧ hs.getD (f c) 0 = mask n (fun a => !reachB ps c a) := (Classical.skolem (b := fun _ => Nat) (p := fun c i => c < n → i < L.n ∧ hs.getD i 0 = mask n (fun a => !reachB ps c a))).mp fun c => by
    obtain ⟨i, hi, e⟩ := idx (pr_mem (n := n) (fun a => !reachB ps c a) fun a b _ _ r z => by
      rw [Bool.not_eq_true'] at z ⊢
      exact Bool.eq_false_iff.mpr fun y => by
        have := reachB_iff.mpr ((reachB_iff.mp y).trans r)
        rw [z] at this; cases this)
    exact ⟨i, fun _ => ⟨hi, e⟩⟩
  refine irr_count f (fun c hc => ⟨(hf c hc).1, (Lt.irr_iff L _).mpr ?_⟩) (fun c d hc hd e => ?_) (fun i hi h => ?_)
  · obtain ⟨k, hk, ek⟩ := idx (pr_mem (n := n) (fun a => !reachB ps c a || a == c) fun a b ha hb r z => by
      rw [Bool.or_eq_true, Bool.not_eq_true', beq_iff_eq] at z ⊢
      rcases z with z | z
      · exact .inl (Bool.eq_false_iff.mpr fun y => by
          have := reachB_iff.mpr ((reachB_iff.mp y).trans r)
          rw [z] at this; cases this)
      · subst z
        by_cases y : reachB ps a b = true
        · exact .inr (A b a hb ha r (reachB_iff.mp y))
        · exact .inl (Bool.eq_false_iff.mpr y))
    refine ⟨k, hk, fun i hi => ?_⟩
    obtain ⟨h1, h2⟩ := hf c hc
    rw [le, le, Bool.eq_iff_iff, Bool.and_eq_true, Bool.not_eq_true', beq_eq_false_iff_ne, part_in (lt hk), part_in (lt h1), ek, h2]
    constructor
    · intro g
      refine ⟨fun j hj z => ?_, fun e => ?_⟩
      · rw [at_bit hj] at z
        exact g j hj (by rw [at_bit hj, z]; rfl)
      · have := g c hc (by rw [at_bit hc, beq_self_eq_true, Bool.or_true])
        rw [e, h2, at_bit hc, reachB_self] at this
        cases this
    · rintro ⟨g, ne⟩ j hj z
      rw [at_bit hj, Bool.or_eq_true, beq_iff_eq] at z
      rcases z with z | z
      · exact g j hj (by rw [at_bit hj]; exact z)
      · subst z
        refine Classical.byContradiction fun y => ne (inj hi h1 (part_anti ((part_in (lt hi)).mpr fun a ha za => ?_) ((part_in (lt h1)).mpr ?_)))
        · rw [h2, at_bit ha, Bool.not_eq_true']
          exact Bool.eq_false_iff.mpr fun w => y (hp hi ha hj (reachB_iff.mp w) za)
        · rw [h2]; exact g
  · have e := (hf c hc).2.symm.trans ((congrArg (fun i => hs.getD i 0) e).trans (hf d hd).2)
    have e := mask_eq.mp e
    have e1 := e c hc
    have e2 := e d hd
    rw [reachB_self] at e1 e2
    have e1 : reachB ps d c = true := by cases h : reachB ps d c <;> simp [h] at e1 ⊢
    have e2 : reachB ps c d = true := by cases h : reachB ps c d <;> simp [h] at e2 ⊢
    exact A c d hc hd (reachB_iff.mp e2) (reachB_iff.mp e1)
  · obtain ⟨k, hk, hl⟩ := (Lt.irr_iff L i).mp h
    have np := R.irr_not hi hl
    obtain ⟨c, hc, z1, z2⟩ : ∃ c, c < n ∧ (hs.getD k 0).testBit c = true ∧ (hs.getD i 0).testBit c ≠ true := Classical.byContradiction fun no => by
      have : L.le i k = true := by
        rw [le, part_in (lt hk)]
        exact fun j hj z => Classical.byContradiction fun y => no ⟨j, hj, z, y⟩
      rw [np] at this
      cases this
    obtain ⟨h1, h2⟩ := hf c hc
    refine ⟨c, hc, Classical.byContradiction fun ne => ?_⟩
    have l1 : L.le (f c) i = true := by
      rw [le, part_in (lt hi), h2]
      intro a ha za
      rw [at_bit ha, Bool.not_eq_true']
      exact Bool.eq_false_iff.mpr fun w => z2 (hp hi ha hc (reachB_iff.mp w) za)
    have l2 : L.le (f c) k = true := by
      rw [hl _ h1, l1, beq_false_of_ne ne]
      rfl
    rw [le, part_in (lt hk), h2] at l2
    have := l2 c hc z1
    rw [at_bit hc, reachB_self] at this
    cases this
end
/-! ### orders as rows: the heap, the law's own defs over rows -/
section
open PyProof.Rows
variable {w W_ : World} {K : PySem.W.Frag} {mg : Str → Option Value} {base : Heap} {H H' : Hp} {n : Nat} {R : Nat → Nat → Bool}
/-- the values stand for the items, one by one -/
inductive Al {α β : Type} (F : α → β → Prop) : List α → List β → Prop
  | nil : Al F [] []
  | cons {a : α} {b : β} {as : List α} {bs : List β} : F a b → Al F as bs → Al F (a :: as) (b :: bs)
theorem al_imp {α β : Type} {F G : α → β → Prop} {as : List α} {bs : List β} (h : Al F as bs) (i : ∀ a b, F a b → G a b) : Al G as bs := by
  induction h with
  | nil => exact .nil
  | cons x _ ih => exact .cons (i _ _ x) ih
theorem al_len {α β : Type} {F : α → β → Prop} {as : List α} {bs : List β} (h : Al F as bs) : as.length = bs.length := by
  induction h with
  | nil => rfl
  | cons _ _ ih => rw [List.length_cons, List.length_cons, ih]
theorem al_snoc {α β : Type} {F : α → β → Prop} {as : List α} {bs : List β} {a : α} {b : β} (h : Al F as bs) (x : F a b) : Al F (as ++ [a]) (bs ++ [b]) := by
  induction h with
  | nil => exact .cons x .nil
  | cons y _ ih => exact .cons y ih
theorem al_get {α β : Type} {F : α → β → Prop} {as : List α} {bs : List β} (h : Al F as bs) : ∀ {i : Nat} {a : α}, as[i]? = some a → ∃ b, bs[i]? = some b ∧ F a b := by
  induction h with
  | nil => exact fun h => nomatch h
  | cons x _ ih =>
    intro i a hi
    cases i with
    | zero => cases hi; exact ⟨_, rfl, x⟩
    | succ i => exact ih (by simpa using hi)
theorem al_refs {β : Type} {G : Addr → β → Prop} {vs : List V} {ms : List β} (h : Al (fun v m => ∃ l, v = V.ref l ∧ G l m) vs ms) : ∃ ls : List Addr, vs = ls.map V.ref ∧ Al G ls ms := by
  induction h with
  | nil => exact ⟨[], rfl, .nil⟩
  | cons a _ ih =>
    obtain ⟨l, rfl, g⟩ := a
    obtain ⟨ls, rfl, gs⟩ := ih
    exact ⟨l :: ls, rfl, .cons g gs⟩
theorem al_map {β : Type} {f : β → V} {vs : List V} {ms : List β} (h : Al (fun v m => v = f m) vs ms) : vs = ms.map f := by
  induction h with
  | nil => rfl
  | cons a _ ih => rw [ih, a]; rfl
/-- a comprehension over range(n): what is known of an item stays where the new list D alone changes -/
theorem lc_rng {β : Type} {G : Hp → V → β → Prop} (P : Nat → Bool) (f : Nat → β) {n : Nat} {g : TG} {tt : TT} {te : TE} {vs : List Nat} {σ : L2.St} {H1 : Hp} {D : Addr} {Qd : Hp → Prop} (hD : H1 D = none)
    (kG : ∀ {H H' : Hp} {v : V} {m : β}, Same H H' → G H v m → G H' v m) (kD : ∀ {H : Hp} {v : V} {m : β} {zs : List V}, G H v m → G (upd H D (.lst zs)) v m) (xz : n ≤ 1000)
    (hs : ∀ i H (Nx : V → Hp → Prop) (Ex : Hp → Prop), i < n → Same H1 H → (∃ ys, H D = some (.lst ys)) → (P i = true → ∀ y H2, Same H H2 → G H2 y (f i) → Nx y H2) → (P i = false → ∀ H2, Same H H2 → Ex H2) →
      g (.int (i : Nat)) (wipe σ vs) H fun σ2 H2 => wipe σ2 vs = wipe σ vs ∧ tt σ2 H2 fun b H3 => if b = true then te σ2 H3 Nx else Ex H3)
    (hd : ∀ H ys, Same H1 H → H D = some (.lst ys) → Al (G H) ys (((List.range n).filter P).map f) → Qd H) :
    ∃ W : Nat → Nat → Hp → Prop, (∃ m, W 0 m (upd H1 D (.lst []))) ∧ ∀ i m H, W i m H →
      ((Itr 0 n).stop i H ∧ Qd H) ∨ ((Itr 0 n).go i H ∧ ∃ Nx : Hp → Prop, (∀ H', Nx H' → ∃ m', m' < m ∧ W (i + 1) m' H') ∧ ∀ x H', (Itr 0 n).yld i H x H' → g x (wipe σ vs) H' fun σ2 H2 => wipe σ2 vs = wipe σ vs ∧ tt σ2 H2 fun b H3 =>
        if b = true then te σ2 H3 fun y H4 => ∃ acc, H4 D = some (.lst acc) ∧ acc.length < sizeLine ∧ Nx (upd H4 D (.lst (acc ++ [y]))) else Nx H3) := by
  refine lc_foldF (walk_range (lo := 0) (n := n)) (fun H => Same H1 H) (fun i H ys => i ≤ n ∧ Al (G H) ys (((List.range i).filter P).map f)) (Same.new hD _) (fun H ys zs s _ => s.mut hD _) ⟨Nat.zero_le _, .nil⟩ (fun i H ys zs xs r _ => ⟨r.1, al_imp r.2 fun v b => kD⟩) (fun i H ys r => ?_) (fun _ _ => trivial) ?_ (fun H ys s hy r => hd H ys s hy r.2)
  · have := al_len r.2
    have h1 : ((List.range i).filter P).length ≤ (List.range i).length := List.length_filter_le _ _
    rw [List.length_range] at h1
    rw [this, List.length_map]
    have := r.1
    omega
  · rintro i x H2 H3 ys Nx Ex hi s hy ⟨_, r⟩ ⟨e, hx⟩ k1 k2
    obtain rfl : H2 = H3 := e.symm
    obtain rfl := yfn0 hx
    rw [List.range_succ, List.filter_append, List.map_append] at k1 k2
    refine hs i H2 Nx Ex hi s ⟨_, hy⟩ (fun hp y H4 s4 gy => k1 y H4 (s.trans s4) (s4 _ _ hy) ⟨hi, ?_⟩) (fun hp H4 s4 => k2 H4 (s.trans s4) (s4 _ _ hy) ⟨hi, ?_⟩)
    · rw [show [i].filter P = [i] by rw [List.filter_cons, if_pos hp, List.filter_nil]]
      exact al_snoc (al_imp r fun v b => kG s4) gy
    · rw [show [i].filter P = [] by rw [List.filter_cons, if_neg (by rw [hp]; decide), List.filter_nil], List.map_nil, List.append_nil]
      exact al_imp r fun v b => kG s4
/-- a comprehension over a list of places -/
theorem lc_lst {β : Type} {G : Hp → V → β → Prop} (P : Nat → Bool) (f : Nat → β) {a : Addr} {us : List Nat} {g : TG} {tt : TT} {te : TE} {vs : List Nat} {σ : L2.St} {H1 : Hp} {D : Addr} {Qd : Hp → Prop} (hD : H1 D = none)
    (kG : ∀ {H H' : Hp} {v : V} {m : β}, Same H H' → G H v m → G H' v m) (kD : ∀ {H : Hp} {v : V} {m : β} {zs : List V}, G H v m → G (upd H D (.lst zs)) v m) (xz : us.length ≤ 1000) (hl : H1 a = some (.lst (us.map fun c => V.int (c : Nat))))
    (hs : ∀ c H (Nx : V → Hp → Prop) (Ex : Hp → Prop), c ∈ us → Same H1 H → (∃ ys, H D = some (.lst ys)) → (P c = true → ∀ y H2, Same H H2 → G H2 y (f c) → Nx y H2) → (P c = false → ∀ H2, Same H H2 → Ex H2) →
      g (.int (c : Nat)) (wipe σ vs) H fun σ2 H2 => wipe σ2 vs = wipe σ vs ∧ tt σ2 H2 fun b H3 => if b = true then te σ2 H3 Nx else Ex H3)
    (hd : ∀ H ys, Same H1 H → H D = some (.lst ys) → Al (G H) ys ((us.filter P).map f) → Qd H) :
    ∃ W : Nat → Nat → Hp → Prop, (∃ m, W 0 m (upd H1 D (.lst []))) ∧ ∀ i m H, W i m H →
      ((Itl K a).stop i H ∧ Qd H) ∨ ((Itl K a).go i H ∧ ∃ Nx : Hp → Prop, (∀ H', Nx H' → ∃ m', m' < m ∧ W (i + 1) m' H') ∧ ∀ x H', (Itl K a).yld i H x H' → g x (wipe σ vs) H' fun σ2 H2 => wipe σ2 vs = wipe σ vs ∧ tt σ2 H2 fun b H3 =>
        if b = true then te σ2 H3 fun y H4 => ∃ acc, H4 D = some (.lst acc) ∧ acc.length < sizeLine ∧ Nx (upd H4 D (.lst (acc ++ [y]))) else Nx H3) := by
  refine lc_foldF (walk_list (K := K) (a := a) (xs := us.map fun c => V.int (c : Nat))) (fun H => Same H1 H) (fun i H ys => Al (G H) ys (((us.take i).filter P).map f)) (Same.new hD _) (fun H ys zs s _ => s.mut hD _) .nil (fun i H ys zs xs r _ => al_imp r fun v b => kD) (fun i H ys r => ?_) (fun H s => SqL.of (K := K) (s _ _ hl)) ?_ (fun H ys s hy r => hd H ys s hy (by rw [List.length_map, List.take_length] at r; exact r))
  · have := al_len r
    have h1 : ((us.take i).filter P).length ≤ (us.take i).length := List.length_filter_le _ _
    rw [List.length_take] at h1
    rw [this, List.length_map]
    omega
  · rintro i x H2 H3 ys Nx Ex hi s hy r ⟨e, hx⟩ k1 k2
    obtain rfl : H2 = H3 := e.symm
    rw [List.length_map] at hi
    have ha : us[i]? = some us[i] := List.getElem?_eq_getElem hi
    have hx : (us.map fun c => V.int (c : Nat))[i]? = some x := hx
    rw [List.getElem?_map, ha] at hx
    obtain rfl := Option.some.inj hx
    have et : us.take (i + 1) = us.take i ++ [us[i]] := by rw [List.take_add_one, ha]; rfl
    rw [et, List.filter_append, List.map_append] at k1 k2
    refine hs us[i] H2 Nx Ex (List.getElem_mem hi) s ⟨_, hy⟩ (fun hp y H4 s4 gy => k1 y H4 (s.trans s4) (s4 _ _ hy) ?_) (fun hp H4 s4 => k2 H4 (s.trans s4) (s4 _ _ hy) ?_)
    · rw [show [us[i]].filter P = [us[i]] by rw [List.filter_cons, if_pos hp, List.filter_nil]]
      exact al_snoc (al_imp r fun v b => kG s4) gy
    · rw [show [us[i]].filter P = [] by rw [List.filter_cons, if_neg (by rw [hp]; decide), List.filter_nil], List.map_nil, List.append_nil]
      exact al_imp r fun v b => kG s4
/-- False not in [..] -/
theorem inV_blsG : ∀ bs : List Bool, inV (.bl false) (bs.map V.bl) = !(bs.all id)
  | [] => rfl
  | b :: bs => by
    have ih := inV_blsG bs
    show (eqV (.bl b) (.bl false) || inV (.bl false) (bs.map V.bl)) = _
    rw [ih]
    cases b <;> rfl
theorem flat_blsG : ∀ bs : List Bool, (bs.map V.bl).all flatV = true
  | [] => rfl
  | _ :: bs => flat_blsG bs
theorem noFG {bs : List Bool} {A B : Prop} (yes : bs.all id = true → A) (no : bs.all id = false → B) : if (if true = true then !inV (V.bl false) (bs.map V.bl) else inV (V.bl false) (bs.map V.bl)) = true then A else B := by
  rw [show (if true = true then !inV (V.bl false) (bs.map V.bl) else inV (V.bl false) (bs.map V.bl)) = bs.all id from by rw [if_pos rfl, inV_blsG, Bool.not_not]]
  cases c : bs.all id with
  | true => exact iteT (yes c)
  | false => exact iteF (no c)
theorem if1_runG {c : TT} {t u : TS} {D : Ends} {σ : L2.St} {H : Hp} (Pv : Bool → Hp → Prop) (h : ∀ Q' : Bool → Hp → Prop, (∀ b H', Pv b H' → Q' b H') → c σ H Q')
    (q : ∀ b H', Pv b H' → if b = true then t D σ H' else u D σ H') : tIfS c t u D σ H := h _ fun b H' p => q b H' p
theorem find_filter {p q : Nat → Bool} : ∀ xs : List Nat, xs.find? (fun c => p c && q c) = (xs.filter p).find? q
  | [] => rfl
  | x :: xs => by
    have ih := find_filter (p := p) (q := q) xs
    rw [List.find?_cons, List.filter_cons]
    cases c : p x with
    | false => simpa using ih
    | true =>
      rw [if_pos rfl, List.find?_cons, Bool.true_and]
      cases q x with
      | true => rfl
      | false => exact ih
theorem find_at {q : Nat → Bool} {us : List Nat} {i c : Nat} (h : us[i]? = some c) (hq : q c = true) (hb : ∀ j x, j < i → us[j]? = some x → q x = false) : us.find? q = some c := by
  rw [List.find?_eq_some_iff_getElem]
  obtain ⟨h1, h2⟩ := List.getElem?_eq_some_iff.mp h
  refine ⟨hq, i, h1, h2, fun j hj => ?_⟩
  rw [hb j us[j] hj (List.getElem?_eq_getElem _)]
  rfl
theorem all_filter {p q : Nat → Bool} (xs : List Nat) : (xs.all fun d => !(p d) || q d) = ((xs.filter p).map q).all id := by
  rw [Bool.eq_iff_iff, List.all_eq_true, List.all_map, List.all_eq_true]
  constructor
  · intro h x hx
    obtain ⟨h1, h2⟩ := List.mem_filter.mp hx
    have := h x h1
    rw [h2] at this
    simpa using this
  · intro h x hx
    cases c : p x with
    | false => rfl
    | true =>
      have : q x = true := h x (List.mem_filter.mpr ⟨hx, c⟩)
      rw [this]; rfl
theorem rowJ_find {n : Nat} {R : Nat → Nat → Bool} {a b : Nat} : rowJ n R a b = ((List.range n).filter fun c => R a c && R b c).find? fun c => ((((List.range n).filter fun c => R a c && R b c)).map (R c)).all id := by
  unfold rowJ first
  rw [← find_filter]
  congr 1
  funext c
  rw [all_filter]
/-- rows of values -/
structure GridAt (H : Hp) (t : Addr) (n : Nat) (f : Nat → Nat → V) : Prop where
  ex : ∃ ls : List Addr, H t = some (.lst (ls.map V.ref)) ∧ ls.length = n ∧ ∀ (a : Nat) (l : Addr), ls[a]? = some l → H l = some (.lst ((List.range n).map (f a)))
theorem GridAt.same {t : Addr} {f : Nat → Nat → V} (h : GridAt H t n f) (s : Same H H') : GridAt H' t n f := by
  obtain ⟨ls, h1, h2, h3⟩ := h.ex
  exact ⟨ls, s _ _ h1, h2, fun a l e => s _ _ (h3 a l e)⟩
theorem GridAt.row {t : Addr} {f : Nat → Nat → V} (h : GridAt H t n f) {a : Nat} (ha : a < n) : ∃ (ls : List Addr) (l : Addr), H t = some (.lst (ls.map V.ref)) ∧ (ls.map V.ref)[a]? = some (.ref l) ∧ H l = some (.lst ((List.range n).map (f a))) := by
  obtain ⟨ls, h1, h2, h3⟩ := h.ex
  have e : ls[a]? = some ls[a] := List.getElem?_eq_getElem (by omega)
  exact ⟨ls, ls[a], h1, by rw [List.getElem?_map, e]; rfl, h3 a _ e⟩
theorem GridAt.len {t : Addr} {f : Nat → Nat → V} (h : GridAt H t n f) : ∃ ls : List Addr, H t = some (.lst (ls.map V.ref)) ∧ (ls.map V.ref).length = n := by
  obtain ⟨ls, h1, h2, h3⟩ := h.ex
  exact ⟨ls, h1, by rw [List.length_map, h2]⟩
theorem GridAt.ext {t : Addr} {f g : Nat → Nat → V} (h : GridAt H t n f) (e : ∀ a b, a < n → b < n → f a b = g a b) : GridAt H t n g := by
  obtain ⟨ls, h1, h2, h3⟩ := h.ex
  refine ⟨ls, h1, h2, fun a l el => ?_⟩
  have ha : a < n := by have := (List.getElem?_eq_some_iff.mp el).1; omega
  rw [h3 a l el]
  rw [show (List.range n).map (f a) = (List.range n).map (g a) from List.map_congr_left fun b hb => e a b ha (List.mem_range.mp hb)]
theorem rg_atG {n i : Nat} {f : Nat → V} (h : i < n) : ((List.range n).map f)[i]? = some (f i) := by rw [List.getElem?_map, List.getElem?_range h]; rfl
theorem flt_idG {α : Type} (xs : List α) : xs.filter (fun _ => true) = xs := List.filter_eq_self.mpr fun _ _ => rfl
/-- a grid from the rows a comprehension made -/
theorem grid_of {t : Addr} {f : Nat → Nat → V} {ys : List V} (hy : H t = some (.lst ys)) (r : Al (fun v (a : Nat) => ∃ l, v = V.ref l ∧ (l ≠ t ∧ H l = some (.lst ((List.range n).map (f a))))) ys (List.range n)) : GridAt H t n f := by
  obtain ⟨ls, rfl, gs⟩ := al_refs r
  have gl := al_len gs
  rw [List.length_range] at gl
  refine ⟨ls, hy, gl, fun a l e => ?_⟩
  obtain ⟨b, hb, m, hl⟩ := al_get gs e
  obtain rfl : a = b := by
    have := (List.getElem?_eq_some_iff.mp e).1
    rw [List.getElem?_range (by omega)] at hb
    exact Option.some.inj hb
  exact hl
def rowV (R : Nat → Nat → Bool) : Nat → Nat → V := fun a b => .bl (R a b)
/-- _law_flipped -/
def sp_flip : Sp := fun vs H Q _ => ∃ (a : Addr) (n : Nat) (f : Nat → Nat → V), vs = [.ref a] ∧ GridAt H a n f ∧ n ≤ 64 ∧ ∀ r H', Same H H' → GridAt H' r n (fun i j => f j i) → Q (.ref r) H'
theorem ok_flip (T : Tx K mg w) : FnOk PL w K mg base CX0 1 T.a__law_flipped T.d__law_flipped ["rows"] sp_flip := by
  refine T.F__law_flipped.ok sc__law_flipped (fun vs H Q E h => ?_) (fun cdv A outer s H vs Q E hr h => ?_)
  · obtain ⟨a, n, f, rfl, _⟩ := h
    rfl
  obtain ⟨a, n, f, rfl, hg, n64, q⟩ := h
  refine ⟨_, pss_one (ps_ret (pe_lc (own := [("a", 2)]) (g := gName 2) (tt := tYes) rfl sc__law_flipped.nd (pi_range1 (by rfl) T.n_range (pa_cons (pe_callB call_len_seq (by rfl) T.n_len (by decide +kernel) (pa_cons (pv 0) pa_nil)) pa_nil)) (blkOk_by (N := N__law_flipped) (sc := defScope St__law_flipped) (by decide +kernel)) (fun _ _ _ _ _ => (pg_name (i := 2) sc__law_flipped.nd rfl (Or.inr rfl))) (fun _ _ _ _ _ => pts_nil) (fun _ _ _ _ _ => (pe_lc (own := [("b", 1)]) (g := gName 1) (tt := tYes) rfl sc__law_flipped.nd (pi_range1 (by rfl) T.n_range (pa_cons (pe_callB (kx_call_len_seq K) (by rfl) T.n_len (by decide +kernel) (pa_cons (pv 0) pa_nil)) pa_nil)) (blkOk_by (N := N__law_flipped) (by first | rfl | kernel_rfl)) (fun _ _ _ _ _ => (pg_name (i := 1) sc__law_flipped.nd rfl (Or.inl rfl))) (fun _ _ _ _ _ => pts_nil) (fun _ _ _ _ _ => (pe_ix (kx_ix_list K) (pe_ix (kx_ix_list K) (pv 0) (pv 1) (fun _ _ => rfl)) (pv 2) (fun _ _ => rfl))))))), ?_⟩
  obtain ⟨ls, h1, h2⟩ := hg.len
  refine ⟨_, rfl, a, _, rfl, .inl (SqL.of (K := K) h1), _, rfl, ?_⟩
  rw [h2]
  refine ⟨by omega, by omega, fun D hD => ?_⟩
  refine lc_rng (n := n) (G := fun H v (i : Nat) => ∃ l, v = V.ref l ∧ (l ≠ D ∧ H l = some (.lst ((List.range n).map ((fun i j => f j i) i))))) (fun _ => true) id hD (fun s ⟨l, e, m, h⟩ => ⟨l, e, m, s _ _ h⟩) (fun ⟨l, e, m, h⟩ => ⟨l, e, m, (upd_ne m).trans h⟩) (by omega) ?_ (fun H2 ys s2 hy rr => ?_)
  · rintro i H2 Nx Ex hi s2 ⟨ys, hyD⟩ ky kn
    refine ⟨rfl, ?_⟩
    refine lcY ?_
    refine ⟨_, rfl, a, _, rfl, .inl (SqL.of (K := K) (s2 _ _ h1)), _, rfl, ?_⟩
    rw [h2]
    refine ⟨by omega, by omega, fun D2 hD2 => ?_⟩
    refine lc_rng (n := n) (G := fun _ v (j : Nat) => v = f j i) (fun _ => true) id hD2 (fun _ h => h) (fun h => h) (by omega) ?_ (fun H3 zs s3 hz rr => ?_)
    · rintro j H3 Nx' Ex' hj s3 _ ky' kn'
      obtain ⟨ls', l', g1, g2, g3⟩ := ((hg.same s2).same s3).row hj
      refine ⟨rfl, ?_⟩
      refine lcY ?_
      exact ⟨_, rfl, _, rfl, a, _, _, _, rfl, rfl, SqL.of (K := K) g1, atI_nat g2, _, rfl, l', _, _, _, rfl, rfl, SqL.of (K := K) g3, atI_nat (rg_atG hi), ky' rfl _ _ (Same.refl _) rfl⟩
    · rw [flt_idG, List.map_id] at rr
      rw [al_map rr] at hz
      exact ky rfl _ _ s3 ⟨D2, rfl, fun e => (by rw [e, hyD] at hD2; cases hD2), hz⟩
  · rw [flt_idG, List.map_id] at rr
    exact q D _ s2 (grid_of hy rr)
def optV' : Option Nat → V := optV
/-- _law_join -/
def sp_lj : Sp := fun vs H Q _ => ∃ (p : Addr) (n a b : Nat) (R : Nat → Nat → Bool), vs = [.ref p, .int (a : Nat), .int (b : Nat)] ∧ GridAt H p n (rowV R) ∧ n ≤ 64 ∧ a < n ∧ b < n ∧ ∀ H', Same H H' → Q (optV (rowJ n R a b)) H'
theorem ok_lj (T : Tx K mg w) : FnOk PL w K mg base CX0 1 T.a__law_join T.d__law_join ["rows", "a", "b"] sp_lj := by
  refine T.F__law_join.ok sc__law_join (fun vs H Q E h => ?_) (fun cdv A outer s H vs Q E hr h => ?_)
  · obtain ⟨p, n, a, b, R, rfl, _⟩ := h
    rfl
  obtain ⟨p, n, a, b, R, rfl, hg, n64, ha, hb, q⟩ := h
  refine ⟨_, pss_cons (ps_setLc (i := 3) (own := [("c", 4)]) (g := gName 4) rfl sc__law_join.nd rfl rfl (sw_true rfl rfl rfl (by decide +kernel)) (pi_range1 (by rfl) T.n_range (pa_cons (pe_callB call_len_seq (by rfl) T.n_len (by decide +kernel) (pa_cons (pv 0) pa_nil)) pa_nil)) (blkOk_by (N := N__law_join) (sc := defScope St__law_join) (by decide +kernel)) (fun _ _ _ _ _ => (pg_name (i := 4) sc__law_join.nd rfl (Or.inl rfl))) (fun _ _ _ _ _ => (pts_one (PW.pt (pw_and (pt_val (pe_ix (kx_ix_list K) (pe_ix (kx_ix_list K) (pv 0) (pv 1) (fun _ _ => rfl)) (pv 4) (fun _ _ => rfl))) (pw_and1 (pt_val (pe_ix (kx_ix_list K) (pe_ix (kx_ix_list K) (pv 0) (pv 2) (fun _ _ => rfl)) (pv 4) (fun _ _ => rfl)))))))) (fun _ _ _ _ _ => (pv 4)))
    (pss_cons (ps_for PassesOwn.never rfl (pi_list (pv 3)) (pg_name (i := 4) sc__law_join.nd rfl (Or.inr rfl)) (pss_one (ps_if (pt_cmpR op_notIn_seq pe_bl (pe_lc (own := [("d", 5)]) (g := gName 5) (tt := tYes) rfl sc__law_join.nd (pi_list (pv 3)) (blkOk_by (N := N__law_join) (sc := defScope St__law_join) (by decide +kernel)) (fun _ _ _ _ _ => (pg_name (i := 5) sc__law_join.nd rfl (Or.inl rfl))) (fun _ _ _ _ _ => pts_nil) (fun _ _ _ _ _ => (pe_ix (kx_ix_list K) (pe_ix (kx_ix_list K) (pv 0) (pv 4) (fun _ _ => rfl)) (pv 5) (fun _ _ => rfl)))) (by rfl)) (pss_one (ps_ret (pv 4))) pss_nil)))
    (pss_one (ps_ret pe_non))), ?_⟩
  obtain ⟨ls, h1, h2⟩ := hg.len
  refine set_run (fun v H' => ∃ u, v = .ref u ∧ Same H H' ∧ H' u = some (.lst (((List.range n).filter fun c => R a c && R b c).map fun c => V.int (c : Nat)))) (fun Q' q' => ?_) ?_
  · refine ⟨_, rfl, p, _, rfl, .inl (SqL.of (K := K) h1), _, rfl, ?_⟩
    rw [h2]
    refine ⟨by omega, by omega, fun D hD => ?_⟩
    refine lc_rng (n := n) (G := fun _ v (j : Nat) => v = V.int (j : Nat)) (fun c => R a c && R b c) id hD (fun _ h => h) (fun h => h) (by omega) ?_ (fun H2 ys s2 hy rr => ?_)
    · rintro c H2 Nx Ex hc s2 _ ky kn
      obtain ⟨ls1, l1, g1, g2, g3⟩ := (hg.same s2).row ha
      obtain ⟨ls2, l2, k1, k2, k3⟩ := (hg.same s2).row hb
      refine ⟨rfl, ?_⟩
      refine ⟨_, rfl, _, rfl, p, _, _, _, rfl, rfl, SqL.of (K := K) g1, atI_nat g2, _, rfl, l1, _, _, _, rfl, rfl, SqL.of (K := K) g3, atI_nat (rg_atG hc), _, rfl, ?_⟩
      cases c1 : R a c with
      | false => exact iteF (kn (by rw [c1]; rfl) _ (Same.refl _))
      | true =>
        refine iteT ⟨_, rfl, _, rfl, p, _, _, _, rfl, rfl, SqL.of (K := K) k1, atI_nat k2, _, rfl, l2, _, _, _, rfl, rfl, SqL.of (K := K) k3, atI_nat (rg_atG hc), _, rfl, ?_⟩
        cases c2 : R b c with
        | false => exact kn (by rw [c1, c2]; rfl) _ (Same.refl _)
        | true => exact ⟨_, rfl, ky (by rw [c1, c2]; rfl) _ _ (Same.refl _) rfl⟩
    · rw [List.map_id] at rr
      rw [al_map rr] at hy
      exact q' _ _ ⟨D, rfl, s2, hy⟩
  rintro _ H2 ⟨u, rfl, s2, hu⟩
  dsimp only [gName]
  have ulen : ((List.range n).filter fun c => R a c && R b c).length ≤ 1000 := Nat.le_trans (List.length_filter_le _ _) (by rw [List.length_range]; omega)
  have ult : ∀ x ∈ (List.range n).filter (fun c => R a c && R b c), x < n := fun x hx => List.mem_range.mp (List.mem_filter.mp hx).1
  have hg2 := hg.same s2
  rw [rowJ_find] at q
  generalize (List.range n).filter (fun c => R a c && R b c) = us at hu ulen ult q
  show tSeq _ _ _ [some (.ref p), some (.int (a : Nat)), some (.int (b : Nat)), some (.ref u), none, none] H2
  refine ⟨_, rfl, u, rfl, ⟨_, SqL.of (K := K) hu⟩, ?_⟩
  refine for_it (walk_list (K := K) (a := u) (xs := us.map fun c => V.int (c : Nat))) (fun i σ H' => ∃ v4 : Option V, σ = [some (.ref p), some (.int (a : Nat)), some (.int (b : Nat)), some (.ref u), v4, none] ∧ Same H2 H' ∧ ∀ j x, j < i → us[j]? = some x → ((us.map (R x)).all id) = false) ⟨_, rfl, Same.refl _, fun j x h => absurd h (Nat.not_lt_zero _)⟩ (fun i σ H' _ ⟨_, _, s, _⟩ => SqL.of (K := K) (s _ _ hu)) ?_ ?_
  · rintro i x σ H3 H4 hi ⟨v4, rfl, s3, bad⟩ ⟨e4, hx⟩
    obtain rfl : H3 = H4 := e4.symm
    rw [List.length_map] at hi
    have hi' : us[i]? = some us[i] := List.getElem?_eq_getElem hi
    have hx : (us.map fun c => V.int (c : Nat))[i]? = some x := hx
    rw [List.getElem?_map, hi'] at hx
    obtain rfl := Option.some.inj hx
    generalize us[i] = c at hi'
    have hc := ult c (List.mem_of_getElem? hi')
    dsimp only [gName]
    have hg3 := hg2.same s3
    have hu3 := s3 _ _ hu
    refine if1_runG (fun b H' => b = (us.map (R c)).all id ∧ Same H3 H') (fun Q' q' => ?_) ?_
    · refine ⟨_, rfl, u, rfl, ⟨_, SqL.of (K := K) hu3⟩, fun D2 hD2 => ?_⟩
      refine lc_lst (G := fun _ v (b : Bool) => v = V.bl b) (fun _ => true) (R c) hD2 (fun _ h => h) (fun h => h) ulen hu3 ?_ (fun H4 zs s4 hz rr => ?_)
      · rintro j H4 Nx Ex hj s4 _ ky kn
        obtain ⟨ls1, l1, g1, g2, g3⟩ := (hg3.same s4).row hc
        refine ⟨rfl, ?_⟩
        refine lcY ?_
        exact ⟨_, rfl, _, rfl, p, _, _, _, rfl, rfl, SqL.of (K := K) g1, atI_nat g2, _, rfl, l1, _, _, _, rfl, rfl, SqL.of (K := K) g3, atI_nat (rg_atG (ult j hj)), ky rfl _ _ (Same.refl _) rfl⟩
      · rw [flt_idG] at rr
        rw [al_map rr] at hz
        refine ⟨D2, _, rfl, .inl (SqL.of (K := K) hz), rfl, flat_blsG _, _, rfl, ?_⟩
        rw [show (if true = true then !inV (V.bl false) (((us.map (R c))).map V.bl) else inV (V.bl false) ((us.map (R c)).map V.bl)) = (us.map (R c)).all id from by rw [if_pos rfl, inV_blsG, Bool.not_not]]
        exact q' _ _ ⟨rfl, s4⟩
    · rintro b H4 ⟨rfl, s4⟩
      refine ite2 (fun cc => ?_) (fun cc => ?_)
      · refine ⟨_, rfl, ?_⟩
        have := q H4 ((s2.trans s3).trans s4)
        rw [find_at hi' cc bad] at this
        exact this
      · refine ⟨_, rfl, s3.trans s4, fun j x hj hxj => ?_⟩
        rcases Nat.lt_or_ge j i with l | l
        · exact bad j x l hxj
        · obtain rfl : i = j := by omega
          rw [hi'] at hxj
          obtain rfl := Option.some.inj hxj
          exact Bool.eq_false_iff.mpr cc
  · rintro σ H3 ⟨v4, rfl, s3, bad⟩
    rw [List.length_map] at bad
    have e : us.find? (fun c => (us.map (R c)).all id) = none := List.find?_eq_none.mpr fun x hx => by
      obtain ⟨j, hj⟩ := List.getElem?_of_mem hx
      have := bad j x (List.getElem?_eq_some_iff.mp hj).1 hj
      rw [this]
      exact Bool.false_ne_true
    rw [e] at q
    exact q H3 (s2.trans s3)
def sp_lmt : Sp := fun vs H Q _ => ∃ (p : Addr) (n a b : Nat) (R : Nat → Nat → Bool), vs = [.ref p, .int (a : Nat), .int (b : Nat)] ∧ GridAt H p n (rowV R) ∧ n ≤ 64 ∧ a < n ∧ b < n ∧ ∀ H', Same H H' → Q (optV (rowJ n (rowF R) a b)) H'
/-- _law_low -/
def sp_low : Sp := fun vs H Q _ => ∃ (p : Addr) (n : Nat) (R : Nat → Nat → Bool), vs = [.ref p] ∧ GridAt H p n (rowV R) ∧ n ≤ 64 ∧ ∀ H', Same H H' → Q (optV (rowLow n R)) H'
theorem ok_low (T : Tx K mg w) : FnOk PL w K mg base CX0 1 T.a__law_low T.d__law_low ["rows"] sp_low := by
  refine T.F__law_low.ok sc__law_low (fun vs H Q E h => ?_) (fun cdv A outer s H vs Q E hr h => ?_)
  · obtain ⟨p, n, R, rfl, _⟩ := h
    rfl
  obtain ⟨p, n, R, rfl, hg, n64, q⟩ := h
  refine ⟨_, pss_cons (ps_for PassesOwn.never rfl (pi_range1 (by rfl) T.n_range (pa_cons (pe_callB call_len_seq (by rfl) T.n_len (by decide +kernel) (pa_cons (pv 0) pa_nil)) pa_nil)) (pg_name (i := 1) sc__law_low.nd rfl (Or.inl rfl)) (pss_one (ps_if (pt_cmpR op_notIn_seq pe_bl (pe_ix ix_list (pv 0) (pv 1) (fun _ _ => rfl)) (by rfl)) (pss_one (ps_ret (pv 1))) pss_nil)))
    (pss_one (ps_ret pe_non)), ?_⟩
  obtain ⟨ls, h1, h2⟩ := hg.len
  refine ⟨_, rfl, p, _, rfl, .inl (SqL.of (K := K) h1), _, rfl, ?_⟩
  rw [h2]
  refine ⟨by omega, by omega, ?_⟩
  refine for_range (lo := 0) (n := n) (fun i σ H' => ∃ v1 : Option V, σ = [some (.ref p), v1] ∧ H' = H ∧ ∀ j, j < i → ((List.range n).all fun d => R j d) = false) ⟨_, rfl, rfl, fun j h => absurd h (Nat.not_lt_zero _)⟩ ?_ ?_
  · rintro i σ H3 hi ⟨v1, rfl, eH, bad⟩
    have hi : i < n := hi
    subst eH
    rw [show (0 : Int) + (i : Int) = ((i : Nat) : Int) by omega]
    obtain ⟨ls1, l1, g1, g2, g3⟩ := hg.row hi
    rw [show (List.range n).map (rowV R i) = ((List.range n).map (R i)).map V.bl by rw [List.map_map]; rfl] at g3
    dsimp only [gName]
    refine if1_runG (fun b H' => b = ((List.range n).all fun d => R i d) ∧ H' = H3) (fun Q' q' => ?_) ?_
    · refine ⟨_, rfl, _, rfl, p, _, _, _, rfl, rfl, SqL.of (K := K) g1, atI_nat g2, l1, _, rfl, .inl (SqL.of (K := K) g3), rfl, flat_blsG _, _, rfl, ?_⟩
      rw [show (if true = true then !inV (V.bl false) (((List.range n).map (R i)).map V.bl) else inV (V.bl false) (((List.range n).map (R i)).map V.bl)) = ((List.range n).map (R i)).all id from by rw [if_pos rfl, inV_blsG, Bool.not_not]]
      exact q' _ _ ⟨by rw [List.all_map]; rfl, rfl⟩
    · rintro b _ ⟨rfl, rfl⟩
      refine ite2 (fun cc => ?_) (fun cc => ?_)
      · refine ⟨_, rfl, ?_⟩
        have := q _ (Same.refl _)
        rw [show rowLow n R = some i from first_is hi cc fun j hj => bad j hj] at this
        exact this
      · refine ⟨_, rfl, rfl, fun j hj => ?_⟩
        rcases Nat.lt_or_ge j i with l | l
        · exact bad j l
        · obtain rfl : j = i := by omega
          exact Bool.eq_false_iff.mpr cc
  · rintro σ _ ⟨v1, rfl, rfl, bad⟩
    rw [show rowLow n R = none from first_not bad] at q
    exact q _ (Same.refl _)
end
/-! ### orders as rows: tables, irreducible values -/
section
open PyProof.Rows
variable {w W_ : World} {K : PySem.W.Frag} {mg : Str → Option Value} {base : Heap} {H H' : Hp} {n : Nat} {R : Nat → Nat → Bool}
theorem flat_opts : ∀ os : List (Option Nat), (os.map optV).all flatV = true
  | [] => rfl
  | none :: os => flat_opts os
  | some _ :: os => flat_opts os
theorem eqV_opt (a : Nat) : ∀ o : Option Nat, eqV (optV o) (.int (a : Nat)) = (o == some a)
  | none => rfl
  | some b => by
    show ((b : Int) == (a : Int)) = (some b == some a)
    rw [Bool.eq_iff_iff, beq_iff_eq, beq_iff_eq]
    exact ⟨fun h => by rw [Int.ofNat.inj h], fun h => by rw [Option.some.inj h]⟩
theorem inV_opts (a : Nat) : ∀ os : List (Option Nat), inV (.int (a : Nat)) (os.map optV) = os.any fun o => o == some a
  | [] => rfl
  | o :: os => by
    have ih := inV_opts a os
    show (eqV (optV o) (.int (a : Nat)) || inV (.int (a : Nat)) (os.map optV)) = _
    rw [ih, eqV_opt]
    rfl
/-- _law_table -/
def tabV (n : Nat) (R : Nat → Nat → Bool) : Nat → Nat → V := fun a b => optV (rowJ n R a b)
def sp_ltb : Sp := fun vs H Q _ => ∃ (p : Addr) (n : Nat) (R : Nat → Nat → Bool), vs = [.ref p] ∧ GridAt H p n (rowV R) ∧ n ≤ 64 ∧ ∀ r H', Same H H' → GridAt H' r n (tabV n R) → Q (.ref r) H'
theorem ok_ltb (T : Tx K mg w) : FnOk PL w K mg base CX0 2 T.a__law_table T.d__law_table ["rows"] sp_ltb := by
  have G__law_join := ok_lj (w := w) (base := base) T
  refine T.F__law_table.ok sc__law_table (fun vs H Q E h => ?_) (fun cdv A outer s H vs Q E hr h => ?_)
  · obtain ⟨a, n, R, rfl, _⟩ := h
    rfl
  obtain ⟨a, n, R, rfl, hg, n64, q⟩ := h
  have hu := hu_of hr
  refine ⟨_, pss_one (ps_ret (pe_lc (own := [("a", 2)]) (g := gName 2) (tt := tYes) rfl sc__law_table.nd (pi_range1 (by rfl) T.n_range (pa_cons (pe_callB call_len_seq (by rfl) T.n_len (by decide +kernel) (pa_cons (pv 0) pa_nil)) pa_nil)) (blkOk_by (N := N__law_table) (sc := defScope St__law_table) (by decide +kernel)) (fun _ _ _ _ _ => (pg_name (i := 2) sc__law_table.nd rfl (Or.inr rfl))) (fun _ _ _ _ _ => pts_nil) (fun _ _ _ _ _ => (pe_lc (own := [("b", 1)]) (g := gName 1) (tt := tYes) rfl sc__law_table.nd (pi_range1 (by rfl) T.n_range (pa_cons (pe_callB (kx_call_len_seq K) (by rfl) T.n_len (by decide +kernel) (pa_cons (pv 0) pa_nil)) pa_nil)) (blkOk_by (N := N__law_table) (by first | rfl | kernel_rfl)) (fun _ _ _ _ _ => (pg_name (i := 1) sc__law_table.nd rfl (Or.inl rfl))) (fun _ _ _ _ _ => pts_nil) (fun _ _ _ _ _ => (pe_call G__law_join (hr.mono (by omega)) (by rfl) T.g__law_join T.F__law_join.kp T.b__law_join .nil pass0 (pa_cons (pv 0) (pa_cons (pv 2) (pa_cons (pv 1) pa_nil))))))))), ?_⟩
  obtain ⟨ls, h1, h2⟩ := hg.len
  refine ⟨_, rfl, a, _, rfl, .inl (SqL.of (K := K) h1), _, rfl, ?_⟩
  rw [h2]
  refine ⟨by omega, by omega, fun D hD => ?_⟩
  refine lc_rng (n := n) (G := fun H v (i : Nat) => ∃ l, v = V.ref l ∧ (l ≠ D ∧ H l = some (.lst ((List.range n).map (tabV n R i))))) (fun _ => true) id hD (fun s ⟨l, e, m, h⟩ => ⟨l, e, m, s _ _ h⟩) (fun ⟨l, e, m, h⟩ => ⟨l, e, m, (upd_ne m).trans h⟩) (by omega) ?_ (fun H2 ys s2 hy rr => ?_)
  · rintro i H2 Nx Ex hi s2 ⟨ys, hyD⟩ ky kn
    refine ⟨rfl, ?_⟩
    refine lcY ?_
    refine ⟨_, rfl, a, _, rfl, .inl (SqL.of (K := K) (s2 _ _ h1)), _, rfl, ?_⟩
    rw [h2]
    refine ⟨by omega, by omega, fun D2 hD2 => ?_⟩
    refine lc_rng (n := n) (G := fun _ v (j : Nat) => v = tabV n R i j) (fun _ => true) id hD2 (fun _ h => h) (fun h => h) (by omega) ?_ (fun H3 zs s3 hz rr => ?_)
    · rintro j H3 Nx' Ex' hj s3 _ ky' kn'
      refine ⟨rfl, ?_⟩
      refine lcY ?_
      exact ⟨_, rfl, _, rfl, _, rfl, a, n, i, j, R, rfl, (hg.same s2).same s3, n64, hi, hj, fun H4 s4 => ky' rfl _ _ s4 rfl⟩
    · rw [flt_idG, List.map_id] at rr
      rw [al_map rr] at hz
      exact ky rfl _ _ s3 ⟨D2, rfl, fun e => (by rw [e, hyD] at hD2; cases hD2), hz⟩
  · rw [flt_idG, List.map_id] at rr
    exact q D _ s2 (grid_of hy rr)
/-- _law_pieces -/
def others (n a : Nat) : List Nat := (List.range n).filter fun b => !(b == a)
def madeR (n : Nat) (R : Nat → Nat → Bool) (a b : Nat) : Bool := ((others n a).map fun c => rowJ n R b c).any fun o => o == some a
theorem any_filterG {p q : Nat → Bool} : ∀ xs : List Nat, (xs.any fun b => p b && q b) = (xs.filter p).any q
  | [] => rfl
  | x :: xs => by
    have ih := any_filterG (p := p) (q := q) xs
    rw [List.any_cons, ih, List.filter_cons]
    cases p x with
    | false => simp
    | true => simp
theorem rowIrr_is {n : Nat} {R : Nat → Nat → Bool} {a : Nat} : rowIrr n R a = (!((others n a).any (madeR n R a)) && !(some a == rowLow n R)) := by
  unfold rowIrr others
  rw [any_filterG]
  congr 2
  unfold madeR others
  congr 1
  funext b
  rw [any_filterG, List.any_map]
  rfl
def sp_lpc : Sp := fun vs H Q _ => ∃ (p t : Addr) (n : Nat) (R : Nat → Nat → Bool), vs = [.ref p, .ref t] ∧ GridAt H p n (rowV R) ∧ GridAt H t n (tabV n R) ∧ n ≤ 64 ∧ ∀ l H', Same H H' → H' l = some (.lst (((List.range n).filter (rowIrr n R)).map fun c => V.int (c : Nat))) → Q (.ref l) H'
theorem ok_lpc (T : Tx K mg w) : FnOk PL w K mg base CX0 2 T.a__law_pieces T.d__law_pieces ["rows", "joins"] sp_lpc := by
  have G__law_low := ok_low (w := w) (base := base) T
  refine T.F__law_pieces.ok sc__law_pieces (fun vs H Q E h => ?_) (fun cdv A outer s H vs Q E hr h => ?_)
  · obtain ⟨p, t, n, R, rfl, _⟩ := h
    rfl
  obtain ⟨p, t, n, R, rfl, hg, ht, n64, q⟩ := h
  have hu := hu_of hr
  refine ⟨_, pss_cons (ps_set (i := 2) sc__law_pieces.nd rfl (Or.inl rfl) (pe_lst pa_nil))
    (pss_cons (ps_for PassesOwn.never rfl (pi_range1 (by rfl) T.n_range (pa_cons (pe_callB call_len_seq (by rfl) T.n_len (by decide +kernel) (pa_cons (pv 0) pa_nil)) pa_nil)) (pg_name (i := 3) sc__law_pieces.nd rfl (Or.inr rfl)) (pss_cons (ps_setLc (i := 4) (own := [("b", 5)]) (g := gName 5) rfl sc__law_pieces.nd rfl rfl (sw_true rfl rfl rfl (by decide +kernel)) (pi_range1 (by rfl) T.n_range (pa_cons (pe_callB call_len_seq (by rfl) T.n_len (by decide +kernel) (pa_cons (pv 0) pa_nil)) pa_nil)) (blkOk_by (N := N__law_pieces) (sc := defScope St__law_pieces) (by decide +kernel)) (fun _ _ _ _ _ => (pg_name (i := 5) sc__law_pieces.nd rfl (Or.inl rfl))) (fun _ _ _ _ _ => (pts_one (pt_cmpR op_ne (pv 5) (pv 3) (nomark _)))) (fun _ _ _ _ _ => (pv 5)))
    (pss_cons (ps_set (i := 6) sc__law_pieces.nd rfl (Or.inl rfl) pe_bl)
    (pss_cons (ps_for PassesOwn.never rfl (pi_list (pv 4)) (pg_name (i := 5) sc__law_pieces.nd rfl (Or.inr rfl)) (pss_one (ps_set (i := 6) sc__law_pieces.nd rfl (Or.inl rfl) (pe_or (pv 6) (pe_one (pe_cmpR op_in_seq (pv 3) (pe_lc (own := [("c", 7)]) (g := gName 7) (tt := tYes) rfl sc__law_pieces.nd (pi_list (pv 4)) (blkOk_by (N := N__law_pieces) (sc := defScope St__law_pieces) (by decide +kernel)) (fun _ _ _ _ _ => (pg_name (i := 7) sc__law_pieces.nd rfl (Or.inl rfl))) (fun _ _ _ _ _ => pts_nil) (fun _ _ _ _ _ => (pe_ix (kx_ix_list K) (pe_ix (kx_ix_list K) (pv 1) (pv 5) (fun _ _ => rfl)) (pv 7) (fun _ _ => rfl)))) (by rfl)))))))
    (pss_one (ps_if (PW.pt (pw_and (pt_not (pt_val (pv 6))) (pw_and1 (pt_cmpR op_ne (pv 3) (pe_call G__law_low (hr.mono (by omega)) (by rfl) T.g__law_low T.F__law_low.kp T.b__law_low .nil pass0 (pa_cons (pv 0) pa_nil)) (nomark _))))) (pss_one (ps_expr (pe_bm PySem.F.plainAttrs_list PySem.F.slot_list_append PySem.F.type_list_append mt_append (pv 2) (pa_cons (pv 3) pa_nil)))) pss_nil))))))
    (pss_one (ps_ret (pv 2)))), ?_⟩
  obtain ⟨ls, h1, h2⟩ := hg.len
  refine ⟨(by show 0 ≤ sizeLine; decide), newQ (.lst []) fun fl hfl s1 e1 => ?_⟩
  generalize upd H fl (.lst []) = H1 at s1 e1 ⊢
  dsimp only [gName]
  show tSeq _ _ _ [some (.ref p), some (.ref t), some (.ref fl), none, none, none, none, none] H1
  have olen : ∀ a, (others n a).length ≤ 1000 := fun a => Nat.le_trans (List.length_filter_le _ _) (by rw [List.length_range]; omega)
  have olt : ∀ a x, x ∈ others n a → x < n := fun a x hx => List.mem_range.mp (List.mem_filter.mp hx).1
  refine st_run (fun σ H' => ∃ v3 v4 v5 v6 v7 : Option V, σ = [some (.ref p), some (.ref t), some (.ref fl), v3, v4, v5, v6, v7] ∧ Same H H' ∧ H' fl = some (.lst (((List.range n).filter (rowIrr n R)).map fun c => V.int (c : Nat)))) (fun D' hD q' => ?_) ?_
  · refine ⟨_, rfl, p, _, rfl, .inl (SqL.of (K := K) (s1 _ _ h1)), _, rfl, ?_⟩
    rw [h2]
    refine ⟨by omega, by omega, ?_⟩
    refine for_range (lo := 0) (n := n) (fun i σ H' => ∃ v3 v4 v5 v6 v7 : Option V, σ = [some (.ref p), some (.ref t), some (.ref fl), v3, v4, v5, v6, v7] ∧ i ≤ n ∧ Same H H' ∧ H' fl = some (.lst (((List.range i).filter (rowIrr n R)).map fun c => V.int (c : Nat)))) ⟨_, _, _, _, _, rfl, Nat.zero_le _, s1, e1⟩ ?_ ?_
    · rintro a σ H2 ha ⟨v3, v4, v5, v6, v7, rfl, _, s2, e2⟩
      have ha : a < n := ha
      rw [show (0 : Int) + (a : Int) = ((a : Nat) : Int) by omega]
      dsimp only [gName]
      show tSeq _ _ _ [some (.ref p), some (.ref t), some (.ref fl), some (.int (a : Nat)), v4, v5, v6, v7] H2
      refine set_run (fun v H' => ∃ D, v = .ref D ∧ Same H2 H' ∧ H' D = some (.lst ((others n a).map fun c => V.int (c : Nat)))) (fun Q' q' => ?_) ?_
      · refine ⟨_, rfl, p, _, rfl, .inl (SqL.of (K := K) (s2 _ _ h1)), _, rfl, ?_⟩
        rw [h2]
        refine ⟨by omega, by omega, fun D hD => ?_⟩
        refine lc_rng (n := n) (G := fun _ v (j : Nat) => v = V.int (j : Nat)) (fun b => !(b == a)) id hD (fun _ h => h) (fun h => h) (by omega) ?_ (fun H3 ys s3 hy rr => ?_)
        · rintro b H3 Nx Ex hb s3 _ ky kn
          refine ⟨rfl, ?_⟩
          refine ⟨_, rfl, _, rfl, rfl, _, rfl, ?_⟩
          have q1 : decide (V.int (b : Nat) = V.int (a : Nat)) = (b == a) := int_ext
          dsimp only
          rw [q1]
          cases c1 : b == a with
          | true => exact iteF (kn (by rw [c1]; rfl) _ (Same.refl _))
          | false => exact iteT ⟨_, rfl, ky (by rw [c1]; rfl) _ _ (Same.refl _) rfl⟩
        · rw [List.map_id] at rr
          rw [al_map rr] at hy
          exact q' _ _ ⟨D, rfl, s3, hy⟩
      rintro _ H3 ⟨D, rfl, s3, e3⟩
      have s03 := s2.trans s3
      dsimp only [gName]
      show tSeq _ _ _ [some (.ref p), some (.ref t), some (.ref fl), some (.int (a : Nat)), some (.ref D), v5, v6, v7] H3
      refine set_run (fun v H' => v = .bl false ∧ H3 = H') (fun Q' q' => q' _ _ ⟨rfl, rfl⟩) ?_
      rintro _ H' ⟨rfl, e⟩
      obtain rfl : H3 = H' := e
      dsimp only [gName]
      show tSeq _ _ _ [some (.ref p), some (.ref t), some (.ref fl), some (.int (a : Nat)), some (.ref D), v5, some (.bl false), v7] H3
      have os : ∀ i b, (others n a)[i]? = some b → ((others n a).take (i + 1)).any (madeR n R a) = (((others n a).take i).any (madeR n R a) || madeR n R a b) := fun i b hb => by
        rw [List.take_add_one, hb, List.any_append]
        show (_ || (madeR n R a b || false)) = _
        rw [Bool.or_false]
      have oln := olen a
      have olt := olt a
      have om : (others n a).any (madeR n R a) = (others n a).any (madeR n R a) := rfl
      refine st_run (fun σ H' => ∃ v5 v7 : Option V, σ = [some (.ref p), some (.ref t), some (.ref fl), some (.int (a : Nat)), some (.ref D), v5, some (.bl ((others n a).any (madeR n R a))), v7] ∧ Same H3 H') (fun D' hD q' => ?_) ?_
      · refine ⟨_, rfl, D, rfl, ⟨_, SqL.of (K := K) e3⟩, ?_⟩
        refine for_it (walk_list (K := K) (a := D) (xs := (others n a).map fun c => V.int (c : Nat))) (fun i σ H' => ∃ v5 v7 : Option V, σ = [some (.ref p), some (.ref t), some (.ref fl), some (.int (a : Nat)), some (.ref D), v5, some (.bl (((others n a).take i).any (madeR n R a))), v7] ∧ Same H3 H') ⟨_, _, rfl, Same.refl _⟩ (fun i σ H' _ ⟨_, _, _, s⟩ => SqL.of (K := K) (s _ _ e3)) ?_ ?_
        · rintro i x σ H4 H5 hi ⟨v5, v7, rfl, s4⟩ ⟨e5, hx⟩
          obtain rfl : H4 = H5 := e5.symm
          rw [List.length_map] at hi
          have hb : (others n a)[i]? = some (others n a)[i] := List.getElem?_eq_getElem hi
          have hx : ((others n a).map fun c => V.int (c : Nat))[i]? = some x := hx
          rw [List.getElem?_map, hb] at hx
          obtain rfl := Option.some.inj hx
          generalize (others n a)[i] = b at hb
          have bn := olt b (List.mem_of_getElem? hb)
          dsimp only [gName]
          refine ⟨_, rfl, _, rfl, ?_⟩
          have tk := os i b hb
          cases cm : ((others n a).take i).any (madeR n R a) with
          | true =>
            refine iteT ?_
            refine ⟨some (.int (b : Nat)), v7, ?_, s4⟩
            rw [tk, cm]
            rfl
          | false =>
            refine iteF ?_
            have s34 := s4 _ _ e3
            obtain ⟨ls', l', g1, g2, g3⟩ := ((ht.same s03).same s4).row bn
            refine ⟨_, rfl, _, rfl, D, rfl, ⟨_, SqL.of (K := K) s34⟩, fun E hE => ?_⟩
            refine lc_lst (G := fun _ v (o : Option Nat) => v = optV o) (fun _ => true) (fun c => rowJ n R b c) hE (fun _ h => h) (fun h => h) oln s34 ?_ (fun H5 zs s5 hz rr => ?_)
            · rintro c H5 Nx Ex hc s5 _ ky kn
              refine ⟨rfl, ?_⟩
              refine lcY ?_
              exact ⟨_, rfl, _, rfl, t, _, _, _, rfl, rfl, SqL.of (K := K) (s5 _ _ g1), atI_nat g2, _, rfl, l', _, _, _, rfl, rfl, SqL.of (K := K) (s5 _ _ g3), atI_nat (rg_atG (olt c hc)), ky rfl _ _ (Same.refl _) rfl⟩
            · rw [flt_idG] at rr
              rw [al_map rr] at hz
              refine ⟨E, _, rfl, .inl (SqL.of (K := K) hz), rfl, flat_opts _, ?_⟩
              refine ⟨some (.int (b : Nat)), v7, ?_, s4.trans s5⟩
              rw [tk, cm, Bool.false_or]
              show [_, _, _, _, _, _, some (V.bl (inV (.int (a : Nat)) (((others n a).map fun c => rowJ n R b c).map optV))), _] = _
              rw [inV_opts]
              rfl
        · rintro σ H4 ⟨v5, v7, rfl, s4⟩
          refine q' _ _ ⟨v5, v7, ?_, s4⟩
          rw [List.length_map, List.take_length]
      rintro _ H4 ⟨v5, v7, rfl, s4⟩
      have s04 := s03.trans s4
      have e4 := s4 _ _ (s3 _ _ e2)
      have snoc : ∀ b : Bool, rowIrr n R a = b → (((List.range (a + 1)).filter (rowIrr n R)).map fun c => V.int (c : Nat)) = (((List.range a).filter (rowIrr n R)).map fun c => V.int (c : Nat)) ++ if b then [.int (a : Nat)] else [] := fun b hb => by
        rw [List.range_succ, List.filter_append, List.map_append]
        congr 1
        rw [List.filter_cons, hb]
        cases b <;> rfl
      have stay : rowIrr n R a = false → ∀ {H5}, Same H4 H5 → H5 fl = some (.lst (((List.range (a + 1)).filter (rowIrr n R)).map fun c => V.int (c : Nat))) := fun h H5 s5 => by
        rw [s5 _ _ e4, snoc false h]
        exact congrArg (fun l => some (HO.lst l)) (List.append_nil _).symm
      refine if1_runG (fun b H' => b = rowIrr n R a ∧ Same H4 H') (fun Q' q' => ?_) ?_
      · refine ⟨_, rfl, _, rfl, ?_⟩
        cases cm : (others n a).any (madeR n R a) with
        | true =>
          refine iteF ?_
          exact q' _ _ ⟨by rw [rowIrr_is, cm]; rfl, Same.refl _⟩
        | false =>
          refine iteT ?_
          refine ⟨_, rfl, _, rfl, p, n, R, rfl, hg.same s04, n64, fun H5 s5 => ?_⟩
          have lo : rowIrr n R a = !(some a == rowLow n R) := by rw [rowIrr_is, cm]; rfl
          cases cl : rowLow n R with
          | none =>
            refine ⟨rfl, _, rfl, q' _ _ ⟨?_, s5⟩⟩
            rw [lo, cl]; rfl
          | some l =>
            refine ⟨rfl, _, rfl, q' _ _ ⟨?_, s5⟩⟩
            rw [lo, cl]
            have q1 : decide (V.int (a : Nat) = V.int (l : Nat)) = (a == l) := int_ext
            show (!decide (V.int (a : Nat) = V.int (l : Nat))) = _
            rw [q1]
            rfl
      rintro b H5 ⟨eb, s5⟩
      cases b with
      | false =>
        refine iteF ?_
        exact ⟨_, _, _, _, _, rfl, ha, s04.trans s5, stay eb.symm s5⟩
      | true =>
        refine iteT ?_
        refine ⟨_, rfl, .inl ⟨rfl, _, SqL.of (K := K) (s5 _ _ e4)⟩, _, rfl, fl, _, _, rfl, rfl, s5 _ _ e4, ?_, ?_⟩
        · rw [List.length_map]
          refine Nat.lt_of_le_of_lt (List.length_filter_le _ _) ?_
          rw [List.length_range]
          exact Nat.lt_of_lt_of_le (show a < 64 by omega) (by decide)
        · refine ⟨_, _, _, _, _, rfl, ha, (s04.trans s5).mut hfl _, upd_same.trans ?_⟩
          rw [snoc true eb.symm]
          rfl
    · rintro σ H2 ⟨v3, v4, v5, v6, v7, rfl, _, s2, e2⟩
      exact q' _ _ ⟨v3, v4, v5, v6, v7, rfl, s2, e2⟩
  rintro _ H2 ⟨v3, v4, v5, v6, v7, rfl, s2, e2⟩
  exact ⟨_, rfl, q _ _ s2 e2⟩
end
/-! ### orders as rows: _law_closed -/
section
open PyProof.Rows
variable {w W_ : World} {K : PySem.W.Frag} {mg : Str → Option Value} {base : Heap} {H0 H H' : Hp} {n : Nat} {t : Addr} {f : Nat → Nat → V}
/-- rows of one's own, made behind H0 -/
structure MGrid (H0 H : Hp) (t : Addr) (n : Nat) (f : Nat → Nat → V) : Prop where
  same : Same H0 H
  ex : ∃ ls : List Addr, H t = some (.lst (ls.map V.ref)) ∧ ls.length = n ∧ ls.Nodup ∧ ∀ (a : Nat) (l : Addr), ls[a]? = some l → l ≠ t ∧ H0 l = none ∧ H l = some (.lst ((List.range n).map (f a)))
theorem MGrid.grid (h : MGrid H0 H t n f) : GridAt H t n f := by
  obtain ⟨ls, h1, h2, _, h3⟩ := h.ex
  exact ⟨ls, h1, h2, fun a l e => (h3 a l e).2.2⟩
theorem MGrid.ext {g : Nat → Nat → V} (h : MGrid H0 H t n f) (e : ∀ a b, a < n → b < n → f a b = g a b) : MGrid H0 H t n g := by
  obtain ⟨ls, h1, h2, nd, h3⟩ := h.ex
  refine ⟨h.same, ls, h1, h2, nd, fun a l el => ?_⟩
  have ha : a < n := by have := (List.getElem?_eq_some_iff.mp el).1; omega
  obtain ⟨q1, q2, q3⟩ := h3 a l el
  refine ⟨q1, q2, q3.trans ?_⟩
  rw [show (List.range n).map (f a) = (List.range n).map (g a) from List.map_congr_left fun b hb => e a b ha (List.mem_range.mp hb)]
theorem set_range {n y : Nat} {g : Nat → V} {v : V} : ((List.range n).map g).set y v = (List.range n).map fun b => if b = y then v else g b := by
  refine List.ext_getElem? fun k => ?_
  rw [List.getElem?_set, List.length_map, List.length_range]
  by_cases hk : k < n
  · rw [List.getElem?_map, List.getElem?_map, List.getElem?_range hk]
    by_cases ck : y = k
    · rw [if_pos ck, if_pos (by omega)]
      show _ = some (if k = y then v else g k)
      rw [if_pos ck.symm]
    · rw [if_neg ck]
      show _ = some (if k = y then v else g k)
      rw [if_neg fun e => ck e.symm]
      rfl
  · have : (List.range n)[k]? = none := List.getElem?_eq_none (by rw [List.length_range]; omega)
    rw [List.getElem?_map, List.getElem?_map, this]
    by_cases ck : y = k
    · rw [if_pos ck, if_neg (by omega)]; rfl
    · rw [if_neg ck]; rfl
/-- rows[x][y] = v -/
theorem MGrid.set (h : MGrid H0 H t n f) {x y : Nat} (hx : x < n) (v : V) : ∃ (ls : List Addr) (l : Addr), H t = some (.lst (ls.map V.ref)) ∧ (ls.map V.ref)[x]? = some (.ref l) ∧ H l = some (.lst ((List.range n).map (f x))) ∧
    MGrid H0 (upd H l (.lst (((List.range n).map (f x)).set y v))) t n (fun a b => if a = x ∧ b = y then v else f a b) := by
  obtain ⟨ls, h1, h2, nd, h3⟩ := h.ex
  have e : ls[x]? = some ls[x] := List.getElem?_eq_getElem (by omega)
  generalize ls[x] = l at e
  obtain ⟨q1, q2, q3⟩ := h3 x l e
  refine ⟨ls, l, h1, by rw [List.getElem?_map, e]; rfl, q3, h.same.mut q2 _, ls, (upd_ne (Ne.symm q1)).trans h1, h2, nd, fun a k ek => ?_⟩
  obtain ⟨r1, r2, r3⟩ := h3 a k ek
  refine ⟨r1, r2, ?_⟩
  by_cases ax : a = x
  · subst ax
    rw [e] at ek
    obtain rfl := Option.some.inj ek
    rw [upd_same, set_range]
    refine congrArg (fun z => some (HO.lst z)) (List.map_congr_left fun b _ => ?_)
    by_cases hb : b = y
    · rw [if_pos hb, if_pos ⟨rfl, hb⟩]
    · rw [if_neg hb, if_neg fun z => hb z.2]
  · have kl : k ≠ l := fun z => by
      subst z
      have h4 := List.getElem?_eq_some_iff.mp ek
      have h5 := List.getElem?_eq_some_iff.mp e
      exact ax ((List.getElem_inj nd).mp (h4.2.trans h5.2.symm))
    rw [upd_ne kl, r3]
    refine congrArg (fun z => some (HO.lst z)) (List.map_congr_left fun b _ => ?_)
    rw [if_neg fun z => ax z.1]
/-- pairs of places -/
structure DuosAt (H : Hp) (p : Addr) (ps : List (Nat × Nat)) : Prop where
  ex : ∃ ls : List Addr, H p = some (.lst (ls.map V.ref)) ∧ Al (fun l q => H l = some (.lst [.int (q.1 : Nat), .int (q.2 : Nat)])) ls ps
theorem DuosAt.same {p : Addr} {ps : List (Nat × Nat)} (h : DuosAt H p ps) (s : Same H H') : DuosAt H' p ps := by
  obtain ⟨ls, h1, h2⟩ := h.ex
  exact ⟨ls, s _ _ h1, al_imp h2 fun a b h => s _ _ h⟩
def sp_lcl : Sp := fun vs H Q _ => ∃ (p : Addr) (n : Nat) (ps : List (Nat × Nat)), vs = [.int (n : Nat), .ref p] ∧ DuosAt H p ps ∧ n ≤ 64 ∧ ps.length ≤ 100000 ∧ (∀ q ∈ ps, q.1 < n ∧ q.2 < n) ∧ ∀ r H', Same H H' → GridAt H' r n (rowV (closedR n ps)) → Q (.ref r) H'
theorem ok_lcl (T : Tx K mg w) : FnOk PL w K mg base CX0 1 T.a__law_closed T.d__law_closed ["many", "pairs"] sp_lcl := by
  refine T.F__law_closed.ok sc__law_closed (fun vs H Q E h => ?_) (fun cdv A outer s H vs Q E hr h => ?_)
  · obtain ⟨p, n, ps, rfl, _⟩ := h
    rfl
  obtain ⟨p, n, ps, rfl, hp, n64, pl, hps, q⟩ := h
  refine ⟨_, pss_cons (ps_setLc (i := 2) (own := [("a", 4)]) (g := gName 4) (tt := tYes) rfl sc__law_closed.nd rfl rfl (sw_true rfl rfl rfl (by decide +kernel)) (pi_range1 (by rfl) T.n_range (pa_cons (pv 0) pa_nil)) (blkOk_by (N := N__law_closed) (sc := defScope St__law_closed) (by decide +kernel)) (fun _ _ _ _ _ => (pg_name (i := 4) sc__law_closed.nd rfl (Or.inr rfl))) (fun _ _ _ _ _ => pts_nil) (fun _ _ _ _ _ => (pe_lc (own := [("b", 3)]) (g := gName 3) (tt := tYes) rfl sc__law_closed.nd (pi_range1 (by rfl) T.n_range (pa_cons (pv 0) pa_nil)) (blkOk_by (N := N__law_closed) (by first | rfl | kernel_rfl)) (fun _ _ _ _ _ => (pg_name (i := 3) sc__law_closed.nd rfl (Or.inl rfl))) (fun _ _ _ _ _ => pts_nil) (fun _ _ _ _ _ => (pe_cmpR op_eq (pv 4) (pv 3) (nomark _))))))
    (pss_cons (ps_for PassesOwn.never rfl (pi_list (pv 1)) (pg_name (i := 5) sc__law_closed.nd rfl (Or.inl rfl)) (pss_one (ps_asg pe_bl (pg_sub (pe_ix ix_list (pv 2) (pe_ix ix_list (pv 5) pe_int (fun _ _ => rfl)) (fun _ _ => rfl)) (pe_ix ix_list (pv 5) pe_int (fun _ _ => rfl)) set_list))))
    (pss_cons (ps_for PassesOwn.never rfl (pi_range1 (by rfl) T.n_range (pa_cons (pv 0) pa_nil)) (pg_name (i := 6) sc__law_closed.nd rfl (Or.inl rfl)) (pss_one (ps_for PassesOwn.never rfl (pi_range1 (by rfl) T.n_range (pa_cons (pv 0) pa_nil)) (pg_name (i := 4) sc__law_closed.nd rfl (Or.inl rfl)) (pss_one (ps_for PassesOwn.never rfl (pi_range1 (by rfl) T.n_range (pa_cons (pv 0) pa_nil)) (pg_name (i := 3) sc__law_closed.nd rfl (Or.inl rfl)) (pss_one (ps_if (PW.pt (pw_and (pt_val (pe_ix ix_list (pe_ix ix_list (pv 2) (pv 4) (fun _ _ => rfl)) (pv 6) (fun _ _ => rfl))) (pw_and1 (pt_val (pe_ix ix_list (pe_ix ix_list (pv 2) (pv 6) (fun _ _ => rfl)) (pv 3) (fun _ _ => rfl)))))) (pss_one (ps_asg pe_bl (pg_sub (pe_ix ix_list (pv 2) (pv 4) (fun _ _ => rfl)) (pv 3) set_list))) pss_nil)))))))
    (pss_one (ps_ret (pv 2))))), ?_⟩
  refine set_run (fun v H' => ∃ r, v = .ref r ∧ MGrid H H' r n (rowV (rowsOf []))) (fun Q' q' => ?_) ?_
  · refine ⟨_, rfl, _, rfl, by omega, by omega, fun D hD => ?_⟩
    refine lc_foldF (walk_range (lo := 0) (n := n)) (fun H' => Same H H') (fun i H' ys => i ≤ n ∧ ∃ ls : List Addr, ys = ls.map V.ref ∧ ls.length = i ∧ ls.Nodup ∧ ∀ (a : Nat) (l : Addr), ls[a]? = some l → l ≠ D ∧ H l = none ∧ H' l = some (.lst ((List.range n).map (rowV (rowsOf []) a)))) (Same.new hD _) (fun H' ys zs s _ => s.mut hD _) ⟨Nat.zero_le _, [], rfl, rfl, List.nodup_nil, fun a l e => by simp at e⟩ ?_ ?_ (fun _ _ => trivial) ?_ ?_
    · rintro i H' ys zs xs ⟨hi, ls, e, l1, nd, r⟩ _
      exact ⟨hi, ls, e, l1, nd, fun a l el => ⟨(r a l el).1, (r a l el).2.1, (upd_ne (r a l el).1).trans (r a l el).2.2⟩⟩
    · rintro i H' ys ⟨hi, ls, rfl, l1, _⟩
      rw [List.length_map, l1]; omega
    · rintro i x H2 H3 ys Nx Ex hi s2 hy ⟨_, ls, rfl, l1, nd, r⟩ ⟨e, ex⟩ k1 k2
      obtain rfl : H2 = H3 := e.symm
      have hi : i < n := hi
      obtain rfl := yfn0 ex
      refine ⟨rfl, ?_⟩
      refine lcY ?_
      refine ⟨_, rfl, _, rfl, by omega, by omega, fun D2 hD2 => ?_⟩
      refine lc_rng (n := n) (G := fun _ v (j : Nat) => v = rowV (rowsOf []) i j) (fun _ => true) id hD2 (fun _ h => h) (fun h => h) (by omega) ?_ (fun H3 zs s3 hz rr => ?_)
      · rintro j H3 Nx' Ex' hj s3 _ ky' kn'
        refine ⟨rfl, ?_⟩
        refine lcY ?_
        refine ⟨_, rfl, _, rfl, rfl, ky' rfl _ _ (Same.refl _) ?_⟩
        show V.bl (decide (V.int (i : Nat) = V.int (j : Nat))) = V.bl (i == j || ([] : List (Nat × Nat)).contains (i, j))
        rw [int_ext]
        simp
      · rw [flt_idG, List.map_id] at rr
        rw [al_map rr] at hz
        refine k1 _ _ (s2.trans s3) (s3 _ _ hy) ⟨hi, ls ++ [D2], ?_, ?_, ?_, ?_⟩
        · rw [List.map_append]; rfl
        · rw [List.length_append, l1]; rfl
        · refine List.nodup_append.mpr ⟨nd, by simp, fun a ha b hb => ?_⟩
          obtain rfl : b = D2 := by simpa using hb
          intro e
          obtain ⟨j, hj⟩ := List.getElem?_of_mem ha
          have := (r j a hj).2.2
          rw [e, hD2] at this
          cases this
        · intro a l el
          rw [List.getElem?_append] at el
          by_cases ca : a < ls.length
          · rw [if_pos ca] at el
            obtain ⟨r1, r2, r3⟩ := r a l el
            exact ⟨r1, r2, s3 _ _ r3⟩
          · rw [if_neg ca] at el
            have ea : a - ls.length = 0 := by
              have := (List.getElem?_eq_some_iff.mp el).1
              simp at this; omega
            rw [ea] at el
            obtain rfl : D2 = l := by simpa using el
            obtain rfl : a = i := by omega
            refine ⟨fun e => (by rw [e, hy] at hD2; cases hD2), ?_, hz⟩
            cases eh : H D2 with
            | none => rfl
            | some o => have := s2 _ _ eh; rw [hD2] at this; cases this
    · rintro H2 ys s2 hy ⟨_, ls, rfl, l1, nd, r⟩
      exact q' _ _ ⟨D, rfl, s2, ls, hy, l1, nd, r⟩
  rintro _ H2 ⟨r, rfl, hg⟩
  dsimp only [gName]
  obtain ⟨as, p1, p2⟩ := hp.ex
  have al := al_len p2
  show tSeq _ _ _ [some (.int (n : Nat)), some (.ref p), some (.ref r), none, none, none, none] H2
  refine st_run (fun σ H' => ∃ v5 : Option V, σ = [some (.int (n : Nat)), some (.ref p), some (.ref r), none, none, v5, none] ∧ MGrid H H' r n (rowV (rowsOf ps))) (fun D' hD q' => ?_) ?_
  · refine ⟨_, rfl, p, rfl, ⟨_, SqL.of (K := K) (hg.same _ _ p1)⟩, ?_⟩
    refine for_it (walk_list (K := K) (a := p) (xs := as.map V.ref)) (fun i σ H' => ∃ v5 : Option V, σ = [some (.int (n : Nat)), some (.ref p), some (.ref r), none, none, v5, none] ∧ MGrid H H' r n (rowV (rowsOf (ps.take i)))) ⟨_, rfl, hg⟩ (fun i σ H' _ ⟨_, _, g⟩ => SqL.of (K := K) (g.same _ _ p1)) ?_ ?_
    · rintro i x σ H3 H4 hi ⟨v5, rfl, g⟩ ⟨e4, hx⟩
      obtain rfl : H3 = H4 := e4.symm
      rw [List.length_map] at hi
      have ha : as[i]? = some as[i] := List.getElem?_eq_getElem hi
      have hx : (as.map V.ref)[i]? = some x := hx
      rw [List.getElem?_map, ha] at hx
      obtain rfl := Option.some.inj hx
      generalize as[i] = u at ha
      obtain ⟨qq, hq, hu⟩ := al_get p2 ha
      obtain ⟨b1, b2⟩ := hps qq (List.mem_of_getElem? hq)
      obtain ⟨ls, l, g1, g2, g3, g4⟩ := g.set (x := qq.1) (y := qq.2) b1 (.bl true)
      have hu3 := g.same _ _ hu
      dsimp only [gName]
      refine ⟨_, rfl, _, rfl, u, _, _, _, rfl, rfl, SqL.of (K := K) hu3, atI_nat (j := 0) rfl, r, _, _, _, rfl, rfl, SqL.of (K := K) g1, atI_nat g2, _, rfl, u, _, _, _, rfl, rfl, SqL.of (K := K) hu3, atI_nat (j := 1) rfl, l, _, _, qq.2, rfl, rfl, g3, (by rw [List.length_map, List.length_range]; exact ixN_nat (z := (qq.2 : Int)) (by omega) (by omega)), ?_⟩
      refine ⟨_, rfl, g4.ext fun a b _ _ => ?_⟩
      rw [show ps.take (i + 1) = ps.take i ++ [qq] by rw [List.take_add_one, hq]; rfl]
      show _ = V.bl (a == b || (ps.take i ++ [qq]).contains (a, b))
      by_cases c : a = qq.1 ∧ b = qq.2
      · rw [if_pos c, show (ps.take i ++ [qq]).contains (a, b) = true by rw [c.1, c.2]; simp, Bool.or_true]
      · rw [if_neg c]
        have : (a, b) ≠ qq := fun e => c ⟨by rw [← e], by rw [← e]⟩
        show V.bl (a == b || (ps.take i).contains (a, b)) = _
        congr 2
        rw [Bool.eq_iff_iff, List.contains_iff_mem, List.contains_iff_mem, List.mem_append]
        exact ⟨.inl, fun h => h.elim id fun h => absurd (by simpa using h) this⟩
    · rintro σ H3 ⟨v5, rfl, g⟩
      rw [List.length_map, al, List.take_length] at g
      exact q' _ _ ⟨_, rfl, g⟩
  rintro _ H3 ⟨v5, rfl, hg3⟩
  -- mixed rows: gone over up to (a, b)
  generalize hR : rowsOf ps = R0 at hg3
  have mixE : ∀ c a b x y : Nat, (if x < a ∨ (x = a ∧ y < b) then closeK R0 (c + 1) x y else closeK R0 c x y) = true ↔ (if x < a ∨ (x = a ∧ y < b) then closeK R0 (c + 1) x y else closeK R0 c x y) = true := fun _ _ _ _ _ => Iff.rfl
  clear mixE
  show tSeq _ _ _ [some (.int (n : Nat)), some (.ref p), some (.ref r), none, none, v5, none] H3
  refine st_run (fun σ H' => ∃ v3 v4 v6 : Option V, σ = [some (.int (n : Nat)), some (.ref p), some (.ref r), v3, v4, v5, v6] ∧ MGrid H H' r n (rowV (closeK R0 n))) (fun D' hD q' => ?_) ?_
  · refine ⟨_, rfl, _, rfl, by omega, by omega, ?_⟩
    refine for_range (lo := 0) (n := n) (fun c σ H' => ∃ v3 v4 v6 : Option V, σ = [some (.int (n : Nat)), some (.ref p), some (.ref r), v3, v4, v5, v6] ∧ MGrid H H' r n (rowV (closeK R0 c))) ⟨_, _, _, rfl, hg3⟩ ?_ (fun σ H' ⟨v3, v4, v6, e, g⟩ => q' _ _ ⟨v3, v4, v6, e, g⟩)
    rintro c σ H4 hc ⟨v3, v4, v6, rfl, g⟩
    have hc : c < n := hc
    rw [show (0 : Int) + (c : Int) = ((c : Nat) : Int) by omega]
    dsimp only [gName]
    refine ⟨_, rfl, _, rfl, by omega, by omega, ?_⟩
    refine for_range (lo := 0) (n := n) (fun a σ H' => ∃ v3 v4 : Option V, σ = [some (.int (n : Nat)), some (.ref p), some (.ref r), v3, v4, v5, some (.int (c : Nat))] ∧ MGrid H H' r n (rowV fun x y => if x < a then closeK R0 (c + 1) x y else closeK R0 c x y)) ⟨_, _, rfl, g.ext fun a b _ _ => by show _ = V.bl (if a < 0 then _ else _); rw [if_neg (Nat.not_lt_zero _)]; rfl⟩ ?_ (fun σ H' ⟨v3, v4, e, g⟩ => ⟨v3, v4, _, e, g.ext fun a b ha _ => by show V.bl (if a < n then _ else _) = _; rw [if_pos ha]; rfl⟩)
    rintro a σ H5 ha ⟨v3, v4, rfl, g5⟩
    have ha : a < n := ha
    rw [show (0 : Int) + (a : Int) = ((a : Nat) : Int) by omega]
    dsimp only [gName]
    refine ⟨_, rfl, _, rfl, by omega, by omega, ?_⟩
    refine for_range (lo := 0) (n := n) (fun b σ H' => ∃ v3 : Option V, σ = [some (.int (n : Nat)), some (.ref p), some (.ref r), v3, some (.int (a : Nat)), v5, some (.int (c : Nat))] ∧ MGrid H H' r n (rowV fun x y => if x < a ∨ (x = a ∧ y < b) then closeK R0 (c + 1) x y else closeK R0 c x y)) ⟨_, rfl, g5.ext fun x y _ _ => ?_⟩ ?_ (fun σ H' ⟨v3, e, g⟩ => ⟨v3, _, e, g.ext fun x y _ hy => ?_⟩)
    · show V.bl (if x < a then _ else _) = V.bl (if x < a ∨ (x = a ∧ y < 0) then _ else _)
      have : (x < a ∨ (x = a ∧ y < 0)) ↔ x < a := by omega
      simp only [this]
    · rintro b σ H6 hb ⟨v3, rfl, g6⟩
      have hb : b < n := hb
      rw [show (0 : Int) + (b : Int) = ((b : Nat) : Int) by omega]
      dsimp only [gName]
      have e1 : (if a < a ∨ (a = a ∧ c < b) then closeK R0 (c + 1) a c else closeK R0 c a c) = closeK R0 c a c := by
        split
        · exact closeK_col
        · rfl
      have e2 : (if c < a ∨ (c = a ∧ b < b) then closeK R0 (c + 1) c b else closeK R0 c c b) = closeK R0 c c b := by
        split
        · exact closeK_row
        · rfl
      obtain ⟨ls1, l1, u1, u2, u3⟩ := g6.grid.row ha
      obtain ⟨ls2, l2, w1, w2, w3⟩ := g6.grid.row hc
      have next : ∀ x y : Nat, ¬ (x = a ∧ y = b) → (if x < a ∨ (x = a ∧ y < b) then closeK R0 (c + 1) x y else closeK R0 c x y) = if x < a ∨ (x = a ∧ y < b + 1) then closeK R0 (c + 1) x y else closeK R0 c x y := fun x y h => by
        have : (x < a ∨ (x = a ∧ y < b)) ↔ (x < a ∨ (x = a ∧ y < b + 1)) := by omega
        simp only [this]
      refine if1_runG (fun v H' => v = (closeK R0 c a c && closeK R0 c c b) ∧ H' = H6) (fun Q' q' => ?_) ?_
      · refine ⟨_, rfl, _, rfl, r, _, _, _, rfl, rfl, SqL.of (K := K) u1, atI_nat u2, _, rfl, l1, _, _, _, rfl, rfl, SqL.of (K := K) u3, atI_nat (rg_atG hc), closeK R0 c a c, congrArg V.bl e1, ?_⟩
        cases h1 : closeK R0 c a c with
        | false => exact iteF (q' _ _ ⟨by rw [h1]; rfl, rfl⟩)
        | true => exact iteT ⟨_, rfl, _, rfl, r, _, _, _, rfl, rfl, SqL.of (K := K) w1, atI_nat w2, _, rfl, l2, _, _, _, rfl, rfl, SqL.of (K := K) w3, atI_nat (rg_atG hb), closeK R0 c c b, congrArg V.bl e2, q' _ _ ⟨by rw [h1]; rfl, rfl⟩⟩
      rintro v _ ⟨hv, rfl⟩
      cases v with
      | false =>
        refine iteF ?_
        refine ⟨_, rfl, g6.ext fun x y _ _ => congrArg V.bl ?_⟩
        by_cases cx : x = a ∧ y = b
        · obtain ⟨rfl, rfl⟩ := cx
          show (if x < x ∨ (x = x ∧ y < y) then _ else _) = if x < x ∨ (x = x ∧ y < y + 1) then _ else _
          rw [if_neg (by omega), if_pos (by omega)]
          show _ = (closeK R0 c x y || (closeK R0 c x c && closeK R0 c c y))
          rw [← hv, Bool.or_false]
        · exact next x y cx
      | true =>
        refine iteT ?_
        obtain ⟨ls, l, k1, k2, k3, k4⟩ := g6.set (x := a) (y := b) ha (.bl true)
        refine ⟨_, rfl, _, rfl, r, _, _, _, rfl, rfl, SqL.of (K := K) k1, atI_nat k2, _, rfl, l, _, _, b, rfl, rfl, k3, (by rw [List.length_map, List.length_range]; exact ixN_nat (z := (b : Int)) (by omega) (by omega)), ?_⟩
        refine ⟨_, rfl, k4.ext fun x y _ _ => ?_⟩
        by_cases cx : x = a ∧ y = b
        · rw [if_pos cx]
          obtain ⟨rfl, rfl⟩ := cx
          show _ = V.bl (if x < x ∨ (x = x ∧ y < y + 1) then _ else _)
          rw [if_pos (by omega)]
          show _ = V.bl (closeK R0 c x y || (closeK R0 c x c && closeK R0 c c y))
          rw [← hv, Bool.or_true]
        · rw [if_neg cx]
          exact congrArg V.bl (next x y cx)
    · show V.bl (if x < a ∨ (x = a ∧ y < n) then _ else _) = V.bl (if x < a + 1 then _ else _)
      have : (x < a ∨ (x = a ∧ y < n)) ↔ x < a + 1 := by omega
      simp only [this]
  rintro _ H4 ⟨v3, v4, v6, rfl, g⟩
  rw [← hR] at g
  exact ⟨_, rfl, q r H4 g.same g.grid⟩
end
/-! ### _law_shows: a lattice shown by rows -/
section
open PyProof.Rows
variable {w W_ : World} {K : PySem.W.Frag} {mg : Str → Option Value} {base : Heap} {mm : List (Str × Addr)} {H H' : Hp} {L : Lt}
def optD : Option Nat → Dv
  | none => .non
  | some a => .int (a : Nat)
theorem ld_opt : ∀ o : Option Nat, Ld K H (optD o) (optV o)
  | none => rfl
  | some _ => rfl
theorem inV_none : ∀ os : List (Option Nat), inV .non (os.map optV) = os.any fun o => o.isNone
  | [] => rfl
  | none :: os => by
    show (eqV .non .non || inV .non (os.map optV)) = _
    rw [inV_none os]; rfl
  | some a :: os => by
    show (eqV (.int (a : Nat)) .non || inV .non (os.map optV)) = _
    rw [inV_none os]; rfl
theorem inV_true : ∀ bs : List Bool, inV (.bl true) (bs.map V.bl) = bs.any id
  | [] => rfl
  | b :: bs => by
    show (eqV (.bl b) (.bl true) || inV (.bl true) (bs.map V.bl)) = _
    rw [inV_true bs]
    cases b <;> rfl
theorem at_me {z : Addr} {m : Str} {f : Addr} {k : Prop} (hL : IsLat K mm H z L) (hm : (m, f) ∈ mm) (q : k) : ∃ a C dx fs, V.ref z = V.ref a ∧ H a = some (.ins C dx fs) ∧ Cls K C ∧ Meth K C m f ∧ fs.lookup m = none ∧ k := by
  obtain ⟨C, dx, fs, tn, td, tu, A⟩ := hL
  exact ⟨z, C, dx, fs, rfl, A.at_, A.c.cl, A.c.me _ hm, A.no _ hm, q⟩
theorem ldA_nats : ∀ us : List Nat, LdA K H (us.map fun (c : Nat) => Dv.int (c : Nat)) (us.map fun c => V.int (c : Nat))
  | [] => rfl
  | c :: us => ⟨_, _, rfl, rfl, ldA_nats us⟩
theorem dep_nats : ∀ us : List Nat, Dv.depthA (us.map fun (c : Nat) => Dv.int (c : Nat)) ≤ 1
  | [] => Nat.zero_le _
  | c :: us => by
    have := dep_nats us
    show max 1 (Dv.depthA (us.map fun (c : Nat) => Dv.int (c : Nat))) ≤ 1
    omega
theorem wid_nats : ∀ us : List Nat, Dv.wideA (us.map fun (c : Nat) => Dv.int (c : Nat))
  | [] => trivial
  | c :: us => ⟨trivial, wid_nats us⟩
def sp_lsh (K : PySem.W.Frag) (mm : List (Str × Addr)) : Sp := fun vs H Q _ => ∃ (z na p : Addr) (L : Lt), vs = [.ref z, .ref na, .ref p] ∧ IsLat K mm H z L ∧ 1 ≤ L.n ∧ L.n ≤ 64 ∧ L.names.Nodup ∧ H na = some (.lst (L.names.map V.str)) ∧ GridAt H p L.n (rowV L.le) ∧ L.Ord ∧ Pre L.n L.le ∧ ∀ H', Same H H' → Q (.bl true) H'
theorem ok_lsh (T : Tx K mg w) : FnOk PL w K mg base CX0 6 T.a__law_shows T.d__law_shows ["lattice", "names", "rows"] (sp_lsh K T.mm) := by
  have G__law_flipped := ok_flip (w := w) (base := base) T
  have G__law_table := ok_ltb (w := w) (base := base) T
  have G__law_low := ok_low (w := w) (base := base) T
  have G__law_pieces := ok_lpc (w := w) (base := base) T
  have G__law_like := ok_like (P := PL) (w := w) (base := base) T 3
  have G_Lattice_irreducibles := ok_irr (P := PL) (w := w) (base := base) T
  have G_Lattice_name_at := ok_name_at (P := PL) (w := w) (base := base) T
  have G_Lattice_at_name := ok_at_name (P := PL) (w := w) (base := base) T
  have G_Lattice_within_at := ok_within (P := PL) (w := w) (base := base) T
  have G_Lattice_join_at := ok_join (P := PL) (w := w) (base := base) T
  have G_Lattice_meet_at := ok_meet (P := PL) (w := w) (base := base) T
  refine T.F__law_shows.ok sc__law_shows (fun vs H Q E h => ?_) (fun cdv A outer s H vs Q E hr h => ?_)
  · obtain ⟨z, na, p, L, rfl, _⟩ := h
    rfl
  obtain ⟨z, na, p, L, rfl, hL, pos, n64, nd, ena, hg, ord, pre, q⟩ := h
  have hu := hu_of hr
  refine ⟨_, pss_cons (ps_set (i := 3) sc__law_shows.nd rfl (Or.inl rfl) (pe_callB call_len_seq (by rfl) T.n_len (by decide +kernel) (pa_cons (pv 1) pa_nil)))
    (pss_cons (ps_set (i := 4) sc__law_shows.nd rfl (Or.inl rfl) (pe_call G__law_flipped (hr.mono (by omega)) (by rfl) T.g__law_flipped T.F__law_flipped.kp T.b__law_flipped .nil pass0 (pa_cons (pv 2) pa_nil)))
    (pss_cons (ps_set (i := 5) sc__law_shows.nd rfl (Or.inl rfl) (pe_call G__law_table (hr.mono (by omega)) (by rfl) T.g__law_table T.F__law_table.kp T.b__law_table .nil pass0 (pa_cons (pv 2) pa_nil)))
    (pss_cons (ps_set (i := 6) sc__law_shows.nd rfl (Or.inl rfl) (pe_call G__law_table (hr.mono (by omega)) (by rfl) T.g__law_table T.F__law_table.kp T.b__law_table .nil pass0 (pa_cons (pv 4) pa_nil)))
    (pss_cons (ps_if (pt_not (pt_val (pe_call G__law_like (hr.mono (by omega)) (by rfl) T.g__law_like T.F__law_like.kp T.b__law_like .nil pass0 (pa_cons (pe_lst (pa_cons (pe_fld (pv 0) rfl) (pa_cons (pe_fld (pv 0) rfl) (pa_cons (pe_fld (pv 0) rfl) pa_nil)))) (pa_cons (pe_lst (pa_cons (pv 3) (pa_cons (pe_call G__law_low (hr.mono (by omega)) (by rfl) T.g__law_low T.F__law_low.kp T.b__law_low .nil pass0 (pa_cons (pv 2) pa_nil)) (pa_cons (pe_call G__law_low (hr.mono (by omega)) (by rfl) T.g__law_low T.F__law_low.kp T.b__law_low .nil pass0 (pa_cons (pv 4) pa_nil)) pa_nil)))) pa_nil))))) (pss_one (ps_ret pe_bl)) pss_nil)
    (pss_cons (ps_set (i := 7) sc__law_shows.nd rfl (Or.inl rfl) (pe_and (pe_cmpR op_notN (pe_call G__law_low (hr.mono (by omega)) (by rfl) T.g__law_low T.F__law_low.kp T.b__law_low .nil pass0 (pa_cons (pv 2) pa_nil)) pe_non (nomark _)) (pe_one (pe_cmpR op_notIn_seq pe_bl (pe_lc (own := [("row", 8)]) (g := gName 8) (tt := tYes) rfl sc__law_shows.nd (pi_list (pv 5)) (blkOk_by (N := N__law_shows) (sc := defScope St__law_shows) (by decide +kernel)) (fun _ _ _ _ _ => (pg_name (i := 8) sc__law_shows.nd rfl (Or.inl rfl))) (fun _ _ _ _ _ => pts_nil) (fun _ _ _ _ _ => (pe_cmpR (kx_op_in_seq K) pe_non (pv 8) (by rfl)))) (by rfl)))))
    (pss_cons (ps_if (PW.pt (pw_and (pt_val (pv 7)) (pw_and1 (pt_not (pt_val (pe_call G__law_like (hr.mono (by omega)) (by rfl) T.g__law_like T.F__law_like.kp T.b__law_like .nil pass0 (pa_cons (pe_methG0 (pv 0) G_Lattice_irreducibles (hr.mono (by omega)) T.b_Lattice_irreducibles .nil pass0) (pa_cons (pe_call G__law_pieces (hr.mono (by omega)) (by rfl) T.g__law_pieces T.F__law_pieces.kp T.b__law_pieces .nil pass0 (pa_cons (pv 2) (pa_cons (pv 5) pa_nil))) pa_nil)))))))) (pss_one (ps_ret pe_bl)) pss_nil)
    (pss_cons (ps_for PassesOwn.never rfl (pi_range1 (by rfl) T.n_range (pa_cons (pv 3) pa_nil)) (pg_name (i := 9) sc__law_shows.nd rfl (Or.inl rfl)) (pss_cons (ps_if (pt_not (pt_val (pe_call G__law_like (hr.mono (by omega)) (by rfl) T.g__law_like T.F__law_like.kp T.b__law_like .nil pass0 (pa_cons (pe_lst (pa_cons (pe_methG (pv 0) G_Lattice_name_at (hr.mono (by omega)) T.b_Lattice_name_at .nil pass0 (pa_cons (pv 9) pa_nil)) (pa_cons (pe_methG (pv 0) G_Lattice_at_name (hr.mono (by omega)) T.b_Lattice_at_name .nil pass0 (pa_cons (pe_ix ix_list (pv 1) (pv 9) (fun _ _ => rfl)) pa_nil)) pa_nil))) (pa_cons (pe_lst (pa_cons (pe_ix ix_list (pv 1) (pv 9) (fun _ _ => rfl)) (pa_cons (pv 9) pa_nil))) pa_nil))))) (pss_one (ps_ret pe_bl)) pss_nil)
    (pss_one (ps_for PassesOwn.never rfl (pi_range1 (by rfl) T.n_range (pa_cons (pv 3) pa_nil)) (pg_name (i := 10) sc__law_shows.nd rfl (Or.inl rfl)) (pss_cons (ps_set (i := 11) sc__law_shows.nd rfl (Or.inl rfl) (pe_lst (pa_cons (pe_methG (pv 0) G_Lattice_within_at (hr.mono (by omega)) T.b_Lattice_within_at .nil pass0 (pa_cons (pv 9) (pa_cons (pv 10) pa_nil))) (pa_cons (pe_methG (pv 0) G_Lattice_join_at (hr.mono (by omega)) T.b_Lattice_join_at .nil pass0 (pa_cons (pv 9) (pa_cons (pv 10) pa_nil))) (pa_cons (pe_methG (pv 0) G_Lattice_meet_at (hr.mono (by omega)) T.b_Lattice_meet_at .nil pass0 (pa_cons (pv 9) (pa_cons (pv 10) pa_nil))) pa_nil)))))
    (pss_one (ps_if (pt_not (pt_val (pe_call G__law_like (hr.mono (by omega)) (by rfl) T.g__law_like T.F__law_like.kp T.b__law_like .nil pass0 (pa_cons (pv 11) (pa_cons (pe_lst (pa_cons (pe_ix ix_list (pe_ix ix_list (pv 2) (pv 9) (fun _ _ => rfl)) (pv 10) (fun _ _ => rfl)) (pa_cons (pe_ix ix_list (pe_ix ix_list (pv 5) (pv 9) (fun _ _ => rfl)) (pv 10) (fun _ _ => rfl)) (pa_cons (pe_ix ix_list (pe_ix ix_list (pv 6) (pv 9) (fun _ _ => rfl)) (pv 10) (fun _ _ => rfl)) pa_nil)))) pa_nil))))) (pss_one (ps_ret pe_bl)) pss_nil)))))))
    (pss_one (ps_ret pe_bl))))))))), ?_⟩
  have nl : (L.names.map V.str).length = L.n := by rw [List.length_map]; rfl
  refine ⟨_, rfl, na, _, rfl, .inl (SqL.of (K := K) ena), ?_⟩
  rw [nl]
  dsimp only [gName]
  refine ⟨_, rfl, p, L.n, rowV L.le, rfl, hg, n64, fun bk H1 s1 hb => ?_⟩
  dsimp only [gName]
  have hg1 := hg.same s1
  refine ⟨_, rfl, p, L.n, L.le, rfl, hg1, n64, fun jl H2 s2 hj => ?_⟩
  dsimp only [gName]
  have hb2 : GridAt H2 bk L.n (rowV (rowF L.le)) := hb.same s2
  refine ⟨_, rfl, bk, L.n, rowF L.le, rfl, hb2, n64, fun ml H3 s3 hm => ?_⟩
  have s13 := (s1.trans s2).trans s3
  have hL3 := hL.same s13
  have hg3 := hg.same s13
  have hb3 := hb2.same s3
  have hj3 := hj.same s3
  have ena3 := s13 _ _ ena
  clear hg1 hb hb2 hj
  dsimp only [gName]
  refine if_run (fun b H' => b = false ∧ Same H3 H') (fun Q' q' => ?_) ?_
  · obtain ⟨Cz, dz, fz, tn, td, tu, A1⟩ := id hL3
    refine ⟨_, rfl, z, Cz, dz, fz, _, rfl, A1.at_, A1.c.cl, A1.c.na _ (by decide), A1.size, ?_⟩
    refine ⟨_, rfl, z, Cz, dz, fz, _, rfl, A1.at_, A1.c.cl, A1.c.na _ (by decide), A1.bot, ?_⟩
    refine ⟨_, rfl, z, Cz, dz, fz, _, rfl, A1.at_, A1.c.cl, A1.c.na _ (by decide), A1.top, ?_⟩
    refine ⟨(by show 3 ≤ sizeLine; decide), newQ (.lst [.int (L.n : Nat), optV L.bot, optV L.top]) fun l1 hl1 s4 e4 => ?_⟩
    generalize upd H3 l1 (.lst [.int (L.n : Nat), optV L.bot, optV L.top]) = H4 at s4 e4 ⊢
    refine ⟨_, rfl, _, rfl, p, L.n, L.le, rfl, hg3.same s4, n64, fun H5 s5 => ?_⟩
    refine ⟨_, rfl, bk, L.n, rowF L.le, rfl, (hb3.same s4).same s5, n64, fun H6 s6 => ?_⟩
    rw [← bot_row, ← top_row]
    refine ⟨(by show 3 ≤ sizeLine; decide), newQ (.lst [.int (L.n : Nat), optV L.bot, optV L.top]) fun l2 hl2 s7 e7 => ?_⟩
    generalize upd H6 l2 (.lst [.int (L.n : Nat), optV L.bot, optV L.top]) = H7 at s7 e7 ⊢
    have s47 := (s5.trans s6).trans s7
    have ld : ∀ {a : Addr}, H7 a = some (.lst [.int (L.n : Nat), optV L.bot, optV L.top]) → Ld K H7 (.lst [.int (L.n : Nat), optD L.bot, optD L.top]) (.ref a) := fun {a} h => ⟨a, _, rfl, h, _, _, rfl, rfl, _, _, rfl, ld_opt _, _, _, rfl, ld_opt _, rfl⟩
    refine ⟨.lst [.int (L.n : Nat), optD L.bot, optD L.top], _, _, rfl, ld (s47 _ _ e4), ld e7, ?_, ?_, fun H8 s8 => ⟨_, rfl, ?_⟩⟩
    · cases L.bot <;> cases L.top <;> simp [optD, Dv.depth, Dv.depthA]
    · cases L.bot <;> cases L.top <;> simp [optD, Dv.wide, Dv.wideA]
    · exact q' _ _ ⟨rfl, (s4.trans s47).trans s8⟩
  rintro _ H4 ⟨rfl, s4⟩
  refine iteF ?_
  refine nx_run ?_
  dsimp only
  have hg4 := hg3.same s4
  have hj4 := hj3.same s4
  have hL4 := hL3.same s4
  refine set_run (fun v H' => ∃ b, v = .bl b ∧ Same H4 H' ∧ (b = true → L.irrs = (List.range L.n).filter (rowIrr L.n L.le))) (fun Q' q' => ?_) ?_
  · refine ⟨_, rfl, p, L.n, L.le, rfl, hg4, n64, fun H5 s5 => ⟨rfl, _, rfl, ?_⟩⟩
    cases cl : rowLow L.n L.le with
    | none => exact iteF (q' _ _ ⟨false, rfl, s5, fun z => nomatch z⟩)
    | some l =>
      refine iteT ?_
      obtain ⟨ls, j1, j2⟩ := (hj4.same s5).len
      refine ⟨_, rfl, jl, rfl, ⟨_, SqL.of (K := K) j1⟩, fun D hD => ?_⟩
      refine lc_fold (walk_list (K := K) (a := jl) (xs := ls.map V.ref)) hD (fun i _ ys => i ≤ L.n ∧ ys = ((List.range i).map fun a => (List.range L.n).any fun b => (rowJ L.n L.le a b).isNone).map V.bl) (fun _ => ⟨Nat.zero_le _, rfl⟩) (fun i _ _ xs _ h => h) ?_ (fun H7 s7 => SqL.of (K := K) (s7 _ _ j1)) ?_ ?_
      · rintro i _ ys ⟨hi, rfl⟩
        rw [List.length_map, List.length_map, List.length_range]; omega
      · rintro i v H6 H7 ys Nx Ex hi s6 ⟨_, rfl⟩ ⟨e7, hx⟩ k1 k2
        obtain rfl : H6 = H7 := e7.symm
        have hi : i < L.n := by rwa [j2] at hi
        obtain ⟨ls', l', g1, g2, g3⟩ := ((hj4.same s5).same s6).row hi
        have j1' := s6 _ _ j1
        rw [j1'] at g1
        have eqls : ls.map V.ref = ls'.map V.ref := HO.lst.inj (Option.some.inj g1)
        have hx : (ls.map V.ref)[i]? = some v := hx
        rw [eqls, g2] at hx
        obtain rfl := Option.some.inj hx
        rw [show (List.range L.n).map (tabV L.n L.le i) = ((List.range L.n).map (rowJ L.n L.le i)).map optV by rw [List.map_map]; rfl] at g3
        refine ⟨rfl, ?_⟩
        refine lcY ?_
        refine ⟨_, rfl, l', _, rfl, .inl (SqL.of (K := K) g3), rfl, flat_opts _, ?_⟩
        rw [inV_none, List.any_map]
        refine k1 _ _ (Same.refl _) ⟨hi, ?_⟩
        rw [List.range_succ, List.map_append, List.map_append]
        rfl
      · rintro H6 ys s6 h6 ⟨_, rfl⟩
        rw [j2] at h6
        refine ⟨D, _, rfl, .inl (SqL.of (K := K) h6), rfl, flat_blsG _, ?_⟩
        rw [inV_true]
        refine q' _ _ ⟨_, rfl, s5.trans s6, fun hb => ?_⟩
        refine irrs_row ord pre cl fun a b ha hb' => ?_
        rw [if_pos rfl, Bool.not_eq_true', Bool.eq_false_iff] at hb
        cases e : rowJ L.n L.le a b with
        | some k => exact ⟨k, rfl⟩
        | none => exact absurd (List.any_eq_true.mpr ⟨true, List.mem_map.mpr ⟨a, List.mem_range.mpr ha, List.any_eq_true.mpr ⟨b, List.mem_range.mpr hb', by rw [e]; rfl⟩⟩, rfl⟩) hb
  rintro _ H5 ⟨wb, rfl, s5, hw⟩
  have hg5 := hg4.same s5
  have hj5 := hj4.same s5
  have hL5 := hL4.same s5
  dsimp only [gName]
  refine if_run (fun b H' => b = false ∧ Same H5 H') (fun Q' q' => ?_) ?_
  · refine ⟨_, rfl, _, rfl, ?_⟩
    cases wb with
    | false => exact iteF (q' _ _ ⟨rfl, Same.refl _⟩)
    | true =>
      refine iteT ?_
      have hi := hw rfl
      refine ⟨_, rfl, at_me hL5 T.in_irreducibles ⟨z, L, rfl, hL5, by omega, fun l H6 s6 hl e6 => ?_⟩⟩
      refine ⟨_, rfl, _, rfl, p, jl, L.n, L.le, rfl, hg5.same s6, hj5.same s6, n64, fun l2 H7 s7 e7 => ?_⟩
      rw [← hi] at e7
      refine ⟨.lst (L.irrs.map fun (c : Nat) => Dv.int (c : Nat)), _, _, rfl, ⟨l, _, rfl, s7 _ _ e6, ldA_nats _⟩, ⟨l2, _, rfl, e7, ldA_nats _⟩, ?_, ?_, fun H8 s8 => ⟨_, rfl, ?_⟩⟩
      · have := dep_nats L.irrs
        show Dv.depthA _ + 1 ≤ 3
        omega
      · refine ⟨?_, wid_nats _⟩
        rw [List.length_map]
        exact Nat.le_trans (List.length_filter_le _ _) (by rw [List.length_range]; omega)
      · exact q' _ _ ⟨rfl, (s6.trans s7).trans s8⟩
  rintro _ H6 ⟨rfl, s6⟩
  refine iteF ?_
  refine nx_run ?_
  dsimp only
  have s36 := (s4.trans s5).trans s6
  have hL6 := hL3.same s36
  have hg6 := hg3.same s36
  have hj6 := hj3.same s36
  have hm6 := hm.same s36
  have ena6 := s36 _ _ ena3
  have s06 := s13.trans s36
  clear hL3 hg3 hj3 hm ena3 s36 hL4 hg4 hj4 hL5 hg5 hj5 s4 s5 s6 s13 hb3
  show tSeq _ _ _ [some (.ref z), some (.ref na), some (.ref p), some (.int (L.n : Nat)), some (.ref bk), some (.ref jl), some (.ref ml), some (.bl wb), none, none, none, none] H6
  refine st_run (fun σ H' => ∃ v9 v10 v11 : Option V, σ = [some (.ref z), some (.ref na), some (.ref p), some (.int (L.n : Nat)), some (.ref bk), some (.ref jl), some (.ref ml), some (.bl wb), none, v9, v10, v11] ∧ Same H6 H') (fun D' hD q' => ?_) ?_
  · refine ⟨_, rfl, _, rfl, by omega, by omega, ?_⟩
    refine for_range (lo := 0) (n := L.n) (fun a σ H' => ∃ v9 v10 v11 : Option V, σ = [some (.ref z), some (.ref na), some (.ref p), some (.int (L.n : Nat)), some (.ref bk), some (.ref jl), some (.ref ml), some (.bl wb), none, v9, v10, v11] ∧ Same H6 H') ⟨_, _, _, rfl, Same.refl _⟩ ?_ (fun σ H' h => q' _ _ h)
    rintro a σ H7 ha ⟨v9, v10, v11, rfl, s7⟩
    have ha : a < L.n := ha
    rw [show (0 : Int) + (a : Int) = ((a : Nat) : Int) by omega]
    dsimp only [gName]
    obtain ⟨x, hx⟩ : ∃ x, L.names[a]? = some x := ⟨L.names[a]'ha, List.getElem?_eq_getElem ha⟩
    have hxV : (L.names.map V.str)[a]? = some (.str x) := by rw [List.getElem?_map, hx]; rfl
    refine if_run (fun b H' => b = false ∧ Same H7 H') (fun Q' q' => ?_) ?_
    · have hL7 := hL6.same s7
      refine ⟨_, rfl, at_me hL7 T.in_name_at ⟨_, rfl, z, L, a, x, rfl, hL7, hx, fun H8 s8 => ?_⟩⟩
      refine ⟨_, rfl, at_me (hL7.same s8) T.in_at_name ⟨_, rfl, _, rfl, na, _, _, _, rfl, rfl, SqL.of (K := K) (s8 _ _ (s7 _ _ ena6)), atI_nat hxV, z, L, a, x, rfl, hL7.same s8, nd, hx, fun H9 s9 => ?_⟩⟩
      refine ⟨(by show 2 ≤ sizeLine; decide), newQ (.lst [.str x, .int (a : Nat)]) fun l1 hl1 s10 e10 => ?_⟩
      generalize upd H9 l1 (.lst [.str x, .int (a : Nat)]) = H10 at s10 e10 ⊢
      have s710 := (s8.trans s9).trans s10
      refine ⟨_, rfl, _, rfl, na, _, _, _, rfl, rfl, SqL.of (K := K) (s710 _ _ (s7 _ _ ena6)), atI_nat hxV, _, rfl, (by show 2 ≤ sizeLine; decide), newQ (.lst [.str x, .int (a : Nat)]) fun l2 hl2 s11 e11 => ?_⟩
      generalize upd H10 l2 (.lst [.str x, .int (a : Nat)]) = H11 at s11 e11 ⊢
      have ld : ∀ {r : Addr}, H11 r = some (.lst [.str x, .int (a : Nat)]) → Ld K H11 (.lst [.str x, .int (a : Nat)]) (.ref r) := fun {r} h => ⟨r, _, rfl, h, _, _, rfl, rfl, _, _, rfl, rfl, rfl⟩
      refine ⟨.lst [.str x, .int (a : Nat)], _, _, rfl, ld (s11 _ _ e10), ld e11, by simp [Dv.depth, Dv.depthA], by simp [Dv.wide, Dv.wideA], fun H12 s12 => ⟨_, rfl, ?_⟩⟩
      exact q' _ _ ⟨rfl, (s710.trans s11).trans s12⟩
    rintro _ H8 ⟨rfl, s8⟩
    refine iteF ?_
    refine nx_run ?_
    dsimp only
    refine ⟨_, rfl, _, rfl, by omega, by omega, ?_⟩
    have s68 := s7.trans s8
    refine for_range (lo := 0) (n := L.n) (fun b σ H' => ∃ v10 v11 : Option V, σ = [some (.ref z), some (.ref na), some (.ref p), some (.int (L.n : Nat)), some (.ref bk), some (.ref jl), some (.ref ml), some (.bl wb), none, some (.int (a : Nat)), v10, v11] ∧ Same H6 H') ⟨_, _, rfl, s68⟩ ?_ (fun σ H' ⟨v10, v11, e, s⟩ => ⟨_, v10, v11, e, s⟩)
    rintro b σ H9 hb ⟨v10, v11, rfl, s9⟩
    have hb : b < L.n := hb
    rw [show (0 : Int) + (b : Int) = ((b : Nat) : Int) by omega]
    dsimp only [gName]
    have hL9 := hL6.same s9
    refine ⟨_, rfl, at_me hL9 T.in_within_at ⟨_, rfl, _, rfl, z, L, a, b, rfl, hL9, ha, hb, fun H10 s10 => ?_⟩⟩
    have hL10 := hL9.same s10
    refine ⟨_, rfl, at_me hL10 T.in_join_at ⟨_, rfl, _, rfl, z, L, a, b, rfl, hL10, by omega, ha, hb, fun H11 s11 => ?_⟩⟩
    have hL11 := hL10.same s11
    refine ⟨_, rfl, at_me hL11 T.in_meet_at ⟨_, rfl, _, rfl, z, L, a, b, rfl, hL11, by omega, ha, hb, fun H12 s12 => ?_⟩⟩
    refine ⟨(by show 3 ≤ sizeLine; decide), newQ (.lst [.bl (L.le a b), optV (L.join a b), optV (L.meet a b)]) fun l1 hl1 s13 e13 => ?_⟩
    generalize upd H12 l1 (.lst [.bl (L.le a b), optV (L.join a b), optV (L.meet a b)]) = H13 at s13 e13 ⊢
    have s613 := s9.trans (((s10.trans s11).trans s12).trans s13)
    dsimp only [gName]
    refine if1_runG (fun v H' => v = false ∧ Same H13 H') (fun Q' q' => ?_) ?_
    · obtain ⟨la, ra, a1, a2, a3⟩ := (hg6.same s613).row ha
      obtain ⟨lj, rj, b1, b2, b3⟩ := (hj6.same s613).row ha
      obtain ⟨lm, rm, c1, c2, c3⟩ := (hm6.same s613).row ha
      refine ⟨_, rfl, _, rfl, _, rfl, p, _, _, _, rfl, rfl, SqL.of (K := K) a1, atI_nat a2, _, rfl, ra, _, _, _, rfl, rfl, SqL.of (K := K) a3, atI_nat (rg_atG hb), ?_⟩
      refine ⟨_, rfl, _, rfl, jl, _, _, _, rfl, rfl, SqL.of (K := K) b1, atI_nat b2, _, rfl, rj, _, _, _, rfl, rfl, SqL.of (K := K) b3, atI_nat (rg_atG hb), ?_⟩
      refine ⟨_, rfl, _, rfl, ml, _, _, _, rfl, rfl, SqL.of (K := K) c1, atI_nat c2, _, rfl, rm, _, _, _, rfl, rfl, SqL.of (K := K) c3, atI_nat (rg_atG hb), ?_⟩
      have ej : tabV L.n L.le a b = optV (L.join a b) := by rw [join_row pre ha hb]; rfl
      have em : tabV L.n (rowF L.le) a b = optV (L.meet a b) := by rw [meet_row pre ha hb]; rfl
      have eb : rowV L.le a b = .bl (L.le a b) := rfl
      rw [ej, em, eb]
      refine ⟨(by show 3 ≤ sizeLine; decide), newQ (.lst [.bl (L.le a b), optV (L.join a b), optV (L.meet a b)]) fun l2 hl2 s14 e14 => ?_⟩
      generalize upd H13 l2 (.lst [.bl (L.le a b), optV (L.join a b), optV (L.meet a b)]) = H14 at s14 e14 ⊢
      have ld : ∀ {r : Addr}, H14 r = some (.lst [.bl (L.le a b), optV (L.join a b), optV (L.meet a b)]) → Ld K H14 (.lst [.bl (L.le a b), optD (L.join a b), optD (L.meet a b)]) (.ref r) := fun {r} h => ⟨r, _, rfl, h, _, _, rfl, rfl, _, _, rfl, ld_opt _, _, _, rfl, ld_opt _, rfl⟩
      refine ⟨.lst [.bl (L.le a b), optD (L.join a b), optD (L.meet a b)], _, _, rfl, ld (s14 _ _ e13), ld e14, ?_, ?_, fun H15 s15 => ⟨_, rfl, ?_⟩⟩
      · cases L.join a b <;> cases L.meet a b <;> simp [optD, Dv.depth, Dv.depthA]
      · cases L.join a b <;> cases L.meet a b <;> simp [optD, Dv.wide, Dv.wideA]
      · exact q' _ _ ⟨rfl, s14.trans s15⟩
    · rintro v H14 ⟨rfl, s14⟩
      refine iteF ?_
      exact ⟨_, _, rfl, s613.trans s14⟩
  rintro _ H7 ⟨v9, v10, v11, rfl, s7⟩
  exact q _ (s06.trans s7)
end
/-! ### orders as given: _law_unknown, _law_words, _law_right -/
section
open PyProof.Rows
variable {w W_ : World} {K : PySem.W.Frag} {mg : Str → Option Value} {base : Heap} {mm : List (Str × Addr)} {H H' : Hp} {L : Lt}
/-- _law_unknown -/
def sp_lun (K : PySem.W.Frag) (mm : List (Str × Addr)) : Sp := fun vs H Q _ => ∃ (z : Addr) (L : Lt) (x : Str), vs = [.ref z, .str x] ∧ IsLat K mm H z L ∧ L.names.Nodup ∧ x ∉ L.names ∧ ∀ H', Same H H' → Q (.bl true) H'
/-- the signs of drawn words -/
def signsW : Str := "q0w1e2r3t4y5u6i7o8p9asdfghjklzxcvbnm"
def signW (d : Nat) : Nat := signsW.cps.toList.getD d 0
theorem signs_at {d : Nat} (h : d < 36) : signsW.cps.toList[d]? = some (signW d) ∧ signW d ∈ lettersS.cps.toList := by
  have q : ∀ i : Fin 36, signsW.cps.toList[i.val]? = some (signW i.val) ∧ signW i.val ∈ lettersS.cps.toList := by decide +kernel
  exact q ⟨d, h⟩
theorem signs_inj {i j : Nat} (hi : i < 36) (hj : j < 36) (h : signW i = signW j) : i = j := by
  have q : ∀ i j : Fin 36, signW i.val = signW j.val → i.val = j.val := by decide +kernel
  exact q ⟨i, hi⟩ ⟨j, hj⟩ h
def wordAt (x : Str) (cut c : Nat) : Str := cutS x none (some (cut : Int)) ++ ⟨#[c]⟩ ++ cutS x (some (cut : Int)) none
theorem wordAt_cps {x : Str} {cut c : Nat} (h : cut ≤ x.length) : (wordAt x cut c).cps.toList = x.cps.toList.take cut ++ [c] ++ x.cps.toList.drop cut := by
  have lx : x.cps.toList.length = x.length := by rw [Array.length_toList]; rfl
  unfold wordAt cutS
  simp only [sIx_some, sIx_none, Nat.min_eq_left h]
  rw [Str.cps_append, Str.cps_append, Array.toList_append, Array.toList_append]
  show ((x.cps.toList.drop 0).take (cut - 0)).toArray.toList ++ [c] ++ ((x.cps.toList.drop cut).take (x.length - cut)).toArray.toList = _
  rw [List.drop_zero, Nat.sub_zero, List.take_of_length_le (l := x.cps.toList.drop cut) (by rw [List.length_drop, lx]; omega)]
theorem len_cps (x : Str) : x.cps.toList.length = x.length := by rw [Array.length_toList]; rfl
theorem wordAt_len {x : Str} {cut c : Nat} (h : cut ≤ x.length) : (wordAt x cut c).length = x.length + 1 := by
  rw [← len_cps, wordAt_cps h, List.length_append, List.length_append, List.length_take, List.length_drop, len_cps]
  show min cut x.length + 1 + (x.length - cut) = _
  omega
theorem wordAt_inj {x : Str} {cut c d : Nat} (h : cut ≤ x.length) (e : wordAt x cut c = wordAt x cut d) : c = d := by
  have e := congrArg (fun s : Str => s.cps.toList[cut]?) e
  simp only [wordAt_cps h] at e
  have l : (x.cps.toList.take cut).length = cut := by rw [List.length_take, len_cps]; omega
  rw [List.append_assoc, List.append_assoc, List.getElem?_append_right (Nat.le_of_eq l), List.getElem?_append_right (Nat.le_of_eq l), l, Nat.sub_self] at e
  exact Option.some.inj e
theorem wordAt_w {x : Str} {cut c : Nat} (h : cut ≤ x.length) (l : x.length ≤ 11) (hx : ∀ c ∈ x.cps.toList, c ∈ lettersS.cps.toList) (hc : c ∈ lettersS.cps.toList) : NameW (wordAt x cut c) := by
  have hl := wordAt_len (c := c) h
  refine ⟨by omega, by omega, fun d hd => ?_⟩
  rw [wordAt_cps h] at hd
  rcases List.mem_append.mp hd with hd | hd
  · rcases List.mem_append.mp hd with hd | hd
    · exact hx d (List.mem_of_mem_take hd)
    · obtain rfl : d = c := by simpa using hd
      exact hc
  · exact hx d (List.mem_of_mem_drop hd)
def drawnW (x : Str) (cut b n : Nat) : List Str := (List.range n).map fun k => wordAt x cut (signW ((b + 5 * k) % 36))
theorem drawnW_nodup {x : Str} {cut b n : Nat} (h : cut ≤ x.length) (n36 : n ≤ 36) : (drawnW x cut b n).Nodup := by
  unfold drawnW
  refine List.pairwise_map.mpr (List.Pairwise.imp_of_mem (R := fun a b => a < b) (fun {i j} hi hj hij e => ?_) List.pairwise_lt_range)
  have hi := List.mem_range.mp hi
  have hj := List.mem_range.mp hj
  have := signs_inj (Nat.mod_lt _ (by decide)) (Nat.mod_lt _ (by decide)) (wordAt_inj h e)
  omega
def sp_lwd (K : PySem.W.Frag) : Sp := fun vs H Q _ => ∃ (p ce : Addr) (n : Nat), vs = [.ref p, .int (n : Nat)] ∧ Src K ce H p ∧ n ≤ 17 ∧ ∀ (l : Addr) (xs : List Str) (H' : Hp), But p H H' → Src K ce H' p → H l = none → H' l = some (.lst (xs.map V.str)) → xs.length = n → xs.Nodup → (∀ x ∈ xs, NameW x) → Q (.ref l) H'
theorem ok_lwd (T : Tx K mg w) : FnOk PL w K mg base CX0 2 T.a__law_words T.d__law_words ["source", "many"] (sp_lwd K) := by
  have G__law_pick := ok__law_pick (P := PL) (w := w) (base := base) T
  refine T.F__law_words.ok sc__law_words (fun vs H Q E h => ?_) (fun cdv A outer s H vs Q E hr h => ?_)
  · obtain ⟨p, ce, n, rfl, _⟩ := h
    rfl
  obtain ⟨p, ce, n, rfl, hs, hn, q⟩ := h
  refine ⟨_, pss_cons (ps_set (i := 2) sc__law_words.nd rfl (Or.inr rfl) pe_str)
    (pss_cons (ps_set (i := 3) sc__law_words.nd rfl (Or.inr rfl) (pe_call G__law_pick (hr.mono (by omega)) (by rfl) T.g__law_pick T.F__law_pick.kp T.b__law_pick .nil pass0 (pa_cons (pv 0) (pa_cons pe_int pa_nil))))
    (pss_cons (ps_set (i := 4) sc__law_words.nd rfl (Or.inr rfl) pe_str)
    (pss_cons (ps_for PassesOwn.never rfl (pi_range1 (by rfl) T.n_range (pa_cons (pe_call G__law_pick (hr.mono (by omega)) (by rfl) T.g__law_pick T.F__law_pick.kp T.b__law_pick .nil pass0 (pa_cons (pv 0) (pa_cons pe_int pa_nil))) pa_nil)) (pg_name (i := 5) sc__law_words.nd rfl (Or.inl rfl)) (pss_one (ps_set (i := 4) sc__law_words.nd rfl (Or.inr rfl) (pe_op op_add_str (pv 4) (pe_ix ix_str (pv 2) (pe_call G__law_pick (hr.mono (by omega)) (by rfl) T.g__law_pick T.F__law_pick.kp T.b__law_pick .nil pass0 (pa_cons (pv 0) (pa_cons pe_int pa_nil))) (fun _ _ => rfl))))))
    (pss_cons (ps_set (i := 6) sc__law_words.nd rfl (Or.inr rfl) (pe_call G__law_pick (hr.mono (by omega)) (by rfl) T.g__law_pick T.F__law_pick.kp T.b__law_pick .nil pass0 (pa_cons (pv 0) (pa_cons (pe_op op_add (pe_callB call_len_str (by rfl) T.n_len (by decide +kernel) (pa_cons (pv 4) pa_nil)) pe_int) pa_nil))))
    (pss_one (ps_ret (pe_lc (own := [("k", 5)]) (g := gName 5) (tt := tYes) rfl sc__law_words.nd (pi_range1 (by rfl) T.n_range (pa_cons (pv 1) pa_nil)) (blkOk_by (N := N__law_words) (sc := defScope St__law_words) (by decide +kernel)) (fun _ _ _ _ _ => (pg_name (i := 5) sc__law_words.nd rfl (Or.inl rfl))) (fun _ _ _ _ _ => pts_nil) (fun _ _ _ _ _ => (pe_op op_add_str (pe_op op_add_str (pe_slice sl_str (pv 4) po_none (po_some (pv 6))) (pe_ix ix_str (pv 2) (pe_op op_mod (pe_callTy call_int1 (by rfl) T.n_int (by decide +kernel) (pa_cons (pe_op op_add (pv 3) (pe_op op_mul pe_int (pv 5))) pa_nil)) pe_int) (fun _ _ => rfl))) (pe_slice sl_str (pv 4) (po_some (pv 6)) po_none)))))))))), ?_⟩
  have la : signsW.length ≤ sizeLine := by decide
  refine ⟨_, rfl, p, ce, 36, rfl, hs, by decide, fun b H1 b1 s1 b0 b36 => ?_⟩
  obtain ⟨bg, rfl⟩ : ∃ i : Nat, b = (i : Int) := ⟨b.toNat, by omega⟩
  dsimp only [gName]
  refine set_run (fun v H' => v = .str "" ∧ H1 = H') (fun Q' q' => q' _ _ ⟨rfl, rfl⟩) ?_
  rintro _ _ ⟨rfl, rfl⟩
  dsimp only [gName]
  show tSeq _ _ _ [some (.ref p), some (.int (n : Nat)), some (.str signsW), some (.int (bg : Nat)), some (.str ""), none, none] H1
  refine st_run (fun σ H' => ∃ (x : Str) (v : Option V), σ = [some (.ref p), some (.int (n : Nat)), some (.str signsW), some (.int (bg : Nat)), some (.str x), v, none] ∧ x.length ≤ 11 ∧ (∀ c ∈ x.cps.toList, c ∈ lettersS.cps.toList) ∧ But p H H' ∧ Src K ce H' p) (fun D' hD q' => ?_) ?_
  · refine ⟨_, rfl, p, ce, 12, rfl, s1, by decide, fun m H2 b2 s2 m0 m1 => ?_⟩
    refine ⟨_, rfl, by omega, by omega, for_range (lo := 0) (fun i σ H3 => ∃ (x : Str) (v : Option V), σ = [some (.ref p), some (.int (n : Nat)), some (.str signsW), some (.int (bg : Nat)), some (.str x), v, none] ∧ x.length = i ∧ (∀ c ∈ x.cps.toList, c ∈ lettersS.cps.toList) ∧ But p H H3 ∧ Src K ce H3 p) ⟨_, none, rfl, rfl, (fun c hc => by rw [show (("" : Str).cps.toList) = [] from by decide +kernel] at hc; cases hc), b1.trans b2, s2⟩ ?_ ?_⟩
    · rintro i σ H3 hi ⟨x, v, rfl, lx, ax, b3, s3⟩
      refine ⟨_, rfl, _, rfl, _, rfl, p, ce, 36, rfl, s3, by decide, fun d H4 b4 s4 d0 d1 => ?_⟩
      obtain ⟨d, rfl⟩ : ∃ i : Nat, d = (i : Int) := ⟨d.toNat, by omega⟩
      obtain ⟨a2, f2⟩ := signs_at (d := d) (by omega)
      refine ⟨signsW, _, _, rfl, rfl, la, atI_nat a2, x, _, rfl, rfl, Nat.le_of_lt (smallM (by rw [lx]; show i + 1 ≤ _; omega)), ?_⟩
      refine ⟨_, _, rfl, by rw [Str.length_append, lx]; rfl, fun c hc => ?_, b3.trans b4, s4⟩
      rw [Str.cps_append, Array.toList_append] at hc
      rcases List.mem_append.mp hc with hc | hc
      · exact ax c hc
      · obtain rfl : c = signW d := by simpa using hc
        exact f2
    · rintro σ H3 ⟨x, v, rfl, lx, ax, b3, s3⟩
      exact q' _ _ ⟨x, v, rfl, by omega, ax, b3, s3⟩
  rintro _ H2 ⟨x, v, rfl, lx, ax, b2, s2⟩
  refine ⟨_, rfl, _, rfl, _, rfl, small_line (by omega), _, _, rfl, rfl, p, ce, (x.length : Int) + 1, rfl, s2, by omega, fun ct H3 b3 s3 c0 c1 => ?_⟩
  obtain ⟨ct, rfl⟩ : ∃ i : Nat, ct = (i : Int) := ⟨ct.toNat, by omega⟩
  have hct : ct ≤ x.length := by omega
  dsimp only [gName]
  refine ⟨_, rfl, _, rfl, by omega, by omega, fun D hD => ?_⟩
  refine lc_rng (n := n) (G := fun _ v (y : Str) => v = V.str y) (fun _ => true) (fun k => wordAt x ct (signW ((bg + 5 * k) % 36))) hD (fun _ h => h) (fun h => h) (by omega) ?_ (fun H4 zs s4 hz rr => ?_)
  · rintro j H4 Nx Ex hj s4 _ ky kn
    refine ⟨rfl, ?_⟩
    refine lcY ?_
    refine ⟨_, rfl, _, rfl, _, rfl, x, rfl, small_line (by omega), ?_⟩
    refine ⟨_, rfl, _, rfl, _, rfl, _, _, rfl, rfl, .inl ⟨by decide, by decide⟩, _, _, rfl, rfl, .inl ⟨_, rfl, _, _, rfl, rfl, (by show (0 : Int) < 36; decide), ?_⟩⟩
    have em : ((bg : Nat) : Int) + 5 * ((j : Nat) : Int) = ((bg + 5 * j : Nat) : Int) := by omega
    have em2 : (((bg : Nat) : Int) + 5 * ((j : Nat) : Int)) % 36 = (((bg + 5 * j) % 36 : Nat) : Int) := by omega
    have a2 := (signs_at (d := (bg + 5 * j) % 36) (Nat.mod_lt _ (by decide))).1
    have cl := cutS_length x none (some (ct : Int))
    have cr := cutS_length x (some (ct : Int)) none
    refine ⟨signsW, _, _, rfl, rfl, la, (by rw [em2]; exact atI_nat a2), ?_⟩
    refine ⟨_, _, rfl, rfl, small_line (by show _ + 1 ≤ _; omega), _, rfl, _, rfl, _, rfl, x, rfl, small_line (by omega), _, _, rfl, rfl, small_line (by rw [Str.length_append]; show _ + 1 + _ ≤ _; omega), ?_⟩
    exact ky rfl _ _ (Same.refl _) rfl
  · rw [flt_idG] at rr
    rw [al_map rr] at hz
    have hD' : H D = none := by
      cases e : H D with
      | none => rfl
      | some o =>
        have ne : D ≠ p := s3.ne hD
        have := b3 _ _ ne (b2 _ _ ne e)
        rw [hD] at this; cases this
    refine q D (drawnW x ct bg n) H4 ((b2.trans b3).trans (s4.but p)) (s3.same s4) hD' hz ?_ (drawnW_nodup hct (by omega)) ?_
    · show ((List.range n).map _).length = n
      rw [List.length_map, List.length_range]
    · intro y hy
      obtain ⟨k, hk, rfl⟩ := List.mem_map.mp hy
      exact wordAt_w hct lx ax (signs_at (Nat.mod_lt _ (by decide))).2
theorem ldA_bls {H : Hp} : ∀ bs : List Bool, LdA K H (bs.map Dv.bl) (bs.map V.bl)
  | [] => rfl
  | b :: bs => ⟨_, _, rfl, rfl, ldA_bls bs⟩
theorem dep_bls : ∀ bs : List Bool, Dv.depthA (bs.map Dv.bl) ≤ 1
  | [] => Nat.zero_le _
  | b :: bs => by
    have := dep_bls bs
    show max 1 (Dv.depthA (bs.map Dv.bl)) ≤ 1
    omega
theorem wid_bls : ∀ bs : List Bool, Dv.wideA (bs.map Dv.bl)
  | [] => trivial
  | b :: bs => ⟨trivial, wid_bls bs⟩
/-- _law_right -/
def sp_lrt (K : PySem.W.Frag) (mm : List (Str × Addr)) : Sp := fun vs H Q _ => ∃ (z na p : Addr) (L : Lt), vs = [.ref z, .ref na, .ref p] ∧ IsLat K mm H z L ∧ 1 ≤ L.n ∧ L.n ≤ 64 ∧ L.names.Nodup ∧ H na = some (.lst (L.names.map V.str)) ∧ GridAt H p L.n (rowV L.le) ∧ Pre L.n L.le ∧ ∀ H', Same H H' → Q (.bl true) H'
def twinR (n : Nat) (R : Nat → Nat → Bool) (a : Nat) : Bool := (List.range n).any fun b => !(a == b) && (R a b && R b a)
theorem ord_of {L : Lt} (pre : Pre L.n L.le) (h : (List.range L.n).filter (twinR L.n L.le) = []) : L.Ord := by
  refine ⟨pre.refl, fun a b ha hb h1 h2 => ?_⟩
  by_cases e : a = b
  · exact e
  · have t : twinR L.n L.le a = true := List.any_eq_true.mpr ⟨b, List.mem_range.mpr hb, by rw [h1, h2, beq_eq_false_iff_ne.mpr e]; rfl⟩
    have m : a ∈ (List.range L.n).filter (twinR L.n L.le) := List.mem_filter.mpr ⟨List.mem_range.mpr ha, t⟩
    rw [h] at m
    simp at m
end
/-! ### pairs of drawn places -/
section
open PyProof.Rows
variable {w W_ : World} {K : PySem.W.Frag} {mg : Str → Option Value} {base : Heap} {mm : List (Str × Addr)} {H H' : Hp} {L : Lt}
theorem DuosAt.drawn {p c pl : Addr} {ps : List (Nat × Nat)} (h : DuosAt H pl ps) (s : Src K c H p) (ne : pl ≠ p) (b : But p H H') : DuosAt H' pl ps := by
  obtain ⟨ls, h1, h2⟩ := h.ex
  refine ⟨ls, b _ _ ne h1, al_imp h2 fun l q hl => b _ _ (fun e => ?_) hl⟩
  obtain ⟨cs, i, l', m, S⟩ := s
  have := S.at_
  rw [← e, hl] at this
  cases this
theorem duo_ne {pl l : Addr} {as : List Addr} {i j : Int} (h1 : H pl = some (.lst (as.map V.ref))) (h2 : H l = some (.lst [.int i, .int j])) : l ≠ pl := fun e => by
  rw [e, h1] at h2
  have := HO.lst.inj (Option.some.inj h2)
  cases as with
  | nil => simp at this
  | cons a as => simp at this
theorem DuosAt.app {pl l : Addr} {ps : List (Nat × Nat)} {q : Nat × Nat} (h : DuosAt H pl ps) (hl : H l = some (.lst [.int (q.1 : Nat), .int (q.2 : Nat)])) {ls : List V} (e : H pl = some (.lst ls)) : DuosAt (upd H pl (.lst (ls ++ [.ref l]))) pl (ps ++ [q]) := by
  obtain ⟨as, h1, h2⟩ := h.ex
  rw [h1] at e
  obtain rfl : as.map V.ref = ls := HO.lst.inj (Option.some.inj e)
  refine ⟨as ++ [l], by rw [upd_same, List.map_append]; rfl, al_snoc (al_imp h2 fun a b ha => ?_) ?_⟩
  · rw [upd_ne (duo_ne h1 ha)]; exact ha
  · rw [upd_ne (duo_ne h1 hl)]; exact hl
/-- no drawn name -/
theorem no_nameW {x : Str} (h : x.length = 0 ∨ 12 < x.length ∨ ∃ c ∈ x.cps.toList, c ∉ lettersS.cps.toList) : ¬ NameW x := fun w => by
  rcases h with h | h | ⟨c, h1, h2⟩
  · have := w.pos; omega
  · have := w.le; omega
  · exact h2 (w.all c h1)
/-- a comprehension over a list of objects -/
theorem lc_refs {β γ : Type} {G : Hp → V → γ → Prop} (f : β → γ) {a : Addr} {as : List Addr} {bs : List β} {g : TG} {tt : TT} {te : TE} {vs : List Nat} {σ : L2.St} {H1 : Hp} {D : Addr} {Qd : Hp → Prop} (hD : H1 D = none)
    (kG : ∀ {H H' : Hp} {v : V} {m : γ}, Same H H' → G H v m → G H' v m) (kD : ∀ {H : Hp} {v : V} {m : γ} {zs : List V}, G H v m → G (upd H D (.lst zs)) v m) (xz : as.length ≤ 100000) (hab : as.length = bs.length) (hl : H1 a = some (.lst (as.map V.ref)))
    (hs : ∀ (i : Nat) (l : Addr) (b : β) (H : Hp) (Nx : V → Hp → Prop) (Ex : Hp → Prop), as[i]? = some l → bs[i]? = some b → Same H1 H → (∃ ys, H D = some (.lst ys)) → (∀ y H2, Same H H2 → G H2 y (f b) → Nx y H2) →
      g (.ref l) (wipe σ vs) H fun σ2 H2 => wipe σ2 vs = wipe σ vs ∧ tt σ2 H2 fun b H3 => if b = true then te σ2 H3 Nx else Ex H3)
    (hd : ∀ H ys, Same H1 H → H D = some (.lst ys) → Al (G H) ys (bs.map f) → Qd H) :
    ∃ W : Nat → Nat → Hp → Prop, (∃ m, W 0 m (upd H1 D (.lst []))) ∧ ∀ i m H, W i m H →
      ((Itl K a).stop i H ∧ Qd H) ∨ ((Itl K a).go i H ∧ ∃ Nx : Hp → Prop, (∀ H', Nx H' → ∃ m', m' < m ∧ W (i + 1) m' H') ∧ ∀ x H', (Itl K a).yld i H x H' → g x (wipe σ vs) H' fun σ2 H2 => wipe σ2 vs = wipe σ vs ∧ tt σ2 H2 fun b H3 =>
        if b = true then te σ2 H3 fun y H4 => ∃ acc, H4 D = some (.lst acc) ∧ acc.length < sizeLine ∧ Nx (upd H4 D (.lst (acc ++ [y]))) else Nx H3) := by
  refine lc_foldF (walk_list (K := K) (a := a) (xs := as.map V.ref)) (fun H => Same H1 H) (fun i H ys => Al (G H) ys ((bs.take i).map f)) (Same.new hD _) (fun H ys zs s _ => s.mut hD _) .nil (fun i H ys zs xs r _ => al_imp r fun v b => kD) (fun i H ys r => ?_) (fun H s => SqL.of (K := K) (s _ _ hl)) ?_ (fun H ys s hy r => hd H ys s hy (by rw [List.length_map, hab, List.take_length] at r; exact r))
  · have := al_len r
    rw [this, List.length_map, List.length_take]
    omega
  · rintro i x H2 H3 ys Nx Ex hi s hy r ⟨e, hx⟩ k1 k2
    obtain rfl : H2 = H3 := e.symm
    rw [List.length_map] at hi
    have ha : as[i]? = some as[i] := List.getElem?_eq_getElem hi
    have hb : bs[i]? = some (bs[i]'(hab ▸ hi)) := List.getElem?_eq_getElem (hab ▸ hi)
    have hx : (as.map V.ref)[i]? = some x := hx
    rw [List.getElem?_map, ha] at hx
    obtain rfl := Option.some.inj hx
    have et : bs.take (i + 1) = bs.take i ++ [bs[i]'(hab ▸ hi)] := by rw [List.take_add_one, hb]; rfl
    rw [et, List.map_append] at k1
    refine hs i as[i] _ H2 Nx Ex ha hb s ⟨_, hy⟩ fun y H4 s4 gy => k1 y H4 (s.trans s4) (s4 _ _ hy) ?_
    exact al_snoc (al_imp r fun v b => kG s4) gy
/-- a list of new pairs of names, by places -/
def duoS (xs : List Str) (q : Nat × Nat) : Str × Str := (xs.getD q.1 Str.empty, xs.getD q.2 Str.empty)
def TupsAt (H : Hp) (D : Addr) (ts : List Addr) (xs : List Str) (ps : List (Nat × Nat)) : Prop := H D = some (.lst (ts.map V.ref)) ∧ Al (fun t q => H t = some (.tup [.str (duoS xs q).1, .str (duoS xs q).2])) ts ps
theorem TupsAt.same {D : Addr} {ts : List Addr} {xs : List Str} {ps : List (Nat × Nat)} (h : TupsAt H D ts xs ps) (s : Same H H') : TupsAt H' D ts xs ps := ⟨s _ _ h.1, al_imp h.2 fun _ _ e => s _ _ e⟩
theorem get_d {xs : List Str} {i : Nat} (h : i < xs.length) : xs[i]? = some (xs.getD i Str.empty) := by rw [List.getD_eq_getElem?_getD, List.getElem?_eq_getElem h]; rfl
theorem TupsAt.pairs {D : Addr} {ts : List Addr} {xs : List Str} {ps : List (Nat × Nat)} (h : TupsAt H D ts xs ps) (hp : ∀ q ∈ ps, q.1 < xs.length ∧ q.2 < xs.length) : PairsAt K H D xs ps := by
  refine ⟨ts.map V.ref, SqL.of (K := K) h.1, by rw [List.length_map]; exact al_len h.2, fun i q hq => ?_⟩
  have hi := (List.getElem?_eq_some_iff.mp hq).1
  have hi2 : i < ts.length := by rw [al_len h.2]; exact hi
  obtain ⟨q', e1, e2⟩ := al_get h.2 (List.getElem?_eq_getElem hi2)
  rw [hq] at e1
  obtain rfl := Option.some.inj e1
  have m := hp q (List.mem_of_getElem? hq)
  exact ⟨ts[i], _, _, by rw [List.getElem?_map, List.getElem?_eq_getElem hi2]; rfl, SqT.of (K := K) e2, get_d m.1, get_d m.2⟩
theorem al_unmap {α β γ : Type} {f : γ → β} {F : α → β → Prop} : ∀ {as : List α} {bs : List γ}, Al F as (bs.map f) → Al (fun a b => F a (f b)) as bs
  | [], [], _ => .nil
  | [], _ :: _, h => nomatch h
  | _ :: _, [], h => nomatch h
  | _ :: _, _ :: _, .cons x h => .cons x (al_unmap h)
theorem TupsAt.of {D : Addr} {ys : List V} {xs : List Str} {ps : List (Nat × Nat)} (hy : H D = some (.lst ys)) (h : Al (fun v (x : Str × Str) => ∃ t, v = V.ref t ∧ t ≠ D ∧ H t = some (.tup [.str x.1, .str x.2])) ys (ps.map (duoS xs))) : ∃ ts, TupsAt H D ts xs ps := by
  obtain ⟨ts, rfl, h2⟩ := al_refs h
  exact ⟨ts, hy, al_imp (al_unmap h2) fun _ _ e => e.2⟩
theorem str_d {xs : List Str} {i : Nat} (h : i < xs.length) : (xs.map V.str)[i]? = some (.str (xs.getD i Str.empty)) := by rw [List.getElem?_map, get_d h]; rfl
theorem NameW.strOk {x : Str} (h : NameW x) : PyData.strOk x = true := by
  unfold PyData.strOk
  rw [← Array.all_toList, List.all_eq_true]
  intro c hc
  have q : ∀ c ∈ lettersS.cps.toList, decide (c < 0x110000) = true := by decide +kernel
  exact q c (h.all c hc)
def strD (xs : List Str) : List PyData := xs.map PyData.str
theorem dpAll_strs {H : Hp} : ∀ xs : List Str, DpAll K H (xs.map V.str) (strD xs)
  | [] => .nil
  | x :: xs => .cons (.str _) (dpAll_strs xs)
theorem lay_strs : ∀ {xs : List Str}, (∀ x ∈ xs, PyData.strOk x = true) → PyData.canLayAll0 (strD xs) = true
  | [], _ => by simp [strD, PyData.canLayAll0]
  | x :: xs, h => by
    have := lay_strs (xs := xs) fun y hy => h y (List.mem_cons_of_mem _ hy)
    have h1 := h x List.mem_cons_self
    simp [strD, PyData.canLayAll0, PyData.canLay0, h1] at this ⊢; exact this
theorem depth_strs : ∀ xs : List Str, PyData.depthAll (strD xs) ≤ 1
  | [] => by simp [strD, PyData.depthAll]
  | x :: xs => by have := depth_strs xs; simp [strD, PyData.depthAll, PyData.depth] at this ⊢; omega
def tupD (qs : List (Str × Str)) : List PyData := qs.map fun q => .tuple [.str q.1, .str q.2]
theorem dpAll_tups {xs : List Str} : ∀ {ts : List Addr} {ps : List (Nat × Nat)}, Al (fun t q => H t = some (.tup [.str (duoS xs q).1, .str (duoS xs q).2])) ts ps → DpAll K H (ts.map V.ref) (tupD (ps.map (duoS xs)))
  | [], [], _ => .nil
  | [], _ :: _, h => nomatch h
  | _ :: _, [], h => nomatch h
  | _ :: _, _ :: _, .cons x h => .cons (.tup (SqT.of (K := K) x) (.cons (.str _) (.cons (.str _) .nil))) (dpAll_tups h)
theorem lay_tups : ∀ {qs : List (Str × Str)}, (∀ q ∈ qs, PyData.strOk q.1 = true ∧ PyData.strOk q.2 = true) → PyData.canLayAll0 (tupD qs) = true
  | [], _ => by simp [tupD, PyData.canLayAll0]
  | x :: xs, h => by
    have := lay_tups (qs := xs) fun y hy => h y (List.mem_cons_of_mem _ hy)
    have h1 := h x List.mem_cons_self
    simp [tupD, PyData.canLayAll0, PyData.canLay0, h1.1, h1.2] at this ⊢; exact this
theorem depth_tups : ∀ qs : List (Str × Str), PyData.depthAll (tupD qs) ≤ 2
  | [] => by simp [tupD, PyData.depthAll]
  | x :: xs => by have := depth_tups xs; simp [tupD, PyData.depthAll, PyData.depth] at this ⊢; omega
/-- [names, pairs] as data -/
def givenD (xs : List Str) (ps : List (Nat × Nat)) : PyData := .list [.list (strD xs), .list (tupD (ps.map (duoS xs)))]
theorem given_shp {xs : List Str} {ps : List (Nat × Nat)} (nw : ∀ x ∈ xs, NameW x) (hp : ∀ q ∈ ps, q.1 < xs.length ∧ q.2 < xs.length) : Shp 190 (givenD xs ps) := by
  refine ⟨?_, ?_⟩
  · have h1 := lay_strs (xs := xs) fun x hx => (nw x hx).strOk
    have h2 := lay_tups (qs := ps.map (duoS xs)) fun q hq => by
      obtain ⟨z, hz, rfl⟩ := List.mem_map.mp hq
      exact ⟨(nw _ (List.mem_of_getElem? (get_d (hp z hz).1))).strOk, (nw _ (List.mem_of_getElem? (get_d (hp z hz).2))).strOk⟩
    simp [givenD, PyData.canLay0, PyData.canLayAll0, h1, h2]
  · have h1 := depth_strs xs
    have h2 := depth_tups (ps.map (duoS xs))
    simp [givenD, PyData.depth, PyData.depthAll]; omega
theorem given_dp {xs : List Str} {ps : List (Nat × Nat)} {g a D : Addr} {ts : List Addr} (hg : H g = some (.lst [.ref a, .ref D])) (ha : H a = some (.lst (xs.map V.str))) (hD : TupsAt H D ts xs ps) : Dp K H (.ref g) (givenD xs ps) :=
  .lst (SqL.of (K := K) hg) (.cons (.lst (SqL.of (K := K) ha) (dpAll_strs _)) (.cons (.lst (SqL.of (K := K) hD.1) (dpAll_tups hD.2)) .nil))
theorem closed_le {n : Nat} {ps : List (Nat × Nat)} (hp : ∀ q ∈ ps, q.1 < n ∧ q.2 < n) : closedR n ps = fun a b => reachB ps a b :=
  funext fun _ => funext fun _ => Bool.eq_iff_iff.mpr ((closed_reach hp).trans reachB_iff.symm)
theorem pairW_duo (xs : List Str) (ps : List (Nat × Nat)) : pairW xs ps = (ps.map (duoS xs)).map fun q => q.1 ++ (" " : Str) ++ q.2 := by
  unfold pairW
  rw [List.map_map]
  rfl
theorem duo_len {xs : List Str} (hx : ∀ x ∈ xs, x.length ≤ 12) {q : Nat × Nat} (hq : q.1 < xs.length ∧ q.2 < xs.length) : (duoS xs q).1.length ≤ 12 ∧ (duoS xs q).2.length ≤ 12 :=
  ⟨hx _ (List.mem_of_getElem? (get_d hq.1)), hx _ (List.mem_of_getElem? (get_d hq.2))⟩
end
/-! ### orders of pairs and turned ones -/
section
open PyProof.Rows
variable {K : PySem.W.Frag} {H H' : Hp} {L R : Lt}
theorem GridAt.drawn {p ce t : Addr} {n : Nat} {f : Nat → Nat → V} (h : GridAt H t n f) (s : Src K ce H p) (ne : t ≠ p) (hf : ∀ a b q, f a b ≠ .ref q) (b : But p H H') : GridAt H' t n f := by
  obtain ⟨ls, h1, h2, h3⟩ := h.ex
  obtain ⟨cs, i, l', m, S⟩ := s
  refine ⟨ls, b _ _ ne h1, h2, fun a l e => b _ _ (fun z => ?_) (h3 a l e)⟩
  have h4 := h3 a l e
  have hn : a < n := by have := (List.getElem?_eq_some_iff.mp e).1; omega
  rw [z, S.at_] at h4
  have h5 := HO.lst.inj (Option.some.inj h4)
  have h6 : (.ref ce : V) = f a 0 := by
    have := congrArg (fun l => l[0]?) h5
    simp only [List.getElem?_map, List.getElem?_range (show 0 < n by omega)] at this
    exact Option.some.inj this
  exact hf a 0 ce h6.symm
theorem GridAt.ne {p ce t : Addr} {n : Nat} {f : Nat → Nat → V} (h : GridAt H t n f) (s : Src K ce H p) : t ≠ p := fun e => by
  obtain ⟨ls, h1, _⟩ := h.ex
  obtain ⟨cs, i, l', m, S⟩ := s
  rw [e, S.at_] at h1
  have := HO.lst.inj (Option.some.inj h1)
  match ls, this with
  | _ :: [], h => simp at h
  | _ :: _ :: _, h => simp at h
theorem ne_strs {p ce a : Addr} {xs : List Str} (s : Src K ce H p) (h : H a = some (.lst (xs.map V.str))) : a ≠ p := fun e => by
  obtain ⟨cs, i, l', m, S⟩ := s
  rw [e, S.at_] at h
  have := HO.lst.inj (Option.some.inj h)
  cases xs with
  | nil => simp at this
  | cons x xs => simp at this
theorem div_lt2 {k m n : Nat} (h : k < n * m) (hm : 1 ≤ m) : k / m < n := (Nat.div_lt_iff_lt_mul hm).mpr h
theorem pair_ordG (A : L.Ord) (B : R.Ord) : (pairL L R).Ord := by
  refine ⟨fun a ha => ?_, fun a b ha hb h1 h2 => ?_⟩
  · rw [pairL_n] at ha
    have hm : 1 ≤ R.n := Nat.pos_of_ne_zero fun e => by rw [e] at ha; simp at ha
    show (L.le _ _ && R.le _ _) = true
    rw [A.refl _ (div_lt2 ha hm), B.refl _ (Nat.mod_lt _ hm)]; rfl
  · rw [pairL_n] at ha hb
    have hm : 1 ≤ R.n := Nat.pos_of_ne_zero fun e => by rw [e] at ha; simp at ha
    have h1 : (L.le (a / R.n) (b / R.n) && R.le (a % R.n) (b % R.n)) = true := h1
    have h2 : (L.le (b / R.n) (a / R.n) && R.le (b % R.n) (a % R.n)) = true := h2
    obtain ⟨x1, x2⟩ := Bool.and_eq_true_iff.mp h1
    obtain ⟨y1, y2⟩ := Bool.and_eq_true_iff.mp h2
    have e1 := A.anti _ _ (div_lt2 ha hm) (div_lt2 hb hm) x1 y1
    have e2 := B.anti _ _ (Nat.mod_lt _ hm) (Nat.mod_lt _ hm) x2 y2
    have := Nat.div_add_mod a R.n
    have := Nat.div_add_mod b R.n
    rw [e1, e2] at *
    omega
theorem pair_preG (A : Pre L.n L.le) (B : Pre R.n R.le) : Pre (pairL L R).n (pairL L R).le := by
  rw [pairL_n]
  refine ⟨fun a ha => ?_, fun a b c ha hb hc h1 h2 => ?_⟩
  · have hm : 1 ≤ R.n := Nat.pos_of_ne_zero fun e => by rw [e] at ha; simp at ha
    show (L.le _ _ && R.le _ _) = true
    rw [A.refl _ (div_lt2 ha hm), B.refl _ (Nat.mod_lt _ hm)]; rfl
  · have hm : 1 ≤ R.n := Nat.pos_of_ne_zero fun e => by rw [e] at ha; simp at ha
    have h1 : (L.le (a / R.n) (b / R.n) && R.le (a % R.n) (b % R.n)) = true := h1
    have h2 : (L.le (b / R.n) (c / R.n) && R.le (b % R.n) (c % R.n)) = true := h2
    obtain ⟨x1, x2⟩ := Bool.and_eq_true_iff.mp h1
    obtain ⟨y1, y2⟩ := Bool.and_eq_true_iff.mp h2
    show (L.le _ _ && R.le _ _) = true
    rw [A.trans _ _ _ (div_lt2 ha hm) (div_lt2 hb hm) (div_lt2 hc hm) x1 y1, B.trans _ _ _ (Nat.mod_lt _ hm) (Nat.mod_lt _ hm) (Nat.mod_lt _ hm) x2 y2]; rfl
theorem turn_ordG (A : L.Ord) : (turnL L).Ord := ⟨A.refl, fun a b ha hb h1 h2 => A.anti a b ha hb h2 h1⟩
theorem turn_preG (A : Pre L.n L.le) : Pre (turnL L).n (turnL L).le := A.flip
end
/-! ### the irreducible values of lattices of down-sets, their places -/
section
open PyProof.Rows
theorem irr_permG {L : Lt} {m : Nat} (f : Nat → Nat) (h1 : ∀ c, c < m → f c < L.n ∧ L.irr (f c) = true) (inj : ∀ c d, c < m → d < m → f c = f d → c = d) (h2 : ∀ i, i < L.n → L.irr i = true → ∃ c, c < m ∧ f c = i) : L.irrs.Perm ((List.range m).map f) := by
  have nd : ((List.range m).map f).Nodup := by
    rw [List.nodup_iff_pairwise_ne, List.pairwise_map]
    exact List.nodup_range.imp_of_mem fun {a b} ha hb ne e => ne (inj a b (List.mem_range.mp ha) (List.mem_range.mp hb) e)
  have nd2 : L.irrs.Nodup := List.nodup_range.filter _
  exact (List.perm_ext_iff_of_nodup nd2 nd).mpr fun i => by
    unfold Lt.irrs
    rw [List.mem_filter, List.mem_range, List.mem_map]
    constructor
    · rintro ⟨hi, hr⟩
      obtain ⟨c, hc, e⟩ := h2 i hi hr
      exact ⟨c, List.mem_range.mpr hc, e⟩
    · rintro ⟨c, hc, rfl⟩
      exact h1 c (List.mem_range.mp hc)
theorem down_permG {xs : List Str} {ps : List (Nat × Nat)} (A : Anti xs.length ps) (f : Nat → Nat) (hf : ∀ c, c < xs.length → f c < (downL xs ps).n ∧ (heaps xs.length ps).getD (f c) 0 = mask xs.length (fun a => reachB ps a c)) : (downL xs ps).irrs.Perm ((List.range xs.length).map f) := by
  have R := down_reg xs ps
  have W := down_ring xs.length ps
  have hn := downL_n xs ps
  have le : ∀ i j, (downL xs ps).le i j = part ((heaps xs.length ps).getD i 0) ((heaps xs.length ps).getD j 0) := fun _ _ => rfl
  generalize xs.length = n at *
  generalize downL xs ps = L at *
  generalize hH : heaps n ps = hs at *
  have lt : ∀ {i}, i < L.n → hs.getD i 0 < 2 ^ n := fun hi => W.lt _ (getD_mem (hn ▸ hi))
  have hp : ∀ {i a b}, i < L.n → a < n → b < n → Reach ps b a → (hs.getD i 0).testBit a = true → (hs.getD i 0).testBit b = true := fun {i a b} hi ha hb r z => by
    have m : hs.getD i 0 ∈ heaps n ps := by rw [hH]; exact getD_mem (hn ▸ hi)
    exact (heap_mem.mp m).2 a ha z b hb r
  have idx : ∀ {g}, g ∈ heaps n ps → ∃ i, i < L.n ∧ hs.getD i 0 = g := fun {g} h => by
    rw [hH] at h
    obtain ⟨i, hi, e⟩ := mem_getD h
    exact ⟨i, hn ▸ hi, e⟩
  have inj : ∀ {i j}, i < L.n → j < L.n → hs.getD i 0 = hs.getD j 0 → i = j := fun hi hj e => getD_inj W.nd (hn ▸ hi) (hn ▸ hj) e
  refine irr_permG f (fun c hc => ⟨(hf c hc).1, (Lt.irr_iff L _).mpr ?_⟩) (fun c d hc hd e => ?_) (fun i hi h => ?_)
  · obtain ⟨k, hk, ek⟩ := idx (pr_mem (n := n) (fun a => reachB ps a c && !(a == c)) fun a b ha hb r z => by
      rw [Bool.and_eq_true, Bool.not_eq_true', beq_eq_false_iff_ne] at z ⊢
      refine ⟨reachB_iff.mpr (r.trans (reachB_iff.mp z.1)), fun e => z.2 ?_⟩
      subst e
      exact A a b ha hb (reachB_iff.mp z.1) r)
    refine ⟨k, hk, fun i hi => ?_⟩
    obtain ⟨h1, h2⟩ := hf c hc
    rw [le, le, ek, h2, Bool.eq_iff_iff, Bool.and_eq_true, Bool.not_eq_true', beq_eq_false_iff_ne, part_in (lt hi), part_in (lt hi)]
    constructor
    · intro g
      refine ⟨fun j hj z => ?_, fun e => ?_⟩
      · have := g j hj z
        rw [at_bit hj, Bool.and_eq_true] at this
        rw [at_bit hj]
        exact this.1
      · have := g c hc (by rw [e, h2, at_bit hc]; exact reachB_self)
        rw [at_bit hc, beq_self_eq_true] at this
        simp at this
    · rintro ⟨g, ne⟩ j hj z
      rw [at_bit hj, Bool.and_eq_true, Bool.not_eq_true', beq_eq_false_iff_ne]
      have gj := g j hj z
      rw [at_bit hj] at gj
      refine ⟨gj, fun e => ne ?_⟩
      subst e
      refine inj hi h1 (part_anti ((part_in (lt hi)).mpr ?_) ((part_in (lt h1)).mpr fun a ha za => ?_))
      · rw [h2]; exact g
      · rw [h2, at_bit ha] at za
        exact hp hi hj ha (reachB_iff.mp za) z
  · have e := (hf c hc).2.symm.trans ((congrArg (fun i => hs.getD i 0) e).trans (hf d hd).2)
    have e := mask_eq.mp e
    have e1 := e c hc
    have e2 := e d hd
    rw [reachB_self] at e1 e2
    exact A c d hc hd (reachB_iff.mp e1.symm) (reachB_iff.mp e2)
  · obtain ⟨k, hk, hl⟩ := (Lt.irr_iff L i).mp h
    have np := R.irr_not hi hl
    obtain ⟨c, hc, z1, z2⟩ : ∃ c, c < n ∧ (hs.getD i 0).testBit c = true ∧ (hs.getD k 0).testBit c ≠ true := Classical.byContradiction fun no => by
      have : L.le i k = true := by
        rw [le, part_in (lt hi)]
        exact fun j hj z => Classical.byContradiction fun y => no ⟨j, hj, z, y⟩
      rw [np] at this
      cases this
    obtain ⟨h1, h2⟩ := hf c hc
    refine ⟨c, hc, Classical.byContradiction fun ne => z2 ?_⟩
    have l1 : L.le (f c) i = true := by
      rw [le, part_in (lt h1), h2]
      intro a ha za
      rw [at_bit ha] at za
      exact hp hi hc ha (reachB_iff.mp za) z1
    have l2 : L.le (f c) k = true := by
      rw [hl _ h1, l1, beq_false_of_ne ne]
      rfl
    rw [le, part_in (lt h1), h2] at l2
    exact l2 c hc (by rw [at_bit hc]; exact reachB_self)
theorem sorted_eqG : ∀ {xs ys : List Int}, xs.Pairwise (· ≤ ·) → ys.Pairwise (· ≤ ·) → xs.Perm ys → xs = ys
  | [], ys, _, _, p => (List.nil_perm.mp p).symm ▸ rfl
  | x :: xs, [], _, _, p => absurd p.symm (by intro h; exact absurd (List.nil_perm.mp h) (by simp))
  | x :: xs, y :: ys, hx, hy, p => by
    obtain ⟨h1, h2⟩ := List.pairwise_cons.mp hx
    obtain ⟨g1, g2⟩ := List.pairwise_cons.mp hy
    have e : x = y := by
      have m1 : x ∈ y :: ys := p.subset List.mem_cons_self
      have m2 : y ∈ x :: xs := p.symm.subset List.mem_cons_self
      rcases List.mem_cons.mp m1 with e | m1
      · exact e
      · rcases List.mem_cons.mp m2 with e | m2
        · exact e.symm
        · have := g1 x m1
          have := h1 y m2
          omega
    subst e
    rw [sorted_eqG h2 g2 ((List.perm_cons x).mp p)]
/-- the joins and meets, by places of the sets -/
theorem down_join {xs : List Str} {ps : List (Nat × Nat)} {a b j : Nat} (ha : a < (heaps xs.length ps).length) (hb : b < (heaps xs.length ps).length) (hj : j < (heaps xs.length ps).length) (e : (heaps xs.length ps).getD j 0 = (heaps xs.length ps).getD a 0 ||| (heaps xs.length ps).getD b 0) : (downL xs ps).join a b = some j := by
  refine (down_reg xs ps).ord.join (by rw [downL_n]; exact hj) fun i _ => ?_
  show part _ _ = (part _ _ && part _ _)
  rw [e, part_or]
theorem down_meet {xs : List Str} {ps : List (Nat × Nat)} {a b j : Nat} (ha : a < (heaps xs.length ps).length) (hb : b < (heaps xs.length ps).length) (hj : j < (heaps xs.length ps).length) (e : (heaps xs.length ps).getD j 0 = (heaps xs.length ps).getD a 0 &&& (heaps xs.length ps).getD b 0) : (downL xs ps).meet a b = some j := by
  refine (down_reg xs ps).ord.meet (by rw [downL_n]; exact hj) fun i _ => ?_
  show part _ _ = (part _ _ && part _ _)
  rw [e, part_and]
/-- the place of a number in an ascending list -/
theorem index_nat {hs : List Nat} (nd : hs.Nodup) {j : Nat} (hj : j < hs.length) : (natV hs)[j]? = some (.int (hs.getD j 0 : Nat)) ∧ eqV (.int (hs.getD j 0 : Nat)) (.int (hs.getD j 0 : Nat)) = true ∧ ∀ (m : Nat) (z' : V), m < j → (natV hs)[m]? = some z' → eqV z' (.int (hs.getD j 0 : Nat)) = false := by
  have g : hs[j]? = some (hs.getD j 0) := by rw [List.getD_eq_getElem?_getD, List.getElem?_eq_getElem hj]; rfl
  refine ⟨by unfold natV; rw [List.getElem?_map, g]; rfl, by rw [eqV_nat]; exact beq_self_eq_true _, fun m z' hm hz => ?_⟩
  obtain ⟨b, hb, rfl⟩ := nat_at hz
  rw [eqV_nat]
  refine beq_eq_false_iff_ne.mpr fun e => ?_
  rw [e] at hb
  have := nodup_at' nd hb g
  omega
theorem heaps_at {n : Nat} {ps : List (Nat × Nat)} {h : Nat} (m : h ∈ heaps n ps) : ∃ j, j < (heaps n ps).length ∧ (heaps n ps).getD j 0 = h := mem_getD m
/-- spots that go up in some row of the places -/
def UpIn (turn : List Nat) (ps : List (Nat × Nat)) : Prop := ∀ q ∈ ps, ∃ i j : Nat, i ≤ j ∧ turn[i]? = some q.1 ∧ turn[j]? = some q.2
theorem up_anti {turn : List Nat} {n : Nat} {ps : List (Nat × Nat)} (nd : turn.Nodup) (all : ∀ a, a < n → a ∈ turn) (up : UpIn turn ps) : Anti n ps := by
  have rk : ∀ {a i : Nat}, turn[i]? = some a → turn.idxOf a = i := fun {a i} h => by
    have hm := List.mem_of_getElem? h
    have hl : turn.idxOf a < turn.length := List.idxOf_lt_length_of_mem hm
    have : turn[turn.idxOf a]? = some a := by rw [List.getElem?_eq_getElem hl]; exact congrArg some (List.getElem_idxOf hl)
    exact nodup_at' nd this h
  have mono : ∀ {a b}, Reach ps a b → turn.idxOf a ≤ turn.idxOf b := fun {a b} r => Reach.of_closed (fun b => turn.idxOf a ≤ turn.idxOf b) (Nat.le_refl _) (fun b c m hb => by
    obtain ⟨i, j, h1, h2, h3⟩ := up (b, c) m
    rw [rk h2] at hb
    rw [rk h3]
    omega) r
  intro a b ha hb r1 r2
  have e : turn.idxOf a = turn.idxOf b := Nat.le_antisymm (mono r1) (mono r2)
  obtain ⟨i, hi⟩ := List.getElem?_of_mem (all a ha)
  obtain ⟨j, hj⟩ := List.getElem?_of_mem (all b hb)
  rw [rk hi, rk hj] at e
  subst e
  rw [hi] at hj
  exact Option.some.inj hj
theorem bitG (m a : Nat) : decide (V.int (((m : Nat) : Int) / 2 ^ a % 2) = V.int 1) = m.testBit a := by
  rw [dec_int, Nat.testBit_eq_decide_div_mod_eq]
  have e2 : ((m : Int) / 2 ^ a) % 2 = ((m / 2 ^ a % 2 : Nat) : Int) := by
    rw [Int.natCast_emod, Int.natCast_ediv, Int.natCast_pow]
    rfl
  rw [e2]
  refine decide_eq_decide.mpr ?_
  omega
end
/-! ### the law k04: down-sets and pairs that the law makes -/
section
open PyProof.Rows
set_option pp.maxSteps 900
variable {w W_ : World} {K : PySem.W.Frag} {mg : Str → Option Value} {base : Heap} {mm : List (Str × Addr)} {H H' : Hp} {L : Lt}
def sp_lhp4 (K : PySem.W.Frag) : Sp := fun vs H Q _ => ∃ (r : Addr) (n : Nat) (ps : List (Nat × Nat)), vs = [.int (n : Nat), .ref r] ∧ GridAt H r n (rowV (closedR n ps)) ∧ n ≤ 6 ∧ (∀ q ∈ ps, q.1 < n ∧ q.2 < n) ∧ ∀ (h : Addr) (H' : Hp), Same H H' → H h = none → H' h = some (.lst (natV (heaps n ps))) → Q (.ref h) H'
theorem heapB_is {n : Nat} {ps : List (Nat × Nat)} (hp : ∀ q ∈ ps, q.1 < n ∧ q.2 < n) {i : Nat} (hi : i < 2 ^ n) : heapB n ps i = decide ((((List.range n).filter i.testBit).flatMap fun b => (List.range n).filter fun a => closedR n ps a b && !(decide (a ∈ (List.range n).filter i.testBit))) = []) := by
  refine Bool.eq_iff_iff.mpr ?_
  rw [decide_eq_true_eq, List.flatMap_eq_nil_iff]
  have h1 : heapB n ps i = true ↔ i ∈ heaps n ps := by
    unfold heaps
    rw [List.mem_filter, List.mem_range]
    exact ⟨fun h => ⟨hi, h⟩, fun h => h.2⟩
  rw [h1, heap_mem]
  constructor
  · rintro ⟨_, h⟩ b hb
    obtain ⟨hb1, hb2⟩ := List.mem_filter.mp hb
    have hb1 := List.mem_range.mp hb1
    refine List.filter_eq_nil_iff.mpr fun a ha => ?_
    have ha := List.mem_range.mp ha
    rw [Bool.and_eq_true, Bool.not_eq_true', decide_eq_false_iff_not]
    rintro ⟨c1, c2⟩
    exact c2 (List.mem_filter.mpr ⟨List.mem_range.mpr ha, h b hb1 hb2 a ha ((closed_reach hp).mp c1)⟩)
  · intro h
    refine ⟨hi, fun a ha hb b hbn r => ?_⟩
    have := h a (List.mem_filter.mpr ⟨List.mem_range.mpr ha, hb⟩)
    have h2 := List.filter_eq_nil_iff.mp this b (List.mem_range.mpr hbn)
    rw [Bool.and_eq_true, Bool.not_eq_true', decide_eq_false_iff_not] at h2
    have h3 : b ∈ (List.range n).filter i.testBit := Classical.byContradiction fun z => h2 ⟨(closed_reach hp).mpr r, z⟩
    exact (List.mem_filter.mp h3).2
theorem ok_lhp4 (T : Tx K mg w) : FnOk PL w K mg base CX0 2 T.a__law_heaps T.d__law_heaps ["many", "order"] (sp_lhp4 K) := by
  refine T.F__law_heaps.ok sc__law_heaps (fun vs H Q E h => ?_) (fun cdv A outer s H vs Q E hr h => ?_)
  · obtain ⟨r, n, ps, rfl, _⟩ := h
    rfl
  obtain ⟨r, n, ps, rfl, hg, n6, hp, q⟩ := h
  refine ⟨_, pss_cons (ps_set (i := 2) sc__law_heaps.nd rfl (Or.inl rfl) (pe_lst pa_nil))
    (pss_cons (ps_for PassesOwn.never rfl (pi_range1 (by rfl) T.n_range (pa_cons (pe_op op_shl pe_int (pv 0)) pa_nil)) (pg_name (i := 3) sc__law_heaps.nd rfl (Or.inr rfl)) (pss_cons (ps_set (i := 4) sc__law_heaps.nd rfl (Or.inr rfl) (pe_lc (own := [("a", 5)]) (g := gName 5) rfl sc__law_heaps.nd (pi_range1 (by rfl) T.n_range (pa_cons (pv 0) pa_nil)) (blkOk_by (N := N__law_heaps) (sc := defScope St__law_heaps) (by decide +kernel)) (fun _ _ _ _ _ => (pg_name (i := 5) sc__law_heaps.nd rfl (Or.inl rfl))) (fun _ _ _ _ _ => (pts_one (pt_cmpR op_eq (pe_op op_mod (pe_callTy call_int1 (by rfl) T.n_int (by decide +kernel) (pa_cons (pe_op op_shr (pv 3) (pv 5)) pa_nil)) pe_int) pe_int (nomark _)))) (fun _ _ _ _ _ => (pv 5))))
    (pss_cons (ps_set (i := 6) sc__law_heaps.nd rfl (Or.inl rfl) (pe_lst pa_nil))
    (pss_cons (ps_for PassesOwn.never rfl (pi_list (pv 4)) (pg_name (i := 7) sc__law_heaps.nd rfl (Or.inr rfl)) (pss_one (ps_set (i := 6) sc__law_heaps.nd rfl (Or.inl rfl) (pe_op op_cat (pv 6) (pe_lc (own := [("a", 5)]) (g := gName 5) rfl sc__law_heaps.nd (pi_range1 (by rfl) T.n_range (pa_cons (pv 0) pa_nil)) (blkOk_by (N := N__law_heaps) (sc := defScope St__law_heaps) (by decide +kernel)) (fun _ _ _ _ _ => (pg_name (i := 5) sc__law_heaps.nd rfl (Or.inl rfl))) (fun _ _ _ _ _ => (pts_one (PW.pt (pw_and (pt_val (pe_ix (kx_ix_list K) (pe_ix (kx_ix_list K) (pv 1) (pv 5) (fun _ _ => rfl)) (pv 7) (fun _ _ => rfl))) (pw_and1 (pt_cmpR (kx_op_notIn_seq K) (pv 5) (pv 4) (by rfl))))))) (fun _ _ _ _ _ => (pv 5)))))))
    (pss_one (ps_if (pt_cmpR (op_eqX hr.un2) (pv 6) (pe_lst pa_nil) (nomark _)) (pss_one (ps_expr (pe_bm PySem.F.plainAttrs_list PySem.F.slot_list_append PySem.F.type_list_append mt_append (pv 2) (pa_cons (pv 3) pa_nil)))) pss_nil))))))
    (pss_one (ps_ret (pv 2)))), ?_⟩
  refine set_run (fun v H' => ∃ hp, v = .ref hp ∧ H' hp = some (.lst []) ∧ H hp = none ∧ Same H H') (fun Q' q' => ⟨(by show 0 ≤ sizeLine; decide), newQ (.lst []) fun l hl s e => q' _ _ ⟨l, rfl, e, hl, s⟩⟩) ?_
  rintro _ H1 ⟨h, rfl, eh, h0, s1⟩
  dsimp only [gName]
  have n64 : 2 ^ n ≤ 64 := Nat.le_trans (Nat.pow_le_pow_right (by decide) (show n ≤ 6 by omega)) (by decide)
  show tSeq _ _ _ [some (.int (n : Nat)), some (.ref r), some (.ref h), none, none, none, none, none] H1
  refine st_run (fun σ H' => ∃ (v3 v4 v5 v6 v7 : Option V), σ = [some (.int (n : Nat)), some (.ref r), some (.ref h), v3, v4, v5, v6, v7] ∧ Same H H' ∧ H' h = some (.lst (natV (heaps n ps)))) (fun D' hD q' => ?_) ?_
  · refine rg_run (fun z H' => z = ((2 ^ n : Nat) : Int) ∧ H1 = H') (fun Q' q'' => ?_) ?_
    · refine ⟨_, rfl, _, _, rfl, rfl, ⟨Int.natCast_nonneg _, (by show ((n : Nat) : Int) ≤ _; omega), by decide⟩, q'' _ _ ⟨?_, rfl⟩⟩
      exact one_shl n
    rintro _ _ ⟨rfl, rfl⟩
    have z64 : ((2 ^ n : Nat) : Int) ≤ 64 := Int.ofNat_le.mpr n64
    refine ⟨_, rfl, Int.natCast_nonneg _, (by generalize ((2 ^ n : Nat) : Int) = z at z64 ⊢; omega), for_range (lo := 0) (n := 2 ^ n) (fun i σ H' => ∃ (v3 v4 v5 v6 v7 : Option V), σ = [some (.int (n : Nat)), some (.ref r), some (.ref h), v3, v4, v5, v6, v7] ∧ Same H H' ∧ H' h = some (.lst (natV ((List.range i).filter (heapB n ps))))) ⟨_, _, _, _, _, rfl, s1, eh⟩ ?_ (fun σ H' h => q' _ _ h)⟩
    rintro i σ H2 hi ⟨v3, v4, v5, v6, v7, rfl, s2, eh2⟩
    have hi : i < 2 ^ n := hi
    rw [show (0 : Int) + (i : Int) = ((i : Nat) : Int) by omega]
    dsimp only [gName]
    have hg2 := hg.same s2
    refine ⟨_, rfl, _, rfl, by omega, by omega, fun D hD => ?_⟩
    refine lc_rng (n := n) (G := fun _ v (y : Nat) => v = V.int (y : Nat)) i.testBit id hD (fun _ h => h) (fun h => h) (by omega) ?_ (fun H3 zs s3 hz rr => ?_)
    · rintro a H3 Nx Ex ha s3 _ ky kn
      refine ⟨rfl, ?_⟩
      refine ⟨_, rfl, _, rfl, _, _, rfl, rfl, Int.natCast_nonneg _, .inl ⟨_, rfl, _, _, rfl, rfl, (by show (0 : Int) < 2; decide), rfl, _, rfl, ?_⟩⟩
      show if decide (V.int (((i : Nat) : Int) / 2 ^ a % 2) = V.int 1) = true then _ else _
      rw [bitG]
      cases e : i.testBit a with
      | true => exact iteT ⟨_, rfl, ky e _ _ (Same.refl _) rfl⟩
      | false => exact iteF (kn e _ (Same.refl _))
    rw [List.map_id] at rr
    rw [al_map rr] at hz
    have memn : ∀ x ∈ (List.range n).filter i.testBit, x < n := fun x hx => List.mem_range.mp (List.mem_filter.mp hx).1
    have hB := heapB_is hp hi
    have usl := filter_le i.testBit n
    generalize (List.range n).filter i.testBit = us at hz memn hB usl
    have hz : H3 D = some (.lst (natV us)) := hz
    have s03 := s2.trans s3
    have hg3 := hg2.same s3
    have eh3 := s3 _ _ eh2
    dsimp only [gName]
    refine set_run (fun v H' => ∃ la, v = .ref la ∧ H' la = some (.lst []) ∧ Same H3 H') (fun Q' q' => ⟨(by show 0 ≤ sizeLine; decide), newQ (.lst []) fun l hl s e => q' _ _ ⟨l, rfl, e, s⟩⟩) ?_
    rintro _ H4 ⟨la, rfl, ela, s4⟩
    dsimp only [gName]
    show tSeq _ _ _ [some (.int (n : Nat)), some (.ref r), some (.ref h), some (.int (i : Nat)), some (.ref D), v5, some (.ref la), v7] H4
    refine st_run (fun σ H' => ∃ (la : Addr) (v5 v7 : Option V), σ = [some (.int (n : Nat)), some (.ref r), some (.ref h), some (.int (i : Nat)), some (.ref D), v5, some (.ref la), v7] ∧ Same H3 H' ∧ H' la = some (.lst (natV (us.flatMap fun b => (List.range n).filter fun a => closedR n ps a b && !(decide (a ∈ us)))))) (fun D'' hD' kk => ?_) ?_
    · refine ⟨_, rfl, D, rfl, ⟨_, SqL.of (K := K) (s4 _ _ hz)⟩, for_list (K := K) (a := D) (xs := natV us) (fun j σ H' => ∃ (la : Addr) (v5 v7 : Option V), σ = [some (.int (n : Nat)), some (.ref r), some (.ref h), some (.int (i : Nat)), some (.ref D), v5, some (.ref la), v7] ∧ Same H3 H' ∧ H' la = some (.lst (natV ((us.take j).flatMap fun b => (List.range n).filter fun a => closedR n ps a b && !(decide (a ∈ us))))) ∧ ((us.take j).flatMap fun b => (List.range n).filter fun a => closedR n ps a b && !(decide (a ∈ us))).length ≤ j * n) ⟨la, _, _, rfl, s4, ela, Nat.zero_le _⟩ (fun j σ H' _ ⟨_, _, _, _, s, _⟩ => SqL.of (K := K) (s _ _ hz)) ?_ ?_⟩
      · rintro j x σ H5 hx ⟨la, v5, v7, rfl, s5, e5, l5⟩
        obtain ⟨b, hb, rfl⟩ := nat_at hx
        have hbn := memn _ (List.mem_of_getElem? hb)
        have hjl := (List.getElem?_eq_some_iff.mp hb).1
        dsimp only [gName]
        refine ⟨_, rfl, _, rfl, _, rfl, by omega, by omega, fun D2 hD2 => ?_⟩
        have hg5 := hg3.same s5
        refine lc_rng (n := n) (G := fun _ v (y : Nat) => v = V.int (y : Nat)) (fun a => closedR n ps a b && !(decide (a ∈ us))) id hD2 (fun _ h => h) (fun h => h) (by omega) ?_ (fun H6 zs s6 hz6 rr => ?_)
        · rintro a H6 Nx Ex ha s6 _ ky kn
          refine ⟨rfl, ?_⟩
          obtain ⟨la, ra, a1, a2, a3⟩ := (hg5.same s6).row ha
          refine ⟨_, rfl, _, rfl, r, _, _, _, rfl, rfl, SqL.of (K := K) a1, atI_nat a2, _, rfl, ra, _, _, _, rfl, rfl, SqL.of (K := K) a3, atI_nat (rg_atG hbn), closedR n ps a b, rfl, ?_⟩
          cases cl : closedR n ps a b with
          | false => exact iteF (kn (by rw [cl]; rfl) _ (Same.refl _))
          | true =>
            refine iteT ?_
            refine ⟨_, rfl, _, rfl, D, _, rfl, .inl (SqL.of (K := K) (s6 _ _ (s5 _ _ hz))), rfl, flat_nats _, _, rfl, ?_⟩
            rw [if_pos rfl, inV_nats]
            cases ed : decide (a ∈ us) with
            | false => exact iteT ⟨_, rfl, ky (by rw [cl, ed]; rfl) _ _ (Same.refl _) rfl⟩
            | true => exact iteF (kn (by rw [cl, ed]; rfl) _ (Same.refl _))
        · rw [List.map_id] at rr
          rw [al_map rr] at hz6
          have fl := filter_le (fun a => closedR n ps a b && !(decide (a ∈ us))) n
          have nn : j * n ≤ 6 * 6 := Nat.mul_le_mul (by omega) n6
          refine ⟨la, D2, _, _, rfl, rfl, s6 _ _ e5, hz6, small_line (by rw [natV_length, List.length_map]; omega), newQ (.lst (natV ((us.take j).flatMap fun b => (List.range n).filter fun a => closedR n ps a b && !(decide (a ∈ us))) ++ ((List.range n).filter fun a => closedR n ps a b && !(decide (a ∈ us))).map fun y => V.int (y : Nat))) fun t ht s7 e7 => ?_⟩
          have et : (us.take (j + 1)).flatMap (fun b => (List.range n).filter fun a => closedR n ps a b && !(decide (a ∈ us))) = ((us.take j).flatMap fun b => (List.range n).filter fun a => closedR n ps a b && !(decide (a ∈ us))) ++ (List.range n).filter fun a => closedR n ps a b && !(decide (a ∈ us)) := by
            rw [take_snoc hb, List.flatMap_append]
            simp
          refine ⟨t, _, _, rfl, (s5.trans s6).trans s7, ?_, ?_⟩
          · rw [e7, et, natV_append]; rfl
          · rw [et, List.length_append, Nat.succ_mul]; omega
      · rintro σ H5 ⟨la, v5, v7, rfl, s5, e5, _⟩
        rw [natV_length, List.take_length] at e5
        exact kk _ _ ⟨la, _, _, rfl, s5, e5⟩
    rintro _ H5 ⟨la, v5, v7, rfl, s5, e5⟩
    generalize (us.flatMap fun b => (List.range n).filter fun a => closedR n ps a b && !(decide (a ∈ us))) = ws at e5 hB
    refine if1_runG (fun b H' => b = heapB n ps i ∧ Same H5 H') (fun Q' kk => ?_) ?_
    · refine ⟨_, rfl, (by show 0 ≤ sizeLine; decide), newQ (.lst []) fun l0 hl0 s6 e6 => ?_⟩
      exact ⟨.list (natD ws), .list (natD []), dp_nats (SqL.of (K := K) (s6 _ _ e5)), dp_nats (SqL.of (K := K) e6), shp_nats, shp_nats, _, rfl, kk _ _ ⟨by rw [eqv_nats, hB], s6⟩⟩
    rintro b H6 ⟨rfl, s6⟩
    have s06 := s03.trans (s5.trans s6)
    have eh6 := (s5.trans s6) _ _ eh3
    cases eB : heapB n ps i with
    | false =>
      refine iteF (nx_run ⟨_, _, _, _, _, rfl, s06, ?_⟩)
      rw [filter_snoc, eB]
      rw [eh6, if_neg (by decide), List.append_nil]
    | true =>
      refine iteT ?_
      refine ⟨_, rfl, .inl ⟨rfl, _, SqL.of (K := K) eh6⟩, _, rfl, h, _, _, rfl, rfl, eh6, smallM (by rw [natV_length]; have := filter_le (heapB n ps) i; omega), ?_⟩
      refine ⟨_, _, _, _, _, rfl, same_skip s06 h0 ((But.refl _ _).upd _), ?_⟩
      rw [upd_same, filter_snoc, eB, if_pos rfl, natV_append]
      rfl
  rintro _ H2 ⟨v3, v4, v5, v6, v7, rfl, s2, e2⟩
  exact ⟨_, rfl, q h _ s2 h0 e2⟩
/-- _law_spots -/
def sp_lsp4 (K : PySem.W.Frag) : Sp := fun vs H Q _ => ∃ (p ce : Addr) (n : Nat), vs = [.ref p, .int (n : Nat)] ∧ Src K ce H p ∧ (∃ o, H ce = some o) ∧ ce ≠ p ∧ 1 ≤ n ∧ n ≤ 6 ∧
  ∀ (sp : Addr) (ps : List (Nat × Nat)) (H' : Hp), But p H H' → Src K ce H' p → H sp = none → DuosAt H' sp ps → ps.length ≤ 8 → (∀ q ∈ ps, q.1 < n ∧ q.2 < n) → Anti n ps → Q (.ref sp) H'
theorem seqIxG {k n : Nat} (h : k < n) : seqIndex? (k : Int) n = some k := by
  have h1 : ¬ ((k : Int) < 0) := by omega
  have h2 : (decide (0 ≤ (k : Int)) && decide ((k : Int) < (n : Int))) = true := by
    rw [Bool.and_eq_true, decide_eq_true_eq, decide_eq_true_eq]
    omega
  show (if (decide (0 ≤ (if (k : Int) < 0 then (k : Int) + n else (k : Int))) && decide ((if (k : Int) < 0 then (k : Int) + n else (k : Int)) < (n : Int))) = true then some (if (k : Int) < 0 then (k : Int) + n else (k : Int)).toNat else none) = some k
  rw [if_neg h1, if_pos h2]
  rfl
theorem erase_natV : ∀ (us : List Nat) (d : Nat), (natV us).eraseIdx d = natV (us.eraseIdx d)
  | [], _ => rfl
  | _ :: _, 0 => rfl
  | u :: us, d + 1 => by
    show V.int (u : Nat) :: (natV us).eraseIdx d = V.int (u : Nat) :: natV (us.eraseIdx d)
    rw [erase_natV us d]
theorem eraseIdx_permG : ∀ {l : List Nat} {k a : Nat}, l[k]? = some a → l.Perm (a :: l.eraseIdx k)
  | [], _, _, h => by simp at h
  | x :: l, 0, a, h => by
    cases h
    exact List.Perm.refl _
  | x :: l, k + 1, a, h => by
    have := eraseIdx_permG (l := l) (k := k) (by simpa using h)
    exact ((List.Perm.cons x this).trans (List.Perm.swap a x _))
theorem ok_lsp4 (T : Tx K mg w) : FnOk PL w K mg base CX0 2 T.a__law_spots T.d__law_spots ["state", "many"] (sp_lsp4 K) := by
  have G__law_pick := ok__law_pick (P := PL) (w := w) (base := base) T
  refine T.F__law_spots.ok sc__law_spots (fun vs H Q E h => ?_) (fun cdv A outer s H vs Q E hr h => ?_)
  · obtain ⟨p, ce, n, rfl, _⟩ := h
    rfl
  obtain ⟨p, ce, n, rfl, src, ⟨oc, hc⟩, cp, n1, n6, q⟩ := h
  refine ⟨_, pss_cons (ps_set (i := 2) sc__law_spots.nd rfl (Or.inl rfl) (pe_listRg rfl (by rfl) T.n_list (prg_1 (by rfl) T.n_range (pv 1))))
    (pss_cons (ps_set (i := 3) sc__law_spots.nd rfl (Or.inl rfl) (pe_lst pa_nil))
    (pss_cons (ps_while PassesOwn.never (pt_cmpR op_gt (pe_callB call_len_seq (by rfl) T.n_len (by decide +kernel) (pa_cons (pv 2) pa_nil)) pe_int (nomark _)) (pss_one (ps_expr (pe_bm PySem.F.plainAttrs_list PySem.F.slot_list_append PySem.F.type_list_append mt_append (pv 3) (pa_cons (pe_bm PySem.F.plainAttrs_list PySem.F.slot_list_pop PySem.F.type_list_pop mt_popAt (pv 2) (pa_cons (pe_call G__law_pick (hr.mono (by omega)) (by rfl) T.g__law_pick T.F__law_pick.kp T.b__law_pick .nil pass0 (pa_cons (pv 0) (pa_cons (pe_callB call_len_seq (by rfl) T.n_len (by decide +kernel) (pa_cons (pv 2) pa_nil)) pa_nil))) pa_nil)) pa_nil)))))
    (pss_cons (ps_set (i := 4) sc__law_spots.nd rfl (Or.inl rfl) (pe_lst pa_nil))
    (pss_cons (ps_for PassesOwn.never rfl (pi_range1 (by rfl) T.n_range (pa_cons (pe_op op_add (pe_call G__law_pick (hr.mono (by omega)) (by rfl) T.g__law_pick T.F__law_pick.kp T.b__law_pick .nil pass0 (pa_cons (pv 0) (pa_cons pe_int pa_nil))) (pe_op op_mul pe_int (pe_callTy call_int1 (by rfl) T.n_int (by decide +kernel) (pa_cons (pe_cmpR op_gt (pv 1) pe_int (nomark _)) pa_nil)))) pa_nil)) (pg_name (i := 5) sc__law_spots.nd rfl (Or.inl rfl)) (pss_cons (ps_set (i := 6) sc__law_spots.nd rfl (Or.inl rfl) (pe_call G__law_pick (hr.mono (by omega)) (by rfl) T.g__law_pick T.F__law_pick.kp T.b__law_pick .nil pass0 (pa_cons (pv 0) (pa_cons (pv 1) pa_nil))))
    (pss_cons (ps_set (i := 7) sc__law_spots.nd rfl (Or.inl rfl) (pe_call G__law_pick (hr.mono (by omega)) (by rfl) T.g__law_pick T.F__law_pick.kp T.b__law_pick .nil pass0 (pa_cons (pv 0) (pa_cons (pv 1) pa_nil))))
    (pss_one (ps_expr (pe_bm PySem.F.plainAttrs_list PySem.F.slot_list_append PySem.F.type_list_append mt_append (pv 4) (pa_cons (pe_lst (pa_cons (pe_ix ix_list (pv 3) (pe_callB (call_min2 rfl) (by rfl) T.n_min (by decide +kernel) (pa_cons (pe_callTy call_int1 (by rfl) T.n_int (by decide +kernel) (pa_cons (pv 6) pa_nil)) (pa_cons (pe_callTy call_int1 (by rfl) T.n_int (by decide +kernel) (pa_cons (pv 7) pa_nil)) pa_nil))) (fun _ _ => rfl)) (pa_cons (pe_ix ix_list (pv 3) (pe_callB (call_max2 rfl) (by rfl) T.n_max (by decide +kernel) (pa_cons (pe_callTy call_int1 (by rfl) T.n_int (by decide +kernel) (pa_cons (pv 6) pa_nil)) (pa_cons (pe_callTy call_int1 (by rfl) T.n_int (by decide +kernel) (pa_cons (pv 7) pa_nil)) pa_nil))) (fun _ _ => rfl)) pa_nil))) pa_nil)))))))
    (pss_one (ps_ret (pv 4))))))), ?_⟩
  refine ⟨_, rfl, _, rfl, RgOk.of_le (by decide) (by omega) (by decide) (by omega), newQ (.lst (rgV 0 (n : Nat))) fun lf lf0 s1 e1 => ?_⟩
  rw [rg_nat] at s1 e1
  rw [rg_nat]
  generalize upd H lf (.lst (natV (List.range n))) = H1 at s1 e1 ⊢
  dsimp only [gName]
  refine set_run (fun v H' => ∃ tn, v = .ref tn ∧ H' tn = some (.lst []) ∧ H1 tn = none ∧ Same H1 H') (fun Q' q' => ⟨(by show 0 ≤ sizeLine; decide), newQ (.lst []) fun l hl s e => q' _ _ ⟨l, rfl, e, hl, s⟩⟩) ?_
  rintro _ H2 ⟨tn, rfl, et, tn0, s2⟩
  dsimp only [gName]
  have lfp := src.ne lf0
  have src1 := src.same s1
  have tnp := src1.ne tn0
  have lft : lf ≠ tn := fun e => by rw [← e, e1] at tn0; cases tn0
  have lfc : lf ≠ ce := fun e => by rw [e, hc] at lf0; cases lf0
  have hc1 := s1 _ _ hc
  have tnc : tn ≠ ce := fun e => by rw [e, hc1] at tn0; cases tn0
  have src2 := src1.same s2
  show tSeq _ _ _ [some (.ref p), some (.int (n : Nat)), some (.ref lf), some (.ref tn), none, none, none, none] H2
  refine st_run (fun σ H' => ∃ ts : List Nat, σ = [some (.ref p), some (.int (n : Nat)), some (.ref lf), some (.ref tn), none, none, none, none] ∧ H' tn = some (.lst (natV ts)) ∧ ts.Perm (List.range n) ∧ Src K ce H' p ∧ But p H H') (fun D' hD q' => ?_) ?_
  · refine ⟨fun k σ H' => ∃ (us ts : List Nat), k = us.length ∧ σ = [some (.ref p), some (.int (n : Nat)), some (.ref lf), some (.ref tn), none, none, none, none] ∧ H' lf = some (.lst (natV us)) ∧ H' tn = some (.lst (natV ts)) ∧ (us ++ ts).Perm (List.range n) ∧ Src K ce H' p ∧ But p H H', ⟨_, List.range n, [], rfl, rfl, s2 _ _ e1, et, by rw [List.append_nil], src2, (s1.trans s2).but p⟩, ?_⟩
    rintro k σ H3 ⟨us, ts, rfl, rfl, e3, e4, pm, s3, b3⟩
    have ul : us.length + ts.length = n := by have := pm.length_eq; rw [List.length_append, List.length_range] at this; exact this
    refine ans_run (b := decide (0 < us.length)) (fun Q' k' => ?_) ?_
    · refine ⟨_, rfl, lf, _, rfl, .inl (SqL.of (K := K) e3), _, _, rfl, rfl, _, rfl, ?_⟩
      have e : decide ((0 : Int) < ((natV us).length : Int)) = decide (0 < us.length) := by rw [natV_length]; exact decide_eq_decide.mpr (by omega)
      rw [← e] at k'
      exact k'
    refine ite2 (fun c => ?_) (fun c => ?_)
    · have c := of_decide_eq_true c
      refine ⟨fun σ' H' => ∃ m' < us.length, _, fun _ _ h => h, ?_⟩
      refine ⟨_, rfl, .inl ⟨rfl, _, SqL.of (K := K) e4⟩, _, rfl, .inl ⟨rfl, _, SqL.of (K := K) e3⟩, _, rfl, _, rfl, lf, _, rfl, .inl (SqL.of (K := K) e3), p, ce, (us.length : Int), by rw [natV_length]; rfl, s3, by omega, fun d H4 b4 s4 d0 d1 => ?_⟩
      obtain ⟨d, rfl⟩ : ∃ i : Nat, d = (i : Int) := ⟨d.toNat, by omega⟩
      have hd : d < us.length := by omega
      have e34 := b4 _ _ lfp e3
      have e44 := b4 _ _ tnp e4
      have hdn : us[d]? = some us[d] := List.getElem?_eq_getElem hd
      refine ⟨lf, _, _, d, _, rfl, rfl, e34, by omega, by omega, seqIxG (by rw [natV_length]; exact hd), by unfold natV; rw [List.getElem?_map, hdn]; rfl, ?_⟩
      have ap : tn ≠ lf := Ne.symm lft
      have e45 : upd H4 lf (.lst ((natV us).eraseIdx d)) tn = some (.lst (natV ts)) := by rw [upd_ne ap]; exact e44
      refine ⟨tn, _, _, rfl, rfl, e45, smallM (by rw [natV_length]; omega), us.length - 1, by omega, us.eraseIdx d, ts ++ [us[d]], ?_, rfl, ?_, ?_, ?_, (s4.upd lfp lfc _).upd tnp tnc _, fun b o hb h => ?_⟩
      · rw [List.length_eraseIdx, if_pos hd]
      · rw [upd_ne lft, upd_same]
        rw [erase_natV]
      · rw [upd_same, natV_append]; rfl
      · refine List.Perm.trans ?_ pm
        rw [← List.append_assoc]
        exact (List.perm_append_singleton us[d] (us.eraseIdx d ++ ts)).trans ((eraseIdx_permG hdn).symm.append_right ts)
      · rw [upd_ne (fun e => by rw [e] at h; rw [s1 _ _ h] at tn0; cases tn0), upd_ne (fun e => by rw [e, lf0] at h; cases h)]
        exact b4 _ _ hb (b3 _ _ hb h)
    · have c : us = [] := by
        cases us with
        | nil => rfl
        | cons _ _ => exact absurd (decide_eq_true (Nat.succ_pos _)) c
      subst c
      exact q' _ _ ⟨ts, rfl, e4, pm, s3, b3⟩
  clear e1 et src1 src2 s2
  rintro _ H3 ⟨ts, rfl, et, pm, src3, b3⟩
  have tl : ts.length = n := by have := pm.length_eq; rw [List.length_range] at this; exact this
  have tnd : ts.Nodup := pm.nodup_iff.mpr List.nodup_range
  have tall : ∀ a, a < n → a ∈ ts := fun a ha => pm.mem_iff.mpr (List.mem_range.mpr ha)
  have tlt : ∀ a ∈ ts, a < n := fun a ha => List.mem_range.mp (pm.mem_iff.mp ha)
  have hc3 := b3 _ _ cp hc
  refine set_run (fun v H' => ∃ sp, v = .ref sp ∧ H' sp = some (.lst []) ∧ H3 sp = none ∧ Same H3 H') (fun Q' q' => ⟨(by show 0 ≤ sizeLine; decide), newQ (.lst []) fun l hl s e => q' _ _ ⟨l, rfl, e, hl, s⟩⟩) ?_
  rintro _ H4 ⟨sp, rfl, esp, sp0, s4⟩
  have spp := src3.ne sp0
  have spc : sp ≠ ce := fun e => by rw [e, hc3] at sp0; cases sp0
  have spt : tn ≠ sp := fun e => by rw [e, sp0] at et; cases et
  have spH : H sp = none := by
    cases e : H sp with
    | none => rfl
    | some o => rw [b3 _ _ spp e] at sp0; cases sp0
  have src4 := src3.same s4
  have et4 := s4 _ _ et
  have b4 := b3.trans (s4.but p)
  dsimp only [gName]
  show tSeq _ _ _ [some (.ref p), some (.int (n : Nat)), some (.ref lf), some (.ref tn), some (.ref sp), none, none, none] H4
  refine st_run (fun σ H' => ∃ (ps : List (Nat × Nat)) (v5 v6 v7 : Option V), σ = [some (.ref p), some (.int (n : Nat)), some (.ref lf), some (.ref tn), some (.ref sp), v5, v6, v7] ∧ Src K ce H' p ∧ But p H H' ∧ DuosAt H' sp ps ∧ ps.length ≤ 8 ∧ (∀ q ∈ ps, q.1 < n ∧ q.2 < n) ∧ UpIn ts ps) (fun D' hD q' => ?_) ?_
  · refine rg_run (fun z H' => 0 ≤ z ∧ z ≤ 8 ∧ But p H4 H' ∧ Src K ce H' p) (fun Q' kk => ?_) ?_
    · refine ⟨_, rfl, p, ce, 7, rfl, src4, by decide, fun d H5 b5 s5 d0 d1 => ?_⟩
      refine ⟨_, rfl, _, _, rfl, rfl, .inr ⟨_, rfl, _, _, rfl, rfl, .inl ⟨by decide, by decide⟩, _, _, rfl, rfl, kk _ _ ⟨?_, ?_, b5, s5⟩⟩⟩
      · split <;> omega
      · split <;> omega
    rintro zz H5 ⟨z0, z8, b5, s5⟩
    have et5 := b5 _ _ tnp et4
    refine ⟨_, rfl, by omega, by omega, for_range (lo := 0) (fun k σ H' => ∃ (ps : List (Nat × Nat)) (v5 v6 v7 : Option V), σ = [some (.ref p), some (.int (n : Nat)), some (.ref lf), some (.ref tn), some (.ref sp), v5, v6, v7] ∧ Src K ce H' p ∧ But p H H' ∧ H' tn = some (.lst (natV ts)) ∧ (∃ o, H' ce = some o) ∧ DuosAt H' sp ps ∧ ps.length = k ∧ (∀ q ∈ ps, q.1 < n ∧ q.2 < n) ∧ UpIn ts ps) ⟨[], none, none, none, rfl, s5, b4.trans b5, et5, ⟨_, b5 _ _ cp (s4 _ _ hc3)⟩, ⟨[], b5 _ _ spp esp, .nil⟩, rfl, fun q hq => by simp at hq, fun q hq => by simp at hq⟩ ?_ ?_⟩
    · rintro k σ H6 hk ⟨ps, v5, v6, v7, rfl, s6, b6, et6, ⟨o6, hc6⟩, hd, lps, hps, up⟩
      dsimp only [gName]
      refine ⟨_, rfl, _, rfl, p, ce, n, rfl, s6, by omega, fun a H7 b7 s7 a0 a1 => ?_⟩
      obtain ⟨a, rfl⟩ : ∃ i : Nat, a = (i : Int) := ⟨a.toNat, by omega⟩
      dsimp only [gName]
      refine ⟨_, rfl, _, rfl, p, ce, n, rfl, s7, by omega, fun b H8 b8 s8 x0 x1 => ?_⟩
      obtain ⟨b, rfl⟩ : ∃ i : Nat, b = (i : Int) := ⟨b.toNat, by omega⟩
      dsimp only [gName]
      have b68 := b7.trans b8
      have hd8 := hd.drawn s6 spp b68
      have et8 := b68 _ _ tnp et6
      have hc8 := b68 _ _ cp hc6
      obtain ⟨ls, hls, hal⟩ := id hd8.ex
      have lsl := al_len hal
      have emin : (if ((b : Nat) : Int) < ((a : Nat) : Int) then ((b : Nat) : Int) else ((a : Nat) : Int)) = ((min a b : Nat) : Int) := by split <;> omega
      have emax : (if ((b : Nat) : Int) > ((a : Nat) : Int) then ((b : Nat) : Int) else ((a : Nat) : Int)) = ((max a b : Nat) : Int) := by split <;> omega
      have m1 : min a b < ts.length := by omega
      have m2 : max a b < ts.length := by omega
      have g1 : ts[min a b]? = some (ts[min a b]) := List.getElem?_eq_getElem m1
      have g2 : ts[max a b]? = some (ts[max a b]) := List.getElem?_eq_getElem m2
      have v1 : (natV ts)[min a b]? = some (.int (ts[min a b] : Nat)) := by unfold natV; rw [List.getElem?_map, g1]; rfl
      have v2 : (natV ts)[max a b]? = some (.int (ts[max a b] : Nat)) := by unfold natV; rw [List.getElem?_map, g2]; rfl
      refine ⟨_, rfl, .inl ⟨rfl, _, SqL.of (K := K) hls⟩, ?_⟩
      refine ⟨_, rfl, _, rfl, .inl ⟨_, rfl, _, rfl, .inl ⟨_, rfl, _, _, rfl, ?_⟩⟩⟩
      rw [emin]
      refine ⟨tn, _, _, _, rfl, rfl, SqL.of (K := K) et8, atI_nat v1, ?_⟩
      refine ⟨_, rfl, _, rfl, .inl ⟨_, rfl, _, rfl, .inl ⟨_, rfl, _, _, rfl, ?_⟩⟩⟩
      rw [emax]
      refine ⟨tn, _, _, _, rfl, rfl, SqL.of (K := K) et8, atI_nat v2, ?_⟩
      refine ⟨(by show 2 ≤ sizeLine; decide), newQ (.lst [.int (ts[min a b] : Nat), .int (ts[max a b] : Nat)]) fun t ht s9 e9 => ?_⟩
      generalize upd H8 t (.lst [.int (ts[min a b] : Nat), .int (ts[max a b] : Nat)]) = H9 at s9 e9 ⊢
      refine ⟨sp, _, _, rfl, rfl, s9 _ _ hls, smallM (by rw [List.length_map, lsl]; omega), ?_⟩
      refine ⟨ps ++ [(ts[min a b], ts[max a b])], _, _, _, rfl, (s8.same s9).upd spp spc _, fun x o hx h => ?_, by rw [upd_ne spt]; exact s9 _ _ et8, ⟨_, by rw [upd_ne (Ne.symm spc)]; exact s9 _ _ hc8⟩, (hd8.same s9).app e9 (s9 _ _ hls), by rw [List.length_append, lps]; rfl, fun q hq => ?_, fun q hq => ?_⟩
      · rw [upd_ne (fun e => by rw [e, spH] at h; cases h)]
        exact s9 _ _ (b68 _ _ hx (b6 _ _ hx h))
      · rcases List.mem_append.mp hq with hq | hq
        · exact hps q hq
        · obtain rfl : q = (ts[min a b], ts[max a b]) := by simpa using hq
          exact ⟨tlt _ (List.getElem_mem m1), tlt _ (List.getElem_mem m2)⟩
      · rcases List.mem_append.mp hq with hq | hq
        · exact up q hq
        · obtain rfl : q = (ts[min a b], ts[max a b]) := by simpa using hq
          exact ⟨min a b, max a b, by omega, g1, g2⟩
    · rintro σ H6 ⟨ps, v5, v6, v7, rfl, s6, b6, _, _, hd, lps, hps, up⟩
      exact q' _ _ ⟨ps, v5, v6, v7, rfl, s6, b6, hd, by omega, hps, up⟩
  rintro _ H5 ⟨ps, v5, v6, v7, rfl, s5, b5, hd, lps, hps, up⟩
  exact ⟨_, rfl, q sp ps H5 b5 s5 spH hd lps hps (up_anti tnd tall up)⟩
end
/-! ### the law k04: strings near a name; drawn values of a large lattice -/
section
open PyProof.Rows
set_option pp.maxSteps 900
variable {w W_ : World} {K : PySem.W.Frag} {mg : Str → Option Value} {base : Heap} {mm : List (Str × Addr)} {H H' : Hp} {L : Lt}
theorem join_full (sep : Str) : ∀ {ts : List Str}, ts ≠ [] → (Str.join sep ts).length + sep.length = (ts.map (·.length)).sum + ts.length * sep.length
  | [], h => absurd rfl h
  | [x], _ => by
    show x.length + sep.length = (x.length + 0) + 1 * sep.length
    omega
  | x :: y :: r, _ => by
    have h := join_full sep (ts := y :: r) (by simp)
    show (x ++ sep ++ Str.join sep (y :: r)).length + sep.length = (x.length + ((y :: r).map (·.length)).sum) + ((y :: r).length + 1) * sep.length
    rw [Str.length_append, Str.length_append, Nat.succ_mul]
    omega
theorem split_sum (x : Str) : ((Txt.split x ",").map (·.length)).sum + (Txt.split x ",").length = x.length + 1 := by
  have h1 : Txt.split x "," ≠ [] := fun e => by
    have := PyProof.Rows.split_pos x ","
    rw [e] at this
    simp at this
  have h2 := join_full "," h1
  rw [StrLaws.join_split] at h2
  have o : ("," : Str).length = 1 := rfl
  rw [o] at h2
  omega
theorem le_sumG : ∀ {xs : List Str} {x : Str}, x ∈ xs → x.length ≤ (xs.map (·.length)).sum
  | y :: ys, x, h => by
    rcases List.mem_cons.mp h with rfl | h
    · show x.length ≤ x.length + (ys.map (·.length)).sum
      omega
    · have := le_sumG h
      show x.length ≤ y.length + (ys.map (·.length)).sum
      omega
theorem cut_strs {xs : List Str} : cutV (xs.map V.str) none (some 1) = (xs.take 1).map V.str := by
  unfold cutV
  rw [show (some (1 : Int)) = some ((1 : Nat) : Int) from rfl, sIx_none, sIx_some, List.drop_zero, Nat.sub_zero, List.map_take, List.length_map]
  cases xs with
  | nil => rfl
  | cons x xs =>
    rw [show min 1 (x :: xs).length = 1 by rw [List.length_cons]; omega]
def sp_lnr4 (K : PySem.W.Frag) (mm : List (Str × Addr)) : Sp := fun vs H Q _ => ∃ (p ce z na : Addr) (L : Lt), vs = [.ref p, .ref z, .ref na] ∧ Src K ce H p ∧ IsLat K mm H z L ∧ H na = some (.lst (L.names.map V.str)) ∧ 1 ≤ L.n ∧ L.n ≤ 64 ∧ L.names.Nodup ∧ (∀ x ∈ L.names, 1 ≤ x.length ∧ x.length ≤ 100) ∧ ∀ H', But p H H' → Src K ce H' p → Q (.bl true) H'
theorem ok_lnr4 (T : Tx K mg w) : FnOk PL w K mg base CX0 5 T.a__law_near_right T.d__law_near_right ["state", "lattice", "names"] (sp_lnr4 K T.mm) := by
  have G__law_pick := ok__law_pick (P := PL) (w := w) (base := base) T
  have GX_Lattice_at_name := ok_at_nameX (w := w) (base := base) T
  refine T.F__law_near_right.ok sc__law_near_right (fun vs H Q E h => ?_) (fun cdv A outer s H vs Q E hr h => ?_)
  · obtain ⟨p, ce, z, na, L, rfl, _⟩ := h
    rfl
  obtain ⟨p, ce, z, na, L, rfl, src, hL, ena, n1, n64, nd, nl100, q⟩ := h
  refine ⟨_, pss_cons (ps_set (i := 3) sc__law_near_right.nd rfl (Or.inl rfl) (pe_ix ix_list (pv 2) (pe_call G__law_pick (hr.mono (by omega)) (by rfl) T.g__law_pick T.F__law_pick.kp T.b__law_pick .nil pass0 (pa_cons (pv 0) (pa_cons (pe_callB call_len_seq (by rfl) T.n_len (by decide +kernel) (pa_cons (pv 2) pa_nil)) pa_nil))) (fun _ _ => rfl)))
    (pss_cons (ps_set (i := 4) sc__law_near_right.nd rfl (Or.inl rfl) (pe_call G__law_pick (hr.mono (by omega)) (by rfl) T.g__law_pick T.F__law_pick.kp T.b__law_pick .nil pass0 (pa_cons (pv 0) (pa_cons (pe_callB call_len_str (by rfl) T.n_len (by decide +kernel) (pa_cons (pv 3) pa_nil)) pa_nil))))
    (pss_cons (ps_set (i := 5) sc__law_near_right.nd rfl (Or.inr rfl) (pe_split (pe_slice sl_str (pv 3) (po_some pe_int) (po_some (pe_un un_neg pe_int))) pe_str))
    (pss_cons (ps_set (i := 6) sc__law_near_right.nd rfl (Or.inl rfl) (pe_lst (pa_cons (pe_op op_add_str (pe_slice sl_str (pv 3) po_none (po_some (pv 4))) (pe_slice sl_str (pv 3) (po_some (pe_op op_add (pv 4) pe_int)) po_none)) (pa_cons (pe_op op_add_str (pe_op op_add_str (pe_slice sl_str (pv 3) po_none (po_some (pv 4))) pe_str) (pe_slice sl_str (pv 3) (po_some (pv 4)) po_none)) (pa_cons (pe_op op_add_str (pv 3) pe_str) (pa_cons (pe_slice sl_str (pv 3) (po_some pe_int) (po_some (pe_un un_neg pe_int))) pa_nil))))))
    (pss_cons (ps_expr (pe_bm PySem.F.plainAttrs_list PySem.F.slot_list_append PySem.F.type_list_append mt_append (pv 6) (pa_cons (pe_op op_add_str (pe_op op_add_str pe_str (pe_join pe_str (pe_lc (own := [("k", 7)]) (g := gName 7) (tt := tYes) rfl sc__law_near_right.nd (pi_range1 (by rfl) T.n_range (pa_cons (pe_callB call_len_seq (by rfl) T.n_len (by decide +kernel) (pa_cons (pv 5) pa_nil)) pa_nil)) (blkOk_by (N := N__law_near_right) (sc := defScope St__law_near_right) (by decide +kernel)) (fun _ _ _ _ _ => (pg_name (i := 7) sc__law_near_right.nd rfl (Or.inl rfl))) (fun _ _ _ _ _ => pts_nil) (fun _ _ _ _ _ => (pe_ix (kx_ix_list K) (pv 5) (pe_op op_sub (pe_op op_sub (pe_callB (kx_call_len_seq K) (by rfl) T.n_len (by decide +kernel) (pa_cons (pv 5) pa_nil)) pe_int) (pv 7)) (fun _ _ => rfl)))))) pe_str) pa_nil)))
    (pss_cons (ps_expr (pe_bm PySem.F.plainAttrs_list PySem.F.slot_list_append PySem.F.type_list_append mt_append (pv 6) (pa_cons (pe_op op_add_str (pe_op op_add_str pe_str (pe_join pe_str (pe_op op_cat (pv 5) (pe_slice sl_list (pv 5) po_none (po_some pe_int))))) pe_str) pa_nil)))
    (pss_cons (ps_set (i := 8) sc__law_near_right.nd rfl (Or.inl rfl) (pe_ix ix_list (pv 6) (pe_call G__law_pick (hr.mono (by omega)) (by rfl) T.g__law_pick T.F__law_pick.kp T.b__law_pick .nil pass0 (pa_cons (pv 0) (pa_cons pe_int pa_nil))) (fun _ _ => rfl)))
    (pss_cons (ps_if (pt_cmpR op_in_seq (pv 8) (pv 2) (by rfl)) (pss_one (ps_ret pe_bl)) pss_nil)
    (pss_cons (ps_set (i := 9) sc__law_near_right.nd rfl (Or.inl rfl) pe_str)
    (pss_cons (ps_try_as (i := 10) (Wout := fun _ _ _ _ => False) rfl rfl sc__law_near_right.nd rfl rfl ⟨rfl, by decide, Or.inl T.g_UnknownValue⟩ takes0
      (fun W pn xe tk _ => (pss_one (ps_expr (kx_methGS K (pe_methGS (pv 1) GX_Lattice_at_name (hr.mono (by omega)) T.b_Lattice_at_name (fun σ => passAt tk σ) (pa_cons (pv 8) pa_nil))))))
      (fun a oe cls d pn hz hf => (pss_one (ps_set (i := 9) sc__law_near_right.nd rfl (Or.inl rfl) (pe_op op_add_str (pe_xf T.f_UnknownValue T.na_UnknownValue hz hf (pv 10)) pe_str)))))
    (pss_one (ps_ret (pe_cmpR op_eq (pv 9) (pe_op op_add_str (pv 8) pe_str) (nomark _))))))))))))), ?_⟩
  have nap := ne_strs src ena
  have nl : (L.names.map V.str).length = L.n := by rw [List.length_map]; rfl
  refine ⟨_, rfl, _, rfl, _, rfl, na, _, rfl, .inl (SqL.of (K := K) ena), p, ce, (L.n : Int), by rw [nl]; rfl, src, by omega, fun d H1 b1 s1 d0 d1 => ?_⟩
  obtain ⟨a, rfl⟩ : ∃ i : Nat, d = (i : Int) := ⟨d.toNat, by omega⟩
  have ha : a < L.n := by omega
  obtain ⟨x, hx⟩ : ∃ x, L.names[a]? = some x := ⟨L.names[a]'ha, List.getElem?_eq_getElem ha⟩
  have hxV : (L.names.map V.str)[a]? = some (.str x) := by rw [List.getElem?_map, hx]; rfl
  have ena1 := b1 _ _ nap ena
  have hL1 := hL.drawn src b1
  refine ⟨na, _, _, _, rfl, rfl, SqL.of (K := K) ena1, atI_nat hxV, ?_⟩
  obtain ⟨x1, x100⟩ := nl100 x (List.mem_of_getElem? hx)
  dsimp only [gName]
  have sx : x.length ≤ sizeLine := small_line (by omega)
  refine ⟨_, rfl, _, rfl, x, rfl, sx, p, ce, (x.length : Int), rfl, s1, by omega, fun d H2 b2 s2 d0 d1 => ?_⟩
  obtain ⟨k, rfl⟩ : ∃ i : Nat, d = (i : Int) := ⟨d.toNat, by omega⟩
  have hL2 := hL1.drawn s1 b2
  have ena2 := b2 _ _ nap ena1
  have b02 := b1.trans b2
  clear b1 b2 s1 ena ena1 hL hL1
  dsimp only [gName]
  -- the parts
  have c1 := cutS_length x (some 1) (some (-1))
  have sp := split_sum (cutS x (some 1) (some (-1)))
  refine ⟨_, rfl, _, rfl, _, rfl, _, rfl, x, rfl, sx, ⟨_, rfl⟩, _, ",", rfl, rfl, rfl, small_line (by omega), newQ (.lst ((Txt.split (cutS x (some 1) (some (-1))) ",").map V.str)) fun pl pl0 s3 e3 => ?_⟩
  generalize upd H2 pl (.lst ((Txt.split (cutS x (some 1) (some (-1))) ",").map V.str)) = H3 at s3 e3 ⊢
  generalize Txt.split (cutS x (some 1) (some (-1))) "," = ps at e3 sp
  have psl : ps.length ≤ 101 := by omega
  have psx : ∀ y ∈ ps, y.length ≤ 101 := fun y hy => by have := le_sumG hy; omega
  dsimp only [gName]
  have o1 : (" " : Str).length = 1 := rfl
  have o2 : ("}" : Str).length = 1 := rfl
  have o3 : ("{" : Str).length = 1 := rfl
  have o4 : ("," : Str).length = 1 := rfl
  have ca := cutS_length x none (some (k : Int))
  have cb := cutS_length x (some ((k : Int) + 1)) none
  have cc := cutS_length x (some (k : Int)) none
  refine ⟨_, rfl, _, rfl, _, rfl, x, rfl, sx, _, rfl, _, rfl, _, _, rfl, rfl, _, rfl, x, rfl, sx, _, _, rfl, rfl, small_line (by omega), ?_⟩
  refine ⟨_, rfl, _, rfl, _, rfl, x, rfl, sx, _, _, rfl, rfl, small_line (by omega), _, rfl, _, rfl, _, rfl, x, rfl, sx, _, _, rfl, rfl, small_line (by rw [Str.length_append]; omega), ?_⟩
  refine ⟨_, rfl, _, _, rfl, rfl, small_line (by omega), ?_⟩
  refine ⟨_, rfl, _, rfl, _, rfl, _, rfl, x, rfl, sx, ?_⟩
  obtain ⟨W4, hW4, lW4⟩ : ∃ W : List Str, [cutS x none (some (k : Int)) ++ cutS x (some ((k : Int) + 1)) none, cutS x none (some (k : Int)) ++ (" " : Str) ++ cutS x (some (k : Int)) none, x ++ ("}" : Str), cutS x (some 1) (some (-1))] = W ∧ W.length = 4 ∧ ∀ y ∈ W, y.length ≤ 20000 := ⟨_, rfl, rfl, fun y hy => by
    simp only [List.mem_cons, List.not_mem_nil, or_false] at hy
    rcases hy with rfl | rfl | rfl | rfl <;> (try simp only [Str.length_append]) <;> omega⟩
  refine ⟨(by show 4 ≤ sizeLine; decide), newQ (.lst [.str (cutS x none (some (k : Int)) ++ cutS x (some ((k : Int) + 1)) none), .str (cutS x none (some (k : Int)) ++ (" " : Str) ++ cutS x (some (k : Int)) none), .str (x ++ ("}" : Str)), .str (cutS x (some 1) (some (-1)))]) fun wl wl0 s4 e4 => ?_⟩
  generalize upd H3 wl (.lst [.str (cutS x none (some (k : Int)) ++ cutS x (some ((k : Int) + 1)) none), .str (cutS x none (some (k : Int)) ++ (" " : Str) ++ cutS x (some (k : Int)) none), .str (x ++ ("}" : Str)), .str (cutS x (some 1) (some (-1)))]) = H4 at s4 e4 ⊢
  have e4 : H4 wl = some (.lst (W4.map V.str)) := by rw [e4, ← hW4]; rfl
  have s24 := s3.trans s4
  have wlp := (s2.same s3).ne wl0
  have e34 := s4 _ _ e3
  have wl2 : H2 wl = none := by
    cases e : H2 wl with
    | none => rfl
    | some o => rw [s3 _ _ e] at wl0; cases wl0
  have plw : pl ≠ wl := fun e => by rw [e, wl0] at e3; cases e3
  clear hW4 ca cb cc c1 s3
  dsimp only [gName]
  -- the parts in another order
  have plen : (ps.map V.str).length = ps.length := List.length_map _
  refine ⟨_, rfl, .inl ⟨rfl, _, SqL.of (K := K) e4⟩, ⟨_, rfl⟩, _, rfl, pl, _, rfl, .inl (SqL.of (K := K) e34), ?_⟩
  rw [plen]
  refine ⟨_, rfl, by omega, by omega, fun D hD => ?_⟩
  refine lc_rng (n := ps.length) (G := fun _ v (y : Str) => v = V.str y) (fun _ => true) (fun j => ps.getD (ps.length - 1 - j) Str.empty) hD (fun _ h => h) (fun h => h) (by omega) ?_ (fun H5 zs s5 hz rr => ?_)
  · rintro j H5 Nx Ex hj s5 _ ky kn
    refine ⟨rfl, ?_⟩
    refine lcY ?_
    have e35 := s5 _ _ e34
    have ej : ((ps.length : Int) - 1 - ((j : Nat) : Int)) = ((ps.length - 1 - j : Nat) : Int) := by omega
    refine ⟨_, rfl, _, rfl, pl, _, rfl, .inl (SqL.of (K := K) e35), ?_⟩
    rw [plen]
    refine ⟨_, _, rfl, rfl, _, rfl, _, _, rfl, rfl, pl, _, _, _, rfl, rfl, SqL.of (K := K) e35, (by rw [ej]; exact atI_nat (str_d (by omega))), ?_⟩
    exact ky rfl _ _ (Same.refl _) rfl
  rw [flt_idG] at rr
  rw [al_map rr] at hz
  obtain ⟨R1, hR1, lR1⟩ : ∃ R : List Str, (List.range ps.length).map (fun j => ps.getD (ps.length - 1 - j) Str.empty) = R ∧ R.length ≤ 101 ∧ ∀ y ∈ R, y.length ≤ 101 := ⟨_, rfl, by rw [List.length_map, List.length_range]; omega, fun y hy => by
    obtain ⟨j, hj, rfl⟩ := List.mem_map.mp hy
    have hj := List.mem_range.mp hj
    exact psx _ (List.mem_of_getElem? (get_d (by omega)))⟩
  rw [hR1] at hz
  obtain ⟨lr1, lr2⟩ := lR1
  have j1 := join_le (sep := ",") (by decide) lr2 lr1
  have e45 := s5 _ _ e4
  have e35 := s5 _ _ e34
  refine ⟨",", D, R1, rfl, rfl, .inl (SqL.of (K := K) hz), Nat.le_trans j1.2 (by decide), _, _, rfl, rfl, small_line (by have := j1.1; omega), _, _, rfl, rfl, small_line (by have := j1.1; rw [Str.length_append]; omega), wl, _, _, rfl, rfl, e45, smallM (by rw [List.length_map, lW4.1]; decide), ?_⟩
  have jl1 : (("{" : Str) ++ PySem.Txt.join "," R1 ++ ("}" : Str)).length ≤ 20000 := by have := j1.1; simp only [Str.length_append]; omega
  generalize ("{" : Str) ++ PySem.Txt.join "," R1 ++ ("}" : Str) = w5 at jl1 ⊢
  have s25 := s24.trans s5
  have s26 : Same H2 (upd H5 wl (.lst (W4.map V.str ++ [.str w5]))) := same_skip s25 wl2 ((But.refl _ _).upd _)
  have e46 : upd H5 wl (.lst (W4.map V.str ++ [.str w5])) wl = some (.lst ((W4 ++ [w5]).map V.str)) := by rw [upd_same, List.map_append]; rfl
  have e36 : upd H5 wl (.lst (W4.map V.str ++ [.str w5])) pl = _ := (upd_ne plw).trans e35
  show (_ : Hp → Prop) (upd H5 wl (.lst (W4.map V.str ++ [.str w5])))
  generalize upd H5 wl (.lst (W4.map V.str ++ [.str w5])) = H6 at s26 e46 e36 ⊢
  dsimp only
  clear s25 s24 e45 e35 hz rr hR1 j1
  -- the parts and the first one again
  refine ⟨_, rfl, .inl ⟨rfl, _, SqL.of (K := K) e46⟩, ⟨_, rfl⟩, _, rfl, _, rfl, _, rfl, pl, _, rfl, SqL.of (K := K) e36, fun fl fl0 => ?_⟩
  rw [cut_strs]
  have s7 : Same H6 (upd H6 fl (.lst ((ps.take 1).map V.str))) := Same.new fl0 _
  have e7 : upd H6 fl (.lst ((ps.take 1).map V.str)) fl = _ := upd_same
  generalize upd H6 fl (.lst ((ps.take 1).map V.str)) = H7 at s7 e7 ⊢
  refine ⟨pl, fl, _, _, rfl, rfl, s7 _ _ e36, e7, small_line (by rw [List.length_map, List.length_map, List.length_take]; omega), newQ (.lst (ps.map V.str ++ (ps.take 1).map V.str)) fun jl jl0 s8 e8 => ?_⟩
  generalize upd H7 jl (.lst (ps.map V.str ++ (ps.take 1).map V.str)) = H8 at s8 e8 ⊢
  have e8 : H8 jl = some (.lst ((ps ++ ps.take 1).map V.str)) := by rw [e8, List.map_append]
  have lr3 : (ps ++ ps.take 1).length ≤ 102 := by rw [List.length_append, List.length_take]; omega
  have lr4 : ∀ y ∈ ps ++ ps.take 1, y.length ≤ 101 := fun y hy => by
    rcases List.mem_append.mp hy with hy | hy
    · exact psx y hy
    · exact psx y (List.mem_of_mem_take hy)
  have j2 := join_le (sep := ",") (by decide) lr4 lr3
  have e48 := s8 _ _ (s7 _ _ e46)
  have s28 := s26.trans (s7.trans s8)
  refine ⟨",", jl, ps ++ ps.take 1, rfl, rfl, .inl (SqL.of (K := K) e8), Nat.le_trans j2.2 (by decide), _, _, rfl, rfl, small_line (by have := j2.1; omega), _, _, rfl, rfl, small_line (by have := j2.1; rw [Str.length_append]; omega), wl, _, _, rfl, rfl, e48, smallM (by rw [List.length_map, List.length_append, lW4.1]; show 4 + 1 ≤ 1000000; decide), ?_⟩
  have jl2 : (("{" : Str) ++ PySem.Txt.join "," (ps ++ ps.take 1) ++ ("}" : Str)).length ≤ 20000 := by have := j2.1; simp only [Str.length_append]; omega
  generalize ("{" : Str) ++ PySem.Txt.join "," (ps ++ ps.take 1) ++ ("}" : Str) = w6 at jl2 ⊢
  have s29 : Same H2 (upd H8 wl (.lst ((W4 ++ [w5]).map V.str ++ [.str w6]))) := same_skip s28 wl2 ((But.refl _ _).upd _)
  have e49 : upd H8 wl (.lst ((W4 ++ [w5]).map V.str ++ [.str w6])) wl = some (.lst ((W4 ++ [w5] ++ [w6]).map V.str)) := by rw [upd_same, List.map_append (l₁ := W4 ++ [w5])]; rfl
  show (_ : Hp → Prop) (upd H8 wl (.lst ((W4 ++ [w5]).map V.str ++ [.str w6])))
  generalize upd H8 wl (.lst ((W4 ++ [w5]).map V.str ++ [.str w6])) = H9 at s29 e49 ⊢
  dsimp only
  have W6l : (W4 ++ [w5] ++ [w6]).length = 6 := by rw [List.length_append, List.length_append, lW4.1]; rfl
  have W6x : ∀ y ∈ W4 ++ [w5] ++ [w6], y.length ≤ 20000 := fun y hy => by
    rcases List.mem_append.mp hy with hy | hy
    · rcases List.mem_append.mp hy with hy | hy
      · exact lW4.2 y hy
      · obtain rfl : y = w5 := by simpa using hy
        exact jl1
    · obtain rfl : y = w6 := by simpa using hy
      exact jl2
  generalize W4 ++ [w5] ++ [w6] = W6 at e49 W6l W6x
  have src9 := s2.same s29
  clear lW4 jl1 jl2 j2 e8 e7 e46 s26 s7 s8 s28 e48 e36 wl2 plw
  refine ⟨_, rfl, _, rfl, p, ce, 6, rfl, src9, by decide, fun d H10 b10 s10 d0 d1 => ?_⟩
  obtain ⟨wd, hw, ew⟩ := str_at' (xs := W6) d0 (by rw [W6l]; show d < 6; omega)
  refine ⟨wl, _, _, _, rfl, rfl, b10.seq wlp (SqL.of (K := K) e49), ew, ?_⟩
  have wdl := W6x wd hw
  have hL10 := (hL2.same s29).drawn src9 b10
  have ena10 := b10 _ _ nap (s29 _ _ ena2)
  have b010 := (b02.trans (s29.but p)).trans b10
  dsimp only [gName]
  refine ⟨_, rfl, _, rfl, na, _, rfl, .inl (SqL.of (K := K) ena10), rfl, flat_strs _, _, rfl, ?_⟩
  have e : (if false = true then !inV (.str wd) (L.names.map V.str) else inV (.str wd) (L.names.map V.str)) = decide (wd ∈ L.names) := inV_strs wd L.names
  rw [e]
  refine ite2 (fun c => ?_) (fun c => ?_)
  · exact q _ b010 s10
  have bad : wd ∉ L.names := fun h => c (decide_eq_true h)
  refine nx_run ?_
  dsimp only
  refine set_run (fun v H' => v = .str "" ∧ H10 = H') (fun Q' q' => q' _ _ ⟨rfl, rfl⟩) ?_
  rintro _ _ ⟨rfl, rfl⟩
  dsimp only [gName]
  refine ⟨_, rfl, at_me hL10 T.in_at_name ⟨_, rfl, z, L, wd, rfl, hL10, nd, fun i H' hi _ => absurd (List.mem_of_getElem? hi) bad, fun _ d H11 hd s11 h11 => ?_⟩⟩
  refine ⟨true, T.te_UnknownValue_UnknownValue, fun _ a ha => ?_, (fun z => nomatch z)⟩
  dsimp only
  have oe : ("!" : Str).length = 1 := rfl
  refine ⟨_, rfl, rfl, rfl, d, _, _, rfl, h11, rfl, _, _, rfl, rfl, small_line (by omega), ?_⟩
  dsimp only [gName]
  refine ⟨_, rfl, _, rfl, _, _, rfl, rfl, small_line (by omega), rfl, ?_⟩
  rw [decide_eq_true rfl]
  exact q _ (b010.trans (s11.but p)) (s10.same s11)
def sp_ldr4 (K : PySem.W.Frag) (mm : List (Str × Addr)) : Sp := fun vs H Q _ => ∃ (p ce z na ha : Addr) (xs : List Str) (ps : List (Nat × Nat)), vs = [.ref p, .ref z, .ref na, .ref ha] ∧ Src K ce H p ∧ IsLat K mm H z (downL xs ps) ∧ xs.length ≤ 6 ∧ na ≠ p ∧ ha ≠ p ∧ H na = some (.lst ((downL xs ps).names.map V.str)) ∧ H ha = some (.lst (natV (heaps xs.length ps))) ∧ ∀ H', Q (.bl true) H'
theorem ok_ldr4 (T : Tx K mg w) : FnOk PL w K mg base CX0 6 T.a__law_drawn_right T.d__law_drawn_right ["state", "lattice", "names", "heaps"] (sp_ldr4 K T.mm) := by
  have G__law_pick := ok__law_pick (P := PL) (w := w) (base := base) T
  have G__law_like := ok_like (P := PL) (w := w) (base := base) T 3
  have G_Lattice_name_at := ok_name_at (P := PL) (w := w) (base := base) T
  have G_Lattice_within_at := ok_within (P := PL) (w := w) (base := base) T
  have G_Lattice_join_at := ok_join (P := PL) (w := w) (base := base) T
  have G_Lattice_meet_at := ok_meet (P := PL) (w := w) (base := base) T
  refine T.F__law_drawn_right.ok sc__law_drawn_right (fun vs H Q E h => ?_) (fun cdv A outer s H vs Q E hr h => ?_)
  · obtain ⟨p, ce, z, na, ha, xs, ps, rfl, _⟩ := h
    rfl
  obtain ⟨p, ce, z, na, ha, xs, ps, rfl, src, hL, x6, nap, hap, ena, eha, q⟩ := h
  refine ⟨_, pss_cons (ps_for PassesOwn.never rfl (pi_range1 (by rfl) T.n_range (pa_cons pe_int pa_nil)) (pg_name (i := 4) sc__law_drawn_right.nd rfl (Or.inl rfl)) (pss_cons (ps_set (i := 5) sc__law_drawn_right.nd rfl (Or.inl rfl) (pe_call G__law_pick (hr.mono (by omega)) (by rfl) T.g__law_pick T.F__law_pick.kp T.b__law_pick .nil pass0 (pa_cons (pv 0) (pa_cons (pe_callB call_len_seq (by rfl) T.n_len (by decide +kernel) (pa_cons (pv 3) pa_nil)) pa_nil))))
    (pss_cons (ps_set (i := 6) sc__law_drawn_right.nd rfl (Or.inl rfl) (pe_call G__law_pick (hr.mono (by omega)) (by rfl) T.g__law_pick T.F__law_pick.kp T.b__law_pick .nil pass0 (pa_cons (pv 0) (pa_cons (pe_callB call_len_seq (by rfl) T.n_len (by decide +kernel) (pa_cons (pv 3) pa_nil)) pa_nil))))
    (pss_cons (ps_set (i := 7) sc__law_drawn_right.nd rfl (Or.inl rfl) (pe_lst (pa_cons (pe_methG (pv 1) G_Lattice_within_at (hr.mono (by omega)) T.b_Lattice_within_at .nil pass0 (pa_cons (pv 5) (pa_cons (pv 6) pa_nil))) (pa_cons (pe_methG (pv 1) G_Lattice_join_at (hr.mono (by omega)) T.b_Lattice_join_at .nil pass0 (pa_cons (pv 5) (pa_cons (pv 6) pa_nil))) (pa_cons (pe_methG (pv 1) G_Lattice_meet_at (hr.mono (by omega)) T.b_Lattice_meet_at .nil pass0 (pa_cons (pv 5) (pa_cons (pv 6) pa_nil))) (pa_cons (pe_methG (pv 1) G_Lattice_name_at (hr.mono (by omega)) T.b_Lattice_name_at .nil pass0 (pa_cons (pv 5) pa_nil)) pa_nil))))))
    (pss_cons (ps_set (i := 8) sc__law_drawn_right.nd rfl (Or.inl rfl) (pe_bm PySem.F.plainAttrs_list PySem.F.slot_list_index PySem.F.type_list_index mt_index (pv 3) (pa_cons (pe_op op_or (pe_ix ix_list (pv 3) (pv 5) (fun _ _ => rfl)) (pe_ix ix_list (pv 3) (pv 6) (fun _ _ => rfl))) pa_nil)))
    (pss_one (ps_if (pt_not (pt_val (pe_call G__law_like (hr.mono (by omega)) (by rfl) T.g__law_like T.F__law_like.kp T.b__law_like .nil pass0 (pa_cons (pv 7) (pa_cons (pe_lst (pa_cons (pe_cmpR op_eq (pe_op op_and (pe_ix ix_list (pv 3) (pv 5) (fun _ _ => rfl)) (pe_ix ix_list (pv 3) (pv 6) (fun _ _ => rfl))) (pe_ix ix_list (pv 3) (pv 5) (fun _ _ => rfl)) (nomark _)) (pa_cons (pv 8) (pa_cons (pe_bm PySem.F.plainAttrs_list PySem.F.slot_list_index PySem.F.type_list_index mt_index (pv 3) (pa_cons (pe_op op_and (pe_ix ix_list (pv 3) (pv 5) (fun _ _ => rfl)) (pe_ix ix_list (pv 3) (pv 6) (fun _ _ => rfl))) pa_nil)) (pa_cons (pe_ix ix_list (pv 2) (pv 5) (fun _ _ => rfl)) pa_nil))))) pa_nil))))) (pss_one (ps_ret pe_bl)) pss_nil)))))))
    (pss_one (ps_ret pe_bl)), ?_⟩
  have W := down_ring xs.length ps
  have hn := downL_n xs ps
  have n64 : (heaps xs.length ps).length ≤ 64 := Nat.le_trans (heaps_le _ _) (Nat.le_trans (Nat.pow_le_pow_right (by decide) x6) (by decide))
  have n1 : 1 ≤ (heaps xs.length ps).length := List.length_pos_of_mem W.zero
  have dj := @down_join xs ps
  have dm := @down_meet xs ps
  have le : ∀ i j, (downL xs ps).le i j = part ((heaps xs.length ps).getD i 0) ((heaps xs.length ps).getD j 0) := fun _ _ => rfl
  generalize hH : heaps xs.length ps = hs at *
  generalize downL xs ps = L at *
  have gd : ∀ {i}, i < hs.length → (natV hs)[i]? = some (.int (hs.getD i 0 : Nat)) := fun h => (index_nat W.nd h).1
  show tSeq _ _ _ [some (.ref p), some (.ref z), some (.ref na), some (.ref ha), none, none, none, none, none] H
  refine st_run (fun σ H' => ∃ v4 v5 v6 v7 v8 : Option V, σ = [some (.ref p), some (.ref z), some (.ref na), some (.ref ha), v4, v5, v6, v7, v8]) (fun D' hD q' => ?_) ?_
  · refine ⟨_, rfl, by decide, by decide, for_range (lo := 0) (n := 20) (fun i σ H' => ∃ v4 v5 v6 v7 v8 : Option V, σ = [some (.ref p), some (.ref z), some (.ref na), some (.ref ha), v4, v5, v6, v7, v8] ∧ But p H H' ∧ Src K ce H' p) ⟨_, _, _, _, _, rfl, But.refl _ _, src⟩ ?_ (fun σ H' ⟨_, _, _, _, _, e, _⟩ => q' _ _ ⟨_, _, _, _, _, e⟩)⟩
    rintro k σ H2 hk ⟨v4, v5, v6, v7, v8, rfl, b2, s2⟩
    dsimp only [gName]
    have eha2 := b2 _ _ hap eha
    have nl : (natV hs).length = hs.length := natV_length _
    refine ⟨_, rfl, _, rfl, ha, _, rfl, .inl (SqL.of (K := K) eha2), p, ce, (hs.length : Int), by rw [nl]; rfl, s2, by omega, fun a H3 b3 s3 a0 a1 => ?_⟩
    obtain ⟨a, rfl⟩ : ∃ i : Nat, a = (i : Int) := ⟨a.toNat, by omega⟩
    have hla : a < hs.length := by omega
    have eha3 := b3 _ _ hap eha2
    dsimp only [gName]
    refine ⟨_, rfl, _, rfl, ha, _, rfl, .inl (SqL.of (K := K) eha3), p, ce, (hs.length : Int), by rw [nl]; rfl, s3, by omega, fun b H4 b4 s4 c0 c1 => ?_⟩
    obtain ⟨b, rfl⟩ : ∃ i : Nat, b = (i : Int) := ⟨b.toNat, by omega⟩
    have hlb : b < hs.length := by omega
    have b04 := (b2.trans b3).trans b4
    have hL4 := hL.drawn src b04
    have ena4 := b04 _ _ nap ena
    have eha4 := b04 _ _ hap eha
    clear b2 b3 b4 s2 s3 eha2 eha3
    have ma := getD_mem hla
    have mb := getD_mem hlb
    obtain ⟨j, hj, ej⟩ := mem_getD (W.or _ ma _ mb)
    obtain ⟨m, hm, em⟩ := mem_getD (W.and _ ma _ mb)
    have jj := dj hla hlb hj ej
    have mm := dm hla hlb hm em
    obtain ⟨x, hx⟩ : ∃ x, L.names[a]? = some x := ⟨L.names[a]'(by show a < L.n; omega), List.getElem?_eq_getElem _⟩
    have hxV : (L.names.map V.str)[a]? = some (.str x) := by rw [List.getElem?_map, hx]; rfl
    have ha' : a < L.n := by omega
    have hb' : b < L.n := by omega
    dsimp only [gName]
    refine ⟨_, rfl, at_me hL4 T.in_within_at ⟨_, rfl, _, rfl, z, L, a, b, rfl, hL4, ha', hb', fun H5 s5 => ?_⟩⟩
    have hL5 := hL4.same s5
    refine ⟨_, rfl, at_me hL5 T.in_join_at ⟨_, rfl, _, rfl, z, L, a, b, rfl, hL5, by omega, ha', hb', fun H6 s6 => ?_⟩⟩
    rw [jj]
    have hL6 := hL5.same s6
    refine ⟨_, rfl, at_me hL6 T.in_meet_at ⟨_, rfl, _, rfl, z, L, a, b, rfl, hL6, by omega, ha', hb', fun H7 s7 => ?_⟩⟩
    rw [mm]
    have hL7 := hL6.same s7
    refine ⟨_, rfl, at_me hL7 T.in_name_at ⟨_, rfl, z, L, a, x, rfl, hL7, hx, fun H8 s8 => ?_⟩⟩
    refine ⟨(by show 4 ≤ sizeLine; decide), newQ (.lst [.bl (L.le a b), .int (j : Nat), .int (m : Nat), .str x]) fun f1 f10 s9 e9 => ?_⟩
    have s49 := (((s5.trans s6).trans s7).trans s8).trans s9
    have e9 : upd H8 f1 (.lst [.bl (L.le a b), .int (j : Nat), .int (m : Nat), .str x]) f1 = _ := e9
    have eha9 := s49 _ _ eha4
    have ena9 := s49 _ _ ena4
    show (_ : Hp → Prop) (upd H8 f1 (.lst [.bl (L.le a b), .int (j : Nat), .int (m : Nat), .str x]))
    generalize upd H8 f1 (.lst [.bl (L.le a b), .int (j : Nat), .int (m : Nat), .str x]) = H9 at s49 e9 eha9 ena9 s9 ⊢
    dsimp only [gName]
    have hSq := SqL.of (K := K) eha9
    refine ⟨_, rfl, .inl ⟨rfl, _, hSq⟩, ?_⟩
    refine ⟨_, rfl, _, rfl, ha, _, _, _, rfl, rfl, hSq, atI_nat (gd hla), _, rfl, _, rfl, ha, _, _, _, rfl, rfl, hSq, atI_nat (gd hlb), _, _, rfl, rfl, ?_⟩
    obtain ⟨i1, i2, i3⟩ := index_nat W.nd hj
    refine ⟨ha, _, _, j, _, rfl, rfl, hSq, rfl, flat_nats _, i1, ?_, ?_, ?_⟩
    · show eqV (V.int (hs.getD j 0 : Nat)) (V.int (Builtin.bitOr ((hs.getD a 0 : Nat) : Int) ((hs.getD b 0 : Nat) : Int))) = true
      rw [or_int_nat, ← ej]; exact i2
    · intro m z' hm hz
      show eqV z' (V.int (Builtin.bitOr ((hs.getD a 0 : Nat) : Int) ((hs.getD b 0 : Nat) : Int))) = false
      rw [or_int_nat, ← ej]; exact i3 m z' hm hz
    dsimp only [gName]
    refine if1_runG (fun b H' => b = false ∧ Same H9 H') (fun Q' q' => ?_) ?_
    · refine ⟨_, rfl, ?_⟩
      refine ⟨_, rfl, _, rfl, ha, _, _, _, rfl, rfl, hSq, atI_nat (gd hla), _, rfl, _, rfl, ha, _, _, _, rfl, rfl, hSq, atI_nat (gd hlb), _, _, rfl, rfl, ?_⟩
      refine ⟨_, rfl, _, rfl, ha, _, _, _, rfl, rfl, hSq, atI_nat (gd hla), rfl, ?_⟩
      refine ⟨_, rfl, ?_⟩
      refine ⟨_, rfl, .inl ⟨rfl, _, hSq⟩, ?_⟩
      refine ⟨_, rfl, _, rfl, ha, _, _, _, rfl, rfl, hSq, atI_nat (gd hla), _, rfl, _, rfl, ha, _, _, _, rfl, rfl, hSq, atI_nat (gd hlb), _, _, rfl, rfl, ?_⟩
      obtain ⟨i1, i2, i3⟩ := index_nat W.nd hm
      refine ⟨ha, _, _, m, _, rfl, rfl, hSq, rfl, flat_nats _, i1, ?_, ?_, ?_⟩
      · show eqV (V.int (hs.getD m 0 : Nat)) (V.int (Builtin.bitAnd ((hs.getD a 0 : Nat) : Int) ((hs.getD b 0 : Nat) : Int))) = true
        rw [and_int_nat, ← em]; exact i2
      · intro m' z' hm hz
        show eqV z' (V.int (Builtin.bitAnd ((hs.getD a 0 : Nat) : Int) ((hs.getD b 0 : Nat) : Int))) = false
        rw [and_int_nat, ← em]; exact i3 m' z' hm hz
      refine ⟨_, rfl, _, rfl, na, _, _, _, rfl, rfl, SqL.of (K := K) ena9, atI_nat hxV, ?_⟩
      have eand : decide (V.int (Builtin.bitAnd ((hs.getD a 0 : Nat) : Int) ((hs.getD b 0 : Nat) : Int)) = V.int ((hs.getD a 0 : Nat) : Int)) = L.le a b := by
        rw [and_int_nat, int_ext, le]; rfl
      refine ⟨(by show 4 ≤ sizeLine; decide), newQ (.lst [.bl (decide (V.int (Builtin.bitAnd ((hs.getD a 0 : Nat) : Int) ((hs.getD b 0 : Nat) : Int)) = V.int ((hs.getD a 0 : Nat) : Int))), .int (j : Nat), .int (m : Nat), .str x]) fun f2 f20 s10 e10 => ?_⟩
      generalize upd H9 f2 (.lst [.bl (decide (V.int (Builtin.bitAnd ((hs.getD a 0 : Nat) : Int) ((hs.getD b 0 : Nat) : Int)) = V.int ((hs.getD a 0 : Nat) : Int))), .int (j : Nat), .int (m : Nat), .str x]) = H10 at s10 e10 ⊢
      rw [eand] at e10
      have ld : ∀ {r : Addr}, H10 r = some (.lst [.bl (L.le a b), .int (j : Nat), .int (m : Nat), .str x]) → Ld K H10 (.lst [.bl (L.le a b), .int (j : Nat), .int (m : Nat), .str x]) (.ref r) := fun {r} h => ⟨r, _, rfl, h, _, _, rfl, rfl, _, _, rfl, rfl, _, _, rfl, rfl, _, _, rfl, rfl, rfl⟩
      exact ⟨.lst [.bl (L.le a b), .int (j : Nat), .int (m : Nat), .str x], _, _, rfl, ld (s10 _ _ e9), ld e10, by simp [Dv.depth, Dv.depthA], by simp [Dv.wide, Dv.wideA], fun H11 s11 => ⟨_, rfl, q' _ _ ⟨rfl, s10.trans s11⟩⟩⟩
    · rintro v H10 ⟨rfl, s10⟩
      refine iteF ?_
      exact ⟨_, _, _, _, _, rfl, b04.trans ((s49.trans s10).but p), (s4.same s49).same s10⟩
  rintro _ H2 ⟨v4, v5, v6, v7, v8, rfl⟩
  exact q _
end
/-! ### the law k04 -/
section
open PyProof.Rows
set_option pp.maxSteps 900
variable {w W_ : World} {K : PySem.W.Frag} {mg : Str → Option Value} {base : Heap} {mm : List (Str × Addr)} {H H' : Hp} {L R : Lt}
theorem len_cpsG (x : Str) : x.cps.toList.length = x.length := by rw [Array.length_toList]; rfl
theorem app_comma : ∀ {a b A B : List Nat}, 44 ∉ a → 44 ∉ b → a ++ 44 :: A = b ++ 44 :: B → a = b ∧ A = B
  | [], [], A, B, _, _, e => ⟨rfl, by simpa using e⟩
  | [], y :: b, A, B, _, hb, e => by
    have e : 44 :: A = y :: (b ++ 44 :: B) := e
    have : y = 44 := by injection e with e1 _; exact e1.symm
    exact absurd (this ▸ List.mem_cons_self) hb
  | x :: a, [], A, B, ha, _, e => by
    have e : x :: (a ++ 44 :: A) = 44 :: B := e
    have : x = 44 := by injection e with e1 _
    exact absurd (this ▸ List.mem_cons_self) ha
  | x :: a, y :: b, A, B, ha, hb, e => by
    injection e with e1 e2
    obtain ⟨r1, r2⟩ := app_comma (fun h => ha (List.mem_cons_of_mem _ h)) (fun h => hb (List.mem_cons_of_mem _ h)) e2
    exact ⟨by rw [e1, r1], r2⟩
theorem str_ext {a b : Str} (h : a.cps.toList = b.cps.toList) : a = b := by
  obtain ⟨a⟩ := a
  obtain ⟨b⟩ := b
  have : a = b := Array.toList_inj.mp h
  rw [this]
theorem cps_app (a b : Str) : (a ++ b).cps.toList = a.cps.toList ++ b.cps.toList := by rw [Str.cps_append, Array.toList_append]
theorem comma_inj : ∀ {us vs : List Str}, (∀ x ∈ us, x.length ≠ 0 ∧ 44 ∉ x.cps.toList) → (∀ x ∈ vs, x.length ≠ 0 ∧ 44 ∉ x.cps.toList) → Str.join "," us = Str.join "," vs → us = vs := by
  have o44 : ("," : Str).cps.toList = [44] := by decide +kernel
  have cons : ∀ {x y : Str} {r : List Str}, (Str.join "," (x :: y :: r)).cps.toList = x.cps.toList ++ 44 :: (Str.join "," (y :: r)).cps.toList := fun {x y r} => by
    show (x ++ "," ++ Str.join "," (y :: r)).cps.toList = _
    rw [cps_app, cps_app, o44, List.append_assoc]
    rfl
  have ne0 : ∀ {x : Str} {r : List Str}, x.length ≠ 0 → (Str.join "," (x :: r)).cps.toList ≠ [] := fun {x r} hx e => by
    have hx' : x.cps.toList ≠ [] := fun z => hx (by rw [← len_cpsG, z]; rfl)
    cases r with
    | nil => exact hx' e
    | cons y r => rw [cons] at e; exact absurd e (by simp)
  intro us
  induction us with
  | nil =>
    intro vs _ hv e
    cases vs with
    | nil => rfl
    | cons v vs =>
      exact absurd (congrArg (fun s : Str => s.cps.toList) e).symm (ne0 (hv v List.mem_cons_self).1)
  | cons u us ih =>
    intro vs hu hv e
    cases vs with
    | nil => exact absurd (congrArg (fun s : Str => s.cps.toList) e) (ne0 (hu u List.mem_cons_self).1)
    | cons v vs =>
      have e := congrArg (fun s : Str => s.cps.toList) e
      have cu := (hu u List.mem_cons_self).2
      have cv := (hv v List.mem_cons_self).2
      cases us with
      | nil =>
        cases vs with
        | nil => rw [show u = v from str_ext e]
        | cons v2 vs =>
          rw [cons] at e
          exact absurd (by rw [show u.cps.toList = _ from e]; exact List.mem_append.mpr (.inr List.mem_cons_self)) cu
      | cons u2 us =>
        cases vs with
        | nil =>
          rw [cons] at e
          exact absurd (by rw [show v.cps.toList = _ from e.symm]; exact List.mem_append.mpr (.inr List.mem_cons_self)) cv
        | cons v2 vs =>
          rw [cons, cons] at e
          obtain ⟨e1, e2⟩ := app_comma cu cv e
          rw [str_ext e1, ih (fun x hx => hu x (List.mem_cons_of_mem _ hx)) (fun x hx => hv x (List.mem_cons_of_mem _ hx)) (str_ext e2)]
theorem heapNm_inj {xs : List Str} (nd : xs.Nodup) (nw : ∀ x ∈ xs, NameW x) {g h : Nat} (hg : g < 2 ^ xs.length) (hh : h < 2 ^ xs.length) (e : heapNm xs g = heapNm xs h) : g = h := by
  have no44 : 44 ∉ lettersS.cps.toList := by decide +kernel
  have ok : ∀ {k}, ∀ x ∈ heapIn xs k, x.length ≠ 0 ∧ 44 ∉ x.cps.toList := fun {k} x hx => by
    obtain ⟨a, ha, rfl⟩ := List.mem_map.mp hx
    have ha := List.mem_range.mp (List.mem_filter.mp ha).1
    have w := nw _ (List.mem_of_getElem? (get_d ha))
    have := w.pos
    exact ⟨by omega, fun z => no44 (w.all _ z)⟩
  have e1 : heapIn xs g = heapIn xs h := by
    refine comma_inj ok ok ?_
    have e := congrArg (fun s : Str => s.cps.toList) e
    have o1 : ("{" : Str).cps.toList = [123] := by decide +kernel
    have o2 : ("}" : Str).cps.toList = [125] := by decide +kernel
    simp only [heapNm, cps_app, o1, o2] at e
    have e := List.append_cancel_right e
    have e := List.append_cancel_left e
    have := str_ext e
    rw [show PySem.Txt.join "," (heapIn xs g) = Str.join "," (heapIn xs g) from StrLaws.glued_eq_join _ _, show PySem.Txt.join "," (heapIn xs h) = Str.join "," (heapIn xs h) from StrLaws.glued_eq_join _ _] at this
    exact this
  refine Nat.eq_of_testBit_eq fun i => ?_
  by_cases hi : i < xs.length
  · have key : ∀ {k}, k.testBit i = true ↔ xs.getD i Str.empty ∈ heapIn xs k := fun {k} => by
      unfold heapIn
      rw [List.mem_map]
      constructor
      · intro b
        exact ⟨i, List.mem_filter.mpr ⟨List.mem_range.mpr hi, b⟩, rfl⟩
      · rintro ⟨a, ha, ea⟩
        obtain ⟨a1, a2⟩ := List.mem_filter.mp ha
        have a1 := List.mem_range.mp a1
        have h1 := get_d a1
        rw [ea] at h1
        rw [← nodup_at' nd h1 (get_d hi)]
        exact a2
    rw [Bool.eq_iff_iff, key, key, e1]
  · have l : 2 ^ xs.length ≤ 2 ^ i := Nat.pow_le_pow_right (by decide) (by omega)
    rw [Nat.testBit_lt_two_pow (Nat.lt_of_lt_of_le hg l), Nat.testBit_lt_two_pow (Nat.lt_of_lt_of_le hh l)]
theorem down_ndG {xs : List Str} {ps : List (Nat × Nat)} (nd : xs.Nodup) (nw : ∀ x ∈ xs, NameW x) : (downL xs ps).names.Nodup := by
  show ((heaps xs.length ps).map (heapNm xs)).Nodup
  refine List.pairwise_map.mpr (List.Pairwise.imp_of_mem (R := fun a b => a ≠ b) (fun {a b} ha hb ne e => ?_) (down_ring xs.length ps).nd)
  exact ne (heapNm_inj nd nw ((down_ring xs.length ps).lt _ ha) ((down_ring xs.length ps).lt _ hb) e)
theorem down_nam {xs : List Str} {ps : List (Nat × Nat)} (x6 : xs.length ≤ 6) (lx : ∀ x ∈ xs, x.length ≤ 12) : ∀ x ∈ (downL xs ps).names, 1 ≤ x.length ∧ x.length ≤ 100 := fun x hx => by
  obtain ⟨h, _, rfl⟩ := List.mem_map.mp hx
  have hl : (heapIn xs h).length ≤ 6 := by
    unfold heapIn
    rw [List.length_map]
    exact Nat.le_trans (filter_le _ _) x6
  have hd : ∀ z ∈ heapIn xs h, z.length ≤ 12 := fun z hz => by
    obtain ⟨c, hc, rfl⟩ := List.mem_map.mp hz
    have hc := List.mem_range.mp (List.mem_filter.mp hc).1
    exact lx _ (List.mem_of_getElem? (get_d hc))
  have jl := (join_le (sep := ",") (by decide) hd hl).1
  have o1 : ("{" : Str).length = 1 := rfl
  have o2 : ("}" : Str).length = 1 := rfl
  unfold heapNm
  rw [Str.length_append, Str.length_append]
  omega
theorem range_getDG (hs : List Nat) : hs = (List.range hs.length).map fun i => hs.getD i 0 := by
  refine List.ext_getElem? fun i => ?_
  by_cases h : i < hs.length
  · rw [List.getElem?_map, List.getElem?_range h, List.getElem?_eq_getElem h]
    show some hs[i] = some (hs.getD i 0)
    rw [List.getD_eq_getElem?_getD, List.getElem?_eq_getElem h]; rfl
  · rw [List.getElem?_eq_none (by omega), List.getElem?_eq_none (by rw [List.length_map, List.length_range]; omega)]
theorem ok_law (T : Tx K mg w) : FnOk PL w K mg base CX0 120 T.a_law T.d_law ["script"] (spLaw K) := by
  have G__law_cells := ok__law_cells (P := PL) (w := w) (base := base) T
  have G__law_pick := ok__law_pick (P := PL) (w := w) (base := base) T
  have G__law_like := ok_like (P := PL) (w := w) (base := base) T 3
  have G__law_words := ok_lwd (w := w) (base := base) T
  have G__law_closed := ok_lcl (w := w) (base := base) T
  have G__law_spots := ok_lsp4 (w := w) (base := base) T
  have G__law_heaps := ok_lhp4 (w := w) (base := base) T
  have G__law_shows := ok_lsh (w := w) (base := base) T
  have G__law_near_right := ok_lnr4 (w := w) (base := base) T
  have G__law_drawn_right := ok_ldr4 (w := w) (base := base) T
  have G_Lattice_irreducibles := ok_irr (P := PL) (w := w) (base := base) T
  have G_DownLattice_init := ok_downl (w := w) (base := base) T
  refine T.F_law.ok sc_law (fun vs H Q E h => ?_) (fun cdv A outer s H vs Q E hr h => ?_)
  · obtain ⟨a, ns, rfl, _⟩ := h
    rfl
  obtain ⟨sa, ns, rfl, hS, h63, q⟩ := h
  have hu := hu_of hr
  refine ⟨_, pss_cons (ps_set (i := 1) sc_law.nd rfl (Or.inl rfl) (pe_call G__law_cells (hr.mono (by omega)) (by rfl) T.g__law_cells T.F__law_cells.kp T.b__law_cells .nil pass0 (pa_cons (pv 0) pa_nil)))
    (pss_cons (ps_set (i := 2) sc_law.nd rfl (Or.inl rfl) (pe_op op_add pe_int (pe_call G__law_pick (hr.mono (by omega)) (by rfl) T.g__law_pick T.F__law_pick.kp T.b__law_pick .nil pass0 (pa_cons (pv 1) (pa_cons pe_int pa_nil)))))
    (pss_cons (ps_if (pt_cmpR op_eq (pe_call G__law_pick (hr.mono (by omega)) (by rfl) T.g__law_pick T.F__law_pick.kp T.b__law_pick .nil pass0 (pa_cons (pv 1) (pa_cons pe_int pa_nil))) pe_int (nomark _)) (pss_one (ps_set (i := 2) sc_law.nd rfl (Or.inl rfl) (pe_op op_add pe_int (pe_call G__law_pick (hr.mono (by omega)) (by rfl) T.g__law_pick T.F__law_pick.kp T.b__law_pick .nil pass0 (pa_cons (pv 1) (pa_cons pe_int pa_nil)))))) pss_nil)
    (pss_cons (ps_set (i := 3) sc_law.nd rfl (Or.inr rfl) (pe_call G__law_words (hr.mono (by omega)) (by rfl) T.g__law_words T.F__law_words.kp T.b__law_words .nil pass0 (pa_cons (pv 1) (pa_cons (pv 2) pa_nil))))
    (pss_cons (ps_set (i := 4) sc_law.nd rfl (Or.inl rfl) (pe_call G__law_spots (hr.mono (by omega)) (by rfl) T.g__law_spots T.F__law_spots.kp T.b__law_spots .nil pass0 (pa_cons (pv 1) (pa_cons (pv 2) pa_nil))))
    (pss_cons (ps_set (i := 5) sc_law.nd rfl (Or.inr rfl) (pe_call G__law_closed (hr.mono (by omega)) (by rfl) T.g__law_closed T.F__law_closed.kp T.b__law_closed .nil pass0 (pa_cons (pv 2) (pa_cons (pv 4) pa_nil))))
    (pss_cons (ps_set (i := 6) sc_law.nd rfl (Or.inr rfl) (pe_call G__law_heaps (hr.mono (by omega)) (by rfl) T.g__law_heaps T.F__law_heaps.kp T.b__law_heaps .nil pass0 (pa_cons (pv 2) (pa_cons (pv 5) pa_nil))))
    (pss_cons (ps_setLc (i := 7) (own := [("spot", 8)]) (g := gName 8) (tt := tYes) rfl sc_law.nd rfl rfl (sw_true rfl rfl rfl (by decide +kernel)) (pi_list (pv 4)) (blkOk_by (N := N_law) (sc := defScope St_law) (by decide +kernel)) (fun _ _ _ _ _ => (pg_name (i := 8) sc_law.nd rfl (Or.inl rfl))) (fun _ _ _ _ _ => pts_nil) (fun _ _ _ _ _ => (pe_tup (pa_cons (pe_ix (kx_ix_list K) (pv 3) (pe_ix (kx_ix_list K) (pv 8) pe_int (fun _ _ => rfl)) (fun _ _ => rfl)) (pa_cons (pe_ix (kx_ix_list K) (pv 3) (pe_ix (kx_ix_list K) (pv 8) pe_int (fun _ _ => rfl)) (fun _ _ => rfl)) pa_nil)))))
    (pss_cons (ps_set (i := 9) sc_law.nd rfl (Or.inl rfl) (pe_lst (pa_cons (pe_callTy call_list_of (by rfl) T.n_list (by decide +kernel) (pa_cons (pv 3) pa_nil)) (pa_cons (pe_callTy call_list_of (by rfl) T.n_list (by decide +kernel) (pa_cons (pv 7) pa_nil)) pa_nil))))
    (pss_cons (ps_set (i := 10) sc_law.nd rfl (Or.inl rfl) (pe_make T.M_DownLattice G_DownLattice_init (hr.mono (by omega)) (by rfl) T.g_DownLattice T.b_DownLattice_init .nil pass0 (pa_cons (pe_ix ix_list (pv 9) pe_int (fun _ _ => rfl)) (pa_cons (pe_ix ix_list (pv 9) pe_int (fun _ _ => rfl)) pa_nil))))
    (pss_cons (ps_if (pt_cmpR (op_neX hr.un2) (pv 9) (pe_lst (pa_cons (pv 3) (pa_cons (pv 7) pa_nil))) (nomark _)) (pss_one (ps_ret pe_bl)) pss_nil)
    (pss_cons (ps_expr (pe_bm0 PySem.F.plainAttrs_list PySem.F.slot_list_reverse PySem.F.type_list_reverse mt_reverse (pe_ix ix_list (pv 9) pe_int (fun _ _ => rfl))))
    (pss_cons (ps_expr (pe_bm0 PySem.F.plainAttrs_list PySem.F.slot_list_clear PySem.F.type_list_clear mt_clear (pe_ix ix_list (pv 9) pe_int (fun _ _ => rfl))))
    (pss_cons (ps_set (i := 11) sc_law.nd rfl (Or.inl rfl) (pe_op op_add_str (pe_op op_add_str (pe_op op_add_str (pe_op op_add_str pe_str (pe_join pe_str (pv 3))) pe_str) (pe_join pe_str (pe_lc (own := [("pair", 12)]) (g := gName 12) (tt := tYes) rfl sc_law.nd (pi_list (pv 7)) (blkOk_by (N := N_law) (sc := defScope St_law) (by decide +kernel)) (fun _ _ _ _ _ => (pg_name (i := 12) sc_law.nd rfl (Or.inl rfl))) (fun _ _ _ _ _ => pts_nil) (fun _ _ _ _ _ => (pe_op op_add_str (pe_op op_add_str (pe_ix (kx_ix_tup K) (pv 12) pe_int (fun _ _ => rfl)) pe_str) (pe_ix (kx_ix_tup K) (pv 12) pe_int (fun _ _ => rfl))))))) pe_str))
    (pss_cons (ps_if (pt_not (pt_val (pe_call G__law_like (hr.mono (by omega)) (by rfl) T.g__law_like T.F__law_like.kp T.b__law_like .nil pass0 (pa_cons (pe_fld (pv 10) rfl) (pa_cons (pv 11) pa_nil))))) (pss_one (ps_ret pe_bl)) pss_nil)
    (pss_cons (ps_set (i := 13) sc_law.nd rfl (Or.inl rfl) (pe_lst pa_nil))
    (pss_cons (ps_for PassesOwn.never rfl (pi_list (pv 6)) (pg_name (i := 14) sc_law.nd rfl (Or.inr rfl)) (pss_one (ps_expr (pe_bm PySem.F.plainAttrs_list PySem.F.slot_list_append PySem.F.type_list_append mt_append (pv 13) (pa_cons (pe_op op_add_str (pe_op op_add_str pe_str (pe_join pe_str (pe_lc (own := [("a", 15)]) (g := gName 15) rfl sc_law.nd (pi_range1 (by rfl) T.n_range (pa_cons (pv 2) pa_nil)) (blkOk_by (N := N_law) (sc := defScope St_law) (by decide +kernel)) (fun _ _ _ _ _ => (pg_name (i := 15) sc_law.nd rfl (Or.inl rfl))) (fun _ _ _ _ _ => (pts_one (pt_cmpR op_eq (pe_op op_mod (pe_callTy call_int1 (by rfl) T.n_int (by decide +kernel) (pa_cons (pe_op op_shr (pv 14) (pv 15)) pa_nil)) pe_int) pe_int (nomark _)))) (fun _ _ _ _ _ => (pe_ix (kx_ix_list K) (pv 3) (pv 15) (fun _ _ => rfl)))))) pe_str) pa_nil)))))
    (pss_cons (ps_set (i := 16) sc_law.nd rfl (Or.inl rfl) (pe_lst pa_nil))
    (pss_cons (ps_for PassesOwn.never rfl (pi_range1 (by rfl) T.n_range (pa_cons (pv 2) pa_nil)) (pg_name (i := 17) sc_law.nd rfl (Or.inr rfl)) (pss_one (ps_expr (pe_bm PySem.F.plainAttrs_list PySem.F.slot_list_append PySem.F.type_list_append mt_append (pv 16) (pa_cons (pe_bm PySem.F.plainAttrs_list PySem.F.slot_list_index PySem.F.type_list_index mt_index (pv 6) (pa_cons (pe_callB (cr_sum rfl) (by rfl) T.n_sum (by decide +kernel) (pa_cons (pe_lc (own := [("a", 15)]) (g := gName 15) rfl sc_law.nd (pi_range1 (by rfl) T.n_range (pa_cons (pv 2) pa_nil)) (blkOk_by (N := N_law) (sc := defScope St_law) (by decide +kernel)) (fun _ _ _ _ _ => (pg_name (i := 15) sc_law.nd rfl (Or.inl rfl))) (fun _ _ _ _ _ => (pts_one (pt_val (pe_ix (kx_ix_list K) (pe_ix (kx_ix_list K) (pv 5) (pv 15) (fun _ _ => rfl)) (pv 17) (fun _ _ => rfl))))) (fun _ _ _ _ _ => (pe_op op_shl pe_int (pv 15)))) pa_nil)) pa_nil)) pa_nil)))))
    (pss_cons (ps_if (pt_not (pt_val (pe_call G__law_like (hr.mono (by omega)) (by rfl) T.g__law_like T.F__law_like.kp T.b__law_like .nil pass0 (pa_cons (pe_methG0 (pv 10) G_Lattice_irreducibles (hr.mono (by omega)) T.b_Lattice_irreducibles .nil pass0) (pa_cons (pe_callB cr_sorted (by rfl) T.n_sorted (by decide +kernel) (pa_cons (pe_lc (own := [("piece", 18)]) (g := gName 18) (tt := tYes) rfl sc_law.nd (pi_list (pv 16)) (blkOk_by (N := N_law) (sc := defScope St_law) (by decide +kernel)) (fun _ _ _ _ _ => (pg_name (i := 18) sc_law.nd rfl (Or.inl rfl))) (fun _ _ _ _ _ => pts_nil) (fun _ _ _ _ _ => (pe_callTy call_int1 (by rfl) T.n_int (by decide +kernel) (pa_cons (pv 18) pa_nil)))) pa_nil)) pa_nil))))) (pss_one (ps_ret pe_bl)) pss_nil)
    (pss_cons (ps_setLc (i := 19) (own := [("a", 15)]) (g := gName 15) (tt := tYes) rfl sc_law.nd rfl rfl (sw_true rfl rfl rfl (by decide +kernel)) (pi_list (pv 6)) (blkOk_by (N := N_law) (sc := defScope St_law) (by decide +kernel)) (fun _ _ _ _ _ => (pg_name (i := 15) sc_law.nd rfl (Or.inr rfl))) (fun _ _ _ _ _ => pts_nil) (fun _ _ _ _ _ => (pe_lc (own := [("b", 17)]) (g := gName 17) (tt := tYes) rfl sc_law.nd (kx_pi_list K (pi_list (pv 6))) (blkOk_by (N := N_law) (by first | rfl | kernel_rfl)) (fun _ _ _ _ _ => (pg_name (i := 17) sc_law.nd rfl (Or.inl rfl))) (fun _ _ _ _ _ => pts_nil) (fun _ _ _ _ _ => (pe_cmpR op_eq (pe_op op_and (pv 15) (pv 17)) (pv 15) (nomark _))))))
    (pss_cons (ps_if (pt_not (pt_val (pe_call G__law_near_right (hr.mono (by omega)) (by rfl) T.g__law_near_right T.F__law_near_right.kp T.b__law_near_right .nil pass0 (pa_cons (pv 1) (pa_cons (pv 10) (pa_cons (pv 13) pa_nil)))))) (pss_one (ps_ret pe_bl)) pss_nil)
    (pss_cons (ps_if (pt_cmpR op_lt (pe_callB call_len_seq (by rfl) T.n_len (by decide +kernel) (pa_cons (pv 6) pa_nil)) pe_int (nomark _)) (pss_one (ps_ret (pe_call G__law_shows (hr.mono (by omega)) (by rfl) T.g__law_shows T.F__law_shows.kp T.b__law_shows .nil pass0 (pa_cons (pv 10) (pa_cons (pv 13) (pa_cons (pv 19) pa_nil)))))) pss_nil)
    (pss_one (ps_ret (pe_call G__law_drawn_right (hr.mono (by omega)) (by rfl) T.g__law_drawn_right T.F__law_drawn_right.kp T.b__law_drawn_right .nil pass0 (pa_cons (pv 1) (pa_cons (pv 10) (pa_cons (pv 13) (pa_cons (pv 6) pa_nil))))))))))))))))))))))))))))), ?_⟩
  refine ⟨_, rfl, sa, ns, rfl, hS, h63, fun p c m cs H1 sm cp hc pos hp m0 m1 => ?_⟩
  have src1 : Src K c H1 p := ⟨cs, 0, 1, m, ⟨hp, SqL.of (K := K) hc, cp, Nat.zero_le _, by decide, pos, m0, m1⟩⟩
  dsimp only [gName]
  show tSeq _ _ _ [some (.ref sa), some (.ref p), none, none, none, none, none, none, none, none, none, none, none, none, none, none, none, none, none, none] H1
  refine set_run (fun v H' => ∃ n : Nat, v = .int (n : Nat) ∧ 1 ≤ n ∧ n ≤ 4 ∧ But p H1 H' ∧ Src K c H' p) (fun Q' q' => ?_) ?_
  · refine ⟨_, rfl, p, c, 4, rfl, src1, by decide, fun d H2 b2 s2 d0 d1 => ⟨_, _, rfl, rfl, ?_⟩⟩
    exact q' _ _ ⟨(1 + d).toNat, by rw [Int.toNat_of_nonneg (by omega)], by omega, by omega, b2, s2⟩
  rintro _ H2 ⟨n0, rfl, n1, n4, b12, src2⟩
  dsimp only [gName]
  refine st_run (fun σ H' => ∃ n : Nat, σ = [some (.ref sa), some (.ref p), some (.int (n : Nat)), none, none, none, none, none, none, none, none, none, none, none, none, none, none, none, none, none] ∧ 1 ≤ n ∧ n ≤ 6 ∧ But p H1 H' ∧ Src K c H' p) (fun D' hD q' => ?_) ?_
  · refine ⟨_, rfl, p, c, 8, rfl, src2, by decide, fun d H3 b3 s3 d0 d1 => ⟨rfl, _, rfl, ?_⟩⟩
    refine ite2 (fun _ => ?_) (fun _ => ?_)
    · refine ⟨_, rfl, p, c, 2, rfl, s3, by decide, fun d H4 b4 s4 x0 x1 => ⟨_, _, rfl, rfl, ?_⟩⟩
      refine q' _ _ ⟨(5 + d).toNat, ?_, by omega, by omega, (b12.trans b3).trans b4, s4⟩
      rw [Int.toNat_of_nonneg (by omega)]
      rfl
    · exact nx_run (q' _ _ ⟨n0, rfl, n1, by omega, b12.trans b3, s3⟩)
  clear n1 n4 src2 b12
  rintro _ H3 ⟨n, rfl, n1, n6, b13, src3⟩
  have hc3 := b13 _ _ cp hc
  refine ⟨_, rfl, _, rfl, p, c, n, rfl, src3, by omega, fun na xs H4 b4 s4 na0 ena xl nd nw => ?_⟩
  subst xl
  have nap : na ≠ p := src3.ne na0
  have hc4 := b4 _ _ cp hc3
  dsimp only [gName]
  refine ⟨_, rfl, _, rfl, p, c, xs.length, rfl, s4, ⟨_, hc4⟩, cp, n1, n6, fun sp ps H5 b5 s5 sp0 hd lps hpx anti => ?_⟩
  have ena5 := b5 _ _ nap ena
  have hc5 := b5 _ _ cp hc4
  dsimp only [gName]
  refine ⟨_, rfl, _, rfl, sp, xs.length, ps, rfl, hd, by omega, by omega, hpx, fun r H6 s6 hg => ?_⟩
  dsimp only [gName]
  refine ⟨_, rfl, _, rfl, r, xs.length, ps, rfl, hg, n6, hpx, fun ha H7 s7 ha0 eha => ?_⟩
  have s57 := s6.trans s7
  have hg7 := hg.same s7
  have hd7 := hd.same s57
  have ena7 := s57 _ _ ena5
  have src7 := s5.same s57
  clear hg hd ena ena5 s6 s7 s5 s4 src3 src1 b4 b5 b13
  dsimp only [gName]
  -- the pairs of words
  obtain ⟨ls, hls, hal⟩ := id hd7.ex
  refine ⟨_, rfl, sp, rfl, ⟨_, SqL.of (K := K) hls⟩, fun D hD => ?_⟩
  refine lc_refs (G := fun H v (x : Str × Str) => ∃ t, v = V.ref t ∧ t ≠ D ∧ H t = some (.tup [.str x.1, .str x.2])) (duoS xs) hD (fun s ⟨t, e, n, h⟩ => ⟨t, e, n, s _ _ h⟩) (fun ⟨t, e, n, h⟩ => ⟨t, e, n, (upd_ne n).trans h⟩) (by rw [al_len hal]; omega) (al_len hal) hls ?_ (fun H8 ys s8 hy rr => ?_)
  · rintro i l b H8 Nx Ex hl hb s8 ⟨ys, hy⟩ ky
    obtain ⟨b', e1, e2⟩ := al_get hal hl
    rw [hb] at e1
    obtain rfl := Option.some.inj e1
    have m := hpx _ (List.mem_of_getElem? hb)
    have e2 := s8 _ _ e2
    have ena8 := s8 _ _ ena7
    refine ⟨rfl, ?_⟩
    refine lcY ?_
    refine ⟨_, rfl, _, rfl, l, _, _, _, rfl, rfl, SqL.of (K := K) e2, atI_nat (j := 0) rfl, na, _, _, _, rfl, rfl, SqL.of (K := K) ena8, atI_nat (str_d m.1), ?_⟩
    refine ⟨_, rfl, _, rfl, l, _, _, _, rfl, rfl, SqL.of (K := K) e2, atI_nat (j := 1) rfl, na, _, _, _, rfl, rfl, SqL.of (K := K) ena8, atI_nat (str_d m.2), ?_⟩
    refine ⟨(by show 2 ≤ sizeLine; decide), newQ (.tup [.str (duoS xs b).1, .str (duoS xs b).2]) fun t ht s11 e11 => ?_⟩
    exact ky _ _ s11 ⟨t, rfl, (fun e => by rw [e, hy] at ht; cases ht), e11⟩
  obtain ⟨ts, hT⟩ := TupsAt.of hy rr
  have ena8 := s8 _ _ ena7
  have eha8 := s8 _ _ eha
  have hg8 := hg7.same s8
  have src8 := src7.same s8
  clear hd7 hls hal rr hy ena7 eha hg7 src7 s8
  dsimp only [gName]
  -- given
  refine ⟨_, rfl, na, _, rfl, .inl (SqL.of (K := K) ena8), newQ (.lst (xs.map V.str)) fun g0 g00 s9 e9 => ?_⟩
  generalize upd H8 g0 (.lst (xs.map V.str)) = H9 at s9 e9 ⊢
  refine ⟨_, rfl, D, _, rfl, .inl (SqL.of (K := K) (s9 _ _ hT.1)), newQ (.lst (ts.map V.ref)) fun g1 g10 s10 e10 => ?_⟩
  generalize upd H9 g1 (.lst (ts.map V.ref)) = H10 at s10 e10 ⊢
  refine ⟨(by show 2 ≤ sizeLine; decide), newQ (.lst [.ref g0, .ref g1]) fun gn gn0 s11 e11 => ?_⟩
  generalize upd H10 gn (.lst [.ref g0, .ref g1]) = H11 at s11 e11 ⊢
  have s811 := (s9.trans s10).trans s11
  have eg0 : H11 g0 = _ := s11 _ _ (s10 _ _ e9)
  have hT11 := hT.same s811
  have hG11 : TupsAt H11 g1 ts xs ps := ⟨s11 _ _ e10, hT11.2⟩
  dsimp only [gName]
  refine ⟨_, rfl, gn, _, _, _, rfl, rfl, SqL.of (K := K) e11, atI_nat (j := 0) rfl, _, rfl, gn, _, _, _, rfl, rfl, SqL.of (K := K) e11, atI_nat (j := 1) rfl, ?_⟩
  refine fun z dx hz hdx ne => mk_downl (a := g0) (b := g1) (xs := xs) (ps := ps) eg0 (hG11.pairs hpx) hG11.1 n1 n6 nd nw (by omega) anti hz hdx ne fun H12 s12 hL => ⟨rfl, ?_⟩
  dsimp only [gName]
  have s812 := s811.trans s12
  -- nothing of it changed
  refine if_run (fun b H' => b = false ∧ Same H12 H') (fun Q' q' => ?_) ?_
  · have shp := given_shp (ps := ps) nw hpx
    refine ⟨_, rfl, _, rfl, _, rfl, (by show 2 ≤ sizeLine; decide), newQ (.lst [.ref na, .ref D]) fun kn kn0 s13 e13 => ?_⟩
    have s1113 := s12.trans s13
    have dp1 := given_dp (K := K) (s1113 _ _ e11) (s1113 _ _ eg0) (hG11.same s1113)
    have dp2 := given_dp (K := K) e13 (s13 _ _ (s812 _ _ ena8)) ((hT.same s812).same s13)
    refine ⟨givenD xs ps, givenD xs ps, dp1, dp2, shp, shp, _, rfl, ?_⟩
    rw [PySem.SeqAt.eqv_refl _ shp.1]
    exact q' _ _ ⟨rfl, s13⟩
  rintro _ H13 ⟨rfl, s13⟩
  refine iteF ?_
  refine nx_run ?_
  dsimp only
  have s1113 := s12.trans s13
  have s813 := s812.trans s13
  have eg13 := s1113 _ _ eg0
  have e1g13 := (hG11.same s1113).1
  have egn13 := s1113 _ _ e11
  have hL13 := hL.same s13
  refine ⟨_, rfl, gn, _, _, _, rfl, rfl, SqL.of (K := K) egn13, atI_nat (j := 0) rfl, .inl ⟨rfl, _, SqL.of (K := K) eg13⟩, g0, _, rfl, rfl, eg13, ?_⟩
  have b14 : But g0 H13 (upd H13 g0 (.lst (xs.map V.str).reverse)) := (But.refl _ _).upd _
  generalize upd H13 g0 (.lst (xs.map V.str).reverse) = H14 at b14 ⊢
  have g10' : g1 ≠ g0 := fun e => by rw [e, e9] at g10; cases g10
  have ggn : gn ≠ g0 := fun e => by rw [e, s10 _ _ e9] at gn0; cases gn0
  have e1g14 := b14 _ _ g10' e1g13
  have egn14 := b14 _ _ ggn egn13
  refine ⟨_, rfl, gn, _, _, _, rfl, rfl, SqL.of (K := K) egn14, atI_nat (j := 1) rfl, .inl ⟨rfl, _, SqL.of (K := K) e1g14⟩, g1, _, rfl, rfl, e1g14, ?_⟩
  have b15 : But g1 H14 (upd H14 g1 (.lst [])) := (But.refl _ _).upd _
  generalize upd H14 g1 (.lst []) = H15 at b15 ⊢
  have hL15 := (hL13.app eg13 b14).app e1g14 b15
  have g18 : H8 g1 = none := by
    cases e : H8 g1 with
    | none => rfl
    | some o => rw [s9 _ _ e] at g10; cases g10
  have s815 : Same H8 H15 := same_skip (same_skip s813 g00 b14) g18 b15
  clear hL hL13 eg13 e1g13 egn13 e1g14 egn14 b14 b15 s1113 s813 s812 s13 s12 hT11 hG11 eg0 s811 e11 e10 e9 s9 s10 s11
  have ena15 := s815 _ _ ena8
  have eha15 := s815 _ _ eha8
  have hg15 := hg8.same s815
  have hT15 := hT.same s815
  have src15 := src8.same s815
  clear ena8 eha8 hg8 hT src8 s815
  dsimp only
  -- the label
  have l12 : ∀ x ∈ xs, x.length ≤ 12 := fun x hx => (nw x hx).le
  have jn := join_le (sep := " ") (by decide) l12 n6
  have jp := join_le (sep := " ") (by decide) (pairW_len l12 ps) (show (pairW xs ps).length ≤ 8 by unfold pairW; rw [List.length_map]; exact lps)
  have j1 := jn.1
  have j2 := jp.1
  have o1 : ("(downs (" : Str).length = 8 := rfl
  have o2 : (") (" : Str).length = 3 := rfl
  have o3 : ("))" : Str).length = 2 := rfl
  have lab : (downL xs ps).label = ("(downs (" : Str) ++ PySem.Txt.join " " xs ++ (") (" : Str) ++ PySem.Txt.join " " (pairW xs ps) ++ ("))" : Str) := rfl
  refine set_run (fun v H' => v = .str (downL xs ps).label ∧ Same H15 H') (fun Q' q' => ?_) ?_
  · refine ⟨⟨_, rfl⟩, _, rfl, " ", na, xs, rfl, rfl, .inl (SqL.of (K := K) ena15), Nat.le_trans jn.2 (by decide), _, _, rfl, rfl, small_line (by omega), _, _, rfl, rfl, small_line (by simp only [Str.length_append]; omega), ?_⟩
    refine ⟨⟨_, rfl⟩, _, rfl, D, rfl, ⟨_, SqL.of (K := K) hT15.1⟩, fun D2 hD2 => ?_⟩
    refine lc_refs (G := fun _ v (x : Str) => v = V.str x) (fun q => (duoS xs q).1 ++ (" " : Str) ++ (duoS xs q).2) hD2 (fun _ h => h) (fun h => h) (by rw [al_len hT15.2]; omega) (al_len hT15.2) hT15.1 ?_ (fun H16 ys s16 hy rr => ?_)
    · rintro i l b H16 Nx Ex hl hb s16 _ ky
      obtain ⟨b', e1, e2⟩ := al_get hT15.2 hl
      rw [hb] at e1
      obtain rfl := Option.some.inj e1
      have dl := duo_len l12 (hpx _ (List.mem_of_getElem? hb))
      have e2 := s16 _ _ e2
      have o1 : (" " : Str).length = 1 := rfl
      refine ⟨rfl, ?_⟩
      refine lcY ?_
      refine ⟨_, rfl, l, _, _, _, rfl, rfl, SqT.of (K := K) e2, atI_nat (j := 0) rfl, _, _, rfl, rfl, small_line (by omega), _, rfl, l, _, _, _, rfl, rfl, SqT.of (K := K) e2, atI_nat (j := 1) rfl, _, _, rfl, rfl, small_line (by rw [Str.length_append]; omega), ?_⟩
      exact ky _ _ (Same.refl _) rfl
    have hy : H16 D2 = some (.lst ((pairW xs ps).map V.str)) := by rw [hy, al_map rr]; rfl
    refine ⟨" ", D2, pairW xs ps, rfl, rfl, .inl (SqL.of (K := K) hy), Nat.le_trans jp.2 (by decide), _, _, rfl, rfl, small_line (by simp only [Str.length_append]; omega), _, _, rfl, rfl, small_line (by simp only [Str.length_append]; omega), ?_⟩
    rw [lab] at q'
    exact q' _ _ ⟨rfl, s16⟩
  rintro _ H16 ⟨rfl, s16⟩
  dsimp only [gName]
  have ena := s16 _ _ ena15
  have eha := s16 _ _ eha15
  have hg := hg15.same s16
  have hL := hL15.same s16
  have src := src15.same s16
  clear jn jp j1 j2 ena15 eha15 hg15 hL15 hT15 src15 s16
  refine if_run (fun b H' => b = false ∧ Same H16 H') (fun Q' q' => ?_) ?_
  · obtain ⟨Cz, dz, fz, tn, td, tu, A1⟩ := id hL
    exact ⟨_, rfl, z, Cz, dz, fz, _, rfl, A1.at_, A1.c.cl, A1.c.na _ (by decide), A1.label, _, rfl, .str (downL xs ps).label, _, _, rfl, rfl, rfl, by simp [Dv.depth], by simp [Dv.wide], fun H17 s17 => ⟨_, rfl, q' _ _ ⟨rfl, s17⟩⟩⟩
  rintro _ H17 ⟨rfl, s17⟩
  refine iteF ?_
  refine nx_run ?_
  dsimp only
  have ena := s17 _ _ ena
  have eha := s17 _ _ eha
  have hg := hg.same s17
  have hL := hL.same s17
  have src := src.same s17
  clear s17
  -- what is known of the sets
  have W := down_ring xs.length ps
  have hn := downL_n xs ps
  have n64 : (heaps xs.length ps).length ≤ 64 := Nat.le_trans (heaps_le _ _) (Nat.le_trans (Nat.pow_le_pow_right (by decide) n6) (by decide))
  have nh1 : 1 ≤ (heaps xs.length ps).length := List.length_pos_of_mem W.zero
  have R := down_reg xs ps
  have Lnd := down_ndG (ps := ps) nd nw
  have Lnm := down_nam (ps := ps) n6 l12
  -- the names
  refine set_run (fun v H' => ∃ nl, v = .ref nl ∧ H' nl = some (.lst []) ∧ H17 nl = none ∧ Same H17 H') (fun Q' kk => ⟨(by show 0 ≤ sizeLine; decide), newQ (.lst []) fun l hl s e => kk _ _ ⟨l, rfl, e, hl, s⟩⟩) ?_
  rintro _ H18 ⟨nm, rfl, enm, nm0, s18⟩
  dsimp only [gName]
  show tSeq _ _ _ [some (.ref sa), some (.ref p), some (.int (xs.length : Nat)), some (.ref na), some (.ref sp), some (.ref r), some (.ref ha), some (.ref D), none, some (.ref gn), some (.ref z), some (.str (downL xs ps).label), none, some (.ref nm), none, none, none, none, none, none] H18
  refine st_run (fun σ H' => ∃ v14 : Option V, σ = [some (.ref sa), some (.ref p), some (.int (xs.length : Nat)), some (.ref na), some (.ref sp), some (.ref r), some (.ref ha), some (.ref D), none, some (.ref gn), some (.ref z), some (.str (downL xs ps).label), none, some (.ref nm), v14, none, none, none, none, none] ∧ Same H17 H' ∧ H' nm = some (.lst ((downL xs ps).names.map V.str))) (fun D' hD' q' => ?_) ?_
  · refine ⟨_, rfl, ha, rfl, ⟨_, SqL.of (K := K) (s18 _ _ eha)⟩, for_list (K := K) (a := ha) (xs := natV (heaps xs.length ps)) (fun i σ H' => ∃ v14 : Option V, σ = [some (.ref sa), some (.ref p), some (.int (xs.length : Nat)), some (.ref na), some (.ref sp), some (.ref r), some (.ref ha), some (.ref D), none, some (.ref gn), some (.ref z), some (.str (downL xs ps).label), none, some (.ref nm), v14, none, none, none, none, none] ∧ Same H17 H' ∧ H' nm = some (.lst (((heaps xs.length ps).take i).map fun h => V.str (heapNm xs h)))) ⟨_, rfl, s18, enm⟩ (fun i σ H' _ ⟨_, _, s, _⟩ => SqL.of (K := K) (s _ _ eha)) ?_ ?_⟩
    · rintro i x σ H19 hx ⟨v14, rfl, s19, en19⟩
      obtain ⟨h, hh, rfl⟩ := nat_at hx
      have hil := (List.getElem?_eq_some_iff.mp hh).1
      dsimp only [gName]
      refine ⟨_, rfl, .inl ⟨rfl, _, SqL.of (K := K) en19⟩, ⟨_, rfl⟩, _, rfl, _, rfl, by omega, by omega, fun D2 hD2 => ?_⟩
      refine lc_rng (n := xs.length) (G := fun _ v (y : Str) => v = V.str y) h.testBit (fun a => xs.getD a Str.empty) hD2 (fun _ h => h) (fun h => h) (by omega) ?_ (fun H20 zs s20 hz rr => ?_)
      · rintro a H20 Nx Ex ha' s20 _ ky kn
        refine ⟨rfl, ?_⟩
        refine ⟨_, rfl, _, rfl, _, _, rfl, rfl, Int.natCast_nonneg _, .inl ⟨_, rfl, _, _, rfl, rfl, (by show (0 : Int) < 2; decide), rfl, _, rfl, ?_⟩⟩
        show if decide (V.int (((h : Nat) : Int) / 2 ^ a % 2) = V.int 1) = true then _ else _
        rw [bitG]
        cases e : h.testBit a with
        | false => exact iteF (kn e _ (Same.refl _))
        | true =>
          refine iteT ?_
          exact ⟨_, rfl, _, rfl, na, _, _, _, rfl, rfl, SqL.of (K := K) (s20 _ _ (s19 _ _ ena)), atI_nat (str_d ha'), ky e _ _ (Same.refl _) rfl⟩
      · rw [al_map rr] at hz
        have hz : H20 D2 = some (.lst ((heapIn xs h).map V.str)) := hz
        have hl6 : (heapIn xs h).length ≤ 6 := by
          unfold heapIn
          rw [List.length_map]
          exact Nat.le_trans (filter_le _ _) n6
        have hd12 : ∀ z ∈ heapIn xs h, z.length ≤ 12 := fun z hz => by
          obtain ⟨c, hc, rfl⟩ := List.mem_map.mp hz
          have hc := List.mem_range.mp (List.mem_filter.mp hc).1
          exact l12 _ (List.mem_of_getElem? (get_d hc))
        have jl := join_le (sep := ",") (by decide) hd12 hl6
        have j1 := jl.1
        have p1 : ("{" : Str).length = 1 := rfl
        have p2 : ("}" : Str).length = 1 := rfl
        have en20 := s20 _ _ en19
        refine ⟨",", D2, heapIn xs h, rfl, rfl, .inl (SqL.of (K := K) hz), Nat.le_trans jl.2 (by decide), _, _, rfl, rfl, small_line (by omega), _, _, rfl, rfl, small_line (by rw [Str.length_append]; omega), nm, _, _, rfl, rfl, en20, smallM (by rw [List.length_map, List.length_take]; omega), ?_⟩
        refine ⟨_, rfl, same_skip (s19.trans s20) nm0 ((But.refl _ _).upd _), ?_⟩
        rw [upd_same, take_snoc hh, List.map_append]
        rfl
    · rintro σ H19 ⟨v14, rfl, s19, en19⟩
      rw [natV_length, List.take_length] at en19
      refine q' _ _ ⟨_, rfl, s19, en19.trans ?_⟩
      show _ = some (HO.lst (((heaps xs.length ps).map (heapNm xs)).map V.str))
      rw [List.map_map]
      rfl
  clear s18 enm
  rintro _ H18 ⟨v14, rfl, s18, enm⟩
  have eha := s18 _ _ eha
  have hg := hg.same s18
  have hL := hL.same s18
  have src := src.same s18
  clear s18 nm0 ena l12
  -- the places of the least sets
  obtain ⟨f, hf⟩ : ∃ f : Nat → Nat, ∀ c, c < xs.length → f c < (heaps xs.length ps).length ∧ (heaps xs.length ps).getD (f c) 0 = mask xs.length (fun a => reachB ps a c) := (Classical.skolem (b := fun _ => Nat) (p := fun c i => c < xs.length → i < (heaps xs.length ps).length ∧ (heaps xs.length ps).getD i 0 = mask xs.length (fun a => reachB ps a c))).mp fun c => by
    obtain ⟨i, hi, e⟩ := heaps_at (pr_mem (n := xs.length) (ps := ps) (fun a => reachB ps a c) fun a b _ _ r z => reachB_iff.mpr (r.trans (reachB_iff.mp z)))
    exact ⟨i, fun _ => ⟨hi, e⟩⟩
  refine set_run (fun v H' => ∃ nl, v = .ref nl ∧ H' nl = some (.lst []) ∧ H18 nl = none ∧ Same H18 H') (fun Q' kk => ⟨(by show 0 ≤ sizeLine; decide), newQ (.lst []) fun l hl s e => kk _ _ ⟨l, rfl, e, hl, s⟩⟩) ?_
  rintro _ H19 ⟨pc, rfl, epc, pc0, s19⟩
  dsimp only [gName]
  show tSeq _ _ _ [some (.ref sa), some (.ref p), some (.int (xs.length : Nat)), some (.ref na), some (.ref sp), some (.ref r), some (.ref ha), some (.ref D), none, some (.ref gn), some (.ref z), some (.str (downL xs ps).label), none, some (.ref nm), v14, none, some (.ref pc), none, none, none] H19
  refine st_run (fun σ H' => ∃ v17 : Option V, σ = [some (.ref sa), some (.ref p), some (.int (xs.length : Nat)), some (.ref na), some (.ref sp), some (.ref r), some (.ref ha), some (.ref D), none, some (.ref gn), some (.ref z), some (.str (downL xs ps).label), none, some (.ref nm), v14, none, some (.ref pc), v17, none, none] ∧ Same H18 H' ∧ H' pc = some (.lst (natV ((List.range xs.length).map f)))) (fun D' hD' q' => ?_) ?_
  · refine ⟨_, rfl, _, rfl, by omega, by omega, for_range (lo := 0) (n := xs.length) (fun i σ H' => ∃ v17 : Option V, σ = [some (.ref sa), some (.ref p), some (.int (xs.length : Nat)), some (.ref na), some (.ref sp), some (.ref r), some (.ref ha), some (.ref D), none, some (.ref gn), some (.ref z), some (.str (downL xs ps).label), none, some (.ref nm), v14, none, some (.ref pc), v17, none, none] ∧ Same H18 H' ∧ H' pc = some (.lst (natV ((List.range i).map f)))) ⟨_, rfl, s19, epc⟩ ?_ (fun σ H' h => q' _ _ h)⟩
    rintro b σ H20 hb ⟨v17, rfl, s20, ep20⟩
    have hb : b < xs.length := hb
    rw [show (0 : Int) + (b : Int) = ((b : Nat) : Int) by omega]
    dsimp only [gName]
    have eha20 := s20 _ _ eha
    refine ⟨_, rfl, .inl ⟨rfl, _, SqL.of (K := K) ep20⟩, _, rfl, .inl ⟨rfl, _, SqL.of (K := K) eha20⟩, _, rfl, _, rfl, by omega, by omega, fun D2 hD2 => ?_⟩
    refine lc_rng (n := xs.length) (G := fun _ v (y : Int) => v = V.int y) (fun a => closedR xs.length ps a b) (fun a => ((2 ^ a : Nat) : Int)) hD2 (fun _ h => h) (fun h => h) (by omega) ?_ (fun H21 zs s21 hz rr => ?_)
    · rintro a H21 Nx Ex ha' s21 _ ky kn
      refine ⟨rfl, ?_⟩
      obtain ⟨la, ra, a1, a2, a3⟩ := ((hg.same s20).same s21).row ha'
      refine ⟨_, rfl, _, rfl, r, _, _, _, rfl, rfl, SqL.of (K := K) a1, atI_nat a2, _, rfl, ra, _, _, _, rfl, rfl, SqL.of (K := K) a3, atI_nat (rg_atG hb), closedR xs.length ps a b, rfl, ?_⟩
      cases e : closedR xs.length ps a b with
      | false => exact iteF (kn e _ (Same.refl _))
      | true =>
        refine iteT ?_
        exact ⟨_, rfl, _, _, rfl, rfl, ⟨Int.natCast_nonneg _, by omega, by decide⟩, ky e _ _ (Same.refl _) (by show V.int (1 * 2 ^ ((a : Int)).toNat) = _; rw [one_shl])⟩
    · rw [al_map rr] at hz
      have eha21 := s21 _ _ eha20
      have ep21 := s21 _ _ ep20
      obtain ⟨f1, f2⟩ := hf b hb
      obtain ⟨i1, i2, i3⟩ := index_nat W.nd f1
      have esum : (((List.range xs.length).filter fun a => closedR xs.length ps a b).map fun a => ((2 ^ a : Nat) : Int)).sum = (((heaps xs.length ps).getD (f b) 0 : Nat) : Int) := by
        rw [sum_mask, f2, closed_le hpx]
      refine ⟨D2, _, rfl, SqL.of (K := K) hz, ?_⟩
      rw [esum]
      refine ⟨ha, _, _, f b, _, rfl, rfl, SqL.of (K := K) eha21, rfl, flat_nats _, i1, i2, i3, ?_⟩
      refine ⟨pc, _, _, rfl, rfl, ep21, smallM (by rw [natV_length, List.length_map, List.length_range]; omega), ?_⟩
      refine ⟨_, rfl, same_skip (s20.trans s21) pc0 ((But.refl _ _).upd _), ?_⟩
      rw [upd_same, List.range_succ, List.map_append, natV_append]
      rfl
  clear s19 epc
  rintro _ H19 ⟨v17, rfl, s19, epc⟩
  have eha := s19 _ _ eha
  have hL := hL.same s19
  have src := src.same s19
  have enm := s19 _ _ enm
  clear s19 pc0 hg
  have pmI := down_permG anti f fun c hc => ⟨by rw [hn]; exact (hf c hc).1, (hf c hc).2⟩
  have ilen : (downL xs ps).irrs.length = xs.length := by rw [pmI.length_eq, List.length_map, List.length_range]
  refine if_run (fun b H' => b = false ∧ Same H19 H') (fun Q' q' => ?_) ?_
  · refine ⟨_, rfl, at_me hL T.in_irreducibles ⟨z, downL xs ps, rfl, hL, by omega, fun l H20 s20 hl e20 => ?_⟩⟩
    refine ⟨_, rfl, pc, rfl, ⟨_, SqL.of (K := K) (s20 _ _ epc)⟩, fun D2 hD2 => ?_⟩
    refine lc_lst (us := (List.range xs.length).map f) (G := fun _ v (y : Nat) => v = V.int (y : Nat)) (fun _ => true) id hD2 (fun _ h => h) (fun h => h) (by rw [List.length_map, List.length_range]; omega) (s20 _ _ epc) ?_ (fun H21 zs s21 hz rr => ?_)
    · rintro y H21 Nx Ex hy s21 _ ky kn
      refine ⟨rfl, ?_⟩
      refine lcY ?_
      exact ⟨_, rfl, .inl ⟨_, rfl, ky rfl _ _ (Same.refl _) rfl⟩⟩
    · rw [flt_idG, List.map_id] at rr
      rw [al_map rr] at hz
      have hz : H21 D2 = some (.lst ((((List.range xs.length).map f).map fun i : Nat => (i : Int)).map V.int)) := hz.trans (by rw [List.map_map (g := V.int)]; rfl)
      refine ⟨D2, _, rfl, SqL.of (K := K) hz, by rw [List.length_map, List.length_map, List.length_range]; omega, fun ns' sl pm pw hsl => ?_⟩
      have enss : ns' = (downL xs ps).irrs.map fun i : Nat => (i : Int) := by
        refine sorted_eqG pw ?_ (pm.trans (pmI.symm.map _))
        refine List.pairwise_map.mpr (List.Pairwise.imp (R := fun a b => a < b) (fun {a b} h => by omega) ?_)
        exact List.Pairwise.filter _ List.pairwise_lt_range
      subst enss
      have s22 : Same H21 (upd H21 sl (.lst (((downL xs ps).irrs.map fun i : Nat => (i : Int)).map V.int))) := Same.new hsl _
      have e22 : upd H21 sl (.lst (((downL xs ps).irrs.map fun i : Nat => (i : Int)).map V.int)) sl = some (.lst ((downL xs ps).irrs.map fun c : Nat => V.int (c : Nat))) := by rw [upd_same, List.map_map]; rfl
      generalize upd H21 sl (.lst (((downL xs ps).irrs.map fun i : Nat => (i : Int)).map V.int)) = H22 at s22 e22 ⊢
      refine ⟨.lst ((downL xs ps).irrs.map fun (c : Nat) => Dv.int (c : Nat)), _, _, rfl, ⟨l, _, rfl, s22 _ _ (s21 _ _ e20), ldA_nats _⟩, ⟨sl, _, rfl, e22, ldA_nats _⟩, ?_, ?_, fun H23 s23 => ⟨_, rfl, q' _ _ ⟨rfl, ((s20.trans s21).trans s22).trans s23⟩⟩⟩
      · have := dep_nats (downL xs ps).irrs
        show Dv.depthA _ + 1 ≤ 3
        omega
      · refine ⟨?_, wid_nats _⟩
        rw [List.length_map, ilen]
        omega
  rintro _ H20 ⟨rfl, s20⟩
  refine iteF ?_
  refine nx_run ?_
  dsimp only
  have eha := s20 _ _ eha
  have hL := hL.same s20
  have src := src.same s20
  have enm := s20 _ _ enm
  clear s20 epc pmI ilen
  -- the rows
  have hgo : ∀ (H21 : Hp) (D2 : Addr), GridAt H21 D2 (heaps xs.length ps).length (rowV fun i j => part ((heaps xs.length ps).getD i 0) ((heaps xs.length ps).getD j 0)) → GridAt H21 D2 (downL xs ps).n (rowV (downL xs ps).le) := fun H21 D2 h => by rw [hn]; exact h
  refine ⟨_, rfl, ha, rfl, ⟨_, SqL.of (K := K) eha⟩, fun D2 hD2 => ?_⟩
  refine lc_lst (us := heaps xs.length ps) (G := fun H v (a : Nat) => ∃ l, v = V.ref l ∧ (l ≠ D2 ∧ H l = some (.lst ((heaps xs.length ps).map fun b => V.bl (part a b))))) (fun _ => true) id hD2 (fun s ⟨l, e, n, h⟩ => ⟨l, e, n, s _ _ h⟩) (fun ⟨l, e, n, h⟩ => ⟨l, e, n, (upd_ne n).trans h⟩) (by omega) eha ?_ (fun H21 ys s21 hy rr => ?_)
  · rintro a H21 Nx Ex ha' s21 ⟨ys, hy⟩ ky kn
    refine ⟨rfl, ?_⟩
    refine lcY ?_
    refine ⟨_, rfl, ha, rfl, ⟨_, SqL.of (K := K) (s21 _ _ eha)⟩, fun D3 hD3 => ?_⟩
    refine lc_lst (us := heaps xs.length ps) (G := fun _ v (b : Nat) => v = V.bl (part a b)) (fun _ => true) id hD3 (fun _ h => h) (fun h => h) (by omega) (s21 _ _ eha) ?_ (fun H22 zs s22 hz rr => ?_)
    · rintro b H22 Nx' Ex' hb s22 _ ky' kn'
      refine ⟨rfl, ?_⟩
      refine lcY ?_
      refine ⟨_, rfl, _, rfl, _, _, rfl, rfl, _, rfl, rfl, ?_⟩
      show Nx' (V.bl (decide (V.int (Builtin.bitAnd (a : Int) (b : Int)) = V.int (a : Int)))) H22
      rw [and_int_nat, int_ext]
      exact ky' rfl _ _ (Same.refl _) rfl
    · rw [flt_idG, List.map_id] at rr
      rw [al_map rr] at hz
      exact ky rfl _ _ s22 ⟨D3, rfl, (fun e => by rw [e, hy] at hD3; cases hD3), hz⟩
  have hgP : GridAt H21 D2 (downL xs ps).n (rowV (downL xs ps).le) := by
    refine hgo _ _ ?_
    generalize heaps xs.length ps = hs at rr
    rw [flt_idG, List.map_id, range_getDG hs] at rr
    have rr := al_unmap rr
    refine grid_of hy (al_imp rr fun v i ⟨l, e, n, hl⟩ => ⟨l, e, n, hl.trans ?_⟩)
    exact congrArg (fun z => some (HO.lst z)) (by rw [List.map_map]; rfl)
  have eha := s21 _ _ eha
  have hL := hL.same s21
  have src := src.same s21
  have enm := s21 _ _ enm
  clear s21 rr hy
  have Lpre : Pre (downL xs ps).n (downL xs ps).le := ⟨R.ord.refl, R.trans⟩
  have nmp := ne_strs src enm
  have hap : ha ≠ p := fun e => by
    obtain ⟨cs, i, l', m, S⟩ := src
    rw [e, S.at_] at eha
    have h5 := HO.lst.inj (Option.some.inj eha)
    unfold natV at h5
    cases h6 : heaps xs.length ps with
    | nil => rw [h6] at nh1; exact absurd nh1 (by decide)
    | cons x l => rw [h6] at h5; simp at h5
  dsimp only [gName]
  refine if_run (fun b H' => b = false ∧ But p H21 H' ∧ Src K c H' p) (fun Q' q' => ?_) ?_
  · exact ⟨_, rfl, _, rfl, _, rfl, p, c, z, nm, downL xs ps, rfl, src, hL, enm, by omega, by omega, Lnd, Lnm, fun H22 b22 s22 => ⟨_, rfl, q' _ _ ⟨rfl, b22, s22⟩⟩⟩
  rintro _ H22 ⟨rfl, b22, src22⟩
  refine iteF ?_
  refine nx_run ?_
  dsimp only
  have eha := b22 _ _ hap eha
  have hL := hL.drawn src b22
  have enm := b22 _ _ nmp enm
  have hgP := hgP.drawn src (hgP.ne src) (fun _ _ _ e => by cases e) b22
  refine ⟨_, rfl, ha, _, rfl, .inl (SqL.of (K := K) eha), _, _, rfl, rfl, _, rfl, ?_⟩
  refine ite2 (fun _ => ?_) (fun _ => nx_run ?_)
  · exact ⟨_, rfl, _, rfl, _, rfl, z, nm, D2, downL xs ps, rfl, hL, by omega, by omega, Lnd, enm, hgP, R.ord, Lpre, fun H' _ => q _⟩
  dsimp only
  exact ⟨_, rfl, _, rfl, _, rfl, _, rfl, p, c, z, nm, ha, xs, ps, rfl, src22, hL, n6, nmp, hap, enm, eha, fun H' => q _⟩
end
end Lw
theorem PySem.Challenge.cw_latticewish_k04_down_sets_holds : PySem.Challenge.rw_latticewish_k04_down_sets.Holds := by
  exact Lw.pre fun K mg w T base => Lw.ok_law T
#print axioms PySem.Challenge.cw_latticewish_k04_down_sets_holds
